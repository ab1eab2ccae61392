import PyProof.Rows.All
import Wide.All
import OpenK.AllK
import Wide.FinOn
import HandS.ForMost
import HandS.ForExc
import HandS.Deep
import HandS.IsInst
import HandS.Steps
import HandS.More
import HandS.TupAny
import HandS.Text
import HandS.Wide
import HandS.TryOnly
import HandS.ExcOwn
import HandS.Rev
import HandS.Defaults
import KE.SortData
import KE.KStateDown
import Lean
import HandS.Base
import HandS.Call
import HandS.Ends
import HandS.Words
import HandS.WordsExc
import HandS.Head0
import HandS.Head1
import HandS.Head2
import HandS.HeadEnd
import HandS.HeadHook1
import HandS.HeadHook2
import KE.KExcSuper
import HandS.ExcInit
import HandS.ExcIs
import HandS.ExcField
import HandS.Strs
import HandS.Conv
import PyProof.AutoSeq1
import PySem.Challenge.RW_allmends_k11_contract_rows
import HandS.MakeKw
import HandS.MakeKwOnly
import HandS.SortKw
import HandS.TupMul
set_option Elab.async false
set_option linter.all false
set_option maxRecDepth 100000
set_option maxHeartbeats 4000000
set_option autoImplicit false
namespace Dl
open PySem PySem.Spec PyProof.Rows L2
inductive D where
  | non | bl (b : Bool) | int (i : Int) | str (s : Str) | tup (ds : List D) | lst (ds : List D) | scr (ns : List Int) | rd | ins (c : Str) (fs : List (Str × D)) | nms (ys : List Str) | any | dic (kvs : List (Key × D)) | fr (d : D) | raw (u : V)
def tupObj (its : List Value) : Obj := { cls := .type "tuple", data := .seq its.toArray }
abbrev St := L2.St
structure Kx where
  K : PySem.W.Frag
  C : Str → Addr
section
variable (Γ : Kx) (G : Hp) (R : Addr → Prop)
mutual
def Rp : D → V → Prop
  | .non, v => v = .non
  | .bl b, v => v = .bl b
  | .int i, v => v = .int i
  | .str s, v => v = .str s
  | .tup ds, v => ∃ a vs, v = .ref a ∧ SqT Γ.K G a vs ∧ RpL ds vs
  | .lst ds, v => ∃ a vs, v = .ref a ∧ G a = some (.lst vs) ∧ RpL ds vs
  | .scr ns, v => ∃ a, v = .ref a ∧ SqL Γ.K G a (ns.map V.int)
  | .rd, v => ∃ a, v = .ref a ∧ R a
  | .ins c fs, v => ∃ a dx vs, v = .ref a ∧ G a = some (.ins (Γ.C c) dx vs) ∧ RpF fs vs
  | .nms ys, v => ∃ a its, v = .ref a ∧ G a = some (.frz (tupObj its) (.tup (ys.map V.str)))
  | .any, v => v ≠ .non
  | .dic kvs, v => ∃ a us, v = .ref a ∧ G a = some (.dK us) ∧ RpK kvs us
  | .fr d, v => v ≠ .non ∧ Rp d v
  | .raw u, v => v = u
def RpL : List D → List V → Prop
  | [], vs => vs = []
  | d :: ds, vs => ∃ v r, vs = v :: r ∧ Rp d v ∧ RpL ds r
def RpF : List (Str × D) → List (Str × V) → Prop
  | [], vs => vs = []
  | (x, d) :: ds, vs => ∃ v r, vs = (x, v) :: r ∧ Rp d v ∧ RpF ds r
def RpK : List (Key × D) → List (Key × V) → Prop
  | [], vs => vs = []
  | (x, d) :: ds, vs => ∃ v r, vs = (x, v) :: r ∧ Rp d v ∧ RpK ds r
end
end
def immB : D → Bool
  | .tup ds => go ds
  | .lst _ => false
  | .scr _ => false
  | .ins _ _ => false
  | .dic _ => false
  | .fr _ => false
  | .raw _ => false
  | _ => true
where go : List D → Bool
  | [] => true
  | d :: ds => immB d && go ds
theorem Same.seqT {K : PySem.W.Frag} {H H' : Hp} {a : Addr} {xs : List V} (e : Same H H') (h : SqT K H a xs) : SqT K H' a xs := by
  rcases h with (h | ⟨o, h⟩) | h
  · exact .inl (.inl (e _ _ h))
  · exact .inl (.inr ⟨o, e _ _ h⟩)
  · exact .inr h
section
variable {Γ : Kx} {G G' : Hp} {R R' : Addr → Prop}
mutual
theorem Rp.mono (g : Same G G') (r : ∀ a, R a → R' a) : ∀ (d : D) (v : V), Rp Γ G R d v → Rp Γ G' R' d v
  | .non, _, h => by unfold Rp at *; exact h
  | .bl _, _, h => by unfold Rp at *; exact h
  | .int _, _, h => by unfold Rp at *; exact h
  | .str _, _, h => by unfold Rp at *; exact h
  | .tup ds, v, h => by
    unfold Rp at *
    obtain ⟨a, vs, e, s, l⟩ := h
    exact ⟨a, vs, e, Same.seqT g s, RpL.mono g r ds vs l⟩
  | .lst ds, v, h => by
    unfold Rp at *
    obtain ⟨a, vs, e, s, l⟩ := h
    exact ⟨a, vs, e, g _ _ s, RpL.mono g r ds vs l⟩
  | .scr ns, v, h => by
    unfold Rp at *
    obtain ⟨a, e, s⟩ := h
    exact ⟨a, e, g.seq s⟩
  | .rd, v, h => by
    unfold Rp at *
    obtain ⟨a, e, h⟩ := h
    exact ⟨a, e, r a h⟩
  | .ins c fs, v, h => by
    unfold Rp at *
    obtain ⟨a, dx, vs, e, s, l⟩ := h
    exact ⟨a, dx, vs, e, g _ _ s, RpF.mono g r fs vs l⟩
  | .nms ys, v, h => by
    unfold Rp at *
    obtain ⟨a, its, e, s⟩ := h
    exact ⟨a, its, e, g _ _ s⟩
  | .any, v, h => by unfold Rp at *; exact h
  | .fr d, v, h => by unfold Rp at *; exact ⟨h.1, Rp.mono g r d v h.2⟩
  | .raw _, v, h => by unfold Rp at *; exact h
  | .dic kvs, v, h => by
    unfold Rp at *
    obtain ⟨a, us, e, s, l⟩ := h
    exact ⟨a, us, e, g _ _ s, RpK.mono g r kvs us l⟩
theorem RpL.mono (g : Same G G') (r : ∀ a, R a → R' a) : ∀ (ds : List D) (vs : List V), RpL Γ G R ds vs → RpL Γ G' R' ds vs
  | [], _, h => by unfold RpL at *; exact h
  | d :: ds, vs, h => by
    unfold RpL at *
    obtain ⟨v, q, e, h1, h2⟩ := h
    exact ⟨v, q, e, Rp.mono g r d v h1, RpL.mono g r ds q h2⟩
theorem RpF.mono (g : Same G G') (r : ∀ a, R a → R' a) : ∀ (ds : List (Str × D)) (vs : List (Str × V)), RpF Γ G R ds vs → RpF Γ G' R' ds vs
  | [], _, h => by unfold RpF at *; exact h
  | (x, d) :: ds, vs, h => by
    unfold RpF at *
    obtain ⟨v, q, e, h1, h2⟩ := h
    exact ⟨v, q, e, Rp.mono g r d v h1, RpF.mono g r ds q h2⟩
theorem RpK.mono (g : Same G G') (r : ∀ a, R a → R' a) : ∀ (ds : List (Key × D)) (vs : List (Key × V)), RpK Γ G R ds vs → RpK Γ G' R' ds vs
  | [], _, h => by unfold RpK at *; exact h
  | (x, d) :: ds, vs, h => by
    unfold RpK at *
    obtain ⟨v, q, e, h1, h2⟩ := h
    exact ⟨v, q, e, Rp.mono g r d v h1, RpK.mono g r ds q h2⟩
end
def Tups (G G' : Hp) : Prop := (∀ b xs, G b = some (.tup xs) → G' b = some (.tup xs)) ∧ ∀ b o u, G b = some (.frz o u) → G' b = some (.frz o u)
theorem Tups.seqT {K : PySem.W.Frag} {a : Addr} {xs : List V} (e : Tups G G') (h : SqT K G a xs) : SqT K G' a xs := by
  rcases h with (h | ⟨o, h⟩) | h
  · exact .inl (.inl (e.1 _ _ h))
  · exact .inl (.inr ⟨o, e.2 _ _ _ h⟩)
  · exact .inr h
mutual
theorem Rp.imm (g : Tups G G') (r : ∀ a, R a → R' a) : ∀ (d : D) (v : V), immB d = true → Rp Γ G R d v → Rp Γ G' R' d v
  | .non, _, _, h => by unfold Rp at *; exact h
  | .bl _, _, _, h => by unfold Rp at *; exact h
  | .int _, _, _, h => by unfold Rp at *; exact h
  | .str _, _, _, h => by unfold Rp at *; exact h
  | .tup ds, v, m, h => by
    unfold Rp at *
    obtain ⟨a, vs, e, s, l⟩ := h
    exact ⟨a, vs, e, g.seqT s, RpL.imm g r ds vs (by unfold immB at m; exact m) l⟩
  | .lst ds, v, m, h => by unfold immB at m; cases m
  | .rd, v, _, h => by
    unfold Rp at *
    obtain ⟨a, e, h⟩ := h
    exact ⟨a, e, r a h⟩
  | .scr _, v, m, h => by unfold immB at m; cases m
  | .ins c fs, v, m, h => by unfold immB at m; cases m
  | .nms ys, v, _, h => by
    unfold Rp at *
    obtain ⟨a, its, e, s⟩ := h
    exact ⟨a, its, e, g.2 _ _ _ s⟩
  | .any, v, _, h => by unfold Rp at *; exact h
  | .dic _, v, m, h => by unfold immB at m; cases m
  | .fr _, v, m, h => by unfold immB at m; cases m
  | .raw _, v, m, h => by unfold immB at m; cases m
theorem RpL.imm (g : Tups G G') (r : ∀ a, R a → R' a) : ∀ (ds : List D) (vs : List V), immB.go ds = true → RpL Γ G R ds vs → RpL Γ G' R' ds vs
  | [], _, _, h => by unfold RpL at *; exact h
  | d :: ds, vs, m, h => by
    unfold RpL at *
    unfold immB.go at m
    rw [Bool.and_eq_true] at m
    obtain ⟨v, q, e, h1, h2⟩ := h
    exact ⟨v, q, e, Rp.imm g r d v m.1 h1, RpL.imm g r ds q m.2 h2⟩
end
theorem RpL.len : ∀ {ds : List D} {vs : List V}, RpL Γ G R ds vs → ds.length = vs.length
  | [], _, h => by unfold RpL at h; subst h; rfl
  | d :: ds, vs, h => by
    unfold RpL at h
    obtain ⟨v, q, e, h1, h2⟩ := h
    subst e
    rw [List.length_cons, List.length_cons, RpL.len h2]
theorem RpL.get : ∀ {ds : List D} {vs : List V} {i : Nat} {d : D}, RpL Γ G R ds vs → ds[i]? = some d → ∃ v, vs[i]? = some v ∧ Rp Γ G R d v
  | [], _, _, _, h, e => by simp at e
  | d :: ds, vs, 0, d', h, e => by
    unfold RpL at h
    obtain ⟨v, q, e2, h1, h2⟩ := h
    subst e2
    simp at e
    subst e
    exact ⟨v, by simp, h1⟩
  | d :: ds, vs, i + 1, d', h, e => by
    unfold RpL at h
    obtain ⟨v, q, e2, h1, h2⟩ := h
    subst e2
    simp at e
    obtain ⟨v', a, b⟩ := RpL.get h2 e
    exact ⟨v', by simpa using a, b⟩
theorem RpL.cons {d : D} {v : V} {ds : List D} {vs : List V} (h : Rp Γ G R d v) (t : RpL Γ G R ds vs) : RpL Γ G R (d :: ds) (v :: vs) := by
  unfold RpL
  exact ⟨v, vs, rfl, h, t⟩
theorem RpL.nil : RpL Γ G R [] [] := by unfold RpL; rfl
theorem RpL.append : ∀ {ds es : List D} {vs us : List V}, RpL Γ G R ds vs → RpL Γ G R es us → RpL Γ G R (ds ++ es) (vs ++ us)
  | [], _, _, _, h, k => by unfold RpL at h; subst h; exact k
  | d :: ds, es, vs, us, h, k => by
    unfold RpL at h
    obtain ⟨v, q, e2, h1, h2⟩ := h
    subst e2
    exact RpL.cons h1 (RpL.append h2 k)
theorem RpL.of_get : ∀ {ds : List D} {vs : List V}, ds.length = vs.length → (∀ (i : Nat) d v, ds[i]? = some d → vs[i]? = some v → Rp Γ G R d v) → RpL Γ G R ds vs
  | [], vs, hl, _ => by
    have : vs = [] := List.eq_nil_of_length_eq_zero (by simpa using hl.symm)
    subst this
    exact RpL.nil
  | d :: ds, [], hl, _ => by simp at hl
  | d :: ds, v :: vs, hl, h => RpL.cons (h 0 d v (by simp) (by simp)) (RpL.of_get (by simpa using hl) fun i d' v' a b => h (i + 1) d' v' (by simpa using a) (by simpa using b))
end
def IsRd (H : Hp) (a : Addr) : Prop := ∃ c k r : Int, H a = some (.lst [.int c, .int k, .int r])
structure Gd (G : Hp) (R : Addr → Prop) (H : Hp) : Prop where
  sub : Same G H
  rd : ∀ a, R a → IsRd H a
  dis : ∀ a, R a → G a = none
def Stiff : HO → Prop
  | .tup _ => True
  | .frz _ _ => True
  | _ => False
structure Nx (G : Hp) (R : Addr → Prop) (H G' : Hp) (R' : Addr → Prop) (H' : Hp) : Prop where
  gg : Same G G'
  rr : ∀ a, R a → R' a
  gd : Gd G' R' H'
  ev : ∀ b o, H b = some o → ¬ R b → H' b = some o
  ex : ∀ b o, H b = some o → ∃ o', H' b = some o'
  fg : ∀ b o, G' b = some o → G b = some o ∨ H b = none ∨ Stiff o
  fr : ∀ b, R' b → R b ∨ H b = none
section
variable {G G1 G2 : Hp} {R R1 R2 : Addr → Prop} {H H1 H2 : Hp}
theorem Nx.refl (g : Gd G R H) : Nx G R H G R H := ⟨fun _ _ h => h, fun _ h => h, g, fun _ _ h _ => h, fun _ o h => ⟨o, h⟩, fun _ _ h => .inl h, fun _ h => .inl h⟩
theorem Nx.trans (a : Nx G R H G1 R1 H1) (b : Nx G1 R1 H1 G2 R2 H2) : Nx G R H G2 R2 H2 where
  gg := fun x o h => b.gg x o (a.gg x o h)
  rr := fun x h => b.rr x (a.rr x h)
  gd := b.gd
  ev := fun x o h n => b.ev x o (a.ev x o h n) fun r => (a.fr x r).elim n fun z => by rw [z] at h; cases h
  ex := fun x o h => by
    obtain ⟨o', h'⟩ := a.ex x o h
    exact b.ex x o' h'
  fg := fun x o h => by
    rcases b.fg x o h with z | z | z
    · exact a.fg x o z
    · refine .inr (.inl ?_)
      cases q : H x with
      | none => rfl
      | some u =>
        obtain ⟨u', q'⟩ := a.ex x u q
        rw [q'] at z; cases z
    · exact .inr (.inr z)
  fr := fun x h => by
    rcases b.fr x h with z | z
    · exact a.fr x z
    · refine .inr ?_
      cases q : H x with
      | none => rfl
      | some u =>
        obtain ⟨u', q'⟩ := a.ex x u q
        rw [q'] at z; cases z
theorem Gd.fresh (g : Gd G R H) {p : Addr} (h : H p = none) : G p = none ∧ ¬ R p :=
  ⟨g.sub.free h, fun r => by obtain ⟨c, k, q, e⟩ := g.rd p r; rw [h] at e; cases e⟩
theorem Nx.new (g : Gd G R H) {p : Addr} (o : HO) (h : H p = none) : Nx G R H G R (upd H p o) where
  gg := fun _ _ h => h
  rr := fun _ h => h
  gd := ⟨fun b u e => by rw [upd_ne (ne_of_none (g.sub b u e) h)]; exact g.sub b u e, fun a r => by
    obtain ⟨c, k, q, e⟩ := g.rd a r
    exact ⟨c, k, q, by rw [upd_ne (ne_of_none e h)]; exact e⟩, g.dis⟩
  ev := fun b u e _ => by rw [upd_ne (ne_of_none e h)]; exact e
  ex := fun b u e => ⟨u, by rw [upd_ne (ne_of_none e h)]; exact e⟩
  fg := fun _ _ h => .inl h
  fr := fun _ h => .inl h
theorem Nx.newG (g : Gd G R H) {p : Addr} (o : HO) (h : H p = none) : Nx G R H (upd G p o) R (upd H p o) where
  gg := fun b u e => by rw [upd_ne (ne_of_none e (g.fresh h).1)]; exact e
  rr := fun _ h => h
  gd := ⟨fun b u e => by
    by_cases hb : b = p
    · subst hb; rw [upd_same] at e ⊢; exact e
    · rw [upd_ne hb] at e ⊢; exact g.sub b u e, fun a r => by
    obtain ⟨c, k, q, e⟩ := g.rd a r
    exact ⟨c, k, q, by rw [upd_ne (ne_of_none e h)]; exact e⟩, fun a r => by
    have ne : a ≠ p := fun z => (g.fresh h).2 (by subst z; exact r)
    rw [upd_ne ne]; exact g.dis a r⟩
  ev := fun b u e _ => by rw [upd_ne (ne_of_none e h)]; exact e
  ex := fun b u e => ⟨u, by rw [upd_ne (ne_of_none e h)]; exact e⟩
  fg := fun b u e => by
    by_cases hb : b = p
    · subst hb; exact .inr (.inl h)
    · rw [upd_ne hb] at e; exact .inl e
  fr := fun _ h => .inl h
theorem Nx.freeze (n : Nx G R H G1 R1 H1) {p : Addr} {o : HO} (e : H1 p = some o) (g0 : G1 p = none) (r0 : ¬ R1 p) (h0 : H p = none) : Nx G R H (upd G1 p o) R1 H1 where
  gg := fun b u q => by rw [upd_ne (fun z => by subst z; have := n.gg _ _ q; rw [g0] at this; cases this)]; exact n.gg b u q
  rr := n.rr
  gd := ⟨fun b u q => by
    by_cases hb : b = p
    · subst hb; rw [upd_same] at q; cases q; exact e
    · rw [upd_ne hb] at q; exact n.gd.sub b u q, n.gd.rd, fun a r => by
    have ne : a ≠ p := fun z => r0 (by subst z; exact r)
    rw [upd_ne ne]; exact n.gd.dis a r⟩
  ev := n.ev
  ex := n.ex
  fg := fun b u q => by
    by_cases hb : b = p
    · subst hb; exact .inr (.inl h0)
    · rw [upd_ne hb] at q; exact n.fg b u q
  fr := n.fr
def stiffB : HO → Bool
  | .tup _ => true
  | .frz _ _ => true
  | _ => false
theorem stiff_of {o : HO} (h : stiffB o = true) : Stiff o := by
  cases o <;> first | exact True.intro | cases h
def satur (G H : Hp) : Hp := fun b => match G b with
  | some o => some o
  | none => match H b with
    | some o => if stiffB o = true then some o else none
    | none => none
theorem satur_same : Same G (satur G H) := fun b o e => by unfold satur; rw [e]
theorem satur_cases {b : Addr} {o : HO} (e : satur G H b = some o) : G b = some o ∨ (H b = some o ∧ stiffB o = true) := by
  unfold satur at e
  cases q : G b with
  | some u => rw [q] at e; cases e; exact .inl rfl
  | none =>
    rw [q] at e
    cases q2 : H b with
    | none => rw [q2] at e; cases e
    | some u =>
      rw [q2] at e
      simp only at e
      split at e
      · rename_i h
        cases e
        exact .inr ⟨rfl, h⟩
      · cases e
theorem satur_sub (h : Same G H) : Same (satur G H) H := fun b o e => (satur_cases e).elim (h b o) And.left
theorem satur_keep {b : Addr} {o : HO} (h : Same G H) (e : H b = some o) (t : stiffB o = true) : satur G H b = some o := by
  unfold satur
  cases q : G b with
  | some u => have := h b u q; rw [e] at this; cases this; rfl
  | none => rw [e]; simp only [t, if_true]
theorem satur_tups (h : Same G H) : Tups H (satur G H) := ⟨fun _ _ e => satur_keep h e rfl, fun _ _ _ e => satur_keep h e rfl⟩
theorem Gd.satur (g : Gd G R H) : Gd (satur G H) R H := ⟨satur_sub g.sub, g.rd, fun a r => by
  obtain ⟨c, k, q, e⟩ := g.rd a r
  cases z : Dl.satur G H a with
  | none => rfl
  | some u =>
    rcases satur_cases z with y | ⟨y, t⟩
    · rw [g.dis a r] at y; cases y
    · rw [e] at y; cases y; cases t⟩
theorem Nx.satur (n : Nx G R H G1 R1 H1) : Nx G R H (satur G1 H1) R1 H1 where
  gg := fun b u q => satur_same b u (n.gg b u q)
  rr := n.rr
  gd := n.gd.satur
  ev := n.ev
  ex := n.ex
  fg := fun b u q => by
    rcases satur_cases q with z | ⟨_, z⟩
    · exact n.fg b u z
    · exact .inr (.inr (stiff_of z))
  fr := n.fr
end
section
variable (Γ : Kx) (H0 G : Hp) (R : Addr → Prop) (H : Hp)
mutual
def Ow : D → V → List Addr → Prop
  | .lst ds, v, as => ∃ a vs bs, v = .ref a ∧ as = a :: bs ∧ H0 a = none ∧ G a = none ∧ ¬ R a ∧ H a = some (.lst vs) ∧ OwL ds vs bs
  | .dic ds, v, as => ∃ a vs bs, v = .ref a ∧ as = a :: bs ∧ H0 a = none ∧ G a = none ∧ ¬ R a ∧ H a = some (.dK vs) ∧ OwK ds vs bs
  | .tup ds, v, as => ∃ a vs, v = .ref a ∧ SqT Γ.K H a vs ∧ OwL ds vs as
  | .non, v, as => as = [] ∧ Rp Γ G R .non v
  | .bl b, v, as => as = [] ∧ Rp Γ G R (.bl b) v
  | .int b, v, as => as = [] ∧ Rp Γ G R (.int b) v
  | .str b, v, as => as = [] ∧ Rp Γ G R (.str b) v
  | .scr b, v, as => as = [] ∧ Rp Γ G R (.scr b) v
  | .rd, v, as => as = [] ∧ Rp Γ G R .rd v
  | .ins b c, v, as => as = [] ∧ Rp Γ G R (.ins b c) v
  | .nms b, v, as => as = [] ∧ Rp Γ G R (.nms b) v
  | .any, v, as => as = [] ∧ Rp Γ G R .any v
  | .fr d, v, as => as = [] ∧ Rp Γ G R (.fr d) v
  | .raw u, v, as => as = [] ∧ Rp Γ G R (.raw u) v
def OwL : List D → List V → List Addr → Prop
  | [], vs, as => vs = [] ∧ as = []
  | d :: ds, vs, as => ∃ v r bs cs, vs = v :: r ∧ as = bs ++ cs ∧ Ow d v bs ∧ OwL ds r cs
def OwK : List (Key × D) → List (Key × V) → List Addr → Prop
  | [], vs, as => vs = [] ∧ as = []
  | (x, d) :: ds, vs, as => ∃ v r bs cs, vs = (x, v) :: r ∧ as = bs ++ cs ∧ Ow d v bs ∧ OwK ds r cs
end
end
def Open : HO → Prop
  | .lst _ => True
  | .dK _ => True
  | _ => False
theorem Open.stiff {o : HO} (h : Open o) : ¬ Stiff o := by cases o <;> first | exact fun z => z | exact h.elim
section
variable {Γ : Kx} {H0 G G' : Hp} {R R' : Addr → Prop} {H H' : Hp}
structure Stays (G : Hp) (R : Addr → Prop) (H G' : Hp) (R' : Addr → Prop) (H' : Hp) (as : List Addr) : Prop where
  sl : ∀ a o, a ∈ as → H a = some o → Open o → G a = none → ¬ R a → H' a = some o ∧ G' a = none ∧ ¬ R' a
  st : ∀ a o, H a = some o → Stiff o → H' a = some o
  rd : ∀ a, R a → R' a
  gg : Same G G'
theorem Stays.sub {as bs : List Addr} (s : Stays G R H G' R' H' as) (h : ∀ a ∈ bs, a ∈ as) : Stays G R H G' R' H' bs := ⟨fun a vs m => s.sl a vs (h a m), s.st, s.rd, s.gg⟩
theorem seqT_stiff {K : PySem.W.Frag} {a : Addr} {vs : List V} (s : ∀ a o, H a = some o → Stiff o → H' a = some o) (h : SqT K H a vs) : SqT K H' a vs := by
  rcases h with (h | ⟨o, h⟩) | h
  · exact .inl (.inl (s _ _ h trivial))
  · exact .inl (.inr ⟨o, s _ _ h trivial⟩)
  · exact .inr h
mutual
theorem Ow.mono : ∀ (d : D) (v : V) (as : List Addr), Stays G R H G' R' H' as → Ow Γ H0 G R H d v as → Ow Γ H0 G' R' H' d v as
  | .lst ds, v, as, s, h => by
    unfold Ow at *
    obtain ⟨a, vs, bs, e, rfl, h0, g, r, hl, l⟩ := h
    obtain ⟨x, y, z⟩ := s.sl a _ (List.mem_cons_self ..) hl trivial g r
    exact ⟨a, vs, bs, e, rfl, h0, y, z, x, OwL.mono ds vs bs (s.sub fun b hb => List.mem_cons_of_mem _ hb) l⟩
  | .dic ds, v, as, s, h => by
    unfold Ow at *
    obtain ⟨a, vs, bs, e, rfl, h0, g, r, hl, l⟩ := h
    obtain ⟨x, y, z⟩ := s.sl a _ (List.mem_cons_self ..) hl trivial g r
    exact ⟨a, vs, bs, e, rfl, h0, y, z, x, OwK.mono ds vs bs (s.sub fun b hb => List.mem_cons_of_mem _ hb) l⟩
  | .tup ds, v, as, s, h => by
    unfold Ow at *
    obtain ⟨a, vs, e, q, l⟩ := h
    exact ⟨a, vs, e, seqT_stiff s.st q, OwL.mono ds vs as s l⟩
  | .non, v, as, s, h => by unfold Ow at *; exact ⟨h.1, Rp.mono s.gg s.rd _ _ h.2⟩
  | .bl b, v, as, s, h => by unfold Ow at *; exact ⟨h.1, Rp.mono s.gg s.rd _ _ h.2⟩
  | .int b, v, as, s, h => by unfold Ow at *; exact ⟨h.1, Rp.mono s.gg s.rd _ _ h.2⟩
  | .str b, v, as, s, h => by unfold Ow at *; exact ⟨h.1, Rp.mono s.gg s.rd _ _ h.2⟩
  | .scr b, v, as, s, h => by unfold Ow at *; exact ⟨h.1, Rp.mono s.gg s.rd _ _ h.2⟩
  | .rd, v, as, s, h => by unfold Ow at *; exact ⟨h.1, Rp.mono s.gg s.rd _ _ h.2⟩
  | .ins b c, v, as, s, h => by unfold Ow at *; exact ⟨h.1, Rp.mono s.gg s.rd _ _ h.2⟩
  | .nms b, v, as, s, h => by unfold Ow at *; exact ⟨h.1, Rp.mono s.gg s.rd _ _ h.2⟩
  | .any, v, as, s, h => by unfold Ow at *; exact ⟨h.1, Rp.mono s.gg s.rd _ _ h.2⟩
  | .fr d, v, as, s, h => by unfold Ow at *; exact ⟨h.1, Rp.mono s.gg s.rd _ _ h.2⟩
  | .raw d, v, as, s, h => by unfold Ow at *; exact ⟨h.1, Rp.mono s.gg s.rd _ _ h.2⟩
theorem OwL.mono : ∀ (ds : List D) (vs : List V) (as : List Addr), Stays G R H G' R' H' as → OwL Γ H0 G R H ds vs as → OwL Γ H0 G' R' H' ds vs as
  | [], vs, as, s, h => by unfold OwL at *; exact h
  | d :: ds, vs, as, s, h => by
    unfold OwL at *
    obtain ⟨v, r, bs, cs, e, rfl, h1, h2⟩ := h
    exact ⟨v, r, bs, cs, e, rfl, Ow.mono d v bs (s.sub fun a m => List.mem_append_left _ m) h1, OwL.mono ds r cs (s.sub fun a m => List.mem_append_right _ m) h2⟩
theorem OwK.mono : ∀ (ds : List (Key × D)) (vs : List (Key × V)) (as : List Addr), Stays G R H G' R' H' as → OwK Γ H0 G R H ds vs as → OwK Γ H0 G' R' H' ds vs as
  | [], vs, as, s, h => by unfold OwK at *; exact h
  | (x, d) :: ds, vs, as, s, h => by
    unfold OwK at *
    obtain ⟨v, r, bs, cs, e, rfl, h1, h2⟩ := h
    exact ⟨v, r, bs, cs, e, rfl, Ow.mono d v bs (s.sub fun a m => List.mem_append_left _ m) h1, OwK.mono ds r cs (s.sub fun a m => List.mem_append_right _ m) h2⟩
end
mutual
theorem Ow.fresh : ∀ (d : D) (v : V) (as : List Addr), Ow Γ H0 G R H d v as → ∀ a ∈ as, H0 a = none ∧ G a = none ∧ ¬ R a ∧ ∃ o, H a = some o ∧ Open o
  | .lst ds, v, as, h, b, hb => by
    unfold Ow at h
    obtain ⟨a, vs, bs, e, rfl, h0, g, r, hl, l⟩ := h
    rcases List.mem_cons.mp hb with rfl | hb
    · exact ⟨h0, g, r, _, hl, trivial⟩
    · exact OwL.fresh ds vs bs l b hb
  | .dic ds, v, as, h, b, hb => by
    unfold Ow at h
    obtain ⟨a, vs, bs, e, rfl, h0, g, r, hl, l⟩ := h
    rcases List.mem_cons.mp hb with rfl | hb
    · exact ⟨h0, g, r, _, hl, trivial⟩
    · exact OwK.fresh ds vs bs l b hb
  | .tup ds, v, as, h, b, hb => by
    unfold Ow at h
    obtain ⟨a, vs, e, q, l⟩ := h
    exact OwL.fresh ds vs as l b hb
  | .non, v, as, h, x, hb => by unfold Ow at h; rw [h.1] at hb; exact absurd hb List.not_mem_nil
  | .bl b, v, as, h, x, hb => by unfold Ow at h; rw [h.1] at hb; exact absurd hb List.not_mem_nil
  | .int b, v, as, h, x, hb => by unfold Ow at h; rw [h.1] at hb; exact absurd hb List.not_mem_nil
  | .str b, v, as, h, x, hb => by unfold Ow at h; rw [h.1] at hb; exact absurd hb List.not_mem_nil
  | .scr b, v, as, h, x, hb => by unfold Ow at h; rw [h.1] at hb; exact absurd hb List.not_mem_nil
  | .rd, v, as, h, x, hb => by unfold Ow at h; rw [h.1] at hb; exact absurd hb List.not_mem_nil
  | .ins b c, v, as, h, x, hb => by unfold Ow at h; rw [h.1] at hb; exact absurd hb List.not_mem_nil
  | .nms b, v, as, h, x, hb => by unfold Ow at h; rw [h.1] at hb; exact absurd hb List.not_mem_nil
  | .any, v, as, h, x, hb => by unfold Ow at h; rw [h.1] at hb; exact absurd hb List.not_mem_nil
  | .fr d, v, as, h, x, hb => by unfold Ow at h; rw [h.1] at hb; exact absurd hb List.not_mem_nil
  | .raw d, v, as, h, x, hb => by unfold Ow at h; rw [h.1] at hb; exact absurd hb List.not_mem_nil
theorem OwL.fresh : ∀ (ds : List D) (vs : List V) (as : List Addr), OwL Γ H0 G R H ds vs as → ∀ a ∈ as, H0 a = none ∧ G a = none ∧ ¬ R a ∧ ∃ o, H a = some o ∧ Open o
  | [], vs, as, h, b, hb => by unfold OwL at h; rw [h.2] at hb; exact absurd hb List.not_mem_nil
  | d :: ds, vs, as, h, b, hb => by
    unfold OwL at h
    obtain ⟨v, r, bs, cs, e, rfl, h1, h2⟩ := h
    rcases List.mem_append.mp hb with hb | hb
    · exact Ow.fresh d v bs h1 b hb
    · exact OwL.fresh ds r cs h2 b hb
theorem OwK.fresh : ∀ (ds : List (Key × D)) (vs : List (Key × V)) (as : List Addr), OwK Γ H0 G R H ds vs as → ∀ a ∈ as, H0 a = none ∧ G a = none ∧ ¬ R a ∧ ∃ o, H a = some o ∧ Open o
  | [], vs, as, h, b, hb => by unfold OwK at h; rw [h.2] at hb; exact absurd hb List.not_mem_nil
  | (x, d) :: ds, vs, as, h, b, hb => by
    unfold OwK at h
    obtain ⟨v, r, bs, cs, e, rfl, h1, h2⟩ := h
    rcases List.mem_append.mp hb with hb | hb
    · exact Ow.fresh d v bs h1 b hb
    · exact OwK.fresh ds r cs h2 b hb
end
end
inductive S where | un | fz (d : D) | op (ds : List D) | io (a : Addr) (c : Str) (fs : List (Str × D)) | ex (a : Addr) (d : Option Addr) (c : Str) (fs : List (Str × D)) | ow (v : V) (as : List Addr) (d : D) | se (d : D)
open Classical in
noncomputable def viewO (H0 G : Hp) (R : Addr → Prop) (H : Hp) : Hp := fun b => match H b with
  | some o => if G b = some o ∨ Stiff o ∨ (¬ R b ∧ H0 b ≠ none ∧ Open o) then some o else none
  | none => none
theorem viewO_iff {H0 G : Hp} {R : Addr → Prop} {H : Hp} {b : Addr} {o : HO} : viewO H0 G R H b = some o ↔ H b = some o ∧ (G b = some o ∨ Stiff o ∨ (¬ R b ∧ H0 b ≠ none ∧ Open o)) := by
  unfold viewO
  cases q : H b with
  | none => simp
  | some u =>
    simp only
    split
    · rename_i h
      refine ⟨fun e => ?_, fun e => e.1⟩
      cases e
      exact ⟨rfl, h⟩
    · rename_i h
      refine ⟨(fun e => nomatch e), fun ⟨e, z⟩ => ?_⟩
      cases e
      exact absurd z h
theorem viewO_same {H0 G : Hp} {R : Addr → Prop} {H : Hp} (g : Same G H) : Same G (viewO H0 G R H) := fun b o e => viewO_iff.mpr ⟨g b o e, .inl e⟩
def S.fpt : S → Option V → List Addr
  | .op _, some (.ref l) => [l]
  | .io a _ _, _ => [a]
  | .ow _ as _, _ => as
  | _, _ => []
abbrev En := List S
abbrev XQ := Str → List (Str × D) → Prop
abbrev DE := XQ → En → (D → Prop) → Prop
abbrev DT := XQ → En → (Bool → Prop) → Prop
abbrev DA := XQ → En → (List D → Prop) → Prop
structure DK where
  nx : En → Prop
  rt : D → En → Prop
  bk : En → Prop
  ct : En → Prop
  ex : Str → List (Str × D) → En → Prop
  ro : V → List Addr → D → En → Prop
abbrev DS := DK → En → Prop
def SlotOk (Γ : Kx) (H0 G : Hp) (R : Addr → Prop) (H : Hp) : S → Option V → Prop
  | .un, _ => True
  | .fz d, v => ∃ x, v = some x ∧ Rp Γ G R d x
  | .op ds, v => ∃ l vs, v = some (.ref l) ∧ H l = some (.lst vs) ∧ G l = none ∧ ¬ R l ∧ H0 l = none ∧ RpL Γ G R ds vs
  | .io a c fs, v => ∃ dx vs, v = some (.ref a) ∧ H a = some (.ins (Γ.C c) dx vs) ∧ G a = none ∧ ¬ R a ∧ H0 a = none ∧ RpF Γ G R fs vs
  | .ex a d _ fs, v => v = some (.ref a) ∧ ((fs = [] ∧ d = none) ∨ ∃ dd vs, d = some dd ∧ H dd = some (.xd vs) ∧ ¬ R dd ∧ RpF Γ G R fs vs)
  | .ow x as d, v => v = some x ∧ Ow Γ H0 G R H d x as ∧ as.Nodup
  | .se d, v => ∃ x, v = some x ∧ Rp Γ (viewO H0 G R H) R d x
structure Wd (Γ : Kx) (H0 G : Hp) (R : Addr → Prop) (H : Hp) (σ : St) (ρ : En) : Prop where
  gd : Gd G R H
  len : σ.length = ρ.length
  sl : ∀ (i : Nat) s, ρ[i]? = some s → ∃ v, σ[i]? = some v ∧ SlotOk Γ H0 G R H s v
  dj : ∀ (i j : Nat) (s t : S) v w a, i ≠ j → ρ[i]? = some s → ρ[j]? = some t → σ[i]? = some v → σ[j]? = some w → a ∈ s.fpt v → a ∈ t.fpt w → False
def cut (H : Hp) (as : List Addr) : Hp := fun b => if b ∈ as then none else H b
theorem cut_in {H : Hp} {as : List Addr} {a : Addr} (h : a ∈ as) : cut H as a = none := by unfold cut; rw [if_pos h]
theorem cut_out {H : Hp} {as : List Addr} {a : Addr} (h : a ∉ as) : cut H as a = H a := by unfold cut; rw [if_neg h]
theorem cut_some {H : Hp} {as : List Addr} {a : Addr} {o : HO} (h : cut H as a = some o) : a ∉ as ∧ H a = some o := by
  unfold cut at h
  split at h
  · cases h
  · rename_i n
    exact ⟨n, h⟩
def ExRep (Γ : Kx) (G : Hp) (R : Addr → Prop) (H : Hp) (c : Str) (fs : List (Str × D)) (cls : Value) (dx : Option Addr) : Prop :=
  cls = .ref (Γ.C c) ∧ ((fs = [] ∧ dx = none) ∨ (fs ≠ [] ∧ ∃ a vs, dx = some a ∧ H a = some (.xd vs) ∧ RpF Γ G R fs vs))
def Lk (Γ : Kx) (W : WX) (xq : XQ) (σ : St) (G : Hp) (R : Addr → Prop) (H : Hp) : Prop :=
  ∀ c fs G' R' H' cls dx, Nx G R H G' R' H' → xq c fs → ExRep Γ G' R' H' c fs cls dx → W cls dx σ H'
section
variable {Γ : Kx} {H0 G G1 : Hp} {R R1 : Addr → Prop} {H H1 : Hp} {σ : St} {ρ : En} {W : WX} {xq : XQ}
theorem Nx.openO (n : Nx G R H G1 R1 H1) {l : Addr} {o : HO} (h : H l = some o) (hs : ¬ Stiff o) (g : G l = none) (r : ¬ R l) : H1 l = some o ∧ G1 l = none ∧ ¬ R1 l := by
  have e := n.ev l _ h r
  refine ⟨e, ?_, fun z => (n.fr l z).elim r fun y => by rw [h] at y; cases y⟩
  cases q : G1 l with
  | none => rfl
  | some u =>
    rcases n.fg l u q with z | z | z
    · rw [g] at z; cases z
    · rw [h] at z; cases z
    · have := n.gd.sub l u q
      rw [e] at this
      cases this
      exact absurd z hs
theorem Nx.st {o : HO} {a : Addr} (n : Nx G R H G1 R1 H1) (h : H a = some o) (s : Stiff o) (g : Gd G R H) : H1 a = some o := n.ev a o h fun r => by
  obtain ⟨_, _, _, e⟩ := g.rd a r
  rw [h] at e
  cases e
  exact s.elim
theorem Nx.open_ (n : Nx G R H G1 R1 H1) {l : Addr} {vs : List V} (h : H l = some (.lst vs)) (g : G l = none) (r : ¬ R l) : H1 l = some (.lst vs) ∧ G1 l = none ∧ ¬ R1 l := by
  have e := n.ev l _ h r
  refine ⟨e, ?_, fun z => (n.fr l z).elim r fun y => by rw [h] at y; cases y⟩
  cases q : G1 l with
  | none => rfl
  | some o =>
    rcases n.fg l o q with z | z | z
    · rw [g] at z; cases z
    · rw [h] at z; cases z
    · have := n.gd.sub l o q
      rw [e] at this
      cases this
      exact z.elim
theorem viewO_nx (gd : Gd G R H) (n : Nx G R H G1 R1 H1) : Same (viewO H0 G R H) (viewO H0 G1 R1 H1) := fun b o e => by
  obtain ⟨h, z⟩ := viewO_iff.mp e
  rcases z with z | z | ⟨z1, z2, z3⟩
  · have := n.gg b o z
    exact viewO_iff.mpr ⟨n.gd.sub b o this, .inl this⟩
  · exact viewO_iff.mpr ⟨n.st h z gd, .inr (.inl z)⟩
  · exact viewO_iff.mpr ⟨n.ev b o h z1, .inr (.inr ⟨(fun y => (n.fr b y).elim z1 fun y => by rw [h] at y; cases y), z2, z3⟩)⟩
theorem viewO_upd {l : Addr} {o : HO} (h0 : H0 l = none) (g : G l = none) (hs : ∀ u, H l = some u → ¬ Stiff u) : Same (viewO H0 G R H) (viewO H0 G R (upd H l o)) := fun b u e => by
  obtain ⟨h, z⟩ := viewO_iff.mp e
  have ne : b ≠ l := fun q => by
    subst q
    rcases z with z | z | z
    · rw [g] at z; cases z
    · exact hs u h z
    · exact z.2.1 h0
  exact viewO_iff.mpr ⟨by rw [upd_ne ne]; exact h, z⟩
theorem SlotOk.nx (gd : Gd G R H) (n : Nx G R H G1 R1 H1) : ∀ {s : S} {v : Option V}, SlotOk Γ H0 G R H s v → SlotOk Γ H0 G1 R1 H1 s v
  | .un, _, _ => True.intro
  | .fz d, _, ⟨x, e, h⟩ => ⟨x, e, Rp.mono n.gg n.rr d x h⟩
  | .op ds, _, ⟨l, vs, e, h, g, r, h0, q⟩ => by
    obtain ⟨a, b, c⟩ := n.open_ h g r
    exact ⟨l, vs, e, a, b, c, h0, RpL.mono n.gg n.rr ds vs q⟩
  | .io a _ fs, _, ⟨dx, vs, e, h, g, r, h0, q⟩ => by
    obtain ⟨x, y, z⟩ := n.openO h (fun t => t) g r
    exact ⟨dx, vs, e, x, y, z, h0, RpF.mono n.gg n.rr fs vs q⟩
  | .ex _ _ _ fs, _, ⟨e, h⟩ => by
    refine ⟨e, h.imp id fun ⟨dd, vs, e1, e2, r, q⟩ => ⟨dd, vs, e1, n.ev dd _ e2 r, fun z => (n.fr dd z).elim r (fun y => by rw [e2] at y; cases y), RpF.mono n.gg n.rr fs vs q⟩⟩
  | .ow _ as d, _, ⟨e, h, nd⟩ => ⟨e, Ow.mono d _ as ⟨fun a o _ h s g r => n.openO h s.stiff g r, fun a o h s => n.st h s gd, n.rr, n.gg⟩ h, nd⟩
  | .se d, _, ⟨x, e, h⟩ => ⟨x, e, Rp.mono (viewO_nx gd n) n.rr d x h⟩
theorem Wd.nx (w : Wd Γ H0 G R H σ ρ) (n : Nx G R H G1 R1 H1) : Wd Γ H0 G1 R1 H1 σ ρ :=
  ⟨n.gd, w.len, fun i s e => by
    obtain ⟨v, e2, h⟩ := w.sl i s e
    exact ⟨v, e2, h.nx w.gd n⟩, w.dj⟩
theorem Lk.nx (k : Lk Γ W xq σ G R H) (n : Nx G R H G1 R1 H1) : Lk Γ W xq σ G1 R1 H1 := fun c fs G' R' H' cls dx m => k c fs G' R' H' cls dx (n.trans m)
end
def RpQ (Γ : Kx) (G : Hp) (R : Addr → Prop) (H : Hp) : D → V → Prop
  | .lst ds, v => ∃ a vs, v = .ref a ∧ (G a = some (.lst vs) ∨ (H a = some (.lst vs) ∧ G a = none ∧ ¬ R a)) ∧ RpL Γ G R ds vs
  | d, v => Rp Γ G R d v
section
variable {Γ : Kx} {G G1 : Hp} {R R1 : Addr → Prop} {H H1 : Hp}
theorem Rp.q {d : D} {v : V} (h : Rp Γ G R d v) : RpQ Γ G R H d v := by
  cases d <;> first | exact h | skip
  unfold Rp at h
  obtain ⟨a, vs, e, s, l⟩ := h
  exact ⟨a, vs, e, .inl s, l⟩
theorem RpQ.nx (n : Nx G R H G1 R1 H1) {d : D} {v : V} (h : RpQ Γ G R H d v) : RpQ Γ G1 R1 H1 d v := by
  cases d with
  | lst ds =>
    obtain ⟨a, vs, e, s, l⟩ := h
    refine ⟨a, vs, e, ?_, RpL.mono n.gg n.rr ds vs l⟩
    rcases s with s | ⟨a1, a2, a3⟩
    · exact .inl (n.gg _ _ s)
    · exact .inr (n.open_ a1 a2 a3)
  | _ => exact Rp.mono n.gg n.rr _ _ h
theorem RpQ.lst (g : Gd G R H) {ds : List D} {v : V} (h : RpQ Γ G R H (.lst ds) v) : ∃ a vs, v = .ref a ∧ H a = some (.lst vs) ∧ RpL Γ G R ds vs := by
  obtain ⟨a, vs, e, s, l⟩ := h
  rcases s with s | ⟨a1, a2, a3⟩
  · exact ⟨a, vs, e, g.sub _ _ s, l⟩
  · exact ⟨a, vs, e, a1, l⟩
theorem RpQ.scr (g : Gd G R H) {ns : List Int} {v : V} (h : RpQ Γ G R H (.scr ns) v) : ∃ a, v = .ref a ∧ SqL Γ.K H a (ns.map V.int) := by
  have h' : Rp Γ G R (.scr ns) v := h
  unfold Rp at h'
  obtain ⟨a, e, s⟩ := h'
  exact ⟨a, e, g.sub.seq s⟩
theorem RpQ.tup (g : Gd G R H) {ds : List D} {v : V} (h : RpQ Γ G R H (.tup ds) v) : ∃ a vs, v = .ref a ∧ SqT Γ.K H a vs ∧ RpL Γ G R ds vs := by
  have h' : Rp Γ G R (.tup ds) v := h
  unfold Rp at h'
  obtain ⟨a, vs, e, s, l⟩ := h'
  exact ⟨a, vs, e, Same.seqT g.sub s, l⟩
theorem RpQ.all (g : Gd G R H) {d : D} {v : V} (h : RpQ Γ G R H d v) : Rp Γ H R d v := by
  cases d with
  | lst ds =>
    obtain ⟨a, vs, e, s, l⟩ := h.lst g
    unfold Rp
    exact ⟨a, vs, e, s, RpL.mono g.sub (fun _ h => h) ds vs l⟩
  | _ => exact Rp.mono g.sub (fun _ h => h) _ _ h
theorem Rp.own (g : Gd G R H) {d : D} {v : V} (m : immB d = true) (h : Rp Γ H R d v) : Rp Γ (satur G H) R d v := Rp.imm (satur_tups g.sub) (fun _ h => h) d v m h
end
section
variable (Γ : Kx) (W : WX)
def JE (te : TE) (fe : DE) : Prop := ∀ (H0 G : Hp) (R : Addr → Prop) (H : Hp) (σ : St) (ρ : En) (xq : XQ) (Qd : D → Prop) (Q : VK), Wd Γ H0 G R H σ ρ → Lk Γ W xq σ G R H → fe xq ρ Qd →
  (∀ v G' R' H' d, Nx G R H G' R' H' → Rp Γ G' R' d v → Qd d → Q v H') → te σ H Q
def JQ (te : TE) (fe : DE) : Prop := ∀ (H0 G : Hp) (R : Addr → Prop) (H : Hp) (σ : St) (ρ : En) (xq : XQ) (Qd : D → Prop) (Q : VK), Wd Γ H0 G R H σ ρ → Lk Γ W xq σ G R H → fe xq ρ Qd →
  (∀ v G' R' H' d, Nx G R H G' R' H' → RpQ Γ G' R' H' d v → Qd d → Q v H') → te σ H Q
def JN (te : TE) (fe : DA) : Prop := ∀ (H0 G : Hp) (R : Addr → Prop) (H : Hp) (σ : St) (ρ : En) (xq : XQ) (Qd : List D → Prop) (Q : VK), Wd Γ H0 G R H σ ρ → Lk Γ W xq σ G R H → fe xq ρ Qd →
  (∀ l vs G' R' H' ds, Nx G R H G' R' H' → H' l = some (.lst vs) → G' l = none → ¬ R' l → H l = none → RpL Γ G' R' ds vs → Qd ds → Q (.ref l) H') → te σ H Q
def JT (tt : TT) (ft : DT) : Prop := ∀ (H0 G : Hp) (R : Addr → Prop) (H : Hp) (σ : St) (ρ : En) (xq : XQ) (Qd : Bool → Prop) (Q : Bool → Hp → Prop), Wd Γ H0 G R H σ ρ → Lk Γ W xq σ G R H → ft xq ρ Qd →
  (∀ b G' R' H', Nx G R H G' R' H' → Qd b → Q b H') → tt σ H Q
def JA (ta : TA) (fa : DA) : Prop := ∀ (H0 G : Hp) (R : Addr → Prop) (H : Hp) (σ : St) (ρ : En) (xq : XQ) (Qd : List D → Prop) (Q : List V → Hp → Prop), Wd Γ H0 G R H σ ρ → Lk Γ W xq σ G R H → fa xq ρ Qd →
  (∀ vs G' R' H' ds, Nx G R H G' R' H' → RpL Γ G' R' ds vs → Qd ds → Q vs H') → ta σ H Q
end
structure EndsOk (Γ : Kx) (W : WX) (G0 : Hp) (R0 : Addr → Prop) (H0 : Hp) (k : DK) (D : Ends) : Prop where
  nx : ∀ G R H σ ρ, Nx G0 R0 H0 G R H → Wd Γ H0 G R H σ ρ → k.nx ρ → D.nx σ H
  rt : ∀ v d G R H σ ρ, Nx G0 R0 H0 G R H → Wd Γ H0 G R H σ ρ → Rp Γ G R d v → k.rt d ρ → D.rt v H
  bk : ∀ G R H σ ρ, Nx G0 R0 H0 G R H → Wd Γ H0 G R H σ ρ → k.bk ρ → D.bk σ H
  ct : ∀ G R H σ ρ, Nx G0 R0 H0 G R H → Wd Γ H0 G R H σ ρ → k.ct ρ → D.ct σ H
  ex : ∀ c fs cls dx G R H σ ρ, Nx G0 R0 H0 G R H → Wd Γ H0 G R H σ ρ → k.ex c fs ρ → ExRep Γ G R H c fs cls dx → W cls dx σ H
  ro : ∀ v as d G R H σ ρ, Nx G0 R0 H0 G R (cut H as) → Wd Γ H0 G R (cut H as) σ ρ → Ow Γ H0 G R H d v as → as.Nodup → k.ro v as d ρ → D.rt v H
def JS (Γ : Kx) (W : WX) (ts : TS) (fs : DS) : Prop := ∀ (G0 : Hp) (R0 : Addr → Prop) (H0 G : Hp) (R : Addr → Prop) (H : Hp) (σ : St) (ρ : En) (k : DK) (D : Ends),
  Nx G0 R0 H0 G R H → Wd Γ H0 G R H σ ρ → EndsOk Γ W G0 R0 H0 k D → fs k ρ → ts D σ H
section
variable {Γ : Kx} {W : WX} {G0 G : Hp} {R0 R : Addr → Prop} {H0 H : Hp} {k : DK} {D : Ends} {σ : St} {ρ : En}
theorem EndsOk.lk (e : EndsOk Γ W G0 R0 H0 k D) (n : Nx G0 R0 H0 G R H) (w : Wd Γ H0 G R H σ ρ) : Lk Γ W (fun c fs => k.ex c fs ρ) σ G R H :=
  fun c fs G' R' H' cls dx m x r => e.ex c fs cls dx G' R' H' σ ρ (n.trans m) (w.nx m) x r
end
def dVar (i : Nat) : DE := fun _ ρ Q => match ρ[i]? with
  | some (.fz d) => Q d
  | _ => False
def dVarQ (i : Nat) : DE := fun _ ρ Q => match ρ[i]? with
  | some (.fz d) => Q d
  | some (.op ds) => Q (.lst ds)
  | _ => False
def dC (d : D) : DE := fun _ _ Q => Q d
section
variable {Γ : Kx} {W : WX} {te : TE} {fe : DE}
theorem JE.q (h : JE Γ W te fe) : JQ Γ W te fe := fun H0 G R H σ ρ xq Qd Q w x f k => h H0 G R H σ ρ xq Qd Q w x f fun v G' R' H' d n r q => k v G' R' H' d n r.q q
def dImm (fe : DE) : DE := fun xq ρ Q => fe xq ρ fun d => immB d = true ∧ Q d
theorem JQ.own (h : JQ Γ W te fe) : JE Γ W te (dImm fe) := fun H0 G R H σ ρ xq Qd Q w x f k =>
  h H0 G R H σ ρ xq _ Q w x f fun v G' R' H' d n r q => k v _ R' H' d n.satur (Rp.own n.gd q.1 (r.all n.gd)) q.2
def dLst (fa : DA) : DE := fun xq ρ Q => fa xq ρ fun ds => Q (.lst ds)
theorem JN.e {fa : DA} (h : JN Γ W te fa) : JE Γ W te (dLst fa) := fun H0 G R H σ ρ xq Qd Q w x f k =>
  h H0 G R H σ ρ xq _ Q w x f fun l vs G' R' H' ds n e g r h0 rl q => by
    have n2 : Nx G R H (upd G' l (.lst vs)) R' H' := n.freeze e g r h0
    refine k (.ref l) _ R' H' (.lst ds) n2 ?_ q
    unfold Rp
    have g2 : Same G' (upd G' l (.lst vs)) := fun b u z => by rw [upd_ne (ne_of_none z g)]; exact z
    exact ⟨l, vs, rfl, upd_same, RpL.mono g2 (fun _ h => h) ds vs rl⟩
theorem je_var {i : Nat} : JE Γ W (tVar i) (dVar i) := fun H0 G R H σ ρ xq Qd Q w x f k => by
  unfold dVar at f
  split at f
  · rename_i d e
    obtain ⟨v, e2, y, rfl, r⟩ := w.sl i _ e
    exact ⟨y, e2, k y G R H d (Nx.refl w.gd) r f⟩
  · exact f.elim
theorem jq_var {i : Nat} : JQ Γ W (tVar i) (dVarQ i) := fun H0 G R H σ ρ xq Qd Q w x f k => by
  unfold dVarQ at f
  split at f
  · rename_i d e
    obtain ⟨v, e2, y, rfl, r⟩ := w.sl i _ e
    exact ⟨y, e2, k y G R H d (Nx.refl w.gd) r.q f⟩
  · rename_i ds e
    obtain ⟨v, e2, l, vs, rfl, h, g, r, h0, rl⟩ := w.sl i _ e
    exact ⟨.ref l, e2, k _ G R H (.lst ds) (Nx.refl w.gd) ⟨l, vs, rfl, .inr ⟨h, g, r⟩, rl⟩ f⟩
  · exact f.elim
theorem je_int {i : Int} : JE Γ W (tC (.int i)) (dC (.int i)) := fun H0 G R H σ ρ xq Qd Q w x f k => k _ G R H _ (Nx.refl w.gd) (by unfold Rp; rfl) f
theorem je_str {s : Str} : JE Γ W (tC (.str s)) (dC (.str s)) := fun H0 G R H σ ρ xq Qd Q w x f k => k _ G R H _ (Nx.refl w.gd) (by unfold Rp; rfl) f
theorem je_bl {b : Bool} : JE Γ W (tC (.bl b)) (dC (.bl b)) := fun H0 G R H σ ρ xq Qd Q w x f k => k _ G R H _ (Nx.refl w.gd) (by unfold Rp; rfl) f
theorem je_non : JE Γ W (tC .non) (dC .non) := fun H0 G R H σ ρ xq Qd Q w x f k => k _ G R H _ (Nx.refl w.gd) (by unfold Rp; rfl) f
end
end Dl
namespace Dl
open PySem PySem.Spec PyProof.Rows L2
section
variable (Γ : Kx)
def U1 (r : V → Hp → VK → Prop) (g : D → (D → Prop) → Prop) : Prop := ∀ (G : Hp) (R : Addr → Prop) (H : Hp) (d : D) (v : V) (Qd : D → Prop) (Q : VK), Gd G R H → RpQ Γ G R H d v → g d Qd →
  (∀ w G' R' H' c, Nx G R H G' R' H' → Rp Γ G' R' c w → Qd c → Q w H') → r v H Q
def U2 (r : R2) (g : D → D → (D → Prop) → Prop) : Prop := ∀ (G : Hp) (R : Addr → Prop) (H : Hp) (d e : D) (v u : V) (Qd : D → Prop) (Q : VK), Gd G R H → RpQ Γ G R H d v → RpQ Γ G R H e u → g d e Qd →
  (∀ w G' R' H' c, Nx G R H G' R' H' → Rp Γ G' R' c w → Qd c → Q w H') → r v u H Q
def N1 (r : V → Hp → VK → Prop) (g : D → (List D → Prop) → Prop) : Prop := ∀ (G : Hp) (R : Addr → Prop) (H : Hp) (d : D) (v : V) (Qd : List D → Prop) (Q : VK), Gd G R H → RpQ Γ G R H d v → g d Qd →
  (∀ l vs G' R' H' ds, Nx G R H G' R' H' → H' l = some (.lst vs) → G' l = none → ¬ R' l → H l = none → RpL Γ G' R' ds vs → Qd ds → Q (.ref l) H') → r v H Q
def N2 (r : R2) (g : D → D → (List D → Prop) → Prop) : Prop := ∀ (G : Hp) (R : Addr → Prop) (H : Hp) (d e : D) (v u : V) (Qd : List D → Prop) (Q : VK), Gd G R H → RpQ Γ G R H d v → RpQ Γ G R H e u → g d e Qd →
  (∀ l vs G' R' H' ds, Nx G R H G' R' H' → H' l = some (.lst vs) → G' l = none → ¬ R' l → H l = none → RpL Γ G' R' ds vs → Qd ds → Q (.ref l) H') → r v u H Q
end
def d1 (g : D → (D → Prop) → Prop) (fa : DE) : DE := fun xq ρ Q => fa xq ρ fun x => g x Q
def d2 (g : D → D → (D → Prop) → Prop) (fa fb : DE) : DE := fun xq ρ Q => fa xq ρ fun x => fb xq ρ fun y => g x y Q
def n1 (g : D → (List D → Prop) → Prop) (fa : DE) : DA := fun xq ρ Q => fa xq ρ fun x => g x Q
def n2 (g : D → D → (List D → Prop) → Prop) (fa fb : DE) : DA := fun xq ρ Q => fa xq ρ fun x => fb xq ρ fun y => g x y Q
section
variable {Γ : Kx} {W : WX} {ta tb : TE} {fa fb : DE}
theorem je_op {r : R2} {g : D → D → (D → Prop) → Prop} (u : U2 Γ r g) (a : JQ Γ W ta fa) (b : JQ Γ W tb fb) : JE Γ W (tOp r ta tb) (d2 g fa fb) := fun H0 G R H σ ρ xq Qd Q w x f k =>
  a H0 G R H σ ρ xq _ _ w x f fun v1 G1 R1 H1 d1 n1 r1 q1 => b H0 G1 R1 H1 σ ρ xq _ _ (w.nx n1) (x.nx n1) q1 fun v2 G2 R2 H2 d2 n2 r2 q2 =>
    u G2 R2 H2 d1 d2 v1 v2 Qd Q n2.gd (r1.nx n2) r2 q2 fun w' G' R' H' c n r q => k w' G' R' H' c ((n1.trans n2).trans n) r q
theorem je_un {r : V → Hp → VK → Prop} {g : D → (D → Prop) → Prop} (u : U1 Γ r g) (a : JQ Γ W ta fa) : JE Γ W (tUn r ta) (d1 g fa) := fun H0 G R H σ ρ xq Qd Q w x f k =>
  a H0 G R H σ ρ xq _ _ w x f fun v1 G1 R1 H1 d1 n1 r1 q1 => u G1 R1 H1 d1 v1 Qd Q n1.gd r1 q1 fun w' G' R' H' c n r q => k w' G' R' H' c (n1.trans n) r q
theorem je_cb1 {r : List V → Hp → VK → Prop} {g : D → (D → Prop) → Prop} (u : U1 Γ (fun v H Q => r [v] H Q) g) (a : JQ Γ W ta fa) : JE Γ W (tCB r (tCons ta tNil)) (d1 g fa) := fun H0 G R H σ ρ xq Qd Q w x f k =>
  a H0 G R H σ ρ xq _ _ w x f fun v1 G1 R1 H1 d1 n1 r1 q1 => u G1 R1 H1 d1 v1 Qd Q n1.gd r1 q1 fun w' G' R' H' c n r q => k w' G' R' H' c (n1.trans n) r q
theorem jn_cb1 {r : List V → Hp → VK → Prop} {g : D → (List D → Prop) → Prop} (u : N1 Γ (fun v H Q => r [v] H Q) g) (a : JQ Γ W ta fa) : JN Γ W (tCB r (tCons ta tNil)) (n1 g fa) := fun H0 G R H σ ρ xq Qd Q w x f k =>
  a H0 G R H σ ρ xq _ _ w x f fun v1 G1 R1 H1 d1 n1 r1 q1 => u G1 R1 H1 d1 v1 Qd Q n1.gd r1 q1 fun l vs G' R' H' ds n e g z h r q => k l vs G' R' H' ds (n1.trans n) e g z (by
      cases y : H l with
      | none => rfl
      | some o =>
        obtain ⟨o', e'⟩ := n1.ex l o y
        rw [h] at e'; cases e') r q
end
theorem JQ.imp {Γ : Kx} {W : WX} {te : TE} {fe fe' : DE} (h : JQ Γ W te fe) (i : ∀ xq ρ Q, fe' xq ρ Q → fe xq ρ Q) : JQ Γ W te fe' := fun H0 G R H σ ρ xq Qd Q w x f k => h H0 G R H σ ρ xq Qd Q w x (i _ _ _ f) k
theorem JE.imp {Γ : Kx} {W : WX} {te : TE} {fe fe' : DE} (h : JE Γ W te fe) (i : ∀ xq ρ Q, fe' xq ρ Q → fe xq ρ Q) : JE Γ W te fe' := fun H0 G R H σ ρ xq Qd Q w x f k => h H0 G R H σ ρ xq Qd Q w x (i _ _ _ f) k
section
variable {Γ : Kx} {G : Hp} {R : Addr → Prop} {H : Hp} {v : V}
theorem RpQ.int {i : Int} (h : RpQ Γ G R H (.int i) v) : v = .int i := by
  have h' : Rp Γ G R (.int i) v := h
  unfold Rp at h'; exact h'
theorem RpQ.bl {i : Bool} (h : RpQ Γ G R H (.bl i) v) : v = .bl i := by
  have h' : Rp Γ G R (.bl i) v := h
  unfold Rp at h'; exact h'
theorem RpQ.str {i : Str} (h : RpQ Γ G R H (.str i) v) : v = .str i := by
  have h' : Rp Γ G R (.str i) v := h
  unfold Rp at h'; exact h'
theorem RpQ.non (h : RpQ Γ G R H .non v) : v = .non := by
  have h' : Rp Γ G R .non v := h
  unfold Rp at h'; exact h'
theorem rp_int {i : Int} : Rp Γ G R (.int i) (.int i) := by unfold Rp; rfl
theorem rp_bl {i : Bool} : Rp Γ G R (.bl i) (.bl i) := by unfold Rp; rfl
theorem rp_str {i : Str} : Rp Γ G R (.str i) (.str i) := by unfold Rp; rfl
theorem rp_non : Rp Γ G R .non .non := by unfold Rp; rfl
theorem new_tup (g : Gd G R H) {ds : List D} {vs : List V} (r : RpL Γ G R ds vs) {Qd : D → Prop} {Q : VK} (q : Qd (.tup ds)) (k : ∀ w G' R' H' c, Nx G R H G' R' H' → Rp Γ G' R' c w → Qd c → Q w H') :
    ∀ p, H p = none → Q (.ref p) (upd H p (.tup vs)) := fun p hp => by
  refine k (.ref p) (upd G p (.tup vs)) R _ (.tup ds) (Nx.newG g _ hp) ?_ q
  unfold Rp
  exact ⟨p, vs, rfl, SqT.of upd_same, RpL.mono (Nx.newG g _ hp).gg (fun _ h => h) ds vs r⟩
theorem new_lst (g : Gd G R H) {ds : List D} {vs : List V} (r : RpL Γ G R ds vs) {Qd : D → Prop} {Q : VK} (q : Qd (.lst ds)) (k : ∀ w G' R' H' c, Nx G R H G' R' H' → Rp Γ G' R' c w → Qd c → Q w H') :
    ∀ p, H p = none → Q (.ref p) (upd H p (.lst vs)) := fun p hp => by
  refine k (.ref p) (upd G p (.lst vs)) R _ (.lst ds) (Nx.newG g _ hp) ?_ q
  unfold Rp
  exact ⟨p, vs, rfl, upd_same, RpL.mono (Nx.newG g _ hp).gg (fun _ h => h) ds vs r⟩
theorem new_open (g : Gd G R H) {ds : List D} {vs : List V} (r : RpL Γ G R ds vs) {Qd : List D → Prop} {Q : VK} (q : Qd ds)
    (k : ∀ l vs G' R' H' ds, Nx G R H G' R' H' → H' l = some (.lst vs) → G' l = none → ¬ R' l → H l = none → RpL Γ G' R' ds vs → Qd ds → Q (.ref l) H') :
    ∀ p, H p = none → Q (.ref p) (upd H p (.lst vs)) := fun p hp => k p vs G R _ ds (Nx.new g _ hp) upd_same (g.fresh hp).1 (g.fresh hp).2 hp r q
end
def gI2 (C : Int → Int → Prop) (o : Int → Int → D) (x y : D) (Q : D → Prop) : Prop := match x, y with
  | .int i, .int j => C i j ∧ Q (o i j)
  | _, _ => False
theorem u2_int {Γ : Kx} {C : Int → Int → Prop} {o : Int → Int → Int} : U2 Γ (rI C fun i j => .int (o i j)) (gI2 C fun i j => .int (o i j)) := fun G R H d e v u Qd Q gd r1 r2 g k => by
  unfold gI2 at g
  split at g
  · exact ⟨_, _, r1.int, r2.int, g.1, k _ G R H _ (Nx.refl gd) rp_int g.2⟩
  · exact g.elim
def gMns (x y : D) (Q : D → Prop) : Prop := match x, y with
  | .int i, .int j => Q (.int (i - j))
  | _, _ => False
theorem u2_sub {Γ : Kx} : U2 Γ (rI0 fun i j => .int (i - j)) gMns := fun G R H d e v u Qd Q gd r1 r2 g k => by
  unfold gMns at g
  split at g
  · exact ⟨_, _, r1.int, r2.int, k _ G R H _ (Nx.refl gd) rp_int g⟩
  · exact g.elim
def gAdd (x y : D) (Q : D → Prop) : Prop := match x, y with
  | .int i, .int j => Q (.int (i + j))
  | .str s, .str t => s.length + t.length ≤ sizeLine ∧ Q (.str (s ++ t))
  | .lst a, .lst b => a.length + b.length ≤ sizeLine ∧ Q (.lst (a ++ b))
  | .tup a, .tup b => a.length + b.length ≤ sizeLine ∧ Q (.tup (a ++ b))
  | _, _ => False
def rAddAll (K : PySem.W.Frag) : R2 := fun x y H Q => ((rI0 fun i j => .int (i + j)) x y H Q ∨ (∃ i j, x = .str i ∧ y = .str j ∧ i.length + j.length ≤ sizeLine ∧ Q (.str (i ++ j)) H)) ∨ (rCat x y H Q ∨ rCatA K x y H Q)
theorem opR_or {X : Cx} {f : Value → Value → Sem Value} {r r' : R2} (h : OpR X f r) (h' : OpR X f r') : OpR X f (fun x y H Q => r x y H Q ∨ r' x y H Q) := fun pins s σ H x y v u Q I rx ry q =>
  q.elim (h pins s σ H x y v u Q I rx ry) (h' pins s σ H x y v u Q I rx ry)
theorem op_addAll {X : Cx} : OpR X (binaryOp .Add) (rAddAll X.K) := opR_or (opR_or op_add op_add_str) (opR_or op_cat op_catA)
theorem u2_add {Γ : Kx} : U2 Γ (rAddAll Γ.K) gAdd := fun G R H d e v u Qd Q gd r1 r2 g k => by
  unfold gAdd at g
  split at g
  · exact .inl (.inl ⟨_, _, r1.int, r2.int, k _ G R H _ (Nx.refl gd) rp_int g⟩)
  · exact .inl (.inr ⟨_, _, r1.str, r2.str, g.1, k _ G R H _ (Nx.refl gd) rp_str g.2⟩)
  · obtain ⟨a, vs, e1, h1, l1⟩ := r1.lst gd
    obtain ⟨b, us, e2, h2, l2⟩ := r2.lst gd
    exact .inr (.inl ⟨a, b, vs, us, e1, e2, h1, h2, by rw [← l1.len, ← l2.len]; exact g.1, new_lst gd (l1.append l2) g.2 k⟩)
  · obtain ⟨a, vs, e1, h1, l1⟩ := r1.tup gd
    obtain ⟨b, us, e2, h2, l2⟩ := r2.tup gd
    refine .inr (.inr ⟨a, b, vs, us, e1, e2, h1, h2, by rw [← l1.len, ← l2.len]; exact g.1, fun z => ?_, fun _ z => ?_, fun _ _ => new_tup gd (l1.append l2) g.2 k⟩)
    · subst z
      have r2' : Rp Γ G R (.tup _) u := r2
      have z2 := l1.len
      rw [List.length_nil] at z2
      have z3 := List.eq_nil_of_length_eq_zero z2
      subst z3
      rw [← e2]
      exact k u G R H _ (Nx.refl gd) r2' (by simpa using g.2)
    · subst z
      have r1' : Rp Γ G R (.tup _) v := r1
      have z2 := l2.len
      rw [List.length_nil] at z2
      have z3 := List.eq_nil_of_length_eq_zero z2
      subst z3
      rw [← e1]
      exact k v G R H _ (Nx.refl gd) r1' (by simpa using g.2)
  · exact g.elim
def gCat (x y : D) (Q : List D → Prop) : Prop := match x, y with
  | .lst a, .lst b => a.length + b.length ≤ sizeLine ∧ Q (a ++ b)
  | _, _ => False
def gCmp (p : Int → Int → Bool) (x y : D) (Q : D → Prop) : Prop := match x, y with
  | .int i, .int j => Q (.bl (p i j))
  | _, _ => False
theorem u2_cmp {Γ : Kx} {p : Int → Int → Bool} : U2 Γ (rI0 fun i j => .bl (p i j)) (gCmp p) := fun G R H d e v u Qd Q gd r1 r2 g k => by
  unfold gCmp at g
  split at g
  · exact ⟨_, _, r1.int, r2.int, k _ G R H _ (Nx.refl gd) rp_bl g⟩
  · exact g.elim
def gNeg (x : D) (Q : D → Prop) : Prop := match x with
  | .int i => Q (.int (-i))
  | _ => False
theorem u1_neg {Γ : Kx} : U1 Γ (rU fun i => .int (-i)) gNeg := fun G R H d v Qd Q gd r1 g k => by
  unfold gNeg at g
  split at g
  · exact ⟨_, r1.int, k _ G R H _ (Nx.refl gd) rp_int g⟩
  · exact g.elim
mutual
def py : D → Option PyData
  | .non => some .none
  | .bl b => some (.bool b)
  | .int i => some (.int i)
  | .str s => some (.str s)
  | .tup ds => (pyL ds).map .tuple
  | .lst ds => (pyL ds).map .list
  | _ => none
def pyL : List D → Option (List PyData)
  | [] => some []
  | d :: ds => match py d, pyL ds with
    | some p, some ps => some (p :: ps)
    | _, _ => none
end
section
variable {Γ : Kx} {G : Hp} {R : Addr → Prop}
mutual
theorem Rp.dp : ∀ (d : D) (v : V) (p : PyData), Rp Γ G R d v → py d = some p → Dp Γ.K G v p
  | .non, v, p, h, e => by unfold Rp at h; unfold py at e; cases e; subst h; exact .non
  | .bl b, v, p, h, e => by unfold Rp at h; unfold py at e; cases e; subst h; exact .bl b
  | .int b, v, p, h, e => by unfold Rp at h; unfold py at e; cases e; subst h; exact .int b
  | .str b, v, p, h, e => by unfold Rp at h; unfold py at e; cases e; subst h; exact .str b
  | .tup ds, v, p, h, e => by
    unfold Rp at h
    unfold py at e
    obtain ⟨a, vs, rfl, s, l⟩ := h
    cases q : pyL ds with
    | none => rw [q] at e; cases e
    | some ps => rw [q] at e; cases e; exact .tup s (RpL.dp ds vs ps l q)
  | .lst ds, v, p, h, e => by
    unfold Rp at h
    unfold py at e
    obtain ⟨a, vs, rfl, s, l⟩ := h
    cases q : pyL ds with
    | none => rw [q] at e; cases e
    | some ps => rw [q] at e; cases e; exact .lst (SqL.of s) (RpL.dp ds vs ps l q)
  | .scr _, _, _, _, e => by unfold py at e; cases e
  | .rd, _, _, _, e => by unfold py at e; cases e
  | .ins _ _, _, _, _, e => by unfold py at e; cases e
  | .nms _, _, _, _, e => by unfold py at e; cases e
theorem RpL.dp : ∀ (ds : List D) (vs : List V) (ps : List PyData), RpL Γ G R ds vs → pyL ds = some ps → DpAll Γ.K G vs ps
  | [], vs, ps, h, e => by unfold RpL at h; unfold pyL at e; cases e; subst h; exact .nil
  | d :: ds, vs, ps, h, e => by
    unfold RpL at h
    unfold pyL at e
    obtain ⟨v, r, rfl, h1, h2⟩ := h
    cases q1 : py d with
    | none => rw [q1] at e; cases e
    | some p =>
      cases q2 : pyL ds with
      | none => rw [q1, q2] at e; cases e
      | some ps' => rw [q1, q2] at e; cases e; exact .cons (Rp.dp d v p h1 q1) (RpL.dp ds r ps' h2 q2)
end
end
def eqOk (d : D) : Bool := match py d with
  | some p => SeqAt.shaped p
  | none => false
def deq (d e : D) : Bool := match py d, py e with
  | some p, some q => PyData.eqv p q
  | _, _ => false
def gEq (x y : D) (Q : D → Prop) : Prop := eqOk x = true ∧ eqOk y = true ∧ Q (.bl (deq x y))
def gNe (x y : D) (Q : D → Prop) : Prop := eqOk x = true ∧ eqOk y = true ∧ Q (.bl (!deq x y))
theorem eqOk_py {d : D} (h : eqOk d = true) : ∃ p, py d = some p ∧ SeqAt.shaped p = true := by
  unfold eqOk at h
  split at h
  · exact ⟨_, by assumption, h⟩
  · cases h
theorem u2_eq {Γ : Kx} : U2 Γ (rEqD Γ.K) gEq := fun G R H d e v u Qd Q gd r1 r2 g k => by
  obtain ⟨g1, g2, g3⟩ := g
  obtain ⟨p, e1, s1⟩ := eqOk_py g1
  obtain ⟨q, e2, s2⟩ := eqOk_py g2
  refine ⟨p, q, Rp.dp d v p (r1.all gd) e1, Rp.dp e u q (r2.all gd) e2, s1, s2, ?_⟩
  unfold deq at g3
  rw [e1, e2] at g3
  exact k _ G R H _ (Nx.refl gd) rp_bl g3
theorem u2_ne {Γ : Kx} : U2 Γ (rNeD Γ.K) gNe := fun G R H d e v u Qd Q gd r1 r2 g k => by
  obtain ⟨g1, g2, g3⟩ := g
  obtain ⟨p, e1, s1⟩ := eqOk_py g1
  obtain ⟨q, e2, s2⟩ := eqOk_py g2
  refine ⟨p, q, Rp.dp d v p (r1.all gd) e1, Rp.dp e u q (r2.all gd) e2, s1, s2, ?_⟩
  unfold deq at g3
  rw [e1, e2] at g3
  exact k _ G R H _ (Nx.refl gd) rp_bl g3
end Dl
namespace Dl
open PySem PySem.Spec PyProof.Rows L2
def rInT (K : PySem.W.Frag) (neg : Bool) : R2 := fun x y H Q => ∃ d ds, Dp K H x d ∧ Dp K H y (.tuple ds) ∧ SeqAt.shaped d = true ∧ SeqAt.shaped (.tuple ds) = true ∧ Q (.bl (if neg then !(ds.any fun z => PyData.eqv z d) else ds.any fun z => PyData.eqv z d)) H
theorem op_inT {X : Cx} (hu : X.A.units + 65 < cLine) : OpR X (compareOp .In) (rInT X.K false) := by
  intro pins s σ H x y v u Q I rx ry h
  obtain ⟨d, ds, hd, he, sd, se, q⟩ := h
  obtain ⟨as, r1⟩ := Dp.reads I d x v hd rx
  obtain ⟨bs, r2⟩ := Dp.reads I (.tuple ds) y u he ry
  exact SeqAt.in_tuple_reads r2 r1 (SeqAt.canLay_of_shaped se)
    (SeqAt.canLay_of_shaped sd) (room_in_shaped sd hu)
    ⟨.bl _, H, I, rfl, q⟩
theorem op_notInT {X : Cx} (hu : X.A.units + 65 < cLine) : OpR X (compareOp .NotIn) (rInT X.K true) := by
  intro pins s σ H x y v u Q I rx ry h
  obtain ⟨d, ds, hd, he, sd, se, q⟩ := h
  obtain ⟨as, r1⟩ := Dp.reads I d x v hd rx
  obtain ⟨bs, r2⟩ := Dp.reads I (.tuple ds) y u he ry
  exact SeqAt.notIn_tuple_reads r2 r1 (SeqAt.canLay_of_shaped se)
    (SeqAt.canLay_of_shaped sd) (room_in_shaped sd hu)
    ⟨.bl _, H, I, rfl, q⟩
def rInStr (neg : Bool) : R2 := fun x y H Q => ∃ i j, x = .str i ∧ y = .str j ∧ Q (.bl (if neg then !(!(Builtin.Str.occurrences j i 0 j.length 1).isEmpty) else !(Builtin.Str.occurrences j i 0 j.length 1).isEmpty)) H
def rInAll (K : PySem.W.Frag) : R2 := fun x y H Q => rInStr false x y H Q ∨ (rInD K x y H Q ∨ rInT K false x y H Q)
def rNotInAll (K : PySem.W.Frag) : R2 := fun x y H Q => rInStr true x y H Q ∨ (rNotInD K x y H Q ∨ rInT K true x y H Q)
theorem op_inAll {X : Cx} (hu : X.A.units + 65 < cLine) : OpR X (compareOp .In) (rInAll X.K) := opR_or op_in_str (opR_or (op_inD hu) (op_inT hu))
theorem op_notInAll {X : Cx} (hu : X.A.units + 65 < cLine) : OpR X (compareOp .NotIn) (rNotInAll X.K) := opR_or op_notIn_str (opR_or (op_notInD hu) (op_notInT hu))
def strIn (s t : Str) : Bool := !(Builtin.Str.occurrences t s 0 t.length 1).isEmpty
def gIn (neg : Bool) (x y : D) (Q : D → Prop) : Prop := match x, y with
  | .str s, .str t => Q (.bl (if neg then !strIn s t else strIn s t))
  | x, .lst ds => eqOk x = true ∧ eqOk (.lst ds) = true ∧ Q (.bl (if neg then !(ds.any fun z => deq z x) else ds.any fun z => deq z x))
  | x, .tup ds => eqOk x = true ∧ eqOk (.tup ds) = true ∧ Q (.bl (if neg then !(ds.any fun z => deq z x) else ds.any fun z => deq z x))
  | _, _ => False
theorem pyL_any {x : D} {p : PyData} (e : py x = some p) : ∀ {ds : List D} {ps : List PyData}, pyL ds = some ps → (ps.any fun z => PyData.eqv z p) = ds.any fun z => deq z x
  | [], ps, h => by unfold pyL at h; cases h; rfl
  | d :: ds, ps, h => by
    unfold pyL at h
    cases q1 : py d with
    | none => rw [q1] at h; cases h
    | some q =>
      cases q2 : pyL ds with
      | none => rw [q1, q2] at h; cases h
      | some qs =>
        rw [q1, q2] at h
        cases h
        rw [List.any_cons, List.any_cons, pyL_any e q2]
        unfold deq
        rw [q1, e]
theorem u2_in {Γ : Kx} : U2 Γ (rInAll Γ.K) (gIn false) := fun G R H d e v u Qd Q gd r1 r2 g k => by
  unfold gIn at g
  split at g
  · exact .inl ⟨_, _, r1.str, r2.str, k _ G R H _ (Nx.refl gd) rp_bl g⟩
  · obtain ⟨g1, g2, g3⟩ := g
    obtain ⟨p, e1, s1⟩ := eqOk_py g1
    obtain ⟨q, e2, s2⟩ := eqOk_py g2
    have r2' := Rp.dp _ u q (r2.all gd) e2
    unfold py at e2
    cases z : pyL _ with
    | none => rw [z] at e2; cases e2
    | some ps =>
      rw [z] at e2
      cases e2
      refine .inr (.inl ⟨p, ps, Rp.dp _ v p (r1.all gd) e1, r2', s1, s2, ?_⟩)
      rw [pyL_any e1 z]
      exact k _ G R H _ (Nx.refl gd) rp_bl g3
  · obtain ⟨g1, g2, g3⟩ := g
    obtain ⟨p, e1, s1⟩ := eqOk_py g1
    obtain ⟨q, e2, s2⟩ := eqOk_py g2
    have r2' := Rp.dp _ u q (r2.all gd) e2
    unfold py at e2
    cases z : pyL _ with
    | none => rw [z] at e2; cases e2
    | some ps =>
      rw [z] at e2
      cases e2
      refine .inr (.inr ⟨p, ps, Rp.dp _ v p (r1.all gd) e1, r2', s1, s2, ?_⟩)
      rw [pyL_any e1 z]
      exact k _ G R H _ (Nx.refl gd) rp_bl g3
  · exact g.elim
theorem u2_notIn {Γ : Kx} : U2 Γ (rNotInAll Γ.K) (gIn true) := fun G R H d e v u Qd Q gd r1 r2 g k => by
  unfold gIn at g
  split at g
  · exact .inl ⟨_, _, r1.str, r2.str, k _ G R H _ (Nx.refl gd) rp_bl g⟩
  · obtain ⟨g1, g2, g3⟩ := g
    obtain ⟨p, e1, s1⟩ := eqOk_py g1
    obtain ⟨q, e2, s2⟩ := eqOk_py g2
    have r2' := Rp.dp _ u q (r2.all gd) e2
    unfold py at e2
    cases z : pyL _ with
    | none => rw [z] at e2; cases e2
    | some ps =>
      rw [z] at e2
      cases e2
      refine .inr (.inl ⟨p, ps, Rp.dp _ v p (r1.all gd) e1, r2', s1, s2, ?_⟩)
      rw [pyL_any e1 z]
      exact k _ G R H _ (Nx.refl gd) rp_bl g3
  · obtain ⟨g1, g2, g3⟩ := g
    obtain ⟨p, e1, s1⟩ := eqOk_py g1
    obtain ⟨q, e2, s2⟩ := eqOk_py g2
    have r2' := Rp.dp _ u q (r2.all gd) e2
    unfold py at e2
    cases z : pyL _ with
    | none => rw [z] at e2; cases e2
    | some ps =>
      rw [z] at e2
      cases e2
      refine .inr (.inr ⟨p, ps, Rp.dp _ v p (r1.all gd) e1, r2', s1, s2, ?_⟩)
      rw [pyL_any e1 z]
      exact k _ G R H _ (Nx.refl gd) rp_bl g3
  · exact g.elim
def isNon : D → Bool
  | .non => true
  | .raw u => decide (u = V.non)
  | _ => false
theorem isNon_of {Γ : Kx} {G : Hp} {R : Addr → Prop} {H : Hp} {d : D} {v : V} (r : RpQ Γ G R H d v) : decide (v = V.non) = isNon d := by
  cases d with
  | non => rw [r.non]; rfl
  | bl b => rw [r.bl]; rfl
  | int b => rw [r.int]; rfl
  | str b => rw [r.str]; rfl
  | lst ds => obtain ⟨a, vs, e, _⟩ := r; rw [e]; rfl
  | tup ds =>
    have r' : Rp Γ G R (.tup ds) v := r
    unfold Rp at r'
    obtain ⟨a, vs, e, _⟩ := r'; rw [e]; rfl
  | scr ds =>
    have r' : Rp Γ G R (.scr ds) v := r
    unfold Rp at r'
    obtain ⟨a, e, _⟩ := r'; rw [e]; rfl
  | rd =>
    have r' : Rp Γ G R .rd v := r
    unfold Rp at r'
    obtain ⟨a, e, _⟩ := r'; rw [e]; rfl
  | ins c fs =>
    have r' : Rp Γ G R (.ins c fs) v := r
    unfold Rp at r'
    obtain ⟨a, dx, vs, e, _⟩ := r'; rw [e]; rfl
  | nms ys =>
    have r' : Rp Γ G R (.nms ys) v := r
    unfold Rp at r'
    obtain ⟨a, its, e, _⟩ := r'; rw [e]; rfl
  | any =>
    have r' : Rp Γ G R .any v := r
    unfold Rp at r'
    exact decide_eq_false r'
  | dic kvs =>
    have r' : Rp Γ G R (.dic kvs) v := r
    unfold Rp at r'
    obtain ⟨a, us, e, _⟩ := r'; rw [e]; rfl
  | fr d =>
    have r' : Rp Γ G R (.fr d) v := r
    unfold Rp at r'
    exact decide_eq_false r'.1
  | raw u =>
    have r' : Rp Γ G R (.raw u) v := r
    unfold Rp at r'
    rw [r']; rfl
def gIsN (x y : D) (Q : D → Prop) : Prop := isNon y = true ∧ Q (.bl (isNon x))
def gNotN (x y : D) (Q : D → Prop) : Prop := isNon y = true ∧ Q (.bl (!isNon x))
theorem u2_isN {Γ : Kx} : U2 Γ rIsN gIsN := fun G R H d e v u Qd Q gd r1 r2 g k => by
  have z := isNon_of r2
  rw [g.1] at z
  refine ⟨of_decide_eq_true z, ?_⟩
  rw [isNon_of r1]
  exact k _ G R H _ (Nx.refl gd) rp_bl g.2
theorem u2_notN {Γ : Kx} : U2 Γ rNotN gNotN := fun G R H d e v u Qd Q gd r1 r2 g k => by
  have z := isNon_of r2
  rw [g.1] at z
  refine ⟨of_decide_eq_true z, ?_⟩
  rw [isNon_of r1]
  exact k _ G R H _ (Nx.refl gd) rp_bl g.2
section
variable {Γ : Kx} {G : Hp} {R : Addr → Prop}
theorem atI_map {α β : Type} {xs : List α} {ys : List β} {i : Int} {x : α} (hl : xs.length = ys.length) (h : atI xs i = some x) : ∃ j : Nat, xs[j]? = some x ∧ ∀ y, ys[j]? = some y → atI ys i = some y := by
  unfold atI at h
  cases q : ixN xs.length i with
  | none => rw [q] at h; cases h
  | some j =>
    rw [q] at h
    refine ⟨j, h, fun y hy => ?_⟩
    unfold atI
    rw [← hl, q]
    exact hy
theorem RpL.atI {ds : List D} {vs : List V} {i : Int} {d : D} (r : RpL Γ G R ds vs) (h : atI ds i = some d) : ∃ v, L2.atI vs i = some v ∧ Rp Γ G R d v := by
  obtain ⟨j, e, f⟩ := atI_map r.len h
  obtain ⟨v, e2, q⟩ := r.get e
  exact ⟨v, f v e2, q⟩
theorem RpL.take : ∀ {ds : List D} {vs : List V} (n : Nat), RpL Γ G R ds vs → RpL Γ G R (ds.take n) (vs.take n)
  | [], _, n, h => by unfold RpL at h; subst h; simp only [List.take_nil]; exact RpL.nil
  | d :: ds, vs, 0, _ => by simp only [List.take_zero]; exact RpL.nil
  | d :: ds, vs, n + 1, h => by
    unfold RpL at h
    obtain ⟨v, r, rfl, h1, h2⟩ := h
    exact RpL.cons h1 (RpL.take n h2)
theorem RpL.drop : ∀ {ds : List D} {vs : List V} (n : Nat), RpL Γ G R ds vs → RpL Γ G R (ds.drop n) (vs.drop n)
  | [], _, n, h => by unfold RpL at h; subst h; simp only [List.drop_nil]; exact RpL.nil
  | d :: ds, vs, 0, h => h
  | d :: ds, vs, n + 1, h => by
    unfold RpL at h
    obtain ⟨v, r, rfl, h1, h2⟩ := h
    exact RpL.drop n h2
end
def gIx (x y : D) (Q : D → Prop) : Prop := match x, y with
  | .lst ds, .int i => match atI ds i with
    | some d => Q d
    | none => False
  | .tup ds, .int i => match atI ds i with
    | some d => Q d
    | none => False
  | .str s, .int i => s.length ≤ sizeLine ∧ match atI s.cps.toList i with
    | some c => Q (.str ⟨#[c]⟩)
    | none => False
  | .scr ns, .int i => match atI ns i with
    | some n => Q (.int n)
    | none => False
  | .nms ys, .int i => match atI ys i with
    | some y => Q (.str y)
    | none => False
  | .rd, .int i => 0 ≤ i ∧ i < 3 ∧ ∀ n : Int, Q (.int n)
  | _, _ => False
theorem u2_ix {Γ : Kx} : U2 Γ (rIx Γ.K) gIx := fun G R H d e v u Qd Q gd r1 r2 g k => by
  unfold gIx at g
  split at g
  · obtain ⟨a, vs, e1, h1, l1⟩ := r1.lst gd
    split at g
    · rename_i q
      obtain ⟨w, e2, rw'⟩ := l1.atI q
      exact .inl ⟨a, vs, _, w, e1, r2.int, SqL.of h1, e2, k w G R H _ (Nx.refl gd) rw' g⟩
    · exact g.elim
  · obtain ⟨a, vs, e1, h1, l1⟩ := r1.tup gd
    split at g
    · rename_i q
      obtain ⟨w, e2, rw'⟩ := l1.atI q
      exact .inr (.inl ⟨a, vs, _, w, e1, r2.int, h1, e2, k w G R H _ (Nx.refl gd) rw' g⟩)
    · exact g.elim
  · obtain ⟨g1, g⟩ := g
    split at g
    · rename_i q
      exact .inr (.inr ⟨_, _, _, r1.str, r2.int, g1, q, k _ G R H _ (Nx.refl gd) rp_str g⟩)
    · exact g.elim
  · obtain ⟨a, e1, h1⟩ := r1.scr gd
    split at g
    · rename_i ns i _ n q
      obtain ⟨j, e2, f⟩ := atI_map (ys := ns.map V.int) (by simp) q
      exact .inl ⟨a, _, _, .int n, e1, r2.int, h1, f (.int n) (by rw [List.getElem?_map, e2]; rfl), k _ G R H _ (Nx.refl gd) rp_int g⟩
    · exact g.elim
  · split at g
    · rename_i ys i _ n q
      obtain ⟨j, e2, f⟩ := atI_map (ys := ys.map V.str) (by simp) q
      have r1' : Rp Γ G R (.nms ys) v := r1
      unfold Rp at r1'
      obtain ⟨a, its, e1, h1⟩ := r1'
      exact .inr (.inl ⟨a, _, _, .str n, e1, r2.int, .inl (.inr ⟨_, gd.sub _ _ h1⟩), f (.str n) (by rw [List.getElem?_map, e2]; rfl), k _ G R H _ (Nx.refl gd) rp_str g⟩)
    · exact g.elim
  · rename_i i
    have r1' : Rp Γ G R .rd v := r1
    unfold Rp at r1'
    obtain ⟨a, e1, ra⟩ := r1'
    obtain ⟨x0, x1, x2, e⟩ := gd.rd a ra
    obtain ⟨g1, g2, g3⟩ := g
    have hz : ∃ n : Int, atI [V.int x0, V.int x1, V.int x2] i = some (.int n) := by
      have : i = 0 ∨ i = 1 ∨ i = 2 := by omega
      rcases this with rfl | rfl | rfl
      · exact ⟨x0, rfl⟩
      · exact ⟨x1, rfl⟩
      · exact ⟨x2, rfl⟩
    obtain ⟨n, hn⟩ := hz
    exact .inl ⟨a, _, _, .int n, e1, r2.int, SqL.of e, hn, k _ G R H _ (Nx.refl gd) rp_int (g3 n)⟩
  · exact g.elim
def cutD {α : Type} (xs : List α) (lo hi : Option Int) : List α := (xs.drop (HT.sIx xs.length 0 lo)).take (HT.sIx xs.length xs.length hi - HT.sIx xs.length 0 lo)
theorem RpL.cut {Γ : Kx} {G : Hp} {R : Addr → Prop} {ds : List D} {vs : List V} (lo hi : Option Int) (r : RpL Γ G R ds vs) : RpL Γ G R (cutD ds lo hi) (cutV vs lo hi) := by
  unfold cutD cutV
  rw [r.len]
  exact (r.drop _).take _
def rSlAll (K : PySem.W.Frag) : V → Option Int → Option Int → Hp → VK → Prop := fun x lo hi H Q => rSlL K x lo hi H Q ∨ (rSlA K x lo hi H Q ∨ rSlS x lo hi H Q)
theorem sl_all {X : Cx} : SlR X (rSlAll X.K) := sl_list.or (sl_tupA.or sl_str)
def gSl (x : D) (lo hi : Option Int) (Q : D → Prop) : Prop := match x with
  | .lst ds => Q (.lst (cutD ds lo hi))
  | .tup ds => Q (.tup (cutD ds lo hi))
  | .str s => s.length ≤ sizeLine ∧ Q (.str (cutS s lo hi))
  | _ => False
theorem cut_whole {α : Type} {xs : List α} {lo hi : Option Int} (h : HT.sIx xs.length 0 lo = 0 ∧ HT.sIx xs.length xs.length hi = xs.length) : cutD xs lo hi = xs := by
  unfold cutD
  rw [h.1, h.2]
  simp
def gSlN (x : D) (lo hi : Option Int) (Q : List D → Prop) : Prop := match x with
  | .lst ds => Q (cutD ds lo hi)
  | _ => False
abbrev DO := XQ → En → (Option Int → Prop) → Prop
def JO (Γ : Kx) (W : WX) (to : TO) (fo : DO) : Prop := ∀ (H0 G : Hp) (R : Addr → Prop) (H : Hp) (σ : St) (ρ : En) (xq : XQ) (Qd : Option Int → Prop) (Q : Option Int → Hp → Prop), Wd Γ H0 G R H σ ρ → Lk Γ W xq σ G R H → fo xq ρ Qd →
  (∀ o G' R' H', Nx G R H G' R' H' → Qd o → Q o H') → to σ H Q
def oNo : DO := fun _ _ Q => Q none
def oSome (fe : DE) : DO := fun xq ρ Q => fe xq ρ fun d => match d with
  | .int i => Q (some i)
  | _ => False
section
variable {Γ : Kx} {W : WX} {te : TE} {fe : DE} {tl th : TO} {fl fh : DO}
theorem jo_no : JO Γ W tNoPart oNo := fun H0 G R H σ ρ xq Qd Q w x f k => k none G R H (Nx.refl w.gd) f
theorem jo_some (a : JQ Γ W te fe) : JO Γ W (tPart te) (oSome fe) := fun H0 G R H σ ρ xq Qd Q w x f k =>
  a H0 G R H σ ρ xq _ _ w x f fun v G' R' H' d n r q => by
    cases d <;> first | exact q.elim | skip
    exact ⟨_, r.int, k _ G' R' H' n q⟩
theorem je_sl (a : JQ Γ W te fe) (b : JO Γ W tl fl) (c : JO Γ W th fh) : JE Γ W (tSl (rSlAll Γ.K) te tl th) (fun xq ρ Q => fe xq ρ fun x => fl xq ρ fun lo => fh xq ρ fun hi => gSl x lo hi Q) := fun H0 G R H σ ρ xq Qd Q w x f k =>
  a H0 G R H σ ρ xq _ _ w x f fun v G1 R1 H1 d n1 r1 q1 => b H0 G1 R1 H1 σ ρ xq _ _ (w.nx n1) (x.nx n1) q1 fun lo G2 R2 H2 n2 q2 => c H0 G2 R2 H2 σ ρ xq _ _ ((w.nx n1).nx n2) ((x.nx n1).nx n2) q2 fun hi G3 R3 H3 n3 g => by
    have n := (n1.trans n2).trans n3
    have r3 := (r1.nx n2).nx n3
    have k' : ∀ w G' R' H' c, Nx G3 R3 H3 G' R' H' → Rp Γ G' R' c w → Qd c → Q w H' := fun w' G' R' H' c m => k w' G' R' H' c (n.trans m)
    unfold gSl at g
    split at g
    · obtain ⟨a, vs, e1, h1, l1⟩ := r3.lst n3.gd
      exact .inl ⟨a, vs, e1, SqL.of h1, new_lst n3.gd (l1.cut lo hi) g k'⟩
    · obtain ⟨a, vs, e1, h1, l1⟩ := r3.tup n3.gd
      refine .inr (.inl ⟨a, vs, e1, h1, fun z => ?_, fun _ => new_tup n3.gd (l1.cut lo hi) g k'⟩)
      rw [← l1.len] at z
      rw [cut_whole z] at g
      rw [← e1]
      exact k' v G3 R3 H3 _ (Nx.refl n3.gd) r3 g
    · exact .inr (.inr ⟨_, r3.str, g.1, k' _ G3 R3 H3 _ (Nx.refl n3.gd) rp_str g.2⟩)
    · exact g.elim
end
def gLen (x : D) (Q : D → Prop) : Prop := match x with
  | .lst ds => Q (.int ds.length)
  | .tup ds => Q (.int ds.length)
  | .scr ns => Q (.int ns.length)
  | .str s => s.length ≤ sizeLine ∧ Q (.int s.length)
  | .nms ys => Q (.int ys.length)
  | _ => False
theorem u1_len {Γ : Kx} : U1 Γ (fun v H Q => ∃ x n, [v] = [x] ∧ LenV Γ.K x H n ∧ Q (.int n) H) gLen := fun G R H d v Qd Q gd r1 g k => by
  unfold gLen at g
  split at g
  · obtain ⟨a, vs, e1, h1, l1⟩ := r1.lst gd
    exact ⟨v, _, rfl, by rw [e1]; exact .inl ⟨vs, SqL.of h1, l1.len⟩, k _ G R H _ (Nx.refl gd) rp_int g⟩
  · obtain ⟨a, vs, e1, h1, l1⟩ := r1.tup gd
    exact ⟨v, _, rfl, by rw [e1]; exact .inr ⟨vs, h1, l1.len⟩, k _ G R H _ (Nx.refl gd) rp_int g⟩
  · obtain ⟨a, e1, h1⟩ := r1.scr gd
    exact ⟨v, _, rfl, by rw [e1]; exact .inl ⟨_, h1, by rw [List.length_map]⟩, k _ G R H _ (Nx.refl gd) rp_int g⟩
  · exact ⟨v, _, rfl, by rw [r1.str]; exact ⟨g.1, rfl⟩, k _ G R H _ (Nx.refl gd) rp_int g.2⟩
  · rename_i ys
    have r1' : Rp Γ G R (.nms ys) v := r1
    unfold Rp at r1'
    obtain ⟨a, its, e1, h1⟩ := r1'
    exact ⟨v, _, rfl, by rw [e1]; exact .inr ⟨ys.map V.str, .inl (.inr ⟨_, gd.sub _ _ h1⟩), (List.length_map ..).symm⟩, k _ G R H _ (Nx.refl gd) rp_int g⟩
  · exact g.elim
def gInt (x : D) (Q : D → Prop) : Prop := match x with
  | .int i => Q (.int i)
  | .bl b => Q (.int (if b then 1 else 0))
  | _ => False
theorem u1_int {Γ : Kx} : U1 Γ (fun v H Q => (∃ i, [v] = [V.int i] ∧ Q (.int i) H) ∨ ∃ k, [v] = [V.bl k] ∧ Q (.int (if k then 1 else 0)) H) gInt := fun G R H d v Qd Q gd r1 g k => by
  unfold gInt at g
  split at g
  · exact .inl ⟨_, by rw [r1.int], k _ G R H _ (Nx.refl gd) rp_int g⟩
  · exact .inr ⟨_, by rw [r1.bl], k _ G R H _ (Nx.refl gd) rp_int g⟩
  · exact g.elim
def gStr (x : D) (Q : D → Prop) : Prop := match x with
  | .int i => i.natAbs.log2 < 1920 ∧ Q (.str (toString i))
  | _ => False
def gMin (x y : D) (Q : D → Prop) : Prop := match x, y with
  | .int i, .int j => Q (.int (if j < i then j else i))
  | _, _ => False
def gMax (x y : D) (Q : D → Prop) : Prop := match x, y with
  | .int i, .int j => Q (.int (if j > i then j else i))
  | _, _ => False
def gListN (x : D) (Q : List D → Prop) : Prop := match x with
  | .lst ds => Q ds
  | .tup ds => Q ds
  | _ => False
theorem n1_list {Γ : Kx} : N1 Γ (fun v H Q => ∃ p ys, [v] = [V.ref p] ∧ (SqL Γ.K H p ys ∨ SqT Γ.K H p ys) ∧ ∀ l, H l = none → Q (.ref l) (upd H l (.lst ys))) gListN := fun G R H d v Qd Q gd r1 g k => by
  unfold gListN at g
  split at g
  · obtain ⟨a, vs, e1, h1, l1⟩ := r1.lst gd
    exact ⟨a, vs, by rw [e1], .inl (SqL.of h1), new_open gd l1 g k⟩
  · obtain ⟨a, vs, e1, h1, l1⟩ := r1.tup gd
    exact ⟨a, vs, by rw [e1], .inr h1, new_open gd l1 g k⟩
  · exact g.elim
def gTuple (x : D) (Q : D → Prop) : Prop := match x with
  | .lst ds => Q (.tup ds)
  | .tup ds => Q (.tup ds)
  | _ => False
theorem u1_tuple {Γ : Kx} : U1 Γ (fun v H Q => ∃ p ys, [v] = [V.ref p] ∧ ((SqL Γ.K H p ys ∧ ∀ l, H l = none → Q (.ref l) (upd H l (.tup ys))) ∨ (SqT Γ.K H p ys ∧ Q (.ref p) H))) gTuple := fun G R H d v Qd Q gd r1 g k => by
  unfold gTuple at g
  split at g
  · obtain ⟨a, vs, e1, h1, l1⟩ := r1.lst gd
    exact ⟨a, vs, by rw [e1], .inl ⟨SqL.of h1, new_tup gd l1 g k⟩⟩
  · obtain ⟨a, vs, e1, h1, l1⟩ := r1.tup gd
    have r1' : Rp Γ G R (.tup _) v := r1
    exact ⟨a, vs, by rw [e1], .inr ⟨h1, by rw [← e1]; exact k v G R H _ (Nx.refl gd) r1' g⟩⟩
  · exact g.elim
def bls : List D → Option (List Bool)
  | [] => some []
  | .bl b :: ds => (bls ds).map (b :: ·)
  | _ :: _ => none
theorem bls_of {Γ : Kx} {G : Hp} {R : Addr → Prop} : ∀ {ds : List D} {vs : List V} {bs : List Bool}, RpL Γ G R ds vs → bls ds = some bs → vs = bs.map V.bl
  | [], vs, bs, h, e => by unfold RpL at h; unfold bls at e; cases e; subst h; rfl
  | .bl b :: ds, vs, bs, h, e => by
    unfold RpL at h
    obtain ⟨v, r, rfl, h1, h2⟩ := h
    unfold bls at e
    cases q : bls ds with
    | none => rw [q] at e; cases e
    | some bs' =>
      rw [q] at e
      cases e
      unfold Rp at h1
      rw [h1, bls_of h2 q]
      rfl
  | .non :: _, _, _, _, e => by unfold bls at e; cases e
  | .int _ :: _, _, _, _, e => by unfold bls at e; cases e
  | .str _ :: _, _, _, _, e => by unfold bls at e; cases e
  | .tup _ :: _, _, _, _, e => by unfold bls at e; cases e
  | .lst _ :: _, _, _, _, e => by unfold bls at e; cases e
  | .scr _ :: _, _, _, _, e => by unfold bls at e; cases e
  | .rd :: _, _, _, _, e => by unfold bls at e; cases e
  | .ins _ _ :: _, _, _, _, e => by unfold bls at e; cases e
  | .nms _ :: _, _, _, _, e => by unfold bls at e; cases e
def gAll (x : D) (Q : D → Prop) : Prop := match x with
  | .lst ds => match bls ds with
    | some bs => Q (.bl (bs.all id))
    | none => False
  | _ => False
theorem u1_all {Γ : Kx} : U1 Γ (fun v H Q => rAll Γ.K [v] H Q) gAll := fun G R H d v Qd Q gd r1 g k => by
  unfold gAll at g
  split at g
  · obtain ⟨a, vs, e1, h1, l1⟩ := r1.lst gd
    split at g
    · rename_i bs e
      exact ⟨a, bs, by rw [e1], by rw [← bls_of l1 e]; exact SqL.of h1, k _ G R H _ (Nx.refl gd) rp_bl g⟩
    · exact g.elim
  · exact g.elim
end Dl
namespace Dl
open PySem PySem.Spec PyProof.Rows L2
def dNil : DA := fun _ _ Q => Q []
def dCons (fa : DE) (fr : DA) : DA := fun xq ρ Q => fa xq ρ fun x => fr xq ρ fun xs => Q (x :: xs)
def dTup (fa : DA) : DE := fun xq ρ Q => fa xq ρ fun ds => Q (.tup ds)
section
variable {Γ : Kx} {W : WX} {te : TE} {fe : DE} {ta : TA} {fa : DA}
inductive Cnt : TA → Nat → Prop
  | nil : Cnt tNil 0
  | cons {te : TE} {ta : TA} {n : Nat} : Cnt ta n → Cnt (tCons te ta) (n + 1)
def JAn (Γ : Kx) (W : WX) (ta : TA) (fa : DA) (n : Nat) : Prop := ∀ (H0 G : Hp) (R : Addr → Prop) (H : Hp) (σ : St) (ρ : En) (xq : XQ) (Qd : List D → Prop) (Q : List V → Hp → Prop), Wd Γ H0 G R H σ ρ → Lk Γ W xq σ G R H → fa xq ρ Qd →
  (∀ vs G' R' H' ds, Nx G R H G' R' H' → RpL Γ G' R' ds vs → vs.length = n → Qd ds → Q vs H') → ta σ H Q
theorem jan_nil : JAn Γ W tNil dNil 0 := fun H0 G R H σ ρ xq Qd Q w x f k => k [] G R H [] (Nx.refl w.gd) RpL.nil rfl f
theorem jan_cons {n : Nat} (a : JE Γ W te fe) (b : JAn Γ W ta fa n) : JAn Γ W (tCons te ta) (dCons fe fa) (n + 1) := fun H0 G R H σ ρ xq Qd Q w x f k =>
  a H0 G R H σ ρ xq _ _ w x f fun v1 G1 R1 H1 d1 n1 r1 q1 => b H0 G1 R1 H1 σ ρ xq _ _ (w.nx n1) (x.nx n1) q1 fun vs G2 R2 H2 ds n2 r2 l q2 =>
    k (v1 :: vs) G2 R2 H2 (d1 :: ds) (n1.trans n2) (RpL.cons (Rp.mono n2.gg n2.rr d1 v1 r1) r2) (by rw [List.length_cons, l]) q2
theorem JAn.a {n : Nat} (h : JAn Γ W ta fa n) : JA Γ W ta fa := fun H0 G R H σ ρ xq Qd Q w x f k => h H0 G R H σ ρ xq Qd Q w x f fun vs G' R' H' ds n r _ q => k vs G' R' H' ds n r q
theorem je_tup {n : Nat} (a : JAn Γ W ta fa n) (hn : n ≤ sizeLine) : JE Γ W (tTup ta) (dTup fa) := fun H0 G R H σ ρ xq Qd Q w x f k =>
  a H0 G R H σ ρ xq _ _ w x f fun vs G1 R1 H1 ds n1 r1 l q => ⟨by rw [l]; exact hn, new_tup n1.gd r1 q fun w' G' R' H' c n2 r2 q2 => k w' G' R' H' c (n1.trans n2) r2 q2⟩
theorem jn_lst {n : Nat} (a : JAn Γ W ta fa n) (hn : n ≤ sizeLine) : JN Γ W (tLst ta) fa := fun H0 G R H σ ρ xq Qd Q w x f k =>
  a H0 G R H σ ρ xq _ _ w x f fun vs G1 R1 H1 ds n1 r1 l q => ⟨by rw [l]; exact hn, new_open n1.gd r1 q fun l us G' R' H' es n2 e g z h r2 q2 => k l us G' R' H' es (n1.trans n2) e g z (by
      cases y : H l with
      | none => rfl
      | some o =>
        obtain ⟨o', e'⟩ := n1.ex l o y
        rw [h] at e'; cases e') r2 q2⟩
end
abbrev DF := List D → (D → Prop) → XQ → Prop
def spD (Γ : Kx) (S : DF) : Sp := fun vs H Q E => ∃ (G : Hp) (R : Addr → Prop) (ds : List D) (Qd : D → Prop) (Xq : XQ), Gd G R H ∧ RpL Γ G R ds vs ∧ S ds Qd Xq ∧
  (∀ v G' R' H' d, Nx G R H G' R' H' → Rp Γ G' R' d v → Qd d → Q v H') ∧ ∀ c fs G' R' H' cls dx, Nx G R H G' R' H' → Xq c fs → ExRep Γ G' R' H' c fs cls dx → E cls dx H'
def dCall (S : DF) (fa : DA) : DE := fun xq ρ Q => fa xq ρ fun ds => S ds Q xq
section
variable {Γ : Kx} {W : WX} {ta : TA} {fa : DA}
theorem je_call {S : DF} (a : JA Γ W ta fa) : JE Γ W (tCallS (spD Γ S) (WE W) ta) (dCall S fa) := fun H0 G R H σ ρ xq Qd Q w x f k =>
  a H0 G R H σ ρ xq _ _ w x f fun vs G1 R1 H1 ds n1 r1 q1 => ⟨G1, R1, ds, Qd, xq, n1.gd, r1, q1, fun v G' R' H' d n r q => k v G' R' H' d (n1.trans n) r q,
    fun c fs G' R' H' cls dx n => x.nx n1 c fs G' R' H' cls dx n⟩
def immF : List (Str × D) → Bool
  | [] => true
  | (_, d) :: fs => immB d && immF fs
theorem RpF.imm {G G' : Hp} {R R' : Addr → Prop} (g : Tups G G') (r : ∀ a, R a → R' a) : ∀ (fs : List (Str × D)) (vs : List (Str × V)), immF fs = true → RpF Γ G R fs vs → RpF Γ G' R' fs vs
  | [], _, _, h => by unfold RpF at *; exact h
  | (x, d) :: fs, vs, m, h => by
    unfold RpF at *
    unfold immF at m
    rw [Bool.and_eq_true] at m
    obtain ⟨v, q, e, h1, h2⟩ := h
    exact ⟨v, q, e, Rp.imm g r d v m.1 h1, RpF.imm g r fs q m.2 h2⟩
def dCallQ (S : DF) (fa : DA) : DE := fun xq ρ Q => fa xq ρ fun ds => S ds (fun d => immB d = true ∧ Q d) fun c fs => immF fs = true ∧ xq c fs
end
def dB (fe : DE) : DT := fun xq ρ Q => fe xq ρ fun d => match d with
  | .bl b => Q b
  | _ => False
def gTru (d : D) (Q : Bool → Prop) : Prop := match d with
  | .non => Q false
  | .bl b => Q b
  | .int i => Q (i != 0)
  | .str s => s.length ≤ sizeLine ∧ Q ((s.length : Int) != 0)
  | .lst ds => Q (!ds.isEmpty)
  | .tup ds => Q (!ds.isEmpty)
  | _ => False
def dTru (fe : DE) : DT := fun xq ρ Q => fe xq ρ fun d => gTru d Q
def dNot (ft : DT) : DT := fun xq ρ Q => ft xq ρ fun b => Q (!b)
def dAnd (fa fb : DT) : DT := fun xq ρ Q => fa xq ρ fun b => if b = true then fb xq ρ Q else Q false
def dOr (fa fb : DT) : DT := fun xq ρ Q => fa xq ρ fun b => if b = true then Q true else fb xq ρ Q
def dAndV (fa : DT) (fb : DE) : DE := fun xq ρ Q => fa xq ρ fun b => if b = true then fb xq ρ Q else Q (.bl false)
def dOrV (fa : DT) (fb : DE) : DE := fun xq ρ Q => fa xq ρ fun b => if b = true then Q (.bl true) else fb xq ρ Q
def dNotV (fa : DT) : DE := fun xq ρ Q => fa xq ρ fun b => Q (.bl (!b))
def dIf (ft : DT) (fa fb : DE) : DE := fun xq ρ Q => ft xq ρ fun b => if b = true then fa xq ρ Q else fb xq ρ Q
section
variable {Γ : Kx} {W : WX} {ta tb : TE} {fa fb : DE} {t1 t2 : TT} {f1 f2 : DT}
theorem jt_b (a : JQ Γ W ta fa) : JT Γ W (tB ta) (dB fa) := fun H0 G R H σ ρ xq Qd Q w x f k =>
  a H0 G R H σ ρ xq _ _ w x f fun v G' R' H' d n r q => by
    cases d <;> first | exact q.elim | skip
    exact ⟨_, r.bl, k _ G' R' H' n q⟩
theorem tru_of {G : Hp} {R : Addr → Prop} {H : Hp} {d : D} {v : V} {Qd : Bool → Prop} (g : Gd G R H) (r : RpQ Γ G R H d v) (q : gTru d Qd) : ∃ k, TruV Γ.K v H k ∧ Qd k := by
  unfold gTru at q
  split at q
  · exact ⟨false, by rw [r.non]; exact rfl, q⟩
  · exact ⟨_, by rw [r.bl]; exact rfl, q⟩
  · exact ⟨_, by rw [r.int]; exact rfl, q⟩
  · exact ⟨_, by rw [r.str]; exact ⟨q.1, rfl⟩, q.2⟩
  · obtain ⟨a, vs, e1, h1, l1⟩ := r.lst g
    refine ⟨_, by rw [e1]; exact .inl ⟨vs, SqL.of h1, rfl⟩, ?_⟩
    have z := l1.len
    rename_i ds
    have : vs.isEmpty = ds.isEmpty := by cases ds <;> cases vs <;> first | rfl | (simp at z)
    rw [this]; exact q
  · obtain ⟨a, vs, e1, h1, l1⟩ := r.tup g
    refine ⟨_, by rw [e1]; exact .inr (.inl ⟨vs, h1, rfl⟩), ?_⟩
    have z := l1.len
    rename_i ds
    have : vs.isEmpty = ds.isEmpty := by cases ds <;> cases vs <;> first | rfl | (simp at z)
    rw [this]; exact q
  · exact q.elim
theorem jt_tru (a : JQ Γ W ta fa) : JT Γ W (fun σ H Q => ta σ H fun x H' => ∃ k, TruV Γ.K x H' k ∧ Q k H') (dTru fa) := fun H0 G R H σ ρ xq Qd Q w x f k =>
  a H0 G R H σ ρ xq _ _ w x f fun v G' R' H' d n r q => by
    obtain ⟨b, h1, h2⟩ := tru_of n.gd r q
    exact ⟨b, h1, k b G' R' H' n h2⟩
theorem jt_not (a : JT Γ W t1 f1) : JT Γ W (tNot t1) (dNot f1) := fun H0 G R H σ ρ xq Qd Q w x f k =>
  a H0 G R H σ ρ xq _ _ w x f fun b G' R' H' n q => k (!b) G' R' H' n q
theorem jt_and (a : JT Γ W t1 f1) (b : JT Γ W t2 f2) : JT Γ W (tAnd t1 t2) (dAnd f1 f2) := fun H0 G R H σ ρ xq Qd Q w x f k =>
  a H0 G R H σ ρ xq _ _ w x f fun c G' R' H' n q => by
    cases c with
    | true => exact b H0 G' R' H' σ ρ xq _ _ (w.nx n) (x.nx n) q fun c' G2 R2 H2 n2 q2 => k c' G2 R2 H2 (n.trans n2) q2
    | false => exact k false G' R' H' n q
theorem jt_or (a : JT Γ W t1 f1) (b : JT Γ W t2 f2) : JT Γ W (tOr t1 t2) (dOr f1 f2) := fun H0 G R H σ ρ xq Qd Q w x f k =>
  a H0 G R H σ ρ xq _ _ w x f fun c G' R' H' n q => by
    cases c with
    | true => exact k true G' R' H' n q
    | false => exact b H0 G' R' H' σ ρ xq _ _ (w.nx n) (x.nx n) q fun c' G2 R2 H2 n2 q2 => k c' G2 R2 H2 (n.trans n2) q2
theorem je_andV (a : JQ Γ W ta fa) (b : JE Γ W tb fb) : JE Γ W (tAndV ta tb) (dAndV (dB fa) fb) := fun H0 G R H σ ρ xq Qd Q w x f k =>
  a H0 G R H σ ρ xq _ _ w x f fun v G' R' H' d n r q => by
    cases d <;> first | exact q.elim | skip
    rename_i c
    refine ⟨c, r.bl, ?_⟩
    cases c with
    | true => exact b H0 G' R' H' σ ρ xq _ _ (w.nx n) (x.nx n) q fun v2 G2 R2 H2 d2 n2 r2 q2 => k v2 G2 R2 H2 d2 (n.trans n2) r2 q2
    | false => exact k _ G' R' H' _ n rp_bl q
end
def dChain (g g' : D → D → (D → Prop) → Prop) (fa fb fc : DE) : DE := fun xq ρ Q => fa xq ρ fun x => fb xq ρ fun y => g x y fun z => match z with
  | .bl true => fc xq ρ fun u => g' y u Q
  | .bl false => Q (.bl false)
  | _ => False
def ItOk (Γ : Kx) (G : Hp) (R : Addr → Prop) (J : It) (ds : List D) : Prop := ∀ (i : Nat) (G' : Hp) (R' : Addr → Prop) (H' : Hp), Same G G' → (∀ a, R a → R' a) → Gd G' R' H' →
  (i < ds.length → J.go i H') ∧ (∀ d, ds[i]? = some d → ∀ x H'', J.yld i H' x H'' → ∃ G'', Nx G' R' H' G'' R' H'' ∧ Rp Γ G'' R' d x) ∧ (ds.length ≤ i → J.stop i H')
def JI (Γ : Kx) (W : WX) (wi : TI) (fi : DA) : Prop := ∀ (H0 G : Hp) (R : Addr → Prop) (H : Hp) (σ : St) (ρ : En) (xq : XQ) (Qd : List D → Prop) (Q : It → Hp → Prop), Wd Γ H0 G R H σ ρ → Lk Γ W xq σ G R H → fi xq ρ Qd →
  (∀ J G' R' H' ds, Nx G R H G' R' H' → ItOk Γ G' R' J ds → Qd ds → Q J H') → wi σ H Q
end Dl
namespace Dl
open PySem PySem.Spec PyProof.Rows L2
section
variable {X : Cx} {tg : Expr}
theorem it_list {pins : List (Addr × Obj)} {σ : St} {H : Hp} {s : Shared} {R : It → Hp → Prop} {a : Addr} {xs : List V} (I : Inv X pins σ H s) (hq : SqL X.K H a xs) (q : R (Itl X.K a) H) :
    wpAny (model X.prog X.w) X.A (pyIter (.ref a)) (PIE X pins σ tg R) X.xe s := by
  obtain ⟨its, rv, p, hz⟩ := I.list hq
  refine wpAny_pyIter_list p.isList ?_
  have J := I.kept (t' := s.toks) (fun b o e => Heap.get?_push_of_some { cls := .type "list_iterator", data := .fields #[.ref a, .int 0 0] } e)
  exact ⟨_, [s.heap.objs.size], _, _, H, rfl, J, turn_list a _,
    ⟨_, Heap.get?_push_size _ rfl, rfl, rfl⟩,
    fun b hb => (List.mem_singleton.mp hb) ▸ I.fpOk (Nat.le_refl _) (I.hok.fresh (Nat.le_refl _)), q⟩
theorem it_tup {pins : List (Addr × Obj)} {σ : St} {H : Hp} {s : Shared} {R : It → Hp → Prop} {a : Addr} {xs : List V} (I : Inv X pins σ H s) (hq : SqT X.K H a xs) (q : R (Itt X.K a) H) :
    wpAny (model X.prog X.w) X.A (pyIter (.ref a)) (PIE X pins σ tg R) X.xe s := by
  obtain ⟨its, rv, p, hz⟩ := I.tuple hq
  refine wpAny_pyIter_tuple (show s.heap.IsTuple a its.toArray from p) ?_
  have J := I.kept (t' := s.toks) (fun b o e => Heap.get?_push_of_some { cls := .type "tuple_iterator", data := .fields #[.ref a, .int 0 0] } e)
  exact ⟨_, [s.heap.objs.size], _, _, H, rfl, J, turn_tuple a _,
    ⟨_, Heap.get?_push_size _ rfl, rfl, rfl⟩,
    fun b hb => (List.mem_singleton.mp hb) ▸ I.fpOk (Nat.le_refl _) (I.hok.fresh (Nat.le_refl _)), q⟩
def iSeq (K : PySem.W.Frag) (te : TE) : TI := fun σ H R => te σ H fun x H1 =>
  (∃ a, x = .ref a ∧ (∃ xs, SqL K H1 a xs) ∧ R (Itl K a) H1) ∨ ∃ a, x = .ref a ∧ (∃ xs, SqT K H1 a xs) ∧ R (Itt K a) H1
theorem pi_seq {l : Expr} {tl : TE} (hl : PE X l tl) : PI X tg l (iSeq X.K tl) := by
  refine ⟨fun pins s σ H R I h => ?_⟩
  refine thn (hl.run pins s σ H _ I h) fun v s1 ⟨x, H1, I1, r1, q1⟩ => ?_
  rcases q1 with ⟨a, e, ⟨xs, hq⟩, q⟩ | ⟨a, e, ⟨xs, hq⟩, q⟩
  · subst e; cases r1
    exact it_list I1 hq q
  · subst e; cases r1
    exact it_tup I1 hq q
end
def gItems (d : D) (Q : List D → Prop) : Prop := match d with
  | .lst ds => Q ds
  | .tup ds => Q ds
  | .scr ns => Q (ns.map D.int)
  | _ => False
def iIt (fe : DE) : DA := fun xq ρ Q => fe xq ρ fun d => gItems d Q
def rng (lo : Int) (n : Nat) : List D := (List.range n).map fun (i : Nat) => D.int (lo + (i : Int))
def iR1 (fe : DE) : DA := fun xq ρ Q => fe xq ρ fun d => match d with
  | .int j => -(2 ^ 62) ≤ j ∧ j < 2 ^ 62 ∧ Q (rng 0 j.toNat)
  | _ => False
def iR2 (fe fe' : DE) : DA := fun xq ρ Q => fe xq ρ fun d => fe' xq ρ fun d' => match d, d' with
  | .int i, .int j => (-(2 ^ 62) ≤ i ∧ i < 2 ^ 62 ∧ -(2 ^ 62) ≤ j ∧ j < 2 ^ 62) ∧ Q (rng i (j - i).toNat)
  | _, _ => False
def iStrD (fe : DE) : DA := fun xq ρ Q => fe xq ρ fun d => match d with
  | .str s => Q (s.cps.toList.map fun c => D.str ⟨#[c]⟩)
  | _ => False
section
variable {Γ : Kx} {W : WX} {te te' : TE} {fe fe' : DE} {G : Hp} {R : Addr → Prop}
theorem it_l {a : Addr} {vs : List V} {ds : List D} (h : ∀ (G' : Hp) (R' : Addr → Prop) (H' : Hp), Same G G' → (∀ a, R a → R' a) → Gd G' R' H' → SqL Γ.K H' a vs) (r : RpL Γ G R ds vs) : ItOk Γ G R (Itl Γ.K a) ds := fun i G' R' H' g rr gd => by
  have s := h G' R' H' g rr gd
  refine ⟨fun hi => ?_, fun d e x H'' y => ?_, fun hi => ⟨vs, s, by rw [← r.len]; exact hi⟩⟩
  · have hi' : i < vs.length := by rw [← r.len]; exact hi
    exact ⟨vs, vs[i], s, List.getElem?_eq_getElem hi'⟩
  · obtain ⟨eH, y⟩ := y
    subst eH
    obtain ⟨v, e1, q⟩ := r.get e
    have e2 := y vs s
    rw [e1] at e2
    cases e2
    exact ⟨G', Nx.refl gd, Rp.mono g rr d _ q⟩
theorem it_t {a : Addr} {vs : List V} {ds : List D} (h : SqT Γ.K G a vs) (r : RpL Γ G R ds vs) : ItOk Γ G R (Itt Γ.K a) ds := fun i G' R' H' g rr gd => by
  have s := Same.seqT gd.sub (Same.seqT g h)
  refine ⟨fun hi => ?_, fun d e x H'' y => ?_, fun hi => ⟨vs, s, by rw [← r.len]; exact hi⟩⟩
  · have hi' : i < vs.length := by rw [← r.len]; exact hi
    exact ⟨vs, vs[i], s, List.getElem?_eq_getElem hi'⟩
  · obtain ⟨eH, y⟩ := y
    subst eH
    obtain ⟨v, e1, q⟩ := r.get e
    have e2 := y vs s
    rw [e1] at e2
    cases e2
    exact ⟨G', Nx.refl gd, Rp.mono g rr d _ q⟩
theorem rng_get {lo : Int} {n i : Nat} {d : D} (h : (rng lo n)[i]? = some d) : i < n ∧ d = .int (lo + i) := by
  have hi : i < n := by
    have := (List.getElem?_eq_some_iff.mp h).1
    unfold rng at this
    simpa using this
  unfold rng at h
  rw [List.getElem?_map, List.getElem?_range hi] at h
  exact ⟨hi, (Option.some.inj h).symm⟩
theorem rng_len {lo : Int} {n : Nat} : (rng lo n).length = n := by unfold rng; simp
theorem it_r {lo : Int} {n : Nat} : ItOk Γ G R (Itr lo n) (rng lo n) := fun i G' R' H' g rr gd => by
  refine ⟨fun hi => ?_, fun d e x H'' y => ?_, fun hi => ?_⟩
  · rw [rng_len] at hi; exact hi
  · obtain ⟨eH, y⟩ := y
    subst eH
    obtain ⟨_, e2⟩ := rng_get e
    rw [e2, y]
    exact ⟨G', Nx.refl gd, rp_int⟩
  · rw [rng_len] at hi; exact hi
theorem ji_it (a : JE Γ W te fe) : JI Γ W (iSeq Γ.K te) (iIt fe) := fun H0 G R H σ ρ xq Qd Q w x f k =>
  a H0 G R H σ ρ xq _ _ w x f fun v G' R' H' d n r q => by
    unfold gItems at q
    split at q
    · unfold Rp at r
      obtain ⟨a, vs, e1, h1, l1⟩ := r
      exact .inl ⟨a, e1, ⟨vs, SqL.of (n.gd.sub _ _ h1)⟩, k _ G' R' H' _ n (it_l (fun G2 R2 H2 g rr gd => SqL.of (gd.sub _ _ (g _ _ h1))) l1) q⟩
    · unfold Rp at r
      obtain ⟨a, vs, e1, h1, l1⟩ := r
      exact .inr ⟨a, e1, ⟨vs, Same.seqT n.gd.sub h1⟩, k _ G' R' H' _ n (it_t h1 l1) q⟩
    · unfold Rp at r
      obtain ⟨a, e1, h1⟩ := r
      rename_i ns
      refine .inl ⟨a, e1, ⟨_, n.gd.sub.seq h1⟩, k _ G' R' H' _ n (it_l (vs := ns.map V.int) (fun G2 R2 H2 g rr gd => gd.sub.seq (g.seq h1)) ?_) q⟩
      refine RpL.of_get (by simp) fun i d v e1 e2 => ?_
      rw [List.getElem?_map] at e1 e2
      cases z : ns[i]? with
      | none => rw [z] at e1; cases e1
      | some m => rw [z] at e1 e2; cases e1; cases e2; exact rp_int
    · exact q.elim
theorem ji_r1 (a : JQ Γ W te fe) : JI Γ W (iRng1 (tCons te tNil)) (iR1 fe) := fun H0 G R H σ ρ xq Qd Q w x f k =>
  a H0 G R H σ ρ xq _ _ w x f fun v G' R' H' d n r q => by
    cases d <;> first | exact q.elim | skip
    rename_i j
    obtain ⟨q1, q2, q3⟩ := q
    exact ⟨j, by rw [r.int], q1, q2, k _ G' R' H' _ n it_r q3⟩
end
section
variable {Γ : Kx} {H0 G : Hp} {R : Addr → Prop} {H : Hp} {σ : St} {ρ : En}
theorem Wd.set (w : Wd Γ H0 G R H σ ρ) (i : Nat) {v : Option V} {s : S} (h : SlotOk Γ H0 G R H s v)
    (hd : ∀ a, a ∈ s.fpt v → ∀ (j : Nat) t u, j ≠ i → ρ[j]? = some t → σ[j]? = some u → a ∈ t.fpt u → False) : Wd Γ H0 G R H (σ.set i v) (ρ.set i s) := by
  refine ⟨w.gd, by rw [List.length_set, List.length_set]; exact w.len, fun j t e => ?_, fun j m s1 s2 v1 v2 a hjm e1 e2 e3 e4 o1 o2 => ?_⟩
  · by_cases hj : i = j
    · subst hj
      have hl : i < ρ.length := by
        have := (List.getElem?_eq_some_iff.mp e).1
        rwa [List.length_set] at this
      rw [List.getElem?_set_self hl] at e
      cases e
      exact ⟨v, List.getElem?_set_self (by rw [w.len]; exact hl), h⟩
    · rw [List.getElem?_set_ne hj] at e
      obtain ⟨u, e2, q⟩ := w.sl j t e
      exact ⟨u, by rw [List.getElem?_set_ne hj]; exact e2, q⟩
  · by_cases hj : i = j
    · subst hj
      have hl : i < ρ.length := by
        have := (List.getElem?_eq_some_iff.mp e1).1
        rwa [List.length_set] at this
      rw [List.getElem?_set_self hl] at e1
      rw [List.getElem?_set_self (by rw [w.len]; exact hl)] at e3
      rw [List.getElem?_set_ne hjm] at e2 e4
      cases Option.some.inj e1
      cases Option.some.inj e3
      exact hd a o1 m s2 v2 (Ne.symm hjm) e2 e4 o2
    · by_cases hm : i = m
      · subst hm
        have hl : i < ρ.length := by
          have := (List.getElem?_eq_some_iff.mp e2).1
          rwa [List.length_set] at this
        rw [List.getElem?_set_self hl] at e2
        rw [List.getElem?_set_self (by rw [w.len]; exact hl)] at e4
        rw [List.getElem?_set_ne hj] at e1 e3
        cases Option.some.inj e2
        cases Option.some.inj e4
        exact hd a o2 j s1 v1 hjm e1 e3 o1
      · rw [List.getElem?_set_ne hj] at e1 e3
        rw [List.getElem?_set_ne hm] at e2 e4
        exact w.dj j m s1 s2 v1 v2 a hjm e1 e2 e3 e4 o1 o2
theorem Wd.fz (w : Wd Γ H0 G R H σ ρ) (i : Nat) {v : V} {d : D} (h : Rp Γ G R d v) : Wd Γ H0 G R H (σ.set i (some v)) (ρ.set i (.fz d)) :=
  w.set i ⟨v, rfl, h⟩ fun _ e => absurd e List.not_mem_nil
theorem Wd.un (w : Wd Γ H0 G R H σ ρ) (i : Nat) (v : Option V) : Wd Γ H0 G R H (σ.set i v) (ρ.set i .un) := w.set i True.intro fun _ e => absurd e List.not_mem_nil
theorem Wd.mutO (w : Wd Γ H0 G R H σ ρ) {i : Nat} {s s' : S} {l : Addr} {o : HO} (e : ρ[i]? = some s) (so : s.fpt (some (.ref l)) = [l]) (so' : s'.fpt (some (.ref l)) = [l]) (eσ : σ[i]? = some (some (.ref l))) (hx : ∀ u, H l = some u → ¬ Stiff u ∧ ∀ vs, u ≠ .xd vs) (g : G l = none) (r : ¬ R l) (h0 : H0 l = none)
    (new : SlotOk Γ H0 G R (upd H l o) s' (some (.ref l))) : Wd Γ H0 G R (upd H l o) σ (ρ.set i s') := by
  have gd : Gd G R (upd H l o) := ⟨fun b u q => by rw [upd_ne (ne_of_none q g)]; exact w.gd.sub b u q, fun a q => by
    have ne : a ≠ l := fun z => r (by subst z; exact q)
    obtain ⟨c, k, m, y⟩ := w.gd.rd a q
    exact ⟨c, k, m, by rw [upd_ne ne]; exact y⟩, w.gd.dis⟩
  have hi : i < ρ.length := (List.getElem?_eq_some_iff.mp e).1
  have ml : l ∈ s.fpt (some (.ref l)) := by rw [so]; exact List.mem_singleton.mpr rfl
  refine ⟨gd, by rw [List.length_set]; exact w.len, fun j t q => ?_, fun j m s1 s2 v1 v2 a hjm e1 e2 e3 e4 o1 o2 => ?_⟩
  · by_cases hj : i = j
    · subst hj
      rw [List.getElem?_set_self hi] at q
      cases q
      exact ⟨_, eσ, new⟩
    · rw [List.getElem?_set_ne hj] at q
      obtain ⟨u, e2, y⟩ := w.sl j t q
      refine ⟨u, e2, ?_⟩
      have far : ∀ a, a ∈ t.fpt u → a ≠ l := fun a m z => by subst z; exact w.dj i j s t _ u a hj e q eσ e2 ml m
      cases t with
      | un => exact True.intro
      | fz d => exact y
      | op es =>
        obtain ⟨a, us, rfl, y1, y2, y3, y4, y5⟩ := y
        have ne : a ≠ l := far a (List.mem_singleton.mpr rfl)
        exact ⟨a, us, rfl, by rw [upd_ne ne]; exact y1, y2, y3, y4, y5⟩
      | io a c fs =>
        obtain ⟨dx, us, rfl, y1, y2, y3, y4, y5⟩ := y
        have ne : a ≠ l := far a (List.mem_singleton.mpr rfl)
        exact ⟨dx, us, rfl, by rw [upd_ne ne]; exact y1, y2, y3, y4, y5⟩
      | ex a d c fs =>
        obtain ⟨y1, y2⟩ := y
        refine ⟨y1, y2.imp id fun ⟨dd, vs, z1, z2, z3⟩ => ⟨dd, vs, z1, ?_, z3⟩⟩
        rw [upd_ne (fun z => (hx _ (by rw [← z]; exact z2)).2 vs rfl)]
        exact z2
      | ow v as d =>
        obtain ⟨y1, y2, y3⟩ := y
        refine ⟨y1, Ow.mono d v as ⟨fun a o m h _ g r => ⟨by rw [upd_ne (far a m)]; exact h, g, r⟩, fun a o h s => ?_, fun _ h => h, fun _ _ h => h⟩ y2, y3⟩
        rw [upd_ne (fun z => (hx _ (by rw [← z]; exact h)).1 s)]
        exact h
      | se d =>
        obtain ⟨x, y1, y2⟩ := y
        exact ⟨x, y1, Rp.mono (viewO_upd h0 g fun u e => (hx u e).1) (fun _ h => h) d x y2⟩
  · by_cases hj : i = j
    · subst hj
      rw [List.getElem?_set_self hi] at e1
      rw [List.getElem?_set_ne hjm] at e2
      cases Option.some.inj e1
      rw [eσ] at e3
      cases Option.some.inj e3
      rw [so'] at o1
      rw [List.mem_singleton] at o1
      subst o1
      exact w.dj i m s s2 _ v2 a hjm e e2 eσ e4 ml o2
    · rw [List.getElem?_set_ne hj] at e1
      by_cases hm : i = m
      · subst hm
        rw [List.getElem?_set_self hi] at e2
        cases Option.some.inj e2
        rw [eσ] at e4
        cases Option.some.inj e4
        rw [so'] at o2
        rw [List.mem_singleton] at o2
        subst o2
        exact w.dj i j s s1 _ v1 a (Ne.symm hjm) e e1 eσ e3 ml o1
      · rw [List.getElem?_set_ne hm] at e2
        exact w.dj j m s1 s2 v1 v2 a hjm e1 e2 e3 e4 o1 o2
theorem Wd.mut (w : Wd Γ H0 G R H σ ρ) {i : Nat} {ds ds' : List D} {l : Addr} {vs vs' : List V} (e : ρ[i]? = some (.op ds)) (eσ : σ[i]? = some (some (.ref l))) (hl : H l = some (.lst vs)) (g : G l = none) (r : ¬ R l) (h0 : H0 l = none)
    (h : RpL Γ G R ds' vs') : Wd Γ H0 G R (upd H l (.lst vs')) σ (ρ.set i (.op ds')) :=
  w.mutO e rfl rfl eσ (fun u z => by rw [hl] at z; cases z; exact ⟨fun t => t, fun _ t => nomatch t⟩) g r h0 ⟨l, vs', rfl, upd_same, g, r, h0, h⟩
end
section
variable {G0 G G1 : Hp} {R0 R R1 : Addr → Prop} {H0 H H1 : Hp}
theorem Nx.mutO (n : Nx G0 R0 H0 G R H) {l : Addr} {o : HO} (g : G l = none) (r : ¬ R l) (h0 : H0 l = none) : Nx G0 R0 H0 G R (upd H l o) where
  gg := n.gg
  rr := n.rr
  gd := ⟨fun b o q => by rw [upd_ne (ne_of_none q g)]; exact n.gd.sub b o q, fun a q => by
    have ne : a ≠ l := fun z => r (by subst z; exact q)
    obtain ⟨c, k, m, y⟩ := n.gd.rd a q
    exact ⟨c, k, m, by rw [upd_ne ne]; exact y⟩, n.gd.dis⟩
  ev := fun b o q z => by rw [upd_ne (ne_of_none q h0)]; exact n.ev b o q z
  ex := fun b o q => by rw [upd_ne (ne_of_none q h0)]; exact n.ex b o q
  fg := n.fg
  fr := n.fr
theorem Nx.mut (n : Nx G0 R0 H0 G R H) {l : Addr} {vs' : List V} (g : G l = none) (r : ¬ R l) (h0 : H0 l = none) : Nx G0 R0 H0 G R (upd H l (.lst vs')) := n.mutO g r h0
theorem Nx.base (n : Nx G0 R0 H0 G R H) : Nx G R H0 G R H := ⟨fun _ _ h => h, fun _ h => h, n.gd, fun b o e r => n.ev b o e fun z => r (n.rr b z), n.ex, fun _ _ h => .inl h, fun _ h => .inl h⟩
theorem Nx.rebase (n : Nx G0 R0 H0 G R H) (m : Nx G R H0 G1 R1 H1) : Nx G0 R0 H0 G1 R1 H1 where
  gg := fun b o h => m.gg b o (n.gg b o h)
  rr := fun b h => m.rr b (n.rr b h)
  gd := m.gd
  ev := fun b o e r => m.ev b o e fun z => (n.fr b z).elim r fun y => by rw [y] at e; cases e
  ex := m.ex
  fg := fun b o h => by
    rcases m.fg b o h with z | z | z
    · exact n.fg b o z
    · exact .inr (.inl z)
    · exact .inr (.inr z)
  fr := fun b h => by
    rcases m.fr b h with z | z
    · exact n.fr b z
    · exact .inr z
theorem Nx.free0 (n : Nx G0 R0 H0 G R H) {l : Addr} (h : H l = none) : H0 l = none := by
  cases q : H0 l with
  | none => rfl
  | some o =>
    obtain ⟨o', e⟩ := n.ex l o q
    rw [h] at e; cases e
end
def lcLoop (ft : DT) (fe : DE) (i : Nat) (ρ : En) (Q : List D → Prop) : List D → List D → Prop
  | [], acc => Q acc
  | d :: ds, acc => ft (fun _ _ => False) (ρ.set i (.fz d)) fun b => if b = true then fe (fun _ _ => False) (ρ.set i (.fz d)) fun y => lcLoop ft fe i ρ Q ds (acc ++ [y]) else lcLoop ft fe i ρ Q ds acc
def dLc (fi : DA) (i : Nat) (ft : DT) (fe : DE) : DA := fun xq ρ Q => fi xq ρ fun ds => ds.length ≤ sizeLine ∧ lcLoop ft fe i (ρ.set i .un) Q ds []
def dYes : DT := fun _ _ Q => Q true
section
variable {Γ : Kx} {W : WX} {wi : TI} {fi : DA} {tt : TT} {ft : DT} {te : TE} {fe : DE} {i : Nat}
theorem jt_yes : JT Γ W tYes dYes := fun H0 G R H σ ρ xq Qd Q w x f k => k true G R H (Nx.refl w.gd) f
theorem Lk.no {σ : St} {G : Hp} {R : Addr → Prop} {H : Hp} : Lk Γ (fun _ _ _ _ => False) (fun _ _ => False) σ G R H := fun _ _ _ _ _ _ _ _ z _ => z
theorem jn_lc (a : JI Γ W wi fi) (b : JT Γ (fun _ _ _ _ => False) tt ft) (c : JE Γ (fun _ _ _ _ => False) te fe) : JN Γ W (tLc wi (gName i) tt te [i]) (dLc fi i ft fe) := fun H0 G R H σ ρ xq Qd Q w x f k =>
  a H0 G R H σ ρ xq _ _ w x f fun J G1 R1 H1 ds n1 io q A0 hD => by
    obtain ⟨hz, q⟩ := q
    have hn : H A0 = none := by
      cases y : H A0 with
      | none => rfl
      | some o =>
        obtain ⟨o', e'⟩ := n1.ex A0 o y
        rw [hD] at e'; cases e'
    refine ⟨fun j m H2 => m = ds.length - j ∧ j ≤ ds.length ∧ ∃ (G2 : Hp) (R2 : Addr → Prop) (acc : List D) (vs : List V), Nx G1 R1 H1 G2 R2 H2 ∧ H2 A0 = some (.lst vs) ∧ G2 A0 = none ∧ ¬ R2 A0 ∧ RpL Γ G2 R2 acc vs ∧ acc.length ≤ j ∧ lcLoop ft fe i (ρ.set i .un) Qd (ds.drop j) acc,
      ⟨ds.length, by simp, Nat.zero_le _, G1, R1, [], [], Nx.new n1.gd _ hD, upd_same, (n1.gd.fresh hD).1, (n1.gd.fresh hD).2, RpL.nil, Nat.le_refl _, q⟩, ?_⟩
    rintro j m H2 ⟨rfl, hj, G2, R2, acc, vs, n2, e2, g2, r2, l2, z2, q2⟩
    obtain ⟨i1, i2, i3⟩ := io j G2 R2 H2 n2.gg n2.rr n2.gd
    by_cases hlt : j < ds.length
    · refine .inr ⟨i1 hlt, fun H3 => j + 1 ≤ ds.length ∧ ∃ (G2 : Hp) (R2 : Addr → Prop) (acc : List D) (vs : List V), Nx G1 R1 H1 G2 R2 H3 ∧ H3 A0 = some (.lst vs) ∧ G2 A0 = none ∧ ¬ R2 A0 ∧ RpL Γ G2 R2 acc vs ∧ acc.length ≤ j + 1 ∧ lcLoop ft fe i (ρ.set i .un) Qd (ds.drop (j + 1)) acc,
        fun H3 p => ⟨ds.length - (j + 1), by omega, rfl, p.1, p.2⟩, fun xv H3 y => ?_⟩
      obtain ⟨G3, n3, r3⟩ := i2 ds[j] (List.getElem?_eq_getElem hlt) xv H3 y
      rw [List.drop_eq_getElem_cons hlt] at q2
      have w3 : Wd Γ H0 G3 R2 H3 (wipe σ [i]) (ρ.set i .un) := ((((w.nx n1).nx n2).nx n3).un i none)
      have w4 : Wd Γ H0 G3 R2 H3 ((wipe σ [i]).set i (some xv)) ((ρ.set i .un).set i (.fz ds[j])) := w3.fz i r3
      refine ⟨?_, ?_⟩
      · show ((wipe σ [i]).set i (some xv)).set i none = (σ.set i none)
        unfold wipe wipe
        rw [List.set_set, List.set_set]
      · have q2' : ft (fun _ _ => False) ((ρ.set i .un).set i (.fz ds[j])) fun b => if b = true then fe (fun _ _ => False) ((ρ.set i .un).set i (.fz ds[j])) fun y => lcLoop ft fe i (ρ.set i .un) Qd (ds.drop (j + 1)) (acc ++ [y]) else lcLoop ft fe i (ρ.set i .un) Qd (ds.drop (j + 1)) acc := q2
        obtain ⟨o3, p3, s3⟩ := n3.open_ e2 g2 r2
        refine b H0 G3 R2 H3 _ _ _ _ _ w4 Lk.no q2' fun bb G4 R4 H4 n4 q4 => ?_
        obtain ⟨o4, p4, s4⟩ := n4.open_ o3 p3 s3
        cases bb with
        | true =>
          refine c H0 G4 R4 H4 _ _ _ _ _ (w4.nx n4) Lk.no q4 fun yv G5 R5 H5 d5 n5 r5 q5 => ?_
          obtain ⟨o5, p5, s5⟩ := n5.open_ o4 p4 s4
          have nn := (((n2.trans n3).trans n4).trans n5)
          have gg := (n3.gg.trans n4.gg).trans n5.gg
          have ll := RpL.mono gg (fun a h => n5.rr a (n4.rr a (n3.rr a h))) acc vs l2
          have hlen := ll.len
          refine ⟨vs, o5, by omega, by omega, G5, R5, acc ++ [d5], vs ++ [yv], nn.mut p5 s5 hD, upd_same, p5, s5, ll.append (RpL.cons r5 RpL.nil), by rw [List.length_append]; simp; omega, q5⟩
        | false =>
          have nn := ((n2.trans n3).trans n4)
          exact ⟨by omega, G4, R4, acc, vs, nn, o4, p4, s4, RpL.mono (n3.gg.trans n4.gg) (fun a h => n4.rr a (n3.rr a h)) acc vs l2, by omega, q4⟩
    · have e : j = ds.length := by omega
      subst e
      rw [List.drop_length] at q2
      exact .inl ⟨i3 (Nat.le_refl _), k A0 vs G2 R2 H2 acc (n1.trans n2) e2 g2 r2 hn l2 q2⟩
end
end Dl
namespace Dl
open PySem PySem.Spec PyProof.Rows L2
def DK.xq (k : DK) (ρ : En) : XQ := fun c fs => k.ex c fs ρ
def dNext : DS := fun k ρ => k.nx ρ
def dSeq (f1 f2 : DS) : DS := fun k ρ => f1 { k with nx := f2 k } ρ
def dSet (i : Nat) (fe : DE) : DS := fun k ρ => fe (k.xq ρ) ρ fun d => k.nx (ρ.set i (.fz d))
def dSetN (i : Nat) (fa : DA) : DS := fun k ρ => fa (k.xq ρ) ρ fun ds => k.nx (ρ.set i (.op ds))
def dIfS (ft : DT) (f1 f2 : DS) : DS := fun k ρ => ft (k.xq ρ) ρ fun b => if b = true then f1 k ρ else f2 k ρ
def dRet (fe : DE) : DS := fun k ρ => fe (k.xq ρ) ρ fun d => k.rt d ρ
def dRetV (i : Nat) : DS := fun k ρ => match ρ[i]? with
  | some (.fz d) => k.rt d ρ
  | some (.op ds) => k.rt (.lst ds) (ρ.set i (.fz (.lst ds)))
  | _ => False
def dRetN : DS := fun k ρ => k.rt .non ρ
def dExpr (fe : DE) : DS := fun k ρ => fe (k.xq ρ) ρ fun _ => k.nx ρ
def dBreak : DS := fun k ρ => k.bk ρ
def dCont : DS := fun k ρ => k.ct ρ
def frz (i : Nat) (ρ : En) : En := match ρ[i]? with
  | some (.op ds) => ρ.set i (.fz (.lst ds))
  | _ => ρ
def dFrz (i : Nat) (f : DS) : DS := fun k ρ => f k (frz i ρ)
def dApp (i : Nat) (fe : DE) : DS := fun k ρ => match ρ[i]? with
  | some (.op ds) => fe (k.xq ρ) ρ fun d => ds.length < sizeLine ∧ k.nx (ρ.set i (.op (ds ++ [d])))
  | _ => False
def dExt (i : Nat) (fe : DE) : DS := fun k ρ => match ρ[i]? with
  | some (.op ds) => fe (k.xq ρ) ρ fun d => match d with
    | .lst es => ds.length + es.length ≤ sizeLine ∧ k.nx (ρ.set i (.op (ds ++ es)))
    | _ => False
  | _ => False
def forLoop (fb : DS) (i : Nat) (k : DK) : List D → En → Prop
  | [], ρ => k.nx ρ
  | d :: ds, ρ => fb { k with nx := forLoop fb i k ds, ct := forLoop fb i k ds, bk := k.nx } (ρ.set i (.fz d))
def dFor (fi : DA) (i : Nat) (fb : DS) : DS := fun k ρ => fi (k.xq ρ) ρ fun ds => forLoop fb i k ds ρ
theorem Wd.ownThere {Γ : Kx} {H0 G : Hp} {R : Addr → Prop} {H : Hp} {σ : St} {ρ : En} {j : Nat} {t : S} {v : Option V} {l : Addr} (w : Wd Γ H0 G R H σ ρ) (e : ρ[j]? = some t) (eσ : σ[j]? = some v) (m : l ∈ t.fpt v) : (∃ o, H l = some o ∧ ¬ Stiff o) ∧ G l = none ∧ ¬ R l ∧ H0 l = none := by
  obtain ⟨v', e5, y⟩ := w.sl j _ e
  rw [eσ] at e5
  cases e5
  cases t with
  | un => exact absurd m List.not_mem_nil
  | fz _ => exact absurd m List.not_mem_nil
  | ex _ _ _ _ => exact absurd m List.not_mem_nil
  | se _ => exact absurd m List.not_mem_nil
  | op es =>
    obtain ⟨b, us, rfl, y1, y2, y3, y4, _⟩ := y
    rw [List.mem_singleton.mp m]
    exact ⟨⟨_, y1, fun t => t⟩, y2, y3, y4⟩
  | io b c fs =>
    obtain ⟨dx, us, rfl, y1, y2, y3, y4, _⟩ := y
    rw [List.mem_singleton.mp m]
    exact ⟨⟨_, y1, fun t => t⟩, y2, y3, y4⟩
  | ow x as d =>
    obtain ⟨h0, g, r, o, ho, op⟩ := Ow.fresh d x as y.2.1 l m
    exact ⟨⟨o, ho, op.stiff⟩, g, r, h0⟩
theorem Wd.ownNew {Γ : Kx} {H0 G : Hp} {R : Addr → Prop} {H : Hp} {σ : St} {ρ : En} {j : Nat} {t : S} {v : Option V} {l : Addr} (w : Wd Γ H0 G R H σ ρ) (e : ρ[j]? = some t) (eσ : σ[j]? = some v) (hn : H l = none) (m : l ∈ t.fpt v) : False := by
  obtain ⟨⟨o, ho, _⟩, _⟩ := w.ownThere e eσ m
  rw [hn] at ho; cases ho
section
variable {Γ : Kx} {W : WX} {te : TE} {fe : DE} {fa : DA} {ts t1 t2 : TS} {fs f1 f2 : DS} {tt : TT} {ft : DT} {i : Nat}
theorem js_next : JS Γ W tNext dNext := fun G0 R0 H0 G R H σ ρ k D n w e f => e.nx G R H σ ρ n w f
theorem js_seq (a : JS Γ W t1 f1) (b : JS Γ W t2 f2) : JS Γ W (tSeq t1 t2) (dSeq f1 f2) := fun G0 R0 H0 G R H σ ρ k D n w e f =>
  a G0 R0 H0 G R H σ ρ { k with nx := f2 k } _ n w ⟨fun G1 R1 H1 σ1 ρ1 n1 w1 q => b G0 R0 H0 G1 R1 H1 σ1 ρ1 k D n1 w1 e q, e.rt, e.bk, e.ct, e.ex, e.ro⟩ f
theorem js_set (a : JE Γ W te fe) : JS Γ W (tAsg te (gName i)) (dSet i fe) := fun G0 R0 H0 G R H σ ρ k D n w e f =>
  a H0 G R H σ ρ _ _ _ w (e.lk n w) f fun v G' R' H' d m r q => e.nx G' R' H' _ _ (n.trans m) ((w.nx m).fz i r) q
theorem js_setN (a : JN Γ W te fa) : JS Γ W (tAsg te (gName i)) (dSetN i fa) := fun G0 R0 H0 G R H σ ρ k D n w e f =>
  a H0 G R H σ ρ _ _ _ w (e.lk n w) f fun l vs G' R' H' ds m h g z hn r q => e.nx G' R' H' _ _ (n.trans m)
    ((w.nx m).set i (s := .op ds) ⟨l, vs, rfl, h, g, z, n.free0 hn, r⟩ fun a m2 j t u hj e3 e4 m3 => by
      rw [List.mem_singleton.mp m2] at m3
      exact w.ownNew e3 e4 hn m3) q
theorem js_if (c : JT Γ W tt ft) (a : JS Γ W t1 f1) (b : JS Γ W t2 f2) : JS Γ W (tIfS tt t1 t2) (dIfS ft f1 f2) := fun G0 R0 H0 G R H σ ρ k D n w e f =>
  c H0 G R H σ ρ _ _ _ w (e.lk n w) f fun d G' R' H' m q => by
    cases d with
    | true => exact a G0 R0 H0 G' R' H' σ ρ k D (n.trans m) (w.nx m) e q
    | false => exact b G0 R0 H0 G' R' H' σ ρ k D (n.trans m) (w.nx m) e q
theorem js_ret (a : JE Γ W te fe) : JS Γ W (tRet te) (dRet fe) := fun G0 R0 H0 G R H σ ρ k D n w e f =>
  a H0 G R H σ ρ _ _ _ w (e.lk n w) f fun v G' R' H' d m r q => e.rt v d G' R' H' σ ρ (n.trans m) (w.nx m) r q
theorem js_expr (a : JE Γ W te fe) : JS Γ W (tDrop te) (dExpr fe) := fun G0 R0 H0 G R H σ ρ k D n w e f =>
  a H0 G R H σ ρ _ _ _ w (e.lk n w) f fun v G' R' H' d m r q => e.nx G' R' H' σ ρ (n.trans m) (w.nx m) q
theorem Wd.frzO {H0 G : Hp} {R : Addr → Prop} {H : Hp} {σ : St} {ρ : En} {s : S} {d : D} {l : Addr} {o : HO} (w : Wd Γ H0 G R H σ ρ) (e : ρ[i]? = some s) (so : l ∈ s.fpt (some (.ref l))) (eσ : σ[i]? = some (some (.ref l))) (h : H l = some o) (g : G l = none) (z : ¬ R l)
    (new : Rp Γ (upd G l o) R d (.ref l)) : Wd Γ H0 (upd G l o) R H σ (ρ.set i (.fz d)) := by
  have gg : Same G (upd G l o) := fun b u z => by rw [upd_ne (ne_of_none z g)]; exact z
  have hi : i < ρ.length := (List.getElem?_eq_some_iff.mp e).1
  refine ⟨⟨fun b u q => ?_, w.gd.rd, fun a q => ?_⟩, by rw [List.length_set]; exact w.len, fun j t q => ?_, fun j m s1 s2 v1 v2 a hjm e1 e2 e3 e4 o1 o2 => ?_⟩
  · by_cases hb : b = l
    · subst hb; rw [upd_same] at q; cases q; exact h
    · rw [upd_ne hb] at q; exact w.gd.sub b u q
  · have ne : a ≠ l := fun y => z (by subst y; exact q)
    rw [upd_ne ne]; exact w.gd.dis a q
  · by_cases hj : i = j
    · subst hj
      rw [List.getElem?_set_self hi] at q
      cases q
      exact ⟨_, eσ, .ref l, rfl, new⟩
    · rw [List.getElem?_set_ne hj] at q
      obtain ⟨u, e2, y⟩ := w.sl j t q
      refine ⟨u, e2, ?_⟩
      have far : ∀ a, a ∈ t.fpt u → a ≠ l := fun a m z => by subst z; exact w.dj i j s t _ u a hj e q eσ e2 so m
      cases t with
      | un => exact True.intro
      | fz d => obtain ⟨x, y1, y2⟩ := y; exact ⟨x, y1, Rp.mono gg (fun _ h => h) d x y2⟩
      | op es =>
        obtain ⟨a, us, rfl, y1, y2, y3, y4, y5⟩ := y
        have ne : a ≠ l := far a (List.mem_singleton.mpr rfl)
        exact ⟨a, us, rfl, y1, by rw [upd_ne ne]; exact y2, y3, y4, RpL.mono gg (fun _ h => h) es us y5⟩
      | io a c fs =>
        obtain ⟨dx, us, rfl, y1, y2, y3, y4, y5⟩ := y
        have ne : a ≠ l := far a (List.mem_singleton.mpr rfl)
        exact ⟨dx, us, rfl, y1, by rw [upd_ne ne]; exact y2, y3, y4, RpF.mono gg (fun _ h => h) fs us y5⟩
      | ex a d c fs =>
        obtain ⟨y1, y2⟩ := y
        exact ⟨y1, y2.imp id fun ⟨dd, vs, z1, z2, z3, z5⟩ => ⟨dd, vs, z1, z2, z3, RpF.mono gg (fun _ h => h) fs vs z5⟩⟩
      | ow v as d =>
        obtain ⟨y1, y2, y3⟩ := y
        exact ⟨y1, Ow.mono d v as ⟨fun a o m h _ g r => ⟨h, by rw [upd_ne (far a m)]; exact g, r⟩, fun a o h s => h, fun _ h => h, gg⟩ y2, y3⟩
      | se d =>
        obtain ⟨x, y1, y2⟩ := y
        refine ⟨x, y1, Rp.mono (fun b u e => ?_) (fun _ h => h) d x y2⟩
        obtain ⟨e1, e2⟩ := viewO_iff.mp e
        exact viewO_iff.mpr ⟨e1, e2.imp (fun z => gg b u z) id⟩
  · by_cases hj : i = j
    · subst hj
      rw [List.getElem?_set_self hi] at e1
      cases e1
      exact absurd o1 List.not_mem_nil
    · rw [List.getElem?_set_ne hj] at e1
      by_cases hm : i = m
      · subst hm
        rw [List.getElem?_set_self hi] at e2
        cases e2
        exact absurd o2 List.not_mem_nil
      · rw [List.getElem?_set_ne hm] at e2
        exact w.dj j m s1 s2 v1 v2 a hjm e1 e2 e3 e4 o1 o2
theorem Wd.frz {H0 G : Hp} {R : Addr → Prop} {H : Hp} {σ : St} {ρ : En} {ds : List D} {l : Addr} {vs : List V} (w : Wd Γ H0 G R H σ ρ) (e : ρ[i]? = some (.op ds)) (eσ : σ[i]? = some (some (.ref l))) (h : H l = some (.lst vs)) (g : G l = none) (z : ¬ R l) (r : RpL Γ G R ds vs) :
    Wd Γ H0 (upd G l (.lst vs)) R H σ (ρ.set i (.fz (.lst ds))) := by
  refine w.frzO e (List.mem_singleton.mpr rfl) eσ h g z ?_
  unfold Rp
  exact ⟨l, vs, rfl, upd_same, RpL.mono (fun b u z => by rw [upd_ne (ne_of_none z g)]; exact z) (fun _ h => h) ds vs r⟩
theorem js_retV : JS Γ W (tRet (tVar i)) (dRetV i) := fun G0 R0 H0 G R H σ ρ k D n w e f => by
  unfold dRetV at f
  split at f
  · rename_i d q
    obtain ⟨v, e2, y, rfl, r⟩ := w.sl i _ q
    exact ⟨y, e2, e.rt y d G R H σ ρ n w r f⟩
  · rename_i ds q
    obtain ⟨v, e2, l, vs, rfl, h, g, z, h0, r⟩ := w.sl i _ q
    have m := n.freeze h g z h0
    refine ⟨.ref l, e2, e.rt _ (.lst ds) _ R H σ _ m (w.frz q e2 h g z r) ?_ f⟩
    unfold Rp
    have gg : Same G (upd G l (.lst vs)) := fun b u z => by rw [upd_ne (ne_of_none z g)]; exact z
    exact ⟨l, vs, rfl, upd_same, RpL.mono gg (fun _ h => h) ds vs r⟩
  · exact f.elim
theorem js_frz (a : JS Γ W ts fs) : JS Γ W ts (dFrz i fs) := fun G0 R0 H0 G R H σ ρ k D n w e f => by
  unfold dFrz Dl.frz at f
  split at f
  · rename_i ds q
    obtain ⟨v, e2, l, vs, rfl, h, g, z, h0, r⟩ := w.sl i _ q
    exact a G0 R0 H0 _ R H σ _ k D (n.freeze h g z h0) (w.frz q e2 h g z r) e f
  · exact a G0 R0 H0 G R H σ ρ k D n w e f
theorem js_app (a : JE Γ W te fe) : JS Γ W (tDrop (tBM Γ.K "list" rAppend (tVar i) (tCons te tNil))) (dApp i fe) := fun G0 R0 H0 G R H σ ρ k D n w e f => by
  unfold dApp at f
  split at f
  · rename_i ds q
    obtain ⟨v, e2, l, vs, rfl, h, g, z, h0, r⟩ := w.sl i _ q
    refine ⟨.ref l, e2, .inl ⟨rfl, vs, SqL.of h⟩, a H0 G R H σ ρ _ _ _ w (e.lk n w) f fun v G' R' H' d m r' q' => ?_⟩
    obtain ⟨h', g', z'⟩ := m.open_ h g z
    have rl := RpL.mono m.gg m.rr ds vs r
    refine ⟨l, vs, v, rfl, rfl, h', by rw [← rl.len]; exact q'.1, ?_⟩
    exact e.nx G' R' _ _ _ ((n.trans m).mut g' z' h0) ((w.nx m).mut q e2 h' g' z' h0 (rl.append (RpL.cons r' RpL.nil))) q'.2
  · exact f.elim
theorem js_for {wi : TI} {fi : DA} (a : JI Γ W wi fi) (b : JS Γ W ts fs) : JS Γ W (tFor wi (gName i) ts) (dFor fi i fs) := fun G0 R0 H0 G R H σ ρ k D n w e f =>
  a H0 G R H σ ρ _ _ _ w (e.lk n w) f fun J G1 R1 H1 ds n1 io q => by
    have nb := (n.trans n1)
    refine ⟨fun j m σ2 H2 => m = ds.length - j ∧ j ≤ ds.length ∧ ∃ (G2 : Hp) (R2 : Addr → Prop) (ρ2 : En), Nx G1 R1 H0 G2 R2 H2 ∧ Wd Γ H0 G2 R2 H2 σ2 ρ2 ∧ forLoop fs i k (ds.drop j) ρ2,
      ⟨ds.length, by simp, Nat.zero_le _, G1, R1, ρ, nb.base, w.nx n1, q⟩, ?_⟩
    rintro j m σ2 H2 ⟨rfl, hj, G2, R2, ρ2, n2, w2, q2⟩
    obtain ⟨i1, i2, i3⟩ := io j G2 R2 H2 n2.gg n2.rr n2.gd
    by_cases hlt : j < ds.length
    · rw [List.drop_eq_getElem_cons hlt] at q2
      refine .inr ⟨i1 hlt, fun σ3 H3 => j + 1 ≤ ds.length ∧ ∃ (G2 : Hp) (R2 : Addr → Prop) (ρ2 : En), Nx G1 R1 H0 G2 R2 H3 ∧ Wd Γ H0 G2 R2 H3 σ3 ρ2 ∧ forLoop fs i k (ds.drop (j + 1)) ρ2,
        fun σ3 H3 p => ⟨ds.length - (j + 1), by omega, rfl, p.1, p.2⟩, fun xv H3 y => ?_⟩
      obtain ⟨G3, n3, r3⟩ := i2 ds[j] (List.getElem?_eq_getElem hlt) xv H3 y
      refine b G1 R1 H0 G3 R2 H3 _ _ { k with nx := forLoop fs i k (ds.drop (j + 1)), ct := forLoop fs i k (ds.drop (j + 1)), bk := k.nx } _ (n2.trans n3) ((w2.nx n3).fz i r3) ⟨?_, ?_, ?_, ?_, ?_, ?_⟩ q2
      · exact fun G4 R4 H4 σ4 ρ4 n4 w4 q4 => ⟨by omega, G4, R4, ρ4, n4, w4, q4⟩
      · exact fun v d G4 R4 H4 σ4 ρ4 n4 w4 r4 q4 => e.rt v d G4 R4 H4 σ4 ρ4 (nb.rebase n4) w4 r4 q4
      · exact fun G4 R4 H4 σ4 ρ4 n4 w4 q4 => e.nx G4 R4 H4 σ4 ρ4 (nb.rebase n4) w4 q4
      · exact fun G4 R4 H4 σ4 ρ4 n4 w4 q4 => ⟨by omega, G4, R4, ρ4, n4, w4, q4⟩
      · exact fun c fs' cls dx G4 R4 H4 σ4 ρ4 n4 w4 q4 => e.ex c fs' cls dx G4 R4 H4 σ4 ρ4 (nb.rebase n4) w4 q4
      · exact fun v as d G4 R4 H4 σ4 ρ4 n4 w4 r4 nd q4 => e.ro v as d G4 R4 H4 σ4 ρ4 (nb.rebase n4) w4 r4 nd q4
    · have z : j = ds.length := by omega
      subst z
      rw [List.drop_length] at q2
      exact .inl ⟨i3 (Nat.le_refl _), e.nx G2 R2 H2 σ2 ρ2 (nb.rebase n2) w2 q2⟩
end
section
variable (X : Cx) (C : Str → Addr) (W : WX)
def CE (e : Expr) (fe : DE) : Prop := ∃ te, PE X e te ∧ JE ⟨X.K, C⟩ W te fe
def CQ (e : Expr) (fe : DE) : Prop := ∃ te, PE X e te ∧ JQ ⟨X.K, C⟩ W te fe
def CN (e : Expr) (fa : DA) : Prop := ∃ te, PE X e te ∧ JN ⟨X.K, C⟩ W te fa
def CT (e : Expr) (ft : DT) : Prop := ∃ tt, PT X e tt ∧ JT ⟨X.K, C⟩ W tt ft
def CW (e : Expr) (ft : DT) : Prop := ∃ tt, PW X e tt ∧ JT ⟨X.K, C⟩ W tt ft
def CA (es : List Expr) (fa : DA) (n : Nat) : Prop := ∃ ta, PA X es ta ∧ JAn ⟨X.K, C⟩ W ta fa n
def CO (e : Option Expr) (fo : DO) : Prop := ∃ to, PO X e to ∧ JO ⟨X.K, C⟩ W to fo
def CI (tg iter : Expr) (fi : DA) : Prop := ∃ wi, PI X tg iter wi ∧ JI ⟨X.K, C⟩ W wi fi
def CS (st : Stmt) (fs : DS) : Prop := ∃ ts, PS X st ts ∧ JS ⟨X.K, C⟩ W ts fs
def CSs (st : List Stmt) (fs : DS) : Prop := ∃ ts, PSs X st ts ∧ JS ⟨X.K, C⟩ W ts fs
end
structure GE (X : Cx) (W : WX) (k : Nat) (bl : Str → Bool) : Prop where
  calm : X.calm = true
  room : Room k X.A
  tk : Takes X W
  bl : ∀ x, bl x = true → X.mg x = none
structure GS (X : Cx) (W : WX) (k : Nat) (bl : Str → Bool) : Prop extends GE X W k bl where
  own : PassesOwn (model X.prog X.w) X.A X.env X.xe
theorem GE.hu {X : Cx} {W : WX} {k : Nat} {bl : Str → Bool} (g : GE X W k bl) : X.A.units + 65 < cLine := by have := g.room.un; omega
theorem GE.hu64 {X : Cx} {W : WX} {k : Nat} {bl : Str → Bool} (g : GE X W k bl) : X.A.units + 64 < cLine := by have := g.room.un; omega
theorem GE.blk {X : Cx} {W : WX} {k : Nat} {bl : Str → Bool} (g : GE X W k bl) (s : Shared) (H : Hp) (scope : Scope) (cenv : PySem.Env) (fp : List Addr) : GE (X.blk s H scope cenv fp) (fun _ _ _ _ => False) k bl :=
  ⟨g.calm, g.room, takes0, g.bl⟩
end Dl
namespace Dl
open PySem PySem.Spec PyProof.Rows L2
section
variable {X : Cx} {C : Str → Addr} {W : WX} {k j : Nat} {bl : Str → Bool} {a b c e : Expr} {es : List Expr} {fa fb fc fe : DE} {fs : DA} {ft f1 f2 : DT} {pos p p1 p2 : Pos} {n i : Nat}
theorem CE.q (h : CE X C W e fe) : CQ X C W e fe := let ⟨t, p, q⟩ := h; ⟨t, p, q.q⟩
theorem CN.own (h : CN X C W e fs) : CE X C W e (dLst fs) := let ⟨t, p, q⟩ := h; ⟨t, p, q.e⟩
theorem CN.q (h : CN X C W e fs) : CQ X C W e (dLst fs) := h.own.q
theorem CQ.own (h : CQ X C W e fe) : CE X C W e (dImm fe) := let ⟨t, p, q⟩ := h; ⟨t, p, q.own⟩
theorem ce_var (h : PE X e (tVar i)) : CE X C W e (dVar i) := ⟨_, h, je_var⟩
theorem cq_var (h : PE X e (tVar i)) : CQ X C W e (dVarQ i) := ⟨_, h, jq_var⟩
theorem ce_int {z : Int} {m : Nat} : CE X C W (.Constant (.int z) m pos) (dC (.int z)) := ⟨_, pe_int, je_int⟩
theorem ce_str {z : Str} {m : Nat} : CE X C W (.Constant (.str z) m pos) (dC (.str z)) := ⟨_, pe_str, je_str⟩
theorem ce_bl {z : Bool} {m : Nat} : CE X C W (.Constant (.bool z) m pos) (dC (.bl z)) := ⟨_, pe_bl, je_bl⟩
theorem ce_non {m : Nat} : CE X C W (.Constant .none m pos) (dC .non) := ⟨_, pe_non, je_non⟩
theorem ce_add (h : CQ X C W a fa) (h' : CQ X C W b fb) : CE X C W (.BinOp a .Add b pos) (d2 gAdd fa fb) := let ⟨_, p, q⟩ := h; let ⟨_, p', q'⟩ := h'; ⟨_, pe_op op_addAll p p', je_op u2_add q q'⟩
theorem ce_sub (h : CQ X C W a fa) (h' : CQ X C W b fb) : CE X C W (.BinOp a .Sub b pos) (d2 gMns fa fb) := let ⟨_, p, q⟩ := h; let ⟨_, p', q'⟩ := h'; ⟨_, pe_op op_sub p p', je_op u2_sub q q'⟩
theorem ce_mul (h : CQ X C W a fa) (h' : CQ X C W b fb) : CE X C W (.BinOp a .Mult b pos) (d2 (gI2 CMul fun i j => .int (i * j)) fa fb) := let ⟨_, p, q⟩ := h; let ⟨_, p', q'⟩ := h'; ⟨_, pe_op op_mul p p', je_op u2_int q q'⟩
theorem ce_fdiv (h : CQ X C W a fa) (h' : CQ X C W b fb) : CE X C W (.BinOp a .FloorDiv b pos) (d2 (gI2 CDiv fun i j => .int (i / j)) fa fb) := let ⟨_, p, q⟩ := h; let ⟨_, p', q'⟩ := h'; ⟨_, pe_op op_fdiv p p', je_op u2_int q q'⟩
theorem ce_mod (h : CQ X C W a fa) (h' : CQ X C W b fb) : CE X C W (.BinOp a .Mod b pos) (d2 (gI2 (fun _ j => 0 < j) fun i j => .int (i % j)) fa fb) := let ⟨_, p, q⟩ := h; let ⟨_, p', q'⟩ := h'; ⟨_, pe_op op_mod p p', je_op u2_int q q'⟩
theorem ce_pow (h : CQ X C W a fa) (h' : CQ X C W b fb) : CE X C W (.BinOp a .Pow b pos) (d2 (gI2 CPow fun i j => .int (i ^ j.toNat)) fa fb) := let ⟨_, p, q⟩ := h; let ⟨_, p', q'⟩ := h'; ⟨_, pe_op op_pow p p', je_op u2_int q q'⟩
theorem ce_neg (h : CQ X C W a fa) : CE X C W (.UnaryOp .USub a pos) (d1 gNeg fa) := let ⟨_, p, q⟩ := h; ⟨_, pe_un un_neg p, je_un u1_neg q⟩
theorem ce_cmpR {op : CmpOp} {r : R2} {g : D → D → (D → Prop) → Prop} (ho : OpR X (compareOp op) r) (u : U2 ⟨X.K, C⟩ r g) (hm : behindInMarks op b = false) (h : CQ X C W a fa) (h' : CQ X C W b fb) : CE X C W (.Compare a [op] [b] pos) (d2 g fa fb) :=
  let ⟨_, p, q⟩ := h; let ⟨_, p', q'⟩ := h'; ⟨_, pe_cmpR ho p p' hm, je_op u q q'⟩
theorem ct_cmpR {op : CmpOp} {r : R2} {g : D → D → (D → Prop) → Prop} (ho : OpR X (compareOp op) r) (u : U2 ⟨X.K, C⟩ r g) (hm : behindInMarks op b = false) (h : CQ X C W a fa) (h' : CQ X C W b fb) : CT X C W (.Compare a [op] [b] pos) (dB (d2 g fa fb)) :=
  let ⟨_, p, q⟩ := h; let ⟨_, p', q'⟩ := h'; ⟨_, pt_cmpR ho p p' hm, jt_b (je_op u q q').q⟩
abbrev gLt := gCmp fun i j => decide (i < j)
abbrev gLe := gCmp fun i j => decide (i ≤ j)
abbrev gGt := gCmp fun i j => decide (j < i)
abbrev gGe := gCmp fun i j => decide (j ≤ i)
theorem ct_lt (h : CQ X C W a fa) (h' : CQ X C W b fb) : CT X C W (.Compare a [.Lt] [b] pos) (dB (d2 gLt fa fb)) := ct_cmpR op_lt u2_cmp (nomark _) h h'
theorem ct_gt (h : CQ X C W a fa) (h' : CQ X C W b fb) : CT X C W (.Compare a [.Gt] [b] pos) (dB (d2 gGt fa fb)) := ct_cmpR op_gt u2_cmp (nomark _) h h'
theorem ct_ge (h : CQ X C W a fa) (h' : CQ X C W b fb) : CT X C W (.Compare a [.GtE] [b] pos) (dB (d2 gGe fa fb)) := ct_cmpR op_ge u2_cmp (nomark _) h h'
theorem ce_eq (g : GE X W k bl) (h : CQ X C W a fa) (h' : CQ X C W b fb) : CE X C W (.Compare a [.Eq] [b] pos) (d2 gEq fa fb) := ce_cmpR (op_eqD g.hu64) u2_eq (nomark _) h h'
theorem ct_eq (g : GE X W k bl) (h : CQ X C W a fa) (h' : CQ X C W b fb) : CT X C W (.Compare a [.Eq] [b] pos) (dB (d2 gEq fa fb)) := ct_cmpR (op_eqD g.hu64) u2_eq (nomark _) h h'
theorem ct_ne (g : GE X W k bl) (h : CQ X C W a fa) (h' : CQ X C W b fb) : CT X C W (.Compare a [.NotEq] [b] pos) (dB (d2 gNe fa fb)) := ct_cmpR (op_neD g.hu64) u2_ne (nomark _) h h'
theorem ct_in (g : GE X W k bl) (h : CQ X C W a fa) (h' : CQ X C W b fb) (hm : behindInMarks .In b = false := by with_unfolding_all rfl) : CT X C W (.Compare a [.In] [b] pos) (dB (d2 (gIn false) fa fb)) := ct_cmpR (op_inAll g.hu) u2_in hm h h'
theorem ct_nin (g : GE X W k bl) (h : CQ X C W a fa) (h' : CQ X C W b fb) (hm : behindInMarks .NotIn b = false := by with_unfolding_all rfl) : CT X C W (.Compare a [.NotIn] [b] pos) (dB (d2 (gIn true) fa fb)) := ct_cmpR (op_notInAll g.hu) u2_notIn hm h h'
theorem ce_is (h : CQ X C W a fa) (h' : CQ X C W b fb) : CE X C W (.Compare a [.Is] [b] pos) (d2 gIsN fa fb) := ce_cmpR op_isN1 u2_isN (nomark _) h h'
theorem ct_is (h : CQ X C W a fa) (h' : CQ X C W b fb) : CT X C W (.Compare a [.Is] [b] pos) (dB (d2 gIsN fa fb)) := ct_cmpR op_isN1 u2_isN (nomark _) h h'
theorem ct_isnt (h : CQ X C W a fa) (h' : CQ X C W b fb) : CT X C W (.Compare a [.IsNot] [b] pos) (dB (d2 gNotN fa fb)) := ct_cmpR op_notN1 u2_notN (nomark _) h h'
theorem ct_b (h : CQ X C W e fe) (he : ∀ whole, isTrue e X.env whole = (do let v ← whole; standAt e.pos; holding [v] (truthy v)) := by intro _; rfl) : CT X C W e (dB fe) := let ⟨_, p, q⟩ := h; ⟨_, pt_val p he, jt_b q⟩
theorem ct_tru (h : CQ X C W e fe) (he : ∀ whole, isTrue e X.env whole = (do let v ← whole; standAt e.pos; holding [v] (truthy v)) := by intro _; rfl) : CT X C W e (dTru fe) := let ⟨_, p, q⟩ := h; ⟨_, pt_truth p he, jt_tru q⟩
theorem ct_not (h : CT X C W a f1) : CT X C W (.UnaryOp .Not a pos) (dNot f1) := let ⟨_, p, q⟩ := h; ⟨_, pt_not p, jt_not q⟩
theorem cw_and1 (h : CT X C W a f1) : CW X C W (.BoolOp .And [a] pos) f1 := let ⟨_, p, q⟩ := h; ⟨_, pw_and1 p, q⟩
theorem cw_and (h : CT X C W a f1) (h' : CW X C W (.BoolOp .And (b :: es) pos) f2) : CW X C W (.BoolOp .And (a :: b :: es) pos) (dAnd f1 f2) := let ⟨_, p, q⟩ := h; let ⟨_, p', q'⟩ := h'; ⟨_, pw_and p p', jt_and q q'⟩
theorem cw_or1 (h : CT X C W a f1) : CW X C W (.BoolOp .Or [a] pos) f1 := let ⟨_, p, q⟩ := h; ⟨_, pw_or1 p, q⟩
theorem cw_or (h : CT X C W a f1) (h' : CW X C W (.BoolOp .Or (b :: es) pos) f2) : CW X C W (.BoolOp .Or (a :: b :: es) pos) (dOr f1 f2) := let ⟨_, p, q⟩ := h; let ⟨_, p', q'⟩ := h'; ⟨_, pw_or p p', jt_or q q'⟩
theorem CW.t (h : CW X C W e ft) : CT X C W e ft := let ⟨_, p, q⟩ := h; ⟨_, p.pt, q⟩
theorem ce_and1 {op : BoolOp} (h : CE X C W a fa) : CE X C W (.BoolOp op [a] pos) fa := let ⟨_, p, q⟩ := h; ⟨_, pe_one p, q⟩
theorem ce_and (h : CQ X C W a fa) (h' : CE X C W (.BoolOp .And (b :: es) pos) fb) : CE X C W (.BoolOp .And (a :: b :: es) pos) (dAndV (dB fa) fb) := let ⟨_, p, q⟩ := h; let ⟨_, p', q'⟩ := h'; ⟨_, pe_and p p', je_andV q q'⟩
theorem ce_ix (h : CQ X C W a fa) (h' : CQ X C W b fb) (hp : PlainIx b := by exact fun _ _ => rfl) : CE X C W (.Subscript a b pos) (d2 gIx fa fb) := let ⟨_, p, q⟩ := h; let ⟨_, p', q'⟩ := h'; ⟨_, pe_ix ix_seq p p' hp, je_op u2_ix q q'⟩
theorem co_no : CO X C W none oNo := ⟨_, po_none, jo_no⟩
theorem co_some (h : CQ X C W e fe) : CO X C W (some e) (oSome fe) := let ⟨_, p, q⟩ := h; ⟨_, po_some p, jo_some q⟩
def dSl (fe : DE) (fl fh : DO) : DE := fun xq ρ Q => fe xq ρ fun x => fl xq ρ fun lo => fh xq ρ fun hi => gSl x lo hi Q
def nSl (fe : DE) (fl fh : DO) : DA := fun xq ρ Q => fe xq ρ fun x => fl xq ρ fun lo => fh xq ρ fun hi => gSlN x lo hi Q
theorem ce_sl {lo hi : Option Expr} {fl fh : DO} (h : CQ X C W a fa) (h1 : CO X C W lo fl) (h2 : CO X C W hi fh) : CE X C W (.Subscript a (.Slice lo hi none p2) pos) (dSl fa fl fh) := let ⟨_, p, q⟩ := h; let ⟨_, p', q'⟩ := h1; let ⟨_, p2, q2⟩ := h2; ⟨_, pe_slice sl_all p p' p2, je_sl q q' q2⟩
theorem ca_nil : CA X C W [] dNil 0 := ⟨_, pa_nil, jan_nil⟩
theorem ca_cons (h : CE X C W e fe) (h' : CA X C W es fs n) (hs : starEach (e :: es) X.env = (false, eval e X.env) :: starEach es X.env := by rfl) : CA X C W (e :: es) (dCons fe fs) (n + 1) := let ⟨_, p, q⟩ := h; let ⟨_, p', q'⟩ := h'; ⟨_, pa_cons p p' hs, jan_cons q q'⟩
theorem ce_tup {z : Nat} (h : CA X C W es fs n) (hn : n ≤ sizeLine := by rw [sizeLine_eq]; decide) : CE X C W (.Tuple es z pos) (dTup fs) := let ⟨_, p, q⟩ := h; ⟨_, pe_tup p, je_tup q hn⟩
theorem cn_lst (h : CA X C W es fs n) (hn : n ≤ sizeLine := by rw [sizeLine_eq]; decide) : CN X C W (.List es pos) fs := let ⟨_, p, q⟩ := h; ⟨_, pe_lst p, jn_lst q hn⟩
theorem ce_b1 (g : GE X W k bl) {x : Str} {id : String} {r : List V → Hp → VK → Prop} {gg : D → (D → Prop) → Prop} (hc : CallR X (.builtin id) r) (u : U1 ⟨X.K, C⟩ (fun v H Q => r [v] H Q) gg) (hv : bootBuiltins x = some (.builtin id)) (hb : bl x = true) (h : CQ X C W a fa) (hg : Gl X x) (hn : x ≠ "__name__") (hdb : (x == ("__debug__" : Str)) = false) (he : starEach [a] X.env = (false, eval a X.env) :: starEach [] X.env) : CE X C W (.Call (.Name x p) [a] [] pos) (d1 gg fa) :=
  let ⟨_, p, q⟩ := h; ⟨_, pe_callB hc hg (g.bl _ hb) hv (pa_cons p pa_nil he) hn hdb he rfl, je_cb1 u q⟩
theorem ce_t1 (g : GE X W k bl) {x : Str} {T : String} {r : List V → Hp → VK → Prop} {gg : D → (D → Prop) → Prop} (hc : CallR X (.type T) r) (u : U1 ⟨X.K, C⟩ (fun v H Q => r [v] H Q) gg) (hv : bootBuiltins x = some (.type T)) (hb : bl x = true) (h : CQ X C W a fa) (hg : Gl X x) (hn : x ≠ "__name__") (hdb : (x == ("__debug__" : Str)) = false) (he : starEach [a] X.env = (false, eval a X.env) :: starEach [] X.env) : CE X C W (.Call (.Name x p) [a] [] pos) (d1 gg fa) :=
  let ⟨_, p, q⟩ := h; ⟨_, pe_callTy hc hg (g.bl _ hb) hv (pa_cons p pa_nil he) hn hdb he rfl, je_cb1 u q⟩
theorem ce_len (g : GE X W k bl) (h : CQ X C W a fa) (hb : bl "len" = true := by decide +kernel) (hg : Gl X "len" := by rfl) (he : starEach [a] X.env = (false, eval a X.env) :: starEach [] X.env := by rfl) : CE X C W (.Call (.Name "len" p) [a] [] pos) (d1 gLen fa) := ce_b1 g call_len u1_len boot_len hb h hg (by decide) (by decide) he
theorem ce_int1 (g : GE X W k bl) (h : CQ X C W a fa) (hb : bl "int" = true := by decide +kernel) (hg : Gl X "int" := by rfl) (he : starEach [a] X.env = (false, eval a X.env) :: starEach [] X.env := by rfl) : CE X C W (.Call (.Name "int" p) [a] [] pos) (d1 gInt fa) := ce_t1 g call_int1 u1_int boot_int hb h hg (by decide) (by decide) he
theorem ce_tuple (g : GE X W k bl) (h : CQ X C W a fa) (hb : bl "tuple" = true := by decide +kernel) (hg : Gl X "tuple" := by rfl) (he : starEach [a] X.env = (false, eval a X.env) :: starEach [] X.env := by rfl) : CE X C W (.Call (.Name "tuple" p) [a] [] pos) (d1 gTuple fa) := ce_t1 g call_tuple_of u1_tuple boot_tuple hb h hg (by decide) (by decide) he
theorem ce_all (g : GE X W k bl) (h : CQ X C W a fa) (hb : bl "all" = true := by decide +kernel) (hg : Gl X "all" := by rfl) (he : starEach [a] X.env = (false, eval a X.env) :: starEach [] X.env := by rfl) : CE X C W (.Call (.Name "all" p) [a] [] pos) (d1 gAll fa) := ce_b1 g (cr_all g.calm) u1_all boot_all hb h hg (by decide) (by decide) he
theorem cn_list (g : GE X W k bl) (h : CQ X C W a fa) (hb : bl "list" = true := by decide +kernel) (hg : Gl X "list" := by rfl) (he : starEach [a] X.env = (false, eval a X.env) :: starEach [] X.env := by rfl) : CN X C W (.Call (.Name "list" p) [a] [] pos) (n1 gListN fa) :=
  let ⟨_, p, q⟩ := h; ⟨_, pe_callTy call_list_of hg (g.bl _ hb) boot_list (pa_cons p pa_nil he) (by decide) (by decide) he rfl, jn_cb1 n1_list q⟩
end
def dty : D → String
  | .non => "NoneType"
  | .bl _ => "bool"
  | .int _ => "int"
  | .str _ => "str"
  | .tup _ => "tuple"
  | .lst _ => "list"
  | .scr _ => "list"
  | .rd => "list"
  | .ins _ _ => "?"
  | .nms _ => "tuple"
  | .any => "?"
  | .dic _ => "?"
  | .fr _ => "?"
  | .raw _ => "?"
def kty (t T : String) : Bool := t == T || (t == "bool" && T == "int")
def gIsi (T : String) (d : D) (Q : D → Prop) : Prop := match d with
  | .ins _ _ => False
  | .rd => False
  | .any => False
  | .dic _ => False
  | .fr _ => False
  | .raw _ => False
  | d => Q (.bl (kty (dty d) T))
def Ty5 (T : String) : Prop := ∀ t ∈ ["NoneType", "bool", "int", "str", "tuple", "list"], L2.kitB t T = some (kty t T)
theorem ty_int : Ty5 "int" := by unfold Ty5; decide +kernel
theorem ty_bool : Ty5 "bool" := by unfold Ty5; decide +kernel
theorem ty_str : Ty5 "str" := by unfold Ty5; decide +kernel
theorem ty_tuple : Ty5 "tuple" := by unfold Ty5; decide +kernel
theorem ty_list : Ty5 "list" := by unfold Ty5; decide +kernel
theorem sqT_ty {K : PySem.W.Frag} {H : Hp} {a : Addr} {vs : List V} (h : SqT K H a vs) : TyX K H (.ref a) (.type "tuple") := by
  rcases h with (h | ⟨o, h⟩) | ⟨o, its, n, h, c, _⟩
  · exact .base (.tup h)
  · exact .fTuple h
  · exact .kTuple h c
theorem sqL_ty {K : PySem.W.Frag} {H : Hp} {a : Addr} {vs : List V} (h : SqL K H a vs) : TyX K H (.ref a) (.type "list") := by
  rcases h with (h | ⟨o, h⟩) | ⟨o, its, n, h, c, _⟩
  · exact .base (.lst h)
  · exact .base (.frz h)
  · exact .kList h c
theorem RpQ.ty {Γ : Kx} {G : Hp} {R : Addr → Prop} {H : Hp} {d : D} {v : V} (g : Gd G R H) (r : RpQ Γ G R H d v) (h1 : ∀ c fs, d ≠ .ins c fs) (h2 : d ≠ .rd) (h3 : d ≠ .any) (h4 : (∀ kvs, d ≠ .dic kvs) ∧ (∀ x, d ≠ .fr x) ∧ ∀ x, d ≠ .raw x) : TyX Γ.K H v (.type (dty d)) := by
  cases d with
  | non => rw [r.non]; exact .base .non
  | bl b => rw [r.bl]; exact .base (.bl b)
  | int b => rw [r.int]; exact .base (.int b)
  | str b => rw [r.str]; exact .base (.str b)
  | tup ds => obtain ⟨a, vs, e, s, _⟩ := r.tup g; rw [e]; exact sqT_ty s
  | lst ds => obtain ⟨a, vs, e, s, _⟩ := r.lst g; rw [e]; exact sqL_ty (SqL.of s)
  | scr ds => obtain ⟨a, e, s⟩ := r.scr g; rw [e]; exact sqL_ty s
  | rd => exact absurd rfl h2
  | any => exact absurd rfl h3
  | dic kvs => exact absurd rfl (h4.1 kvs)
  | fr x => exact absurd rfl (h4.2.1 x)
  | raw x => exact absurd rfl (h4.2.2 x)
  | ins c fs => exact absurd rfl (h1 c fs)
  | nms ys =>
    have r' : Rp Γ G R (.nms ys) v := r
    unfold Rp at r'
    obtain ⟨a, its, e, s⟩ := r'
    rw [e]
    exact sqT_ty (.inl (.inr ⟨_, g.sub _ _ s⟩))
theorem dty_mem {d : D} (h1 : ∀ c fs, d ≠ .ins c fs) (h3 : d ≠ .any) (h4 : (∀ kvs, d ≠ .dic kvs) ∧ (∀ x, d ≠ .fr x) ∧ ∀ x, d ≠ .raw x) : dty d ∈ ["NoneType", "bool", "int", "str", "tuple", "list"] := by
  cases d <;> first | (simp [dty]; done) | exact absurd rfl (h1 _ _) | exact absurd rfl h3 | exact absurd rfl (h4.1 _) | exact absurd rfl (h4.2.1 _) | exact absurd rfl (h4.2.2 _)
theorem u1_isi {Γ : Kx} {T : String} (t : Ty5 T) : U1 Γ (fun v H Q => rIsi Γ.K [v, .ty T] H Q) (gIsi T) := fun G R H d v Qd Q gd r1 g k => by
  have hi : (∀ c fs, d ≠ .ins c fs) ∧ d ≠ .rd ∧ d ≠ .any ∧ ((∀ kvs, d ≠ .dic kvs) ∧ (∀ x, d ≠ .fr x) ∧ ∀ x, d ≠ .raw x) ∧ Qd (.bl (kty (dty d) T)) := by
    cases d <;> first | exact g.elim | exact ⟨(fun c fs e => nomatch e), (fun e => nomatch e), (fun e => nomatch e), ⟨(fun _ e => nomatch e), (fun _ e => nomatch e), (fun _ e => nomatch e)⟩, g⟩
  obtain ⟨h1, h2, h3, h4, g⟩ := hi
  exact ⟨v, .ty T, _, _, _, rfl, .ty T, r1.ty gd h1 h2 h3 h4, kit_ty (t _ (dty_mem h1 h3 h4)), k _ G R H _ (Nx.refl gd) rp_bl g⟩
theorem je_isi {Γ : Kx} {W : WX} {te : TE} {fe : DE} {T : String} (t : Ty5 T) (a : JQ Γ W te fe) : JE Γ W (tCB (rIsi Γ.K) (tCons te (tCons (tC (.ty T)) tNil))) (d1 (gIsi T) fe) := fun H0 G R H σ ρ xq Qd Q w x f k =>
  a H0 G R H σ ρ xq _ _ w x f fun v1 G1 R1 H1 d1 n1 r1 q1 => u1_isi t G1 R1 H1 d1 v1 Qd Q n1.gd r1 q1 fun w' G' R' H' c n r q => k w' G' R' H' c (n1.trans n) r q
section
variable {X : Cx} {C : Str → Addr} {W : WX} {k j : Nat} {bl : Str → Bool} {a b c e : Expr} {fa : DE} {pos p p1 p2 : Pos}
theorem ce_isi {x : Str} {T : String} (t : Ty5 T) (hT : bootBuiltins x = some (.type T)) (g : GE X W k bl) (h : CQ X C W a fa) (hb : bl "isinstance" = true := by decide +kernel) (hbT : bl x = true := by decide +kernel) (hg : Gl X "isinstance" := by rfl) (hgT : Gl X x := by rfl) (hn : x ≠ "__name__" := by decide) (hd : (x == ("__debug__" : Str)) = false := by decide)
    (he : starEach [a, .Name x p2] X.env = (false, eval a X.env) :: starEach [.Name x p2] X.env := by rfl) (he' : starEach [.Name x p2] X.env = (false, eval (.Name x p2) X.env) :: starEach [] X.env := by rfl) (hpl : (backTo pos (starEach [.Name x p2] X.env)).any (·.1) = false := by rfl) : CE X C W (.Call (.Name "isinstance" p) [a, .Name x p2] [] pos) (d1 (gIsi T) fa) :=
  let ⟨_, p, q⟩ := h; ⟨_, pe_callB call_isi hg (g.bl _ hb) boot_isinstance (pa_cons p (pa_cons (pe_bltn (v := .ty T) hgT (g.bl _ hbT) hT rfl hn hd) pa_nil he') he) (by decide) (by decide) he hpl, je_isi t q⟩
end
end Dl
namespace Dl
open PySem PySem.Spec PyProof.Rows L2
abbrev W0 : WX := fun _ _ _ _ => False
def tOf (Γ : Kx) (W : WX) (fe : DE) : TE := fun σ H Q => ∃ (H0 G : Hp) (R : Addr → Prop) (ρ : En) (xq : XQ) (Qd : D → Prop), Wd Γ H0 G R H σ ρ ∧ Lk Γ W xq σ G R H ∧ fe xq ρ Qd ∧ ∀ v G' R' H' d, Nx G R H G' R' H' → Rp Γ G' R' d v → Qd d → Q v H'
def tTof (Γ : Kx) (W : WX) (ft : DT) : TT := fun σ H Q => ∃ (H0 G : Hp) (R : Addr → Prop) (ρ : En) (xq : XQ) (Qd : Bool → Prop), Wd Γ H0 G R H σ ρ ∧ Lk Γ W xq σ G R H ∧ ft xq ρ Qd ∧ ∀ b G' R' H', Nx G R H G' R' H' → Qd b → Q b H'
section
variable {X : Cx} {C : Str → Addr} {W : WX} {k j : Nat} {bl : Str → Bool} {a b c e : Expr} {es : List Expr} {fa fb fc fe : DE} {fs : DA} {ft f1 f2 : DT} {pos p p1 p2 : Pos} {n i : Nat}
theorem CE.canon (h : CE X C W e fe) : PE X e (tOf ⟨X.K, C⟩ W fe) := let ⟨t, p, q⟩ := h; ⟨fun pins s σ H Q I ⟨H0, G, R, ρ, xq, Qd, w, x, f, z⟩ => p.run pins s σ H Q I (q H0 G R H σ ρ xq Qd Q w x f z)⟩
theorem je_of {Γ : Kx} : JE Γ W (tOf Γ W fe) fe := fun H0 G R H σ ρ xq Qd Q w x f z => ⟨H0, G, R, ρ, xq, Qd, w, x, f, z⟩
theorem jt_of {Γ : Kx} : JT Γ W (tTof Γ W ft) ft := fun H0 G R H σ ρ xq Qd Q w x f z => ⟨H0, G, R, ρ, xq, Qd, w, x, f, z⟩
def CTs (X : Cx) (C : Str → Addr) (W : WX) (ifs : List Expr) (ft : DT) : Prop := ∃ tt, PTs X ifs tt ∧ JT ⟨X.K, C⟩ W tt ft
theorem cts_nil : CTs X C W [] dYes := ⟨_, pts_nil, jt_yes⟩
theorem CTs.canon (h : CTs X C W es ft) : PTs X es (tTof ⟨X.K, C⟩ W ft) := let ⟨t, p, q⟩ := h; ⟨fun pins s σ H Q I ⟨H0, G, R, ρ, xq, Qd, w, x, f, z⟩ => p.run pins s σ H Q I (q H0 G R H σ ρ xq Qd Q w x f z)⟩
variable {tg iter elt : Expr} {fi : DA}
theorem ci_it (h : CE X C W iter fe) : CI X C W tg iter (iIt fe) := let ⟨_, p, q⟩ := h; ⟨_, pi_seq p, ji_it q⟩
theorem ci_r1 (g : GE X W k bl) (h : CQ X C W a fa) (hb : bl "range" = true := by decide +kernel) (hg : Gl X "range" := by rfl) (hs : starEach [a] X.env = [(false, eval a X.env)] := by rfl) : CI X C W tg (.Call (.Name "range" p) [a] [] pos) (iR1 fa) :=
  let ⟨_, p, q⟩ := h; ⟨_, pi_range1 hg (g.bl _ hb) (pa_cons p pa_nil hs) hs, ji_r1 q⟩
variable {ifs : List Expr} {scope : Scope} {x y : Str} {xp py spos : Pos}
theorem cn_lc (g : GE X W k bl) (hN : X.N.Nodup) (hi : CI X C W (.Name x xp) iter fi) (ok : blkC X.N X.env.scope scope [(x, i)] = true)
    (hg : ∀ (s : Shared) (H : Hp) (Cc : Addr) (cl : List (Str × Addr)) (fp : List Addr), PG (X.blk s H scope (compEnvC scope cl Cc X.env) fp) (.Name x xp) (gName i))
    (ht : ∀ (s : Shared) (H : Hp) (Cc : Addr) (cl : List (Str × Addr)) (fp : List Addr), CTs (X.blk s H scope (compEnvC scope cl Cc X.env) fp) C W0 ifs ft)
    (he : ∀ (s : Shared) (H : Hp) (Cc : Addr) (cl : List (Str × Addr)) (fp : List Addr), CE (X.blk s H scope (compEnvC scope cl Cc X.env) fp) C W0 elt fe) (hs : ∀ x, foldedSetIterable iter X.env x = pure x := by intro _; rfl) :
    CN X C W (.ListComp elt [⟨.Name x xp, iter, ifs, 0⟩] scope pos) (dLc fi i ft fe) :=
  let ⟨_, p, q⟩ := hi; ⟨_, pe_lc g.calm hN p (blkOk_by ok) hg (fun s H Cc cl fp => (ht s H Cc cl fp).canon) (fun s H Cc cl fp => (he s H Cc cl fp).canon) hs, jn_lc q jt_of je_of⟩
structure Cal (P : Program) (w : World) (K : PySem.W.Frag) (mg : Str → Option Value) (base : Heap) (C : Str → Addr) (k : Nat) (x : Str) (S : DF) : Prop where
  ex : ∃ (f : Addr) (fd : FuncData) (ps : List Str), FnOk P w K mg base (L2.CX P w) k f fd ps (spD ⟨K, C⟩ S) ∧ mg x = some (.ref f) ∧ PySem.W.keepIn K (.ref f) = true ∧ Binds K fd ps []
theorem spD_imp {Γ : Kx} {S S' : DF} (h : ∀ ds Q Xq, S' ds Q Xq → S ds Q Xq) (vs : List V) (H : Hp) (Q : VK) (E : XK) (s : spD Γ S' vs H Q E) : spD Γ S vs H Q E := by
  obtain ⟨G, R, ds, Qd, Xq, g, r, s, k1, k2⟩ := s
  exact ⟨G, R, ds, Qd, Xq, g, r, h _ _ _ s, k1, k2⟩
theorem Cal.imp {P : Program} {w : World} {K : PySem.W.Frag} {mg : Str → Option Value} {base : Heap} {S S' : DF} (c : Cal P w K mg base C k x S) (h : ∀ ds Q Xq, S' ds Q Xq → S ds Q Xq) : Cal P w K mg base C k x S' :=
  let ⟨f, fd, ps, F, m, kp, b⟩ := c.ex
  ⟨f, fd, ps, F.imp (spD_imp h), m, kp, b⟩
theorem Cal.mono {P : Program} {w : World} {K : PySem.W.Frag} {mg : Str → Option Value} {base : Heap} {S : DF} (c : Cal P w K mg base C k x S) (h : k ≤ j) : Cal P w K mg base C j x S :=
  let ⟨f, fd, ps, F, m, kp, b⟩ := c.ex
  ⟨f, fd, ps, F.mono h, m, kp, b⟩
theorem ce_call {S : DF} (c : Cal X.prog X.w X.K X.mg X.base C k x S) (g : GE X W j bl) (h : CA X C W (e :: es) fs n) (hk : k ≤ j := by decide) (hg : Gl X x := by rfl)
    (hdb : (x == ("__debug__" : Str)) = false := by decide) (he : starEach (e :: es) X.env = (false, eval e X.env) :: starEach es X.env := by rfl) (hpl : (backTo pos (starEach es X.env)).any (·.1) = false := by rfl) : CE X C W (.Call (.Name x p) (e :: es) [] pos) (dCall S fs) :=
  let ⟨f, fd, ps, F, m, kp, b⟩ := c.ex
  let ⟨_, p, q⟩ := h
  ⟨_, pe_callS F (g.room.mono hk) hg m kp b (fun σ => passAt g.tk σ) p hdb he hpl, je_call q.a⟩
variable {st : Stmt} {sts s1 s2 : List Stmt} {g1 g2 : DS}
theorem css_nil : CSs X C W [] dNext := ⟨_, pss_nil, js_next⟩
theorem css_cons (h : CS X C W st g1) (h' : CSs X C W sts g2) : CSs X C W (st :: sts) (dSeq g1 g2) := let ⟨_, p, q⟩ := h; let ⟨_, p', q'⟩ := h'; ⟨_, pss_cons p p', js_seq q q'⟩
theorem css_one (h : CS X C W st g1) : CSs X C W [st] g1 := let ⟨_, p, q⟩ := h; ⟨_, pss_one p, q⟩
theorem css_frz (i : Nat) (h : CSs X C W sts g1) : CSs X C W sts (dFrz i g1) := let ⟨_, p, q⟩ := h; ⟨_, p, js_frz q⟩
theorem cs_set (i : Nat) (hN : X.N.Nodup) (h : CE X C W e fe) (hi : X.N[i]? = some x := by rfl) (hx : Loc X.env.scope x := by first | exact Or.inl rfl | exact Or.inr rfl) (hs : swapsWith e (some (.Name x p)) pos.line X.env = pure false := by rfl) (hf : X.fn x = true ∨ X.env.scope.names.lookup x = some .local := by first | exact .inl rfl | exact .inr rfl) :
    CS X C W (.Assign [.Name x p] e pos) (dSet i fe) := let ⟨_, p, q⟩ := h; ⟨_, ps_set hN hi hx p hs hf, js_set q⟩
theorem cs_setN (i : Nat) (hN : X.N.Nodup) (h : CN X C W e fs) (hi : X.N[i]? = some x := by rfl) (hx : Loc X.env.scope x := by first | exact Or.inl rfl | exact Or.inr rfl) (hs : swapsWith e (some (.Name x p)) pos.line X.env = pure false := by rfl) (hf : X.fn x = true ∨ X.env.scope.names.lookup x = some .local := by first | exact .inl rfl | exact .inr rfl) :
    CS X C W (.Assign [.Name x p] e pos) (dSetN i fs) := let ⟨_, p, q⟩ := h; ⟨_, ps_set hN hi hx p hs hf, js_setN q⟩
theorem cs_lc {j : Nat} (g : GE X W k bl) (i : Nat) (hN : X.N.Nodup) (hi : CI X C W (.Name x xp) iter fi) (ok : blkC X.N X.env.scope scope [(x, j)] = true)
    (hg : ∀ (s : Shared) (H : Hp) (Cc : Addr) (cl : List (Str × Addr)) (fp : List Addr), PG (X.blk s H scope (compEnvC scope cl Cc X.env) fp) (.Name x xp) (gName j))
    (ht : ∀ (s : Shared) (H : Hp) (Cc : Addr) (cl : List (Str × Addr)) (fp : List Addr), CTs (X.blk s H scope (compEnvC scope cl Cc X.env) fp) C W0 ifs ft)
    (he : ∀ (s : Shared) (H : Hp) (Cc : Addr) (cl : List (Str × Addr)) (fp : List Addr), CE (X.blk s H scope (compEnvC scope cl Cc X.env) fp) C W0 elt fe)
    (hy : X.N[i]? = some y := by rfl) (hyl : X.env.scope.names.lookup y = some .local := by rfl) (hsw : swapsWith (.ListComp elt [⟨.Name x xp, iter, ifs, 0⟩] scope pos) (some (.Name y py)) spos.line X.env = pure true := by exact sw_true rfl rfl rfl (by decide +kernel)) (hs : ∀ x, foldedSetIterable iter X.env x = pure x := by intro _; rfl) :
    CS X C W (.Assign [.Name y py] (.ListComp elt [⟨.Name x xp, iter, ifs, 0⟩] scope pos) spos) (dSet i (dLst (dLc fi j ft fe))) :=
  let ⟨_, p, q⟩ := hi; ⟨_, ps_setLc g.calm hN hy hyl hsw p (blkOk_by ok) hg (fun s H Cc cl fp => (ht s H Cc cl fp).canon) (fun s H Cc cl fp => (he s H Cc cl fp).canon) hs, js_set (jn_lc q jt_of je_of).e⟩
theorem cs_expr (h : CE X C W e fe) (hs : swapsWith e none pos.line X.env = pure false := by rfl) : CS X C W (.Expr e pos) (dExpr fe) := let ⟨_, p, q⟩ := h; ⟨_, ps_expr p hs, js_expr q⟩
theorem cs_ret (h : CE X C W e fe) : CS X C W (.Return (some e) pos) (dRet fe) := let ⟨_, p, q⟩ := h; ⟨_, ps_ret p, js_ret q⟩
theorem cs_retv (h : PE X e (tVar i)) : CS X C W (.Return (some e) pos) (dRetV i) := ⟨_, ps_ret h, js_retV⟩
theorem cs_if (h : CT X C W c ft) (h1 : CSs X C W s1 g1) (h2 : CSs X C W s2 g2) : CS X C W (.If c s1 s2 pos) (dIfS ft g1 g2) := let ⟨_, p, q⟩ := h; let ⟨_, p', q'⟩ := h1; let ⟨_, p2, q2⟩ := h2; ⟨_, ps_if p p' p2, js_if q q' q2⟩
theorem cs_for (g : GS X W k bl) (hg : PG X tg (gName i)) (hi : CI X C W tg iter fi) (hb : CSs X C W s1 g1) (hs : ∀ x, foldedSetIterable iter X.env x = pure x := by intro _; rfl) : CS X C W (.For tg iter s1 [] pos) (dFor fi i g1) :=
  let ⟨_, p, q⟩ := hi; let ⟨_, p', q'⟩ := hb; ⟨_, ps_for g.own g.calm p hg p' hs, js_for q q'⟩
theorem cs_app {o : Expr} {apos cpos : Pos} (i : Nat) (ho : PE X o (tVar i)) (h : CE X C W e fe) (hbase : attributeBase o "append" X.env (eval o X.env) = eval o X.env := by rfl)
    (hfew : ((backTo cpos (starEach [e] X.env)).all (fun x => !x.1) && (backToKw cpos (keywordEach [] X.env)).all (fun x => x.1.isSome) && decide (([e] : List Expr).length + ([] : List Keyword).length + (if ([] : List Keyword).isEmpty then 0 else 1) < 30)) = true := by rfl)
    (hline : (apos.endLine == cpos.line) = true := by rfl) (hs : starEach [e] X.env = (false, eval e X.env) :: starEach [] X.env := by rfl) (hsw : swapsWith (.Call (.Attribute o "append" apos) [e] [] cpos) none pos.line X.env = pure false := by rfl) :
    CS X C W (.Expr (.Call (.Attribute o "append" apos) [e] [] cpos) pos) (dApp i fe) :=
  let ⟨_, p, q⟩ := h; ⟨_, ps_expr (pe_bm PySem.F.plainAttrs_list PySem.F.slot_list_append PySem.F.type_list_append mt_append ho (pa_cons p pa_nil hs) hbase hfew hline hs rfl) hsw, js_app q⟩
end
def kD (Qd : D → Prop) (Xq : XQ) : DK := ⟨fun _ => Qd .non, fun d _ => Qd d, fun _ => False, fun _ => False, fun c fs _ => Xq c fs, fun _ _ _ _ => False⟩
def startD (n : Nat) (ds : List D) : En := ds.map S.fz ++ List.replicate (n - ds.length) S.un
abbrev cxD (P : Program) (w : World) (K : PySem.W.Frag) (mg : Str → Option Value) (base : Heap) (N : List Str) (x : Str) (sc : Scope) (f : Addr) (cdv : Value) (A : Around) (outer : List PySem.Env) (s : Shared) (H : Hp) (E : XK) : Cx := cxOf (L2.CX P w) P w K mg base N x sc f cdv A outer s H E
abbrev wD (E : XK) : WX := fun cls d _ H => E cls d H
theorem start_wd {Γ : Kx} {G : Hp} {R : Addr → Prop} {H : Hp} {N : List Str} {ds : List D} {vs : List V} (g : Gd G R H) (r : RpL Γ G R ds vs) (hl : ds.length ≤ N.length) : Wd Γ H G R H (L2.start N vs) (startD N.length ds) := by
  have e := r.len
  unfold L2.start startD
  refine ⟨g, by simp [e], fun i s q => ?_, fun i j s1 s2 v1 v2 l hij q1 q2 _ _ o1 _ => ?_⟩
  · by_cases hi : i < ds.length
    · rw [List.getElem?_append_left (by simpa using hi), List.getElem?_map, List.getElem?_eq_getElem hi] at q
      cases q
      obtain ⟨v, e2, r2⟩ := r.get (List.getElem?_eq_getElem hi)
      refine ⟨some v, ?_, v, rfl, r2⟩
      rw [List.getElem?_append_left (by rw [List.length_map]; omega), List.getElem?_map, e2]
      rfl
    · rw [List.getElem?_append_right (by simpa using hi)] at q
      have hs : s = .un := List.eq_of_mem_replicate (List.mem_of_getElem? q)
      subst hs
      have hlt := (List.getElem?_eq_some_iff.mp q).1
      simp only [List.length_map, List.length_replicate] at hlt
      refine ⟨none, ?_, True.intro⟩
      rw [List.getElem?_append_right (by rw [List.length_map]; omega), List.length_map, ← e]
      rw [List.getElem?_replicate, if_pos (by omega)]
  · exfalso
    have m := List.mem_of_getElem? q1
    rcases List.mem_append.mp m with m | m
    · obtain ⟨d, _, z⟩ := List.mem_map.mp m
      subst z; exact absurd o1 List.not_mem_nil
    · have := List.eq_of_mem_replicate m
      subst this; exact absurd o1 List.not_mem_nil
theorem dfnF {P : Program} {w : World} {K : PySem.W.Frag} {mg : Str → Option Value} {base : Heap} {C : Str → Addr} {bl : Str → Bool} {x : Str} {params : Arguments} {body : List Stmt} {sc : Scope} {N ps : List Str} {f : Addr} {fd : FuncData} {k : Nat} {S : DF} {fs : DS}
    (F : FunD K x x params body sc [] [] f fd) (Sc : FnScope N ps sc) (hbl : ∀ n, bl n = true → mg n = none) (len : ∀ ds Q Xq, S ds Q Xq → ds.length = ps.length)
    (hbody : ∀ (cdv : Value) (A : Around) (outer : List PySem.Env) (s : Shared) (H : Hp) (E : XK), GS (cxD P w K mg base N x sc f cdv A outer s H E) (wD E) k bl → CSs (cxD P w K mg base N x sc f cdv A outer s H E) C (wD E) body fs)
    (spec : ∀ ds Qd Xq, S ds Qd Xq → fs (kD Qd Xq) (startD N.length ds)) : FnOk P w K mg base (L2.CX P w) (k + 1) f fd ps (spD ⟨K, C⟩ S) := by
  refine F.ok Sc (fun vs H Q E h => ?_) (fun cdv A outer s H vs Q E hr h => ?_)
  · obtain ⟨G, R, ds, Qd, Xq, g, r, q, _⟩ := h
    rw [← r.len]
    exact len _ _ _ q
  · obtain ⟨G, R, ds, Qd, Xq, g, r, q, h1, h2⟩ := h
    have gs : GS (cxD P w K mg base N x sc f cdv A outer s H E) (wD E) k bl := ⟨⟨rfl, hr, takes_of rfl rfl rfl rfl, hbl⟩, passes_of rfl⟩
    obtain ⟨t, p, j⟩ := hbody cdv A outer s H E gs
    refine ⟨t, p, ?_⟩
    have hl : ds.length ≤ N.length := by
      rw [len _ _ _ q]
      have := congrArg List.length Sc.pre
      rw [List.length_take] at this
      omega
    refine j G R H G R H _ _ (kD Qd Xq) _ (Nx.refl g) (start_wd g r hl) ⟨?_, ?_, ?_, ?_, ?_, ?_⟩ (spec ds Qd Xq q)
    · exact fun G' R' H' σ ρ n _ z => h1 .non G' R' H' .non n rp_non z
    · exact fun v d G' R' H' _ _ n _ r' z => h1 v G' R' H' d n r' z
    · exact fun _ _ _ _ _ _ _ z => z.elim
    · exact fun _ _ _ _ _ _ _ z => z.elim
    · exact fun c fs' cls dx G' R' H' σ ρ n _ z e => h2 c fs' G' R' H' cls dx n z e
    · exact fun _ _ _ _ _ _ _ _ _ _ _ _ z => z.elim
theorem dfn {P : Program} {w : World} {K : PySem.W.Frag} {mg : Str → Option Value} {base : Heap} {C : Str → Addr} {bl : Str → Bool} {x : Str} {params : Arguments} {body : List Stmt} {sc : Scope} {N ps : List Str} {f : Addr} {fd : FuncData} {k : Nat} {S : DF} {fs : DS}
    (F : FunD K x x params body sc [] [] f fd) (gf : mg x = some (.ref f)) (Sc : FnScope N ps sc) (hb : Binds K fd ps []) (hbl : ∀ n, bl n = true → mg n = none) (len : ∀ ds Q Xq, S ds Q Xq → ds.length = ps.length)
    (hbody : ∀ (cdv : Value) (A : Around) (outer : List PySem.Env) (s : Shared) (H : Hp) (E : XK), GS (cxD P w K mg base N x sc f cdv A outer s H E) (wD E) k bl → CSs (cxD P w K mg base N x sc f cdv A outer s H E) C (wD E) body fs)
    (spec : ∀ ds Qd Xq, S ds Qd Xq → fs (kD Qd Xq) (startD N.length ds)) : Cal P w K mg base C (k + 1) x S :=
  ⟨f, fd, ps, dfnF F Sc hbl len hbody spec, gf, F.kp, hb⟩
end Dl
namespace Dl
open PySem PySem.Spec PyProof.Rows L2
def dRd (fa : DA) : DE := fun xq ρ Q => fa xq ρ fun ds => (∃ a b c : Int, ds = [.int a, .int b, .int c]) ∧ Q .rd
theorem je_rd {Γ : Kx} {W : WX} {te : TE} {fa : DA} (h : JN Γ W te fa) : JE Γ W te (dRd fa) := fun H0 G R H σ ρ xq Qd Q w x f k =>
  h H0 G R H σ ρ xq _ Q w x f fun l vs G' R' H' ds n e g r h0 rl q => by
    obtain ⟨⟨a, b, c, rfl⟩, q⟩ := q
    have hv : vs = [.int a, .int b, .int c] := by
      unfold RpL at rl
      obtain ⟨v1, r1, rfl, p1, rl⟩ := rl
      unfold RpL at rl
      obtain ⟨v2, r2, rfl, p2, rl⟩ := rl
      unfold RpL at rl
      obtain ⟨v3, r3, rfl, p3, rl⟩ := rl
      unfold RpL at rl
      subst rl
      unfold Rp at p1 p2 p3
      rw [p1, p2, p3]
    subst hv
    refine k (.ref l) G' (fun a => R' a ∨ a = l) H' .rd ⟨n.gg, fun a z => .inl (n.rr a z), ⟨n.gd.sub, fun a z => ?_, fun a z => ?_⟩, n.ev, n.ex, n.fg, fun a z => ?_⟩ ?_ q
    · rcases z with z | rfl
      · exact n.gd.rd a z
      · exact ⟨_, _, _, e⟩
    · rcases z with z | rfl
      · exact n.gd.dis a z
      · exact g
    · rcases z with z | rfl
      · exact n.fr a z
      · exact .inr h0
    · unfold Rp
      exact ⟨l, rfl, .inr rfl⟩
theorem CN.rd {X : Cx} {C : Str → Addr} {W : WX} {e : Expr} {fs : DA} (h : CN X C W e fs) : CE X C W e (dRd fs) := let ⟨t, p, q⟩ := h; ⟨t, p, je_rd q⟩
def dSetIx (s : Nat) (fi fe : DE) : DS := fun k ρ => fe (k.xq ρ) ρ fun d => match ρ[s]? with
  | some (.op ds) => fi (k.xq ρ) ρ fun i => match i with
    | .int z => match ixN ds.length z with
      | some j => k.nx (ρ.set s (.op (ds.set j d)))
      | none => False
    | _ => False
  | some (.fz .rd) => fi (k.xq ρ) ρ fun i => match i, d with
    | .int z, .int _ => 0 ≤ z ∧ z < 3 ∧ k.nx ρ
    | _, _ => False
  | _ => False
theorem RpL.set {Γ : Kx} {G : Hp} {R : Addr → Prop} {ds : List D} {vs : List V} {d : D} {v : V} (r : RpL Γ G R ds vs) (h : Rp Γ G R d v) (j : Nat) : RpL Γ G R (ds.set j d) (vs.set j v) := by
  refine RpL.of_get (by simp [r.len]) fun i d' v' e1 e2 => ?_
  have hl := r.len
  by_cases hj : j = i
  · subst hj
    have hi : j < ds.length := by
      have := (List.getElem?_eq_some_iff.mp e1).1
      rwa [List.length_set] at this
    rw [List.getElem?_set_self hi] at e1
    rw [List.getElem?_set_self (by omega)] at e2
    cases e1
    cases e2
    exact h
  · rw [List.getElem?_set_ne hj] at e1 e2
    obtain ⟨u, e3, q⟩ := r.get e1
    rw [e2] at e3
    cases e3
    exact q
theorem Nx.turn {G0 G : Hp} {R0 R : Addr → Prop} {H0 H : Hp} (n : Nx G0 R0 H0 G R H) {a : Addr} {x y z : Int} (r : R a) : Nx G0 R0 H0 G R (upd H a (.lst [.int x, .int y, .int z])) where
  gg := n.gg
  rr := n.rr
  gd := ⟨fun b o q => by rw [upd_ne (ne_of_none q (n.gd.dis a r))]; exact n.gd.sub b o q, fun b q => by
    by_cases hb : b = a
    · subst hb; exact ⟨x, y, z, upd_same⟩
    · obtain ⟨c, k, m, e⟩ := n.gd.rd b q
      exact ⟨c, k, m, by rw [upd_ne hb]; exact e⟩, n.gd.dis⟩
  ev := fun b o q nb => by
    have ne : b ≠ a := fun e => by
      subst e
      rcases n.fr b r with h | h
      · exact nb h
      · rw [h] at q; cases q
    rw [upd_ne ne]; exact n.ev b o q nb
  ex := fun b o q => by
    by_cases hb : b = a
    · subst hb; exact ⟨_, upd_same⟩
    · rw [upd_ne hb]; exact n.ex b o q
  fg := n.fg
  fr := n.fr
theorem Wd.turn {Γ : Kx} {H0 G : Hp} {R : Addr → Prop} {H : Hp} {σ : St} {ρ : En} (w : Wd Γ H0 G R H σ ρ) {a : Addr} {x y z : Int} (r : R a) : Wd Γ H0 G R (upd H a (.lst [.int x, .int y, .int z])) σ ρ := by
  refine ⟨(Nx.turn (Nx.refl w.gd) r).gd, w.len, fun i s e => ?_, w.dj⟩
  obtain ⟨v, e2, q⟩ := w.sl i s e
  refine ⟨v, e2, ?_⟩
  cases s with
  | un => exact True.intro
  | fz d => exact q
  | op ds =>
    obtain ⟨l, vs, rfl, h, g, nr, h0, rl⟩ := q
    have ne : l ≠ a := fun e => nr (by subst e; exact r)
    exact ⟨l, vs, rfl, by rw [upd_ne ne]; exact h, g, nr, h0, rl⟩
  | io l c fs =>
    obtain ⟨dx, vs, rfl, h, g, nr, h0, rl⟩ := q
    have ne : l ≠ a := fun e => nr (by subst e; exact r)
    exact ⟨dx, vs, rfl, by rw [upd_ne ne]; exact h, g, nr, h0, rl⟩
  | ex l d c fs =>
    obtain ⟨y1, y2⟩ := q
    refine ⟨y1, y2.imp id fun ⟨dd, vs, z1, z2, z3, z4⟩ => ⟨dd, vs, z1, ?_, z3, z4⟩⟩
    rw [upd_ne (fun e => z3 (by subst e; exact r))]
    exact z2
  | ow x as d =>
    obtain ⟨y1, y2, y3⟩ := q
    refine ⟨y1, Ow.mono d x as ⟨fun b o _ h _ g nr => ⟨by rw [upd_ne (fun e => nr (by subst e; exact r))]; exact h, g, nr⟩, fun b o h s => ?_, fun _ h => h, fun _ _ h => h⟩ y2, y3⟩
    rw [upd_ne (fun e => by
      subst e
      obtain ⟨_, _, _, z⟩ := w.gd.rd b r
      rw [h] at z
      cases z
      exact s.elim)]
    exact h
  | se d =>
    obtain ⟨x, y1, y2⟩ := q
    refine ⟨x, y1, Rp.mono (fun b u e => ?_) (fun _ h => h) d x y2⟩
    obtain ⟨e1, e2⟩ := viewO_iff.mp e
    refine viewO_iff.mpr ⟨?_, e2⟩
    rw [upd_ne (fun q => by
      subst q
      rcases e2 with z | z | z
      · rw [w.gd.dis b r] at z; cases z
      · obtain ⟨_, _, _, y⟩ := w.gd.rd b r
        rw [e1] at y
        cases y
        exact z.elim
      · exact z.1 r)]
    exact e1
theorem js_setIx {Γ : Kx} {W : WX} {te ti : TE} {fe fi : DE} {s : Nat} (a : JE Γ W te fe) (b : JQ Γ W ti fi) : JS Γ W (tAsg te (L2.gSub (tVar s) ti rSetL)) (dSetIx s fi fe) := fun G0 R0 H0 G R H σ ρ k D n w e f =>
  a H0 G R H σ ρ _ _ _ w (e.lk n w) f fun v G1 R1 H1 d n1 r1 q1 => by
    have w1 := w.nx n1
    split at q1
    · rename_i ds q
      obtain ⟨v2, e2, l, vs, rfl, h, g, nr, h0, rl⟩ := w1.sl s _ q
      refine ⟨.ref l, e2, b H0 G1 R1 H1 σ ρ _ _ _ w1 (e.lk (n.trans n1) w1) q1 fun vi G2 R2 H2 di n2 r2 q2 => ?_⟩
      obtain ⟨h', g', nr'⟩ := n2.open_ h g nr
      have rl2 := RpL.mono n2.gg n2.rr ds vs rl
      cases di <;> first | exact q2.elim | skip
      rename_i z
      have q2' : match ixN ds.length z with
        | some j => k.nx (List.set ρ s (S.op (ds.set j d)))
        | none => False := q2
      cases hj : ixN ds.length z with
      | none => rw [hj] at q2'; exact q2'.elim
      | some j =>
        rw [hj] at q2'
        refine ⟨l, vs, z, j, rfl, r2.int, h', by rw [← rl2.len]; exact hj, ?_⟩
        exact e.nx G2 R2 _ _ _ (((n.trans n1).trans n2).mut g' nr' h0) ((w1.nx n2).mut q e2 h' g' nr' h0 (rl2.set (Rp.mono n2.gg n2.rr d v r1) j)) q2'
    · rename_i q
      obtain ⟨v2, e2, y, rfl, ry⟩ := w1.sl s _ q
      unfold Rp at ry
      obtain ⟨l, rfl, ra⟩ := ry
      refine ⟨.ref l, e2, b H0 G1 R1 H1 σ ρ _ _ _ w1 (e.lk (n.trans n1) w1) q1 fun vi G2 R2 H2 di n2 r2 q2 => ?_⟩
      split at q2
      · rename_i z y
        obtain ⟨z0, z3, q3⟩ := q2
        have rv : v = .int y := by
          have := r1
          unfold Rp at this
          exact this
        subst rv
        have ra2 := n2.rr l ra
        obtain ⟨x0, x1, x2, hl⟩ := n2.gd.rd l ra2
        have hj : ixN 3 z = some z.toNat := by
          unfold ixN
          rw [if_pos z0, if_pos (by omega)]
        refine ⟨l, _, z, z.toNat, rfl, r2.int, hl, hj, ?_⟩
        have hs : ∃ a b c : Int, [V.int x0, V.int x1, V.int x2].set z.toNat (.int y) = [.int a, .int b, .int c] := by
          have : z = 0 ∨ z = 1 ∨ z = 2 := by omega
          rcases this with rfl | rfl | rfl
          · exact ⟨y, x1, x2, rfl⟩
          · exact ⟨x0, y, x2, rfl⟩
          · exact ⟨x0, x1, y, rfl⟩
        obtain ⟨a', b', c', hs⟩ := hs
        rw [hs]
        exact e.nx G2 R2 _ _ _ (((n.trans n1).trans n2).turn ra2) ((w1.nx n2).turn ra2) q3
      · exact q2.elim
    · exact q1.elim
theorem cs_setix {X : Cx} {C : Str → Addr} {W : WX} {o i e : Expr} {fi fe : DE} {pos p2 : Pos} (s : Nat) (ho : PE X o (tVar s)) (h : CE X C W e fe) (h' : CQ X C W i fi)
    (ha : ∀ v, assign (.Subscript o i p2) X.env v = (do
      let ov ← holding [v] (eval o X.env)
      let iv ← holding [v, ov] (eval i X.env)
      standAt p2
      holding [v, ov, iv] (setItem ov iv v)
      release [v, ov, iv] []) := by intro _; rfl)
    (hs : swapsWithSole [.Subscript o i p2] e pos.line X.env = pure false := by rfl) (hw : swappedStores [.Subscript o i p2] e X.env = pure none := by rfl)
    (h1 : (assignEach [.Subscript o i p2] X.env).map (·.2) = [assign (.Subscript o i p2) X.env] := by rfl) : CS X C W (.Assign [.Subscript o i p2] e pos) (dSetIx s fi fe) :=
  let ⟨_, p, q⟩ := h; let ⟨_, p', q'⟩ := h'; ⟨_, ps_asg p (pg_sub ho p' set_list ha) hs hw h1, js_setIx q q'⟩
end Dl
namespace Dl
open PySem PySem.Spec PyProof.Rows PySem.W PySem.SeqAt PySem.Calls
section
variable {prog : Program} {w : World} {A : Around} {E : Value → Shared → Prop} {s : Shared}
theorem oneLt_tuple {xs ys : List PyData} {a b : Value} {as bs : List Addr} {Q : Bool → Shared → Prop} (ra : Reads s.heap a (.tuple xs) as) (rb : Reads s.heap b (.tuple ys) bs) (hal : alikeAll xs ys = true)
    (hu : A.units + min (PyData.tuple xs).depth (PyData.tuple ys).depth < cLine) (hq : Q (dataLt (.tuple xs) (.tuple ys)) s) : wpAny (model prog w) A (oneLt' true a b) Q E s := by
  cases ra with
  | @tuple l o vs n _ as₁ h1 h2 h3 h4 =>
    cases rb with
    | @tuple l' o' vs' n' _ bs₁ k1 k2 k3 k4 =>
      have n1 : vs.size = xs.length := by simpa using ReadsAll.length _ _ _ h4
      have n2 : vs'.size = ys.length := by simpa using ReadsAll.length _ _ _ k4
      rw [dataLt_tuple, ← firstLt_toks xs ys hal, ← n1, ← n2] at hq
      rw [oneLt'_eq]
      simp only [if_true]
      refine wpAny_bind (wpAny_cRoomFor (room_here hu) ?_)
      obtain ⟨cls, dd, data, sl⟩ := o
      obtain ⟨cls2, dd2, data2, sl2⟩ := o'
      simp only at h2 h3 k2 k3
      subst h2 h3 k2 k3
      refine wpAny_bind (wpAny_callSpecialIfBound?_slot (T := "tuple") ⟨_, h1, rfl⟩ F.slot_tuple_lt (call_meets F.slot_tuple_lt ⟨_, h1, rfl⟩ F.entry_tuple_lt (F.args_tuple_lt_2 _ _) (SeqAt.tuple_ltAt l l' vs vs' n n' dd dd2 sl sl2 (pairEq xs ys) (fun j => dataLt (xs.getD j .none) (ys.getD j .none))) ⟨h1, k1, fun j j1 j2 => ?_, fun j j1 j2 hj => ?_, ?_⟩))
      · have := eqAt_alikeAll xs ys A.in1 s vs.toList vs'.toList _ _ h4 k4 hal (room_in hu) j (by simpa using j1) (by simpa using j2)
        simpa using this
      · have := rcLt_alikeAll xs ys A.in1 s vs.toList vs'.toList _ _ h4 k4 hal (room_in hu) j (by simpa using j1) (by simpa using j2) hj
        simpa using this
      · exact wpAny_truthy_bool hq
def neT : PyData → Bool
  | .tuple (_ :: _) => true
  | _ => false
end
section
variable {M : Model} {A : Around} {E : Value → Shared → Prop} {s : Shared}
theorem mix_firsts : ∀ {vs : List Value} {ds : List PyData}, EachIs (fun v d => ∃ as, Reads s.heap v d as) vs ds → (∀ d ∈ ds, ∃ xs, d = .tuple xs) → ∃ os : List (Option Value), os.map Option.isSome = ds.map neT ∧ ∀ {Q : List (Option Value) → Shared → Prop}, Q os s → wpAny M A (vs.mapM firstOfTuple') Q E s
  | _, _, .nil, _ => ⟨[], rfl, fun h => by rw [List.mapM_nil]; exact wpAny_pure h⟩
  | _, _, .cons (b := d) ⟨as, r⟩ t, ht => by
    obtain ⟨os, e, k⟩ := mix_firsts t fun d hd => ht d (List.mem_cons_of_mem _ hd)
    obtain ⟨xs, rfl⟩ := ht d (List.mem_cons_self ..)
    cases r with
    | @tuple l o vs n _ as₁ h1 h2 h3 h4 =>
      refine ⟨vs[0]? :: os, ?_, fun {Q} h => ?_⟩
      · rw [List.map_cons, List.map_cons, e]
        congr 1
        have n1 : vs.size = xs.length := by simpa using ReadsAll.length _ _ _ h4
        cases xs with
        | nil =>
          have : vs[0]? = none := by rw [Array.getElem?_eq_none_iff]; rw [n1]; exact Nat.le_refl _
          rw [this]
          rfl
        | cons x xs =>
          have h0 : 0 < vs.size := by rw [n1]; exact Nat.succ_pos _
          rw [Array.getElem?_eq_getElem h0]
          rfl
      · rw [List.mapM_cons]
        refine wpAny_bind ?_
        rw [kas_first_eq]
        refine wpAny_bind (Looks.here (show Looks M s.heap (typeOf (.ref l)) o.cls from (Looks.ld h1).andThen .now) ?_)
        rw [h2, if_neg (by first | decide | simp)]
        refine wpAny_bind (listItems_at h1 h3 (wpAny_pure ?_))
        exact wpAny_bind (k (Q := fun bs s' => wpAny M A (pure (vs[0]? :: bs)) Q E s') (wpAny_pure h))
theorem mix_kind {vs : List Value} {d0 : PyData} {ds : List PyData} {Q : SortKind → Shared → Prop} (e : EachIs (fun v d => ∃ as, Reads s.heap v d as) vs (d0 :: ds)) (ht : ∀ d ∈ d0 :: ds, ∃ xs, d = .tuple xs) (hm : ∃ d ∈ d0 :: ds, neT d = false)
    (h : Q (if neT d0 = true then general' else oneType') s) : wpAny M A (keyKind' vs.toArray) Q E s := by
  obtain ⟨os, eo, k⟩ := mix_firsts (M := M) (A := A) (E := E) e ht
  obtain ⟨o0, or, rfl⟩ : ∃ o0 or, os = o0 :: or := by
    cases os with
    | nil => simp at eo
    | cons a b => exact ⟨a, b, rfl⟩
  rw [List.map_cons, List.map_cons] at eo
  have e0 : o0.isSome = neT d0 := (List.cons.inj eo).1
  rw [kat_kind_eq, List.mapM_toArray, map_eq_pure_bind]
  refine wpAny_bind (wpAny_bind (k (wpAny_pure ?_)))
  have hall : ¬ ((o0 :: or).toArray.all fun x => x.isSome) = true := by
    intro q
    simp only [List.all_toArray, List.all_eq_true] at q
    obtain ⟨d, hd, hn⟩ := hm
    have : neT d ∈ (d0 :: ds).map neT := List.mem_map.mpr ⟨d, hd, rfl⟩
    rw [List.map_cons, ← eo, ← List.map_cons (f := Option.isSome)] at this
    obtain ⟨o, ho, he⟩ := List.mem_map.mp this
    rw [q o ho, hn] at he
    cases he
  rw [if_neg hall]
  have h0 : ((o0 :: or).toArray[0]?.bind id).isSome = neT d0 := by rw [← e0]; simp
  rw [h0]
  cases hd : neT d0 with
  | true =>
    rw [hd, if_pos rfl] at h
    simp only [if_true]
    exact wpAny_pure h
  | false =>
    rw [hd, if_neg Bool.false_ne_true] at h
    simp only [Bool.false_eq_true, if_false]
    rw [oneTypeOnly'_eq, List.mapM_toArray, map_eq_pure_bind]
    have hT : ∀ v ∈ vs, Looks M s.heap (typeOf v) (Value.type "tuple") := fun v hv => by
      obtain ⟨d, hd, as, r⟩ := e.left v hv
      obtain ⟨xs, rfl⟩ := ht d hd
      exact looks_reads r
    refine wpAny_bind (wpAny_bind (wpAny_bind (kas_mapM (r := Value.type "tuple") _ (fun v hv Q' hq => (hT v hv).here hq) (wpAny_pure ?_))))
    have hall2 : ((List.map (fun _ => Value.type "tuple") vs).toArray.all fun x => x == Value.type "tuple") = true := by
      simp only [List.all_toArray, List.all_map, List.all_eq_true]
      intro _ _
      exact beq_self_eq_true _
    have hv : ∃ v vr, vs = v :: vr := by
      cases e with
      | cons _ _ => exact ⟨_, _, rfl⟩
    obtain ⟨v, vr, rfl⟩ := hv
    have h0' : (List.map (fun _ => Value.type "tuple") (v :: vr)).toArray[0]? = some (Value.type "tuple") := by simp
    rw [h0']
    simp only [hall2, if_true]
    exact wpAny_pure (wpAny_pure h)
end
def Sortable2 (ds : List PyData) : Prop := Sortable ds ∨ ∀ d, d ∈ ds → ∃ xs, d = .tuple xs
theorem SortsAt.any {prog : Program} {w : World} {A : Around} {s : Shared} {vs : List Value} {ds : List PyData} (e : EachIs (fun v d => ∃ as, Reads s.heap v d as) vs ds) (hal : AllAlike ds) (hk : Sortable2 ds) (hu : ∀ d, d ∈ ds → A.units + d.depth < cLine) : SortsAt prog w A s (dataKind s.heap ds) vs := by
  rcases hk with hk | ht
  · exact SortsAt.data e hal hk hu
  by_cases hm : ∃ d ∈ ds, neT d = false
  · have room : ∀ {d d' : PyData}, d ∈ ds → A.units + min d.depth d'.depth < cLine := fun {d d'} hd => Nat.lt_of_le_of_lt (Nat.add_le_add_left (Nat.min_le_left _ _) _) (hu d hd)
    refine ⟨fun v hv => ?_, ?_⟩
    · obtain ⟨d, hd, as, r⟩ := e.left v hv
      exact ⟨_, dataKind_some hal hd r⟩
    · obtain ⟨d0, dr, rfl⟩ : ∃ d0 dr, ds = d0 :: dr := by
        obtain ⟨d, hd, _⟩ := hm
        cases ds with
        | nil => exact absurd hd List.not_mem_nil
        | cons a b => exact ⟨a, b, rfl⟩
      refine ⟨if neT d0 = true then general' else oneType', ?_, fun h2 E Q hq => mix_kind e ht hm hq⟩
      intro E x y a b Q ha hb hq
      obtain ⟨d, as, hd, ra, rfl⟩ := dataKind_inv ha
      obtain ⟨d', as', hd', rb, rfl⟩ := dataKind_inv hb
      have hdd := hal d hd d' hd'
      have hroom := room (d' := d') hd
      split
      · show wpAny _ _ (oneLt' false x y) _ _ _
        refine oneLt_alike (fun q => nomatch q) ra rb hdd ?_ hroom hq
        obtain ⟨xs, rfl⟩ := ht d hd
        exact fun q => nomatch q
      · rw [keyLt'_oneType]
        obtain ⟨xs, rfl⟩ := ht d hd
        obtain ⟨ys, rfl⟩ := ht d' hd'
        exact oneLt_tuple ra rb (by simpa [alike] using hdd) hroom hq
  · refine SortsAt.data e hal (.inl fun d hd => ?_) hu
    obtain ⟨xs, rfl⟩ := ht d hd
    cases xs with
    | nil => exact absurd ⟨_, hd, rfl⟩ hm
    | cons x xs => exact ⟨x, xs, rfl⟩
end Dl
namespace Dl
open PySem PySem.Spec PyProof.Rows L2
abbrev gMul := gI2 CMul fun i j => .int (i * j)
abbrev gFdiv := gI2 CDiv fun i j => .int (i / j)
abbrev gMod := gI2 (fun _ j => 0 < j) fun i j => .int (i % j)
abbrev gPow := gI2 CPow fun i j => .int (i ^ j.toNat)
def gRevN (x : D) (Q : List D → Prop) : Prop := match x with
  | .lst ds => Q ds.reverse
  | _ => False
theorem RpL.rev {Γ : Kx} {G : Hp} {R : Addr → Prop} : ∀ {ds : List D} {vs : List V}, RpL Γ G R ds vs → RpL Γ G R ds.reverse vs.reverse
  | [], vs, h => by unfold RpL at h; subst h; exact RpL.nil
  | d :: ds, vs, h => by
    unfold RpL at h
    obtain ⟨v, r, rfl, h1, h2⟩ := h
    rw [List.reverse_cons, List.reverse_cons]
    exact (RpL.rev h2).append (RpL.cons h1 RpL.nil)
theorem jn_u {Γ : Kx} {W : WX} {ta : TE} {fa : DE} {r : V → Hp → VK → Prop} {g : D → (List D → Prop) → Prop} (u : N1 Γ r g) (a : JQ Γ W ta fa) : JN Γ W (fun σ H Q => ta σ H fun x H1 => r x H1 Q) (n1 g fa) :=
  jn_cb1 (r := fun vs H Q => match vs with
    | [v] => r v H Q
    | _ => False) u a
def pyD (d : D) : PyData := (py d).getD .none
def dle : D → D → Bool := PySem.W.dataLe false pyD
structure SortOk (ds : List D) : Prop where
  ok : ∀ d ∈ ds, eqOk d = true
  al : PySem.W.AllAlike (ds.map pyD)
  so : Sortable2 (ds.map pyD)
theorem readsAll_of {X : Cx} {pins : List (Addr × Obj)} {σ : St} {H : Hp} {s : Shared} (I : Inv X pins σ H s) : ∀ {xs : List V} {its : List Value} {ds : List D}, Vals xs its → DpAll X.K H xs (ds.map pyD) →
    PySem.W.EachIs (fun u (z : V × D) => RelV z.1 u) its (xs.zip ds) ∧ PySem.W.EachIs (fun u (z : V × D) => ∃ as, Reads s.heap u (pyD z.2) as) its (xs.zip ds)
  | _, _, [], .nil, _ => ⟨.nil, .nil⟩
  | _, _, d :: ds, .nil, h => by cases h
  | _, _, [], .cons _ _, h => by cases h
  | _, _, d :: ds, .cons r t, h => by
    have h' : DpAll X.K H _ (pyD d :: ds.map pyD) := h
    cases h' with
    | cons h1 h2 =>
      obtain ⟨a, b⟩ := readsAll_of I t h2
      exact ⟨.cons r a, .cons (Dp.reads I _ _ _ h1 r) b⟩
theorem zip_enc : ∀ {xs : List V} {ds : List D}, xs.length = ds.length → (xs.zip ds).map (fun z => pyD z.2) = ds.map pyD
  | [], [], _ => rfl
  | [], _ :: _, h => by simp at h
  | _ :: _, [], h => by simp at h
  | x :: xs, d :: ds, h => by
    rw [List.zip_cons_cons, List.map_cons, List.map_cons, zip_enc (by simpa using h)]
theorem dpAll_len {K : PySem.W.Frag} {H : Hp} : ∀ {xs : List V} {ps : List PyData}, DpAll K H xs ps → xs.length = ps.length
  | _, _, .nil => rfl
  | _, _, .cons _ t => by rw [List.length_cons, List.length_cons, dpAll_len t]
theorem each_vals {out : List Value} : ∀ {zs : List (V × D)}, PySem.W.EachIs (fun u (z : V × D) => RelV z.1 u) out zs → Vals (zs.map Prod.fst) out := fun {zs} h => by
  induction h with
  | nil => exact .nil
  | cons h t ih => exact .cons h ih
theorem eqOk_depth {d : D} (h : eqOk d = true) : py d = some (pyD d) ∧ (pyD d).depth ≤ 64 := by
  obtain ⟨p, e, s⟩ := eqOk_py h
  unfold pyD
  rw [e]
  refine ⟨rfl, ?_⟩
  unfold SeqAt.shaped at s
  rw [Bool.and_eq_true] at s
  exact of_decide_eq_true s.2
theorem dpAll_of {Γ : Kx} {G : Hp} {R : Addr → Prop} {G' : Hp} (g : Same G G') : ∀ {ds : List D} {vs : List V}, RpL Γ G R ds vs → (∀ d ∈ ds, eqOk d = true) → DpAll Γ.K G' vs (ds.map pyD)
  | [], vs, h, _ => by unfold RpL at h; subst h; exact .nil
  | d :: ds, vs, h, o => by
    unfold RpL at h
    obtain ⟨v, r, rfl, h1, h2⟩ := h
    exact .cons (Rp.dp d v _ (Rp.mono g (fun _ h => h) d v h1) (eqOk_depth (o d (List.mem_cons_self ..))).1) (dpAll_of g h2 fun e he => o e (List.mem_cons_of_mem _ he))
end Dl
namespace Dl
open PySem L2
def Eo (n : Nat) (d : D) : Prop := ∃ p, py d = some p ∧ p.canLay0 = true ∧ p.depth ≤ n
theorem Eo.ok {n : Nat} {d : D} (h : Eo n d) (hn : n ≤ 64 := by omega) : eqOk d = true := by
  obtain ⟨p, e, c, dp⟩ := h
  unfold eqOk
  rw [e]
  show SeqAt.shaped p = true
  unfold SeqAt.shaped
  rw [c, decide_eq_true (Nat.le_trans dp hn)]
  rfl
theorem Eo.mono {n m : Nat} {d : D} (h : Eo n d) (hn : n ≤ m) : Eo m d := let ⟨p, e, c, dp⟩ := h; ⟨p, e, c, Nat.le_trans dp hn⟩
theorem eo_int (n : Nat) (i : Int) : Eo n (.int i) := ⟨.int i, by unfold py; rfl, by simp [PyData.canLay0], by simp [PyData.depth]⟩
theorem eo_bl (n : Nat) (i : Bool) : Eo n (.bl i) := ⟨.bool i, by unfold py; rfl, by simp [PyData.canLay0], by simp [PyData.depth]⟩
theorem eo_non (n : Nat) : Eo n .non := ⟨.none, by unfold py; rfl, by simp [PyData.canLay0], by simp [PyData.depth]⟩
theorem eo_str (n : Nat) (s : Str) (h : (PyData.str s).canLay0 = true) : Eo n (.str s) := ⟨.str s, by unfold py; rfl, h, by simp [PyData.depth]⟩
theorem eo_all {n : Nat} : ∀ {ds : List D}, (∀ d ∈ ds, Eo n d) → ∃ ps, pyL ds = some ps ∧ PyData.canLayAll0 ps = true ∧ PyData.depthAll ps ≤ n
  | [], _ => ⟨[], by unfold pyL; rfl, by simp [PyData.canLayAll0], by simp [PyData.depthAll]⟩
  | d :: ds, h => by
    obtain ⟨p, e, c, dp⟩ := h d (List.mem_cons_self ..)
    obtain ⟨ps, e2, c2, dp2⟩ := eo_all fun x hx => h x (List.mem_cons_of_mem _ hx)
    refine ⟨p :: ps, by unfold pyL; rw [e, e2], by simp [PyData.canLayAll0, c, c2], ?_⟩
    simp only [PyData.depthAll]
    omega
theorem eo_tup {n : Nat} {ds : List D} (h : ∀ d ∈ ds, Eo n d) : Eo (n + 1) (.tup ds) := by
  obtain ⟨ps, e, c, dp⟩ := eo_all h
  refine ⟨.tuple ps, by unfold py; rw [e]; rfl, by simp [PyData.canLay0, c], ?_⟩
  simp only [PyData.depth]
  omega
theorem eo_lst {n : Nat} {ds : List D} (h : ∀ d ∈ ds, Eo n d) : Eo (n + 1) (.lst ds) := by
  obtain ⟨ps, e, c, dp⟩ := eo_all h
  refine ⟨.list ps, by unfold py; rw [e]; rfl, by simp [PyData.canLay0, c], ?_⟩
  simp only [PyData.depth]
  omega
def deqL : List D → List D → Bool
  | [], [] => true
  | x :: xs, y :: ys => deq x y && deqL xs ys
  | _, _ => false
theorem deq_py {n : Nat} {d e : D} {p q : PyData} (h : py d = some p) (h' : py e = some q) : deq d e = PyData.eqv p q := by
  unfold deq; rw [h, h']
theorem deqL_py : ∀ {ds es : List D} {ps qs : List PyData}, pyL ds = some ps → pyL es = some qs → deqL ds es = PyData.eqvAll ps qs
  | [], [], ps, qs, h, h' => by unfold pyL at h h'; cases h; cases h'; simp [deqL, PyData.eqvAll]
  | [], e :: es, ps, qs, h, h' => by
    unfold pyL at h h'
    cases h
    cases q1 : py e <;> cases q2 : pyL es <;> rw [q1, q2] at h' <;> cases h'
    simp [deqL, PyData.eqvAll]
  | d :: ds, [], ps, qs, h, h' => by
    unfold pyL at h h'
    cases h'
    cases q1 : py d <;> cases q2 : pyL ds <;> rw [q1, q2] at h <;> cases h
    simp [deqL, PyData.eqvAll]
  | d :: ds, e :: es, ps, qs, h, h' => by
    unfold pyL at h h'
    cases q1 : py d <;> cases q2 : pyL ds <;> rw [q1, q2] at h <;> cases h
    cases q3 : py e <;> cases q4 : pyL es <;> rw [q3, q4] at h' <;> cases h'
    simp only [deqL, PyData.eqvAll]
    rw [deq_py (n := 0) q1 q3, deqL_py q2 q4]
theorem deq_tup {n m : Nat} {ds es : List D} (h : ∀ d ∈ ds, Eo n d) (h' : ∀ d ∈ es, Eo m d) : deq (.tup ds) (.tup es) = deqL ds es := by
  obtain ⟨ps, e, _⟩ := eo_all h
  obtain ⟨qs, e', _⟩ := eo_all h'
  rw [deq_py (n := 0) (d := .tup ds) (e := .tup es) (p := .tuple ps) (q := .tuple qs) (by unfold py; rw [e]; rfl) (by unfold py; rw [e']; rfl), deqL_py e e']
  simp [PyData.eqv]
theorem deq_lst {n m : Nat} {ds es : List D} (h : ∀ d ∈ ds, Eo n d) (h' : ∀ d ∈ es, Eo m d) : deq (.lst ds) (.lst es) = deqL ds es := by
  obtain ⟨ps, e, _⟩ := eo_all h
  obtain ⟨qs, e', _⟩ := eo_all h'
  rw [deq_py (n := 0) (d := .lst ds) (e := .lst es) (p := .list ps) (q := .list qs) (by unfold py; rw [e]; rfl) (by unfold py; rw [e']; rfl), deqL_py e e']
  simp [PyData.eqv]
theorem deq_int (i j : Int) : deq (.int i) (.int j) = decide (i = j) := by
  rw [deq_py (n := 0) (p := .int i) (q := .int j) (by unfold py; rfl) (by unfold py; rfl)]
  simp only [PyData.eqv]
  by_cases h : i = j <;> simp [h]
theorem deq_str (i j : Str) : deq (.str i) (.str j) = decide (i = j) := by
  rw [deq_py (n := 0) (p := .str i) (q := .str j) (by unfold py; rfl) (by unfold py; rfl)]
  simp only [PyData.eqv]
  by_cases h : i = j <;> simp [h]
theorem deq_bl (i j : Bool) : deq (.bl i) (.bl j) = decide (i = j) := by
  rw [deq_py (n := 0) (p := .bool i) (q := .bool j) (by unfold py; rfl) (by unfold py; rfl)]
  simp only [PyData.eqv]
  cases i <;> cases j <;> rfl
structure Enc {α : Type} [DecidableEq α] (f : α → D) (n : Nat) : Prop where
  eo : ∀ a, Eo n (f a)
  eq : ∀ a b, deq (f a) (f b) = decide (a = b)
section
variable {α β : Type} [DecidableEq α] [DecidableEq β] {f : α → D} {g : β → D} {n m : Nat}
theorem enc_int : Enc D.int 0 := ⟨fun i => eo_int 0 i, deq_int⟩
theorem enc_bl : Enc D.bl 0 := ⟨fun i => eo_bl 0 i, deq_bl⟩
theorem Enc.mono (h : Enc f n) (hn : n ≤ m) : Enc f m := ⟨fun a => (h.eo a).mono hn, h.eq⟩
theorem Enc.all (h : Enc f n) (l : List α) : ∀ d ∈ l.map f, Eo n d := fun d hd => by
  obtain ⟨a, _, rfl⟩ := List.mem_map.mp hd
  exact h.eo a
theorem Enc.deqL (h : Enc f n) : ∀ l k : List α, deqL (l.map f) (k.map f) = decide (l = k)
  | [], [] => rfl
  | [], _ :: _ => rfl
  | _ :: _, [] => rfl
  | a :: l, b :: k => by
    show (deq (f a) (f b) && Dl.deqL (l.map f) (k.map f)) = _
    rw [h.eq, Enc.deqL h l k]
    by_cases h1 : a = b <;> by_cases h2 : l = k <;> simp [h1, h2]
theorem Enc.tup (h : Enc f n) : Enc (fun l : List α => D.tup (l.map f)) (n + 1) := ⟨fun l => eo_tup (h.all l), fun l k => by rw [deq_tup (h.all l) (h.all k), h.deqL]⟩
theorem Enc.lst (h : Enc f n) : Enc (fun l : List α => D.lst (l.map f)) (n + 1) := ⟨fun l => eo_lst (h.all l), fun l k => by rw [deq_lst (h.all l) (h.all k), h.deqL]⟩
theorem Enc.any (h : Enc f n) (l : List α) (a : α) : ((l.map f).any fun z => deq z (f a)) = decide (a ∈ l) := by
  induction l with
  | nil => rfl
  | cons b l ih =>
    rw [List.map_cons, List.any_cons, ih, h.eq]
    by_cases h1 : b = a
    · subst h1; simp
    · have h2 : ¬ a = b := fun e => h1 e.symm
      simp [h1, h2]
end
structure Ord {α : Type} (f : α → D) (le : α → α → Bool) (n : Nat) : Prop where
  eo : ∀ a, Eo n (f a)
  al : ∀ a b, PySem.W.alike (pyD (f a)) (pyD (f b)) = true
  le : ∀ a b, dle (f a) (f b) = le a b
def Full {α : Type} (f : α → D) : Prop := (∀ a, ∃ x r, pyD (f a) = .tuple (x :: r)) ∨ (∀ a, pyD (f a) ≠ .none ∧ ∀ xs, pyD (f a) ≠ .tuple xs) ∨ ∀ a, ∃ xs, pyD (f a) = .tuple xs
section
variable {α : Type} {f : α → D} {le : α → α → Bool} {n : Nat}
theorem Ord.sortOk (h : Ord f le n) (u : Full f) (l : List α) (hn : n ≤ 64 := by omega) : SortOk (l.map f) := by
  refine ⟨fun d hd => ?_, fun p hp q hq => ?_, ?_⟩
  · obtain ⟨a, _, rfl⟩ := List.mem_map.mp hd
    exact (h.eo a).ok hn
  · obtain ⟨d, hd, rfl⟩ := List.mem_map.mp hp
    obtain ⟨e, he, rfl⟩ := List.mem_map.mp hq
    obtain ⟨a, _, rfl⟩ := List.mem_map.mp hd
    obtain ⟨b, _, rfl⟩ := List.mem_map.mp he
    exact h.al a b
  · rcases u with u | u | u
    · refine .inl (.inl fun p hp => ?_)
      obtain ⟨d, hd, rfl⟩ := List.mem_map.mp hp
      obtain ⟨a, _, rfl⟩ := List.mem_map.mp hd
      exact u a
    · refine .inl (.inr fun p hp => ?_)
      obtain ⟨d, hd, rfl⟩ := List.mem_map.mp hp
      obtain ⟨a, _, rfl⟩ := List.mem_map.mp hd
      exact u a
    · refine .inr fun p hp => ?_
      obtain ⟨d, hd, rfl⟩ := List.mem_map.mp hp
      obtain ⟨a, _, rfl⟩ := List.mem_map.mp hd
      exact u a
end
theorem pyD_int (i : Int) : pyD (.int i) = .int i := by unfold pyD py; rfl
theorem dle_eq (x y : D) : dle x y = !(PySem.W.dataLt (pyD y) (pyD x)) := rfl
theorem ord_int : Ord D.int (fun a b => decide (a ≤ b)) 0 := ⟨fun i => eo_int 0 i, fun a b => by rw [pyD_int, pyD_int]; simp [PySem.W.alike], fun a b => by
  rw [dle_eq, pyD_int, pyD_int, PySem.W.dataLt_int, PySem.W.not_lt_int]⟩
theorem full_int : Full D.int := .inr (.inl fun a => by rw [pyD_int]; exact ⟨by simp, by simp⟩)
abbrev tI (l : List Int) : D := .tup (l.map .int)
abbrev lI (l : List Int) : D := .lst (l.map .int)
end Dl
namespace Dl
open PySem L2
theorem for_ind {α : Type} (f : α → D) {fb : DS} {i : Nat} {k : DK} {ρ : En} (l : List α) (Inv : List α → List α → En → Prop) (h0 : Inv [] l ρ)
    (step : ∀ pre a post ρ (N : En → Prop), l = pre ++ a :: post → Inv pre (a :: post) ρ → (∀ ρ', Inv (pre ++ [a]) post ρ' → N ρ') → fb { k with nx := N, ct := N, bk := k.nx } (ρ.set i (.fz (f a))))
    (hend : ∀ ρ, Inv l [] ρ → k.nx ρ) : forLoop fb i k (l.map f) ρ := by
  have go : ∀ (post pre : List α) (ρ : En), l = pre ++ post → Inv pre post ρ → forLoop fb i k (post.map f) ρ := by
    intro post
    induction post with
    | nil =>
      intro pre ρ e h
      rw [List.append_nil] at e
      subst e
      exact hend ρ h
    | cons a post ih =>
      intro pre ρ e h
      rw [List.map_cons]
      unfold forLoop
      exact step pre a post ρ _ e h fun ρ' h' => ih (pre ++ [a]) ρ' (by rw [e]; simp) h'
  exact go l [] ρ rfl h0
theorem for_rng {fb : DS} {i : Nat} {k : DK} {ρ : En} {lo : Int} {n : Nat} (Inv : Nat → En → Prop) (h0 : Inv 0 ρ)
    (step : ∀ j ρ (N : En → Prop), j < n → Inv j ρ → (∀ ρ', Inv (j + 1) ρ' → N ρ') → fb { k with nx := N, ct := N, bk := k.nx } (ρ.set i (.fz (.int (lo + (j : Int))))))
    (hend : ∀ ρ, Inv n ρ → k.nx ρ) : forLoop fb i k (rng lo n) ρ := by
  unfold rng
  refine for_ind (fun (j : Nat) => D.int (lo + (j : Int))) (List.range n) (fun pre post ρ => Inv pre.length ρ ∧ pre.length + post.length = n) ⟨h0, by simp⟩ (fun pre a post ρ N e h hN => ?_) (fun ρ h => ?_)
  · have ha : a = pre.length := by
      have h1 : (List.range n)[pre.length]? = some a := by rw [e]; simp
      have h2 : pre.length < n := by have := h.2; simp at this; omega
      rw [List.getElem?_range h2] at h1
      exact (Option.some.inj h1).symm
    subst ha
    have h2 : pre.length < n := by have := h.2; simp at this; omega
    exact step pre.length ρ N h2 h.1 fun ρ' h' => hN ρ' ⟨by simpa using h', by have := h.2; simp at this ⊢; omega⟩
  · have := h.1
    rw [List.length_range] at this
    exact hend ρ this
def Is (fe : DE) (ρ : En) (d : D) : Prop := ∀ xq Q, Q d → fe xq ρ Q
def IsT (ft : DT) (ρ : En) (b : Bool) : Prop := ∀ xq (Q : Bool → Prop), Q b → ft xq ρ Q
theorem isT_yes {ρ : En} : IsT dYes ρ true := fun _ _ q => q
theorem lc_ind {α : Type} (f : α → D) {ft : DT} {fe : DE} {i : Nat} {ρ : En} {Q : List D → Prop} (l : List α) (t : α → Bool) (g : α → D) (ht : ∀ a ∈ l, IsT ft (ρ.set i (.fz (f a))) (t a)) (he : ∀ a ∈ l, t a = true → Is fe (ρ.set i (.fz (f a))) (g a))
    (h : Q ((l.filter t).map g)) : lcLoop ft fe i ρ Q (l.map f) [] := by
  have go : ∀ (l : List α) (acc : List D), (∀ a ∈ l, IsT ft (ρ.set i (.fz (f a))) (t a)) → (∀ a ∈ l, t a = true → Is fe (ρ.set i (.fz (f a))) (g a)) → Q (acc ++ (l.filter t).map g) → lcLoop ft fe i ρ Q (l.map f) acc := by
    intro l
    induction l with
    | nil => intro acc _ _ h; simpa [lcLoop] using h
    | cons a l ih =>
      intro acc ht he h
      rw [List.map_cons]
      unfold lcLoop
      refine ht a (List.mem_cons_self ..) _ _ ?_
      cases q : t a with
      | true =>
        rw [if_pos rfl]
        refine he a (List.mem_cons_self ..) q _ _ (ih _ (fun b hb => ht b (List.mem_cons_of_mem _ hb)) (fun b hb => he b (List.mem_cons_of_mem _ hb)) ?_)
        rw [List.filter_cons_of_pos q, List.map_cons] at h
        simpa using h
      | false =>
        rw [if_neg Bool.false_ne_true]
        refine ih _ (fun b hb => ht b (List.mem_cons_of_mem _ hb)) (fun b hb => he b (List.mem_cons_of_mem _ hb)) ?_
        rw [List.filter_cons_of_neg (by simp [q])] at h
        exact h
  exact go l [] ht he (by simpa using h)
theorem lc_map {α : Type} (f : α → D) {fe : DE} {i : Nat} {ρ : En} {Q : List D → Prop} (l : List α) (g : α → D) (he : ∀ a ∈ l, Is fe (ρ.set i (.fz (f a))) (g a)) (h : Q (l.map g)) : lcLoop dYes fe i ρ Q (l.map f) [] :=
  lc_ind f l (fun _ => true) g (fun _ _ => isT_yes) (fun a ha _ => he a ha) (by rw [List.filter_eq_self.mpr fun _ _ => rfl]; exact h)
theorem lc_some {fe : DE} {i : Nat} {ρ : En} {Q : List D → Prop} (ds : List D) (P : D → Prop) (he : ∀ d ∈ ds, ∀ Q', (∀ y, P y → Q' y) → fe (fun _ _ => False) (ρ.set i (.fz d)) Q') (h : ∀ ys : List D, ys.length = ds.length → (∀ y ∈ ys, P y) → Q ys) : lcLoop dYes fe i ρ Q ds [] := by
  have go : ∀ (ds acc : List D), (∀ d ∈ ds, ∀ Q', (∀ y, P y → Q' y) → fe (fun _ _ => False) (ρ.set i (.fz d)) Q') → (∀ ys : List D, ys.length = ds.length → (∀ y ∈ ys, P y) → Q (acc ++ ys)) → lcLoop dYes fe i ρ Q ds acc := by
    intro ds
    induction ds with
    | nil => intro acc _ h; simpa [lcLoop] using h [] rfl (by simp)
    | cons d ds ih =>
      intro acc he h
      unfold lcLoop
      refine isT_yes _ _ ?_
      rw [if_pos rfl]
      refine he d (List.mem_cons_self ..) _ fun y hy => ih _ (fun b hb => he b (List.mem_cons_of_mem _ hb)) fun ys hl hp => ?_
      have := h (y :: ys) (by simp [hl]) fun z hz => by
        rcases List.mem_cons.mp hz with rfl | hz
        · exact hy
        · exact hp z hz
      simpa using this
  exact go ds [] he (by simpa using h)
theorem atI_nth {α : Type} {l : List α} {i : Nat} (h : i < l.length) : atI l (i : Int) = some l[i] := atI_nat (List.getElem?_eq_getElem h)
theorem atI_map' {α β : Type} (f : α → β) (l : List α) (i : Int) : atI (l.map f) i = (atI l i).map f := by
  unfold atI
  rw [List.length_map]
  cases ixN l.length i with
  | none => rfl
  | some j => show (l.map f)[j]? = (l[j]?).map f; rw [List.getElem?_map]
theorem atI_in {α : Type} {l : List α} {i : Int} (h0 : 0 ≤ i) (h1 : i < l.length) : ∃ a, atI l i = some a ∧ a ∈ l := by
  have hl : i.toNat < l.length := by omega
  refine ⟨l[i.toNat], ?_, List.getElem_mem hl⟩
  have := atI_nth hl
  rwa [show ((i.toNat : Nat) : Int) = i by omega] at this
def S_next : DF := fun ds Q _ => ∃ size : Int, ds = [.rd, .int size] ∧ 0 < size ∧ size < 1073741824 ∧ ∀ n : Int, 0 ≤ n → n < size → Q (.int n)
def S_reader : DF := fun ds Q _ => ∃ c : Int, ds = [.int c] ∧ Q .rd
def S_cell : DF := fun ds Q _ => ∃ (ns : List Int) (k : Int), ds = [.scr ns, .int k] ∧ 0 ≤ k ∧ ∀ n : Int, Q (.int n)
theorem S_next.len {ds : List D} {Q : D → Prop} {Xq : XQ} (h : S_next ds Q Xq) : ds.length = 2 := by obtain ⟨_, rfl, _⟩ := h; rfl
theorem S_reader.len {ds : List D} {Q : D → Prop} {Xq : XQ} (h : S_reader ds Q Xq) : ds.length = 1 := by obtain ⟨_, rfl, _⟩ := h; rfl
theorem S_cell.len {ds : List D} {Q : D → Prop} {Xq : XQ} (h : S_cell ds Q Xq) : ds.length = 2 := by obtain ⟨_, _, rfl, _⟩ := h; rfl
end Dl
namespace Dl
open PySem L2
theorem gIx_rd0 (Q : D → Prop) : gIx .rd (.int 0) Q = ∀ n : Int, Q (.int n) := propext ⟨fun h => h.2.2, fun h => ⟨by decide, by decide, h⟩⟩
theorem gIx_rd1 (Q : D → Prop) : gIx .rd (.int 1) Q = ∀ n : Int, Q (.int n) := propext ⟨fun h => h.2.2, fun h => ⟨by decide, by decide, h⟩⟩
theorem gIx_rd2 (Q : D → Prop) : gIx .rd (.int 2) Q = ∀ n : Int, Q (.int n) := propext ⟨fun h => h.2.2, fun h => ⟨by decide, by decide, h⟩⟩
theorem gIx_lst {ds : List D} {i : Int} {d : D} (h : atI ds i = some d) (Q : D → Prop) : gIx (.lst ds) (.int i) Q = Q d := by show (match atI ds i with | some d => Q d | none => False) = Q d; rw [h]
theorem gIx_tup {ds : List D} {i : Int} {d : D} (h : atI ds i = some d) (Q : D → Prop) : gIx (.tup ds) (.int i) Q = Q d := by show (match atI ds i with | some d => Q d | none => False) = Q d; rw [h]
theorem gIx_scr {ns : List Int} {i : Int} {n : Int} (h : atI ns i = some n) (Q : D → Prop) : gIx (.scr ns) (.int i) Q = Q (.int n) := by show (match atI ns i with | some n => Q (.int n) | none => False) = Q (.int n); rw [h]
theorem gEq_int (i j : Int) (Q : D → Prop) : gEq (.int i) (.int j) Q = Q (.bl (decide (i = j))) := propext ⟨fun h => by have := h.2.2; rwa [deq_int] at this, fun h => ⟨(eo_int 0 i).ok, (eo_int 0 j).ok, by rwa [deq_int]⟩⟩
theorem gNe_int (i j : Int) (Q : D → Prop) : gNe (.int i) (.int j) Q = Q (.bl (!decide (i = j))) := propext ⟨fun h => by have := h.2.2; rwa [deq_int] at this, fun h => ⟨(eo_int 0 i).ok, (eo_int 0 j).ok, by rwa [deq_int]⟩⟩
theorem gEq_enc {α : Type} [DecidableEq α] {f : α → D} {n : Nat} (e : Enc f n) (hn : n ≤ 64) (a b : α) (Q : D → Prop) : gEq (f a) (f b) Q = Q (.bl (decide (a = b))) := propext ⟨fun h => by have := h.2.2; rwa [e.eq] at this, fun h => ⟨(e.eo a).ok hn, (e.eo b).ok hn, by rwa [e.eq]⟩⟩
theorem gNe_enc {α : Type} [DecidableEq α] {f : α → D} {n : Nat} (e : Enc f n) (hn : n ≤ 64) (a b : α) (Q : D → Prop) : gNe (f a) (f b) Q = Q (.bl (!decide (a = b))) := propext ⟨fun h => by have := h.2.2; rwa [e.eq] at this, fun h => ⟨(e.eo a).ok hn, (e.eo b).ok hn, by rwa [e.eq]⟩⟩
theorem gIn_tI (neg : Bool) (a : Int) (w : List Int) (Q : D → Prop) : gIn neg (.int a) (tI w) Q = Q (.bl (if neg then !decide (a ∈ w) else decide (a ∈ w))) := propext ⟨fun h => by
  have := h.2.2
  rwa [enc_int.any w a] at this, fun h => ⟨(eo_int 0 a).ok, ((enc_int.tup).eo w).ok, by rwa [enc_int.any w a]⟩⟩
theorem gIn_lI (neg : Bool) (a : Int) (w : List Int) (Q : D → Prop) : gIn neg (.int a) (lI w) Q = Q (.bl (if neg then !decide (a ∈ w) else decide (a ∈ w))) := propext ⟨fun h => by
  have := h.2.2
  rwa [enc_int.any w a] at this, fun h => ⟨(eo_int 0 a).ok, ((enc_int.lst).eo w).ok, by rwa [enc_int.any w a]⟩⟩
end Dl
namespace Dl
open PySem L2
theorem cutD_to {α : Type} (l : List α) (n : Nat) : cutD l none (some (n : Int)) = l.take n := by
  unfold cutD
  rw [HT.sIx_none, HT.sIx_nat, List.drop_zero, Nat.sub_zero]
  by_cases h : n ≤ l.length
  · rw [Nat.min_eq_left h]
  · rw [Nat.min_eq_right (by omega), List.take_of_length_le (by omega), List.take_of_length_le (by omega)]
theorem cutD_from {α : Type} (l : List α) (n : Nat) : cutD l (some (n : Int)) none = l.drop n := by
  unfold cutD
  rw [HT.sIx_none, HT.sIx_nat]
  by_cases h : n ≤ l.length
  · rw [Nat.min_eq_left h, List.take_of_length_le (by rw [List.length_drop]; omega)]
  · rw [Nat.min_eq_right (by omega), List.drop_length, List.drop_of_length_le (by omega)]
    rw [List.take_nil]
theorem bls_map {α : Type} (g : α → Bool) (l : List α) : bls (l.map fun a => D.bl (g a)) = some (l.map g) := by
  induction l with
  | nil => rfl
  | cons a l ih => rw [List.map_cons]; unfold bls; rw [ih]; rfl
theorem gAll_map {α : Type} (g : α → Bool) (l : List α) (Q : D → Prop) : gAll (.lst (l.map fun a => D.bl (g a))) Q = Q (.bl (l.all g)) := by
  unfold gAll
  dsimp only
  rw [bls_map]
  dsimp only
  rw [List.all_map]
  rfl
theorem gIsi_tup (ds : List D) (Q : D → Prop) : gIsi "tuple" (.tup ds) Q = Q (.bl true) := by
  have : kty (dty (.tup ds)) "tuple" = true := by show kty "tuple" "tuple" = true; decide +kernel
  show Q (.bl (kty (dty (.tup ds)) "tuple")) = _
  rw [this]
theorem gIsi_int (i : Int) (Q : D → Prop) : gIsi "int" (.int i) Q = Q (.bl true) := by
  have : kty (dty (.int i)) "int" = true := by show kty "int" "int" = true; decide +kernel
  show Q (.bl (kty (dty (.int i)) "int")) = _
  rw [this]
theorem gIsi_bool (i : Int) (Q : D → Prop) : gIsi "bool" (.int i) Q = Q (.bl false) := by
  have : kty (dty (.int i)) "bool" = false := by show kty "int" "bool" = false; decide +kernel
  show Q (.bl (kty (dty (.int i)) "bool")) = _
  rw [this]
theorem gLen_lst (ds : List D) (Q : D → Prop) : gLen (.lst ds) Q = Q (.int ds.length) := rfl
theorem gLen_tup (ds : List D) (Q : D → Prop) : gLen (.tup ds) Q = Q (.int ds.length) := rfl
theorem gLen_scr (ds : List Int) (Q : D → Prop) : gLen (.scr ds) Q = Q (.int ds.length) := rfl
theorem gItems_lst (ds : List D) (Q : List D → Prop) : gItems (.lst ds) Q = Q ds := rfl
theorem gItems_tup (ds : List D) (Q : List D → Prop) : gItems (.tup ds) Q = Q ds := rfl
theorem gItems_scr (ds : List Int) (Q : List D → Prop) : gItems (.scr ds) Q = Q (ds.map D.int) := rfl
theorem gTuple_lst (ds : List D) (Q : D → Prop) : gTuple (.lst ds) Q = Q (.tup ds) := rfl
theorem gTuple_tup (ds : List D) (Q : D → Prop) : gTuple (.tup ds) Q = Q (.tup ds) := rfl
theorem gListN_lst (ds : List D) (Q : List D → Prop) : gListN (.lst ds) Q = Q ds := rfl
theorem gListN_tup (ds : List D) (Q : List D → Prop) : gListN (.tup ds) Q = Q ds := rfl
def S_law : DF := fun ds Q _ => ∃ ns : List Int, ds = [.scr ns] ∧ ns.length ≤ 63 ∧ Q (.bl true)
end Dl
namespace Dl
open PySem PySem.Spec PyProof.Rows L2
def spLaw (K : PySem.W.Frag) (n : Nat) : Sp := fun vs H Q _ => ∃ (a : Addr) (ns : List Int), vs = [.ref a] ∧ ns.length ≤ n ∧ SqL K H a (ns.map V.int) ∧ ∀ v H', v = .bl true → Q v H'
theorem law_fn {P : Program} {w : World} {K : PySem.W.Frag} {mg : Str → Option Value} {base : Heap} {C : Str → Addr} {k n : Nat} {f : Addr} {fd : FuncData} {y : Str} {S : DF} (F : FnOk P w K mg base (L2.CX P w) k f fd [y] (spD ⟨K, C⟩ S))
    (h : ∀ (ns : List Int) (Qd : D → Prop), ns.length ≤ n → Qd (.bl true) → S [.scr ns] Qd fun _ _ => False) : FnOk P w K mg base CX0 k f fd [y] (spLaw K n) := by
  refine ⟨fun vs H Q E s => ?_, fun A outer s H args us vs Q E hr he hbt hv hs => ?_⟩
  · obtain ⟨a, ns, rfl, _⟩ := s
    rfl
  · obtain ⟨a, ns, rfl, hn, hq, hQ⟩ := hs
    refine codeAny_mono (F.run A outer s H args us [.ref a] Q (fun _ _ _ => False) hr he hbt hv ⟨H, fun _ => False, [.scr ns], fun d => d = .bl true, fun _ _ => False, ⟨fun _ _ q => q, fun _ z => z.elim, fun _ z => z.elim⟩, RpL.cons ?_ RpL.nil, h ns _ hn rfl, ?_, ?_⟩) fun r s' z => ?_
    · unfold Rp
      exact ⟨a, rfl, hq⟩
    · intro v G' R' H' d _ r e
      subst e
      unfold Rp at r
      exact hQ v H' r
    · exact fun _ _ _ _ _ _ _ _ z => z.elim
    · unfold CR at z ⊢
      split at z
      · exact z
      · exact z.elim
      · obtain ⟨_, _, _, _, _, _, _, _, _, _, _, _, z⟩ := z
        exact z.elim
end Dl
namespace Dl
open PySem PySem.Spec PyProof.Rows L2
section
variable {Γ : Kx} {G : Hp} {R : Addr → Prop}
theorem RpF.lookup {f : Str} : ∀ {fs : List (Str × D)} {vs : List (Str × V)} {d : D}, RpF Γ G R fs vs → fs.lookup f = some d → ∃ v, vs.lookup f = some v ∧ Rp Γ G R d v
  | [], _, _, _, e => by cases e
  | (x, d0) :: fs, vs, d, h, e => by
    unfold RpF at h
    obtain ⟨v, r, rfl, h1, h2⟩ := h
    by_cases q : f = x
    · subst q
      rw [lookup_cons_self] at e
      cases e
      exact ⟨v, lookup_cons_self, h1⟩
    · have hb : (f == x) = false := beq_eq_false_iff_ne.mpr q
      have e' : fs.lookup f = some d := by simpa [List.lookup, hb] using e
      obtain ⟨u, a, b⟩ := RpF.lookup h2 e'
      exact ⟨u, by simpa [List.lookup, hb] using a, b⟩
where lookup_cons_self {α : Type} {f : Str} {a : α} {l : List (Str × α)} : ((f, a) :: l).lookup f = some a := by simp [List.lookup]
theorem RpF.lookup_none {f : Str} : ∀ {fs : List (Str × D)} {vs : List (Str × V)}, RpF Γ G R fs vs → fs.lookup f = none → vs.lookup f = none
  | [], _, h, _ => by unfold RpF at h; subst h; rfl
  | (x, d0) :: fs, vs, h, e => by
    unfold RpF at h
    obtain ⟨v, r, rfl, h1, h2⟩ := h
    by_cases q : f = x
    · subst q
      rw [RpF.lookup.lookup_cons_self] at e
      cases e
    · have hb : (f == x) = false := beq_eq_false_iff_ne.mpr q
      have e' : fs.lookup f = none := by simpa [List.lookup, hb] using e
      have := RpF.lookup_none h2 e'
      simpa [List.lookup, hb] using this
theorem RpF.len : ∀ {fs : List (Str × D)} {vs : List (Str × V)}, RpF Γ G R fs vs → fs.length = vs.length
  | [], _, h => by unfold RpF at h; subst h; rfl
  | (x, d0) :: fs, vs, h => by
    unfold RpF at h
    obtain ⟨v, r, rfl, h1, h2⟩ := h
    simp [RpF.len h2]
end
def putD (f : Str) (d : D) : List (Str × D) → List (Str × D)
  | [] => [(f, d)]
  | (g, x) :: r => if g = f then (g, d) :: r else (g, x) :: putD f d r
theorem RpF.put {Γ : Kx} {G : Hp} {R : Addr → Prop} {f : Str} {d : D} {v : V} (h : Rp Γ G R d v) : ∀ {fs : List (Str × D)} {vs : List (Str × V)}, RpF Γ G R fs vs → RpF Γ G R (putD f d fs) (putF f v vs)
  | [], _, k => by
    unfold RpF at k
    subst k
    unfold putD putF RpF
    exact ⟨v, [], rfl, h, by unfold RpF; rfl⟩
  | (x, d0) :: fs, vs, k => by
    unfold RpF at k
    obtain ⟨u, r, rfl, h1, h2⟩ := k
    unfold putD putF
    by_cases q : x = f
    · rw [if_pos q, if_pos q]
      unfold RpF
      exact ⟨v, r, rfl, h, h2⟩
    · rw [if_neg q, if_neg q]
      unfold RpF
      exact ⟨u, _, rfl, h1, RpF.put h h2⟩
def gFld (cs : List Str) (f : Str) (x : D) (Q : D → Prop) : Prop := match x with
  | .ins c fs => c ∈ cs ∧ ∃ d, fs.lookup f = some d ∧ Q d
  | _ => False
def FldOk (K : PySem.W.Frag) (C : Str → Addr) (cs : List Str) (f : Str) : Prop := ∀ c ∈ cs, Cls K (C c) ∧ NoAttr K (C c) f
theorem RpQ.ins {Γ : Kx} {G : Hp} {R : Addr → Prop} {H : Hp} {c : Str} {fs : List (Str × D)} {v : V} (g : Gd G R H) (r : RpQ Γ G R H (.ins c fs) v) : ∃ a dx vs, v = .ref a ∧ H a = some (.ins (Γ.C c) dx vs) ∧ RpF Γ G R fs vs := by
  have r' : Rp Γ G R (.ins c fs) v := r
  unfold Rp at r'
  obtain ⟨a, dx, vs, e, h, f⟩ := r'
  exact ⟨a, dx, vs, e, g.sub _ _ h, f⟩
theorem je_fld {Γ : Kx} {W : WX} {ta : TE} {fa : DE} {cs : List Str} {f : Str} (k : FldOk Γ.K Γ.C cs f) (a : JQ Γ W ta fa) : JE Γ W (tFld Γ.K ta f) (d1 (gFld cs f) fa) := fun H0 G R H σ ρ xq Qd Q w x fz kk =>
  a H0 G R H σ ρ xq _ _ w x fz fun v G1 R1 H1 d n1 r1 q1 => by
    unfold gFld at q1
    split at q1
    · obtain ⟨hc, d, l, q⟩ := q1
      obtain ⟨a, dx, vs, e, h, rf⟩ := r1.ins n1.gd
      obtain ⟨u, l2, ru⟩ := rf.lookup l
      exact ⟨a, _, dx, vs, u, e, h, (k _ hc).1, (k _ hc).2, l2, kk u G1 R1 H1 d n1 ru q⟩
    · exact q1.elim
def dFldV (i : Nat) (f : Str) : DE := fun _ ρ Q => match ρ[i]? with
  | some (.io _ _ fs) => ∃ d, fs.lookup f = some d ∧ Q d
  | _ => False
def dSetF (i : Nat) (cs : List Str) (f : Str) (fe : DE) : DS := fun k ρ => fe (k.xq ρ) ρ fun d => match ρ[i]? with
  | some (.io a c fs) => c ∈ cs ∧ fs.length < 999 ∧ k.nx (ρ.set i (.io a c (putD f d fs)))
  | _ => False
section
variable {Γ : Kx} {W : WX} {te : TE} {fe : DE} {i : Nat} {cs : List Str} {f : Str}
theorem je_fldV (k : FldOk Γ.K Γ.C cs f) : JE Γ W (tFld Γ.K (tVar i) f) (fun xq ρ Q => (∃ a c fs, ρ[i]? = some (.io a c fs) ∧ c ∈ cs) ∧ dFldV i f xq ρ Q) := fun H0 G R H σ ρ xq Qd Q w x fz kk => by
  obtain ⟨⟨a, c, fs, e, hc⟩, fz⟩ := fz
  unfold dFldV at fz
  rw [e] at fz
  obtain ⟨d, l, q⟩ := fz
  obtain ⟨v, e2, dx, vs, rfl, h, _, _, _, rf⟩ := w.sl i _ e
  obtain ⟨u, l2, ru⟩ := rf.lookup l
  exact ⟨_, e2, a, _, dx, vs, u, rfl, h, (k c hc).1, (k c hc).2, l2, kk u G R H d (Nx.refl w.gd) ru q⟩
theorem js_setF (k : FldOk Γ.K Γ.C cs f) (a : JE Γ W te fe) : JS Γ W (sFld Γ.K (tVar i) te f) (dSetF i cs f fe) := fun G0 R0 H0 G R H σ ρ kk D n w e fz =>
  a H0 G R H σ ρ _ _ _ w (e.lk n w) fz fun v G1 R1 H1 d n1 r1 q1 => by
    have w1 := w.nx n1
    split at q1
    · rename_i a c fs q
      obtain ⟨hc, hl, q1⟩ := q1
      obtain ⟨v2, e2, dx, vs, rfl, h, g, nr, h0, rf⟩ := w1.sl i _ q
      refine ⟨.ref a, e2, a, _, dx, vs, rfl, h, (k c hc).1, (k c hc).2, by rw [← rf.len]; omega, ?_⟩
      refine e.nx G1 R1 _ _ _ ((n.trans n1).mutO g nr h0) (w1.mutO q rfl rfl e2 (fun u z => by rw [h] at z; cases z; exact ⟨fun t => t, fun _ t => nomatch t⟩) g nr h0 ?_) q1
      exact ⟨dx, _, rfl, upd_same, g, nr, h0, rf.put r1⟩
    · exact q1.elim
end
structure CalM (P : Program) (w : World) (K : PySem.W.Frag) (mg : Str → Option Value) (base : Heap) (C : Str → Addr) (k : Nat) (c m : Str) (S : DF) : Prop where
  ex : ∃ (f : Addr) (fd : FuncData) (ps : List Str), FnOk P w K mg base (L2.CX P w) k f fd ps (spD ⟨K, C⟩ S) ∧ Meth K (C c) m f ∧ Cls K (C c) ∧ Binds K fd ps []
theorem CalM.imp {P : Program} {w : World} {K : PySem.W.Frag} {mg : Str → Option Value} {base : Heap} {C : Str → Addr} {k : Nat} {c m : Str} {S S' : DF} (h : CalM P w K mg base C k c m S) (i : ∀ ds Q Xq, S' ds Q Xq → S ds Q Xq) : CalM P w K mg base C k c m S' :=
  let ⟨f, fd, ps, F, m, kp, b⟩ := h.ex
  ⟨f, fd, ps, F.imp (spD_imp i), m, kp, b⟩
theorem CalM.mono {P : Program} {w : World} {K : PySem.W.Frag} {mg : Str → Option Value} {base : Heap} {C : Str → Addr} {j k : Nat} {c m : Str} {S : DF} (h : CalM P w K mg base C k c m S) (i : k ≤ j) : CalM P w K mg base C j c m S :=
  let ⟨f, fd, ps, F, m, kp, b⟩ := h.ex
  ⟨f, fd, ps, F.mono i, m, kp, b⟩
def tMethS (C : Addr) (m : Str) (sp : Sp) (E : St → XK) (ta : TE) (t : TA) : TE := fun σ H Q => ta σ H fun x H1 => ∃ a dx fs, x = .ref a ∧ H1 a = some (.ins C dx fs) ∧ fs.lookup m = none ∧
  t σ H1 fun vs H2 => sp (x :: vs) H2 Q (E σ)
section
variable {X : Cx} {CX : CXT} {k : Nat} {f C : Addr} {fd : FuncData} {ps : List Str} {sp : Sp} {E : St → XK} {x m : Str} {p pos apos : Pos} {e o : Expr} {es : List Expr} {ta : TE} {t : TA}
theorem pe_methS {pl : Sem Bool} (he : PE X o ta) (c : Cls X.K C) (hm : Meth X.K C m f) (F : FnOk X.prog X.w X.K X.mg X.base CX k f fd ps sp) (hr : Room k X.A) (hb : Binds X.K fd ps []) (hx : ∀ σ, PassesAt CX X σ (E σ)) (ha : PA X (e :: es) t)
    (hst : starEach (e :: es) X.env = (false, eval e X.env) :: starEach es X.env := by rfl) (hpl : (backTo pos (starEach es X.env)).any (·.1) = false := by rfl)
    (ht : eval (.Call (.Attribute o m apos) (e :: es) [] pos) X.env = (do
      let ov ← eval o X.env
      standAt apos.atName
      let (f, first) ← holding [ov] (getMethod ov m pl)
      callWith pos f first (backTo pos (starEach (e :: es) X.env)) (backToKw pos (keywordEach [] X.env))) := by rfl) :
    PE X (.Call (.Attribute o m apos) (e :: es) [] pos) (tMethS C m sp E ta t) := by
  refine ⟨fun pins s σ H Q I h => ?_⟩
  refine PySem.W.methodCall_KW (pl := pl) (thn (he.run pins s σ H _ I h) fun u s1 ⟨x, H1, I1, rx, a, dx, fs, ex, ea, l, q⟩ => ?_) ht
  subst ex
  obtain rfl : u = Value.ref a := rx
  refine getmeth_ok I1 ea c hm l ?_
  refine PySem.W.callWith_K (first := [.ref a]) (h₀ := X.base) I.ok.mod.kin hm.kp (thn (ha.run pos pins s1 σ H1 _ I1 q) fun us s2 ⟨vs, H2, I2, r, q2⟩ => ⟨I2.kIn, ?_⟩) hst hpl
  exact run_fnS (us := .ref a :: us) (vs := .ref a :: vs) F hr hb (hx σ) I2 (.cons rfl r) q2
end
def dMeth (c m : Str) (S : DF) (fo : DE) (fa : DA) : DE := fun xq ρ Q => fo xq ρ fun x => (∃ fs, x = .ins c fs ∧ fs.lookup m = none) ∧ fa xq ρ fun ds => S (x :: ds) Q xq
theorem je_meth {Γ : Kx} {W : WX} {to : TE} {fo : DE} {ta : TA} {fa : DA} {c m : Str} {S : DF} (b : JE Γ W to fo) (a : JA Γ W ta fa) : JE Γ W (tMethS (Γ.C c) m (spD Γ S) (WE W) to ta) (dMeth c m S fo fa) := fun H0 G R H σ ρ xq Qd Q w x f k =>
  b H0 G R H σ ρ xq _ _ w x f fun v G1 R1 H1 d n1 r1 ⟨⟨fs, e, l⟩, q1⟩ => by
    subst e
    have r1' := r1
    unfold Rp at r1'
    obtain ⟨a', dx, vs, ev, h, rf⟩ := r1'
    refine ⟨a', dx, vs, ev, n1.gd.sub _ _ h, rf.lookup_none l, a H0 G1 R1 H1 σ ρ xq _ _ (w.nx n1) (x.nx n1) q1 fun us G2 R2 H2 ds n2 r2 q2 => ?_⟩
    have n := n1.trans n2
    exact ⟨G2, R2, .ins c fs :: ds, Qd, xq, n2.gd, RpL.cons (Rp.mono n2.gg n2.rr _ v r1) r2, q2, fun v G' R' H' d m r q => k v G' R' H' d (n.trans m) r q, fun c fs G' R' H' cls dx m => x.nx n c fs G' R' H' cls dx m⟩
abbrev DI := List D → (List (Str × D) → Prop) → XQ → Prop
def spI (Γ : Kx) (c : Str) (S : DI) : Sp := fun vs H Q E => ∃ (G : Hp) (R : Addr → Prop) (H1 : Hp) (x dx : Addr) (us : List V) (ds : List D) (Qf : List (Str × D) → Prop) (Xq : XQ),
  vs = .ref x :: us ∧ H = upd (upd H1 dx (.own x)) x (.ins (Γ.C c) dx []) ∧ H1 x = none ∧ H1 dx = none ∧ dx ≠ x ∧ Gd G R H1 ∧ RpL Γ G R ds us ∧ S ds Qf Xq ∧
  (∀ G' R' H' dx' ws fs, Nx G R H1 G' R' H' → H' x = some (.ins (Γ.C c) dx' ws) → G' x = none → ¬ R' x → RpF Γ G' R' fs ws → Qf fs → Q .non H') ∧ ∀ c fs G' R' H' cls dx, Nx G R H1 G' R' H' → Xq c fs → ExRep Γ G' R' H' c fs cls dx → E cls dx H'
structure CalI (P : Program) (w : World) (K : PySem.W.Frag) (mg : Str → Option Value) (base : Heap) (C : Str → Addr) (k : Nat) (c : Str) (S : DI) : Prop where
  ex : ∃ (f : Addr) (fd : FuncData) (ps : List Str), FnOk P w K mg base (L2.CX P w) k f fd ps (spI ⟨K, C⟩ c S) ∧ Mk K (C c) f ∧ mg c = some (.ref (C c)) ∧ Binds K fd ps []
theorem CalI.mono {P : Program} {w : World} {K : PySem.W.Frag} {mg : Str → Option Value} {base : Heap} {C : Str → Addr} {j k : Nat} {c : Str} {S : DI} (h : CalI P w K mg base C k c S) (i : k ≤ j) : CalI P w K mg base C j c S :=
  let ⟨f, fd, ps, F, m, kp, b⟩ := h.ex
  ⟨f, fd, ps, F.mono i, m, kp, b⟩
def tMakeS (C : Addr) (sp : Sp) (E : St → XK) (t : TA) : TE := fun σ H Q => t σ H fun vs H1 => ∀ x dx, H1 x = none → H1 dx = none → dx ≠ x →
  sp (.ref x :: vs) (upd (upd H1 dx (.own x)) x (.ins C dx [])) (fun v H2 => v = .non ∧ Q (.ref x) H2) (E σ)
section
variable {X : Cx} {CX : CXT} {k : Nat} {f C : Addr} {fd : FuncData} {ps : List Str} {sp : Sp} {E : St → XK} {x m : Str} {p pos apos : Pos} {e o : Expr} {es : List Expr} {ta : TE} {t : TA}
theorem run_makeS {pins : List (Addr × Obj)} {σ : St} {H : Hp} {s : Shared} {Q : VK} {us : List Value} {vs : List V} (M : Mk X.K C f) (F : FnOk X.prog X.w X.K X.mg X.base CX k f fd ps sp) (hr : Room (k + 1) X.A) (hb : Binds X.K fd ps [])
    (hx : PassesAt CX X σ (E σ)) (I : Inv X pins σ H s) (r : Vals vs us)
    (h : ∀ x dx, H x = none → H dx = none → dx ≠ x → sp (.ref x :: vs) (upd (upd H dx (.own x)) x (.ins C dx [])) (fun v H2 => v = .non ∧ Q (.ref x) H2) (E σ)) :
    wpAny (model X.prog X.w) X.A (call (.ref C) us) (EP X pins σ Q) X.xe s := by
  have hq := h (s.heap.objs.size + 1) s.heap.objs.size (I.hok.fresh (Nat.le_succ _)) (I.hok.fresh (Nat.le_refl _)) (Nat.ne_of_lt (Nat.lt_succ_self _))
  have I2 := Inv.made (C := C) I
  have r2 : Vals (V.ref (s.heap.objs.size + 1) :: vs) (Value.ref (s.heap.objs.size + 1) :: us) := .cons rfl r
  have hl : (Value.ref (s.heap.objs.size + 1) :: us ++ ([] : List Value)).length = ps.length := by
    have e := r2.length
    rw [F.len _ _ _ _ hq] at e
    rw [List.append_nil]
    exact e.symm
  have hbb := hb _ (Value.ref (s.heap.objs.size + 1) :: us) I2.kIn hl
  rw [List.append_nil] at hbb
  refine wpAny_call (make_map (f := f) I.kIn M.makes M.init (beq_iff_eq.mp M.fn) (codeAny_mono (F.run _ X.stack _ _ ⟨Value.ref (s.heap.objs.size + 1) :: us, []⟩ (Value.ref (s.heap.objs.size + 1) :: us) _ _ (E σ) (hr.make C us [])
    (I2.env0.make C us []) hbb r2 hq) fun r s' hq' => ?_))
  cases r with
  | error e => exact hx pins _ _ e s' I2 hq'
  | ok fl =>
    cases fl with
    | ret u =>
      obtain ⟨v, H', I3, rv, ev, q3⟩ := I2.after hq'
      subst ev
      exact ⟨rv, ⟨V.ref (s.heap.objs.size + 1), H', I3, rfl, q3⟩⟩
    | next => exact False.elim hq'
    | brk => exact False.elim hq'
    | cont => exact False.elim hq'
theorem pe_makeS (M : Mk X.K C f) (F : FnOk X.prog X.w X.K X.mg X.base CX k f fd ps sp) (hr : Room (k + 1) X.A) (hg : Gl X x) (hm : X.mg x = some (.ref C)) (hb : Binds X.K fd ps []) (hx : ∀ σ, PassesAt CX X σ (E σ))
    (ha : PA X (e :: es) t) (hdb : (x == ("__debug__" : Str)) = false := by decide) (he : starEach (e :: es) X.env = (false, eval e X.env) :: starEach es X.env := by rfl) (hpl : (backTo pos (starEach es X.env)).any (·.1) = false := by rfl) :
    PE X (.Call (.Name x p) (e :: es) [] pos) (tMakeS C sp E t) := by
  refine ⟨fun pins s σ H Q I h => ?_⟩
  refine wpAny_Call_Name_kw (ld_glob I hg hm ?_ hdb)
  refine PySem.W.callWith_K (h₀ := X.base) I.ok.mod.kin M.kp (thn (ha.run pos pins s σ H _ I h) fun us s1 ⟨vs, H1, I1, r, q⟩ => ⟨I1.kIn, ?_⟩) he hpl
  exact run_makeS M F hr hb (hx σ) I1 r q
end
def dMake (c : Str) (S : DI) (fa : DA) : DE := fun xq ρ Q => fa xq ρ fun ds => S ds (fun fs => Q (.ins c fs)) xq
theorem je_make {Γ : Kx} {W : WX} {ta : TA} {fa : DA} {c : Str} {S : DI} (a : JA Γ W ta fa) : JE Γ W (tMakeS (Γ.C c) (spI Γ c S) (WE W) ta) (dMake c S fa) := fun H0 G R H σ ρ xq Qd Q w x f k =>
  a H0 G R H σ ρ xq _ _ w x f fun vs G1 R1 H1 ds n1 r1 q1 => fun p dx hp hdx ne => ⟨G1, R1, H1, p, dx, vs, ds, _, xq, rfl, rfl, hp, hdx, ne, n1.gd, r1, q1, fun G' R' H' dx' ws fs n h g nr rf q => ⟨rfl, by
    refine k (.ref p) (upd G' p (.ins (Γ.C c) dx' ws)) R' H' (.ins c fs) (n1.trans (n.freeze h g nr hp)) ?_ q
    unfold Rp
    exact ⟨p, dx', ws, rfl, upd_same, RpF.mono (fun b u z => by rw [upd_ne (ne_of_none z g)]; exact z) (fun _ h => h) fs ws rf⟩⟩,
    fun c fs G' R' H' cls dx n => x.nx n1 c fs G' R' H' cls dx n⟩
theorem dfnQ {P : Program} {w : World} {K : PySem.W.Frag} {mg : Str → Option Value} {base : Heap} {C : Str → Addr} {bl : Str → Bool} {x q : Str} {params : Arguments} {body : List Stmt} {sc : Scope} {N ps : List Str} {dvs : List V} {kws : List (Str × V)} {f : Addr} {fd : FuncData} {k : Nat} {S : DF} {fs : DS}
    (F : FunD K x q params body sc dvs kws f fd) (Sc : FnScope N ps sc) (hbl : ∀ n, bl n = true → mg n = none) (len : ∀ ds Q Xq, S ds Q Xq → ds.length = ps.length)
    (hbody : ∀ (cdv : Value) (A : Around) (outer : List PySem.Env) (s : Shared) (H : Hp) (E : XK), GS (cxD P w K mg base N q sc f cdv A outer s H E) (wD E) k bl → CSs (cxD P w K mg base N q sc f cdv A outer s H E) C (wD E) body fs)
    (spec : ∀ ds Qd Xq, S ds Qd Xq → fs (kD Qd Xq) (startD N.length ds)) : FnOk P w K mg base (L2.CX P w) (k + 1) f fd ps (spD ⟨K, C⟩ S) := by
  refine F.ok Sc (fun vs H Q E h => ?_) (fun cdv A outer s H vs Q E hr h => ?_)
  · obtain ⟨G, R, ds, Qd, Xq, g, r, q, _⟩ := h
    rw [← r.len]
    exact len _ _ _ q
  · obtain ⟨G, R, ds, Qd, Xq, g, r, q', h1, h2⟩ := h
    have gs : GS (cxD P w K mg base N q sc f cdv A outer s H E) (wD E) k bl := ⟨⟨rfl, hr, takes_of rfl rfl rfl rfl, hbl⟩, passes_of rfl⟩
    obtain ⟨t, p, j⟩ := hbody cdv A outer s H E gs
    refine ⟨t, p, ?_⟩
    have hl : ds.length ≤ N.length := by
      rw [len _ _ _ q']
      have := congrArg List.length Sc.pre
      rw [List.length_take] at this
      omega
    refine j G R H G R H _ _ (kD Qd Xq) _ (Nx.refl g) (start_wd g r hl) ⟨?_, ?_, ?_, ?_, ?_, ?_⟩ (spec ds Qd Xq q')
    · exact fun G' R' H' σ ρ n _ z => h1 .non G' R' H' .non n rp_non z
    · exact fun v d G' R' H' _ _ n _ r' z => h1 v G' R' H' d n r' z
    · exact fun _ _ _ _ _ _ _ z => z.elim
    · exact fun _ _ _ _ _ _ _ z => z.elim
    · exact fun c fs' cls dx G' R' H' σ ρ n _ z e => h2 c fs' G' R' H' cls dx n z e
    · exact fun _ _ _ _ _ _ _ _ _ _ _ _ z => z.elim
theorem dmeth {P : Program} {w : World} {K : PySem.W.Frag} {mg : Str → Option Value} {base : Heap} {C : Str → Addr} {bl : Str → Bool} {c m q : Str} {params : Arguments} {body : List Stmt} {sc : Scope} {N ps : List Str} {f : Addr} {fd : FuncData} {k : Nat} {S : DF} {fs : DS}
    (F : FunD K m q params body sc [] [] f fd) (hm : Meth K (C c) m f) (hc : Cls K (C c)) (Sc : FnScope N ps sc) (hb : Binds K fd ps []) (hbl : ∀ n, bl n = true → mg n = none) (len : ∀ ds Q Xq, S ds Q Xq → ds.length = ps.length)
    (hbody : ∀ (cdv : Value) (A : Around) (outer : List PySem.Env) (s : Shared) (H : Hp) (E : XK), GS (cxD P w K mg base N q sc f cdv A outer s H E) (wD E) k bl → CSs (cxD P w K mg base N q sc f cdv A outer s H E) C (wD E) body fs)
    (spec : ∀ ds Qd Xq, S ds Qd Xq → fs (kD Qd Xq) (startD N.length ds)) : CalM P w K mg base C (k + 1) c m S :=
  ⟨f, fd, ps, dfnQ F Sc hbl len hbody spec, hm, hc, hb⟩
def kI (a : Addr) (c : Str) (Qf : List (Str × D) → Prop) (Xq : XQ) : DK := ⟨fun ρ => ∃ fs, ρ[0]? = some (.io a c fs) ∧ Qf fs, fun _ _ => False, fun _ => False, fun _ => False, fun c fs _ => Xq c fs, fun _ _ _ _ => False⟩
def startI (n : Nat) (a : Addr) (c : Str) (ds : List D) : En := .io a c [] :: startD (n - 1) ds
theorem start_wdI {Γ : Kx} {G : Hp} {R : Addr → Prop} {H1 : Hp} {c : Str} {x dx : Addr} {N : List Str} {ds : List D} {us : List V} (g : Gd G R H1) (hx : H1 x = none) (hd : H1 dx = none) (ne : dx ≠ x) (r : RpL Γ G R ds us) (hl : ds.length + 1 ≤ N.length) :
    Nx G R H1 G R (upd (upd H1 dx (.own x)) x (.ins (Γ.C c) dx [])) ∧ Wd Γ H1 G R (upd (upd H1 dx (.own x)) x (.ins (Γ.C c) dx [])) (L2.start N (.ref x :: us)) (startI N.length x c ds) := by
  have n1 : Nx G R H1 G R (upd H1 dx (.own x)) := Nx.new g _ hd
  have hx1 : (upd H1 dx (.own x)) x = none := by rw [upd_ne (Ne.symm ne)]; exact hx
  have n := n1.trans (Nx.new n1.gd (.ins (Γ.C c) dx []) hx1)
  refine ⟨n, ?_⟩
  obtain ⟨n0, N', rfl⟩ : ∃ n0 N', N = n0 :: N' := by
    cases N with
    | nil => simp at hl
    | cons a b => exact ⟨a, b, rfl⟩
  have e := r.len
  have w0 : Wd Γ H1 G R H1 (L2.start N' us) (startD N'.length ds) := start_wd g r (by simpa using hl)
  have w1 := w0.nx n
  have eσ : L2.start (n0 :: N') (V.ref x :: us) = some (.ref x) :: L2.start N' us := by
    unfold L2.start
    simp
  have eρ : startI (n0 :: N').length x c ds = .io x c [] :: startD N'.length ds := rfl
  rw [eσ, eρ]
  have noown : ∀ (j : Nat) t v a, (startD N'.length ds)[j]? = some t → a ∈ t.fpt v → False := fun j t v a q o => by
    unfold startD at q
    have m := List.mem_of_getElem? q
    rcases List.mem_append.mp m with m | m
    · obtain ⟨d, _, z⟩ := List.mem_map.mp m
      subst z; exact absurd o List.not_mem_nil
    · have := List.eq_of_mem_replicate m
      subst this; exact absurd o List.not_mem_nil
  refine ⟨w1.gd, by simp [w1.len], fun i s q => ?_, fun i j s t v1 v2 l hij q1 q2 e3 e4 o1 o2 => ?_⟩
  · cases i with
    | zero =>
      rw [List.getElem?_cons_zero] at q
      cases q
      exact ⟨_, rfl, dx, [], rfl, upd_same, (g.fresh hx).1, (g.fresh hx).2, hx, by unfold RpF; rfl⟩
    | succ i =>
      rw [List.getElem?_cons_succ] at q
      obtain ⟨v, a, b⟩ := w1.sl i s q
      exact ⟨v, by rw [List.getElem?_cons_succ]; exact a, b⟩
  · cases i with
    | zero =>
      cases j with
      | zero => exact hij rfl
      | succ j => exact noown j t _ _ (by simpa using q2) o2
    | succ i => exact noown i s _ _ (by simpa using q1) o1
theorem dinit {P : Program} {w : World} {K : PySem.W.Frag} {mg : Str → Option Value} {base : Heap} {C : Str → Addr} {bl : Str → Bool} {c q : Str} {params : Arguments} {body : List Stmt} {sc : Scope} {N ps : List Str} {dvs : List V} {kws : List (Str × V)} {f : Addr} {fd : FuncData} {k : Nat} {S : DI} {fs : DS}
    (F : FunD K "__init__" q params body sc dvs kws f fd) (Sc : FnScope N ps sc) (hbl : ∀ n, bl n = true → mg n = none) (len : ∀ ds Q Xq, S ds Q Xq → ds.length + 1 = ps.length)
    (hbody : ∀ (cdv : Value) (A : Around) (outer : List PySem.Env) (s : Shared) (H : Hp) (E : XK), GS (cxD P w K mg base N q sc f cdv A outer s H E) (wD E) k bl → CSs (cxD P w K mg base N q sc f cdv A outer s H E) C (wD E) body fs)
    (spec : ∀ a ds Qf Xq, S ds Qf Xq → fs (kI a c Qf Xq) (startI N.length a c ds)) : FnOk P w K mg base (L2.CX P w) (k + 1) f fd ps (spI ⟨K, C⟩ c S) := by
  refine F.ok Sc (fun vs H Q E h => ?_) (fun cdv A outer s H vs Q E hr h => ?_)
  · obtain ⟨G, R, H1, x, dx, us, ds, Qf, Xq, rfl, _, _, _, _, g, r, q', _⟩ := h
    rw [List.length_cons, ← r.len]
    exact len _ _ _ q'
  · obtain ⟨G, R, H1, x, dx, us, ds, Qf, Xq, rfl, rfl, hx, hd, ne, g, r, q', h1, h2⟩ := h
    have gs : GS (cxD P w K mg base N q sc f cdv A outer s (upd (upd H1 dx (.own x)) x (.ins (C c) dx [])) E) (wD E) k bl := ⟨⟨rfl, hr, takes_of rfl rfl rfl rfl, hbl⟩, passes_of rfl⟩
    obtain ⟨t, p, j⟩ := hbody cdv A outer s _ E gs
    refine ⟨t, p, ?_⟩
    have hl : ds.length + 1 ≤ N.length := by
      rw [len _ _ _ q']
      have := congrArg List.length Sc.pre
      rw [List.length_take] at this
      omega
    obtain ⟨n0, w0⟩ := start_wdI (Γ := ⟨K, C⟩) (c := c) (N := N) g hx hd ne r hl
    refine j G R H1 G R _ _ _ (kI x c Qf Xq) _ n0 w0 ⟨?_, ?_, ?_, ?_, ?_, ?_⟩ (spec x ds Qf Xq q')
    · intro G' R' H' σ ρ n w' ⟨fs', e, z⟩
      obtain ⟨v, _, dx', ws, _, ha, ga, ra, _, rf⟩ := w'.sl 0 _ e
      exact h1 G' R' H' dx' ws fs' n ha ga ra rf z
    · exact fun _ _ _ _ _ _ _ _ _ _ z => z.elim
    · exact fun _ _ _ _ _ _ _ z => z.elim
    · exact fun _ _ _ _ _ _ _ z => z.elim
    · exact fun c' fs' cls dx' G' R' H' σ ρ n _ z e => h2 c' fs' G' R' H' cls dx' n z e
    · exact fun _ _ _ _ _ _ _ _ _ _ _ _ z => z.elim
end Dl
namespace Dl
open PySem PySem.Spec PyProof.Rows L2 PySem.Calls
def exShape (b : List Stmt) (f p : Str) : Prop := ∃ (m : Str) (j : Nat) (q0 q1 q2 q3 q4 q5 q6 q7 q8 q9 : Pos), (q2.endLine == q4.line) = true ∧
  b = [.Expr (.Call (.Attribute (.Call (.Name "super" q0) [] [] q1) "__init__" q2) [.Constant (.str m) j q3] [] q4) q5, .Assign [.Attribute (.Name "self" q6) f q7] (.Name p q8) q9]
structure ExIn (P : Program) (K : PySem.W.Frag) (C fI : Addr) (f p : Str) (fd : FuncData) : Prop where
  lk : ∃ oc od osl, K.lookup fI = some ⟨oc, od, .func fd, osl⟩
  tf : PySem.W.typeIn K (.ref fI) = some (.type "function")
  ps : (fd.params.posonlyargs ++ fd.params.args).head?.map (·.arg) = some ("self" : Str)
  gl : fd.globals = mainGlobals
  bl : fd.builtins = builtinsNs
  co : fd.scope.isCoroutine = false
  ge : fd.scope.isGenerator = false
  ki : fd.scope.kind = .function
  nc : ∀ x ∈ fd.scope.names, x.2 ≠ .cell
  nS : fd.scope.names.lookup ("self" : Str) = some .local
  nP : fd.scope.names.lookup p = some .local
  nU : fd.scope.names.lookup ("super" : Str) = some .globalImplicit
  nC : fd.scope.names.lookup ("__class__" : Str) = some .free
  fr : ∀ x, fd.scope.names.lookup x = some .free → x = "__class__"
  ne : p ≠ "self"
  nd1 : p ≠ ("__debug__" : Str)
  nd2 : p ≠ ("__classdict__" : Str)
  clo : ∃ cc cl cld csl, fd.closure = [(("__class__" : Str), cc)] ∧ K.lookup cc = some ⟨cl, cld, .cell (some (.ref C)), csl⟩
  code : ∃ cda ccl cdd vs ccs file tf, fd.code = .ref cda ∧ PySem.W.codeIn K fd.code fd.qualname = true ∧ K.lookup cda = some ⟨ccl, cdd, .fields vs, ccs⟩ ∧ vs[2]? = some (.str file tf) ∧ ((P.main.file : Str) == file) = true
  body : ∃ b, fd.body = .stmts b ∧ exShape b f p
  top : (P.main.scope.names.lookup ("super" : Str)).isSome = false
  cd : ∃ cd, PySem.W.clsIn K C = some cd
  mro : PySem.W.mroIn K C (.ref C) = some true
  sup : PySem.W.ks_superIn K C C "__init__" = some (some (.builtin "ValueError.__init__"))
  sub : PySem.W.subIn K (.ref C) (.type "ValueError") = some true
  opq : PySem.W.nsIn K cStatics "thirdparty.any" = some none
  ei : PySem.W.excInitIn K C He.veBase "ValueError.__new__" = true
  oc : OexC K C
  no : PySem.W.findIn K (.ref C) f = some none
def cxE (CX : CXT) (P : Program) (w : World) (K : PySem.W.Frag) (mg : Str → Option Value) (base : Heap) (p : Str) (fd : FuncData) (fI : Addr) (A : Around) (outer : List PySem.Env) (s : Shared) (H : Hp) (E : XK) : Cx where
  prog := P
  w := w
  K := K
  mg := mg
  base := base
  A := A.deeper (callEnv fd s.heap.objs.size fI)
  N := ["self", p]
  s_0 := s
  H_0 := H
  env := callEnv fd s.heap.objs.size fI
  outer := outer
  stack := callEnv fd s.heap.objs.size fI :: outer
  ex := []
  calm := true
  fn := fun x => decide (x ≠ "__class__")
  pn := []
  xe := fun e s' => wpAny (model P w) (A.deeper (callEnv fd s.heap.objs.size fI)) (leaving (callEnv fd s.heap.objs.size fI) e) (fun _ s'' => CX outer H s E e s'') (fun e' s'' => CX outer H s E e' s'') s'
def spExI (C : Addr) (f : Str) : Sp := fun vs H Q _ => ∃ a v, vs = [.ref a, v] ∧ H a = some (exo a C none) ∧ ∀ dx, H dx = none → dx ≠ a → Q .non (upd (upd H dx (exd dx [(f, v)])) a (exo a C (some dx)))
section
variable {CX : CXT} {P : Program} {w : World} {K : PySem.W.Frag} {mg : Str → Option Value} {base : Heap} {C fI : Addr} {f p : Str} {fd : FuncData}
theorem exinit_start {A : Around} {outer : List PySem.Env} {s : Shared} {H : Hp} {E : XK} {h₀ : Heap} {tk : Nat} {a : Addr} {v : V} {u : Value} (F : ExIn P K C fI f p fd) (e0 : Env0 P w K mg base A outer s H) (hd : A.handled = none) (rv : RelV v u)
    (hns : h₀.Ns s.heap.objs.size (fun x => ([("self", Value.ref a), (p, u)] : List (Str × Value)).reverse.lookup x)) (hk : ∀ b o, s.heap.get? b = some o → h₀.get? b = some o) :
    Inv (cxE CX P w K mg base p fd fI A outer s H E) [] [some (.ref a), some v] H { s with heap := h₀, toks := tk } := by
  obtain ⟨cc, cl, cld, csl, ec, lc⟩ := F.clo
  have cells : ∀ {x c}, (callEnv fd s.heap.objs.size fI).cells.lookup x = some c → x = "__class__" ∧ c = cc := fun {x c} h => by
    have h' : fd.closure.lookup x = some c := h
    rw [ec] at h'
    by_cases q : x = "__class__"
    · subst q
      have : some cc = some c := by simpa [List.lookup] using h'
      exact ⟨rfl, (Option.some.inj this).symm⟩
    · have hb : (x == ("__class__" : Str)) = false := beq_eq_false_iff_ne.mpr q
      simp [List.lookup, hb] at h'
  have KX : K.In s.heap := e0.mod.kin.keeps fun b o e => (e0.bs b o e).1
  have hbc : ∃ ob, base.get? cc = some ob ∧ ob.data = .cell (some (.ref C)) := ⟨_, e0.mod.kin _ _ lc, rfl⟩
  have hcc : s.heap.IsCell cc (some (.ref C)) := by
    obtain ⟨ob, hb, hdt⟩ := hbc
    exact ⟨ob, (e0.bs _ _ hb).1, hdt⟩
  have hc0 : h₀.IsCell cc (some (.ref C)) := by
    obtain ⟨ob, hb, hdt⟩ := hbc
    exact ⟨ob, hk _ _ (e0.bs _ _ hb).1, hdt⟩
  have hHc : H cc = none := by
    obtain ⟨ob, hb, hdt⟩ := hbc
    exact (e0.bs _ _ hb).2
  have noA : ∀ b : Addr, b ∉ (cxE CX P w K mg base p fd fI A outer s H E).ex := fun b z => absurd (show b ∈ ([] : List Addr) from z) (by simp)
  refine ⟨⟨e0.mod, F.ki, F.gl, F.bl, Nat.le_refl _, fun y z c h1 h2 => ?_, fun y hy => ?_, fun y c hfn h => ?_, fun _ => hd, Around.frames_deeper e0.frames, .inr ⟨rfl, rfl⟩, fun b z => absurd z (noA b), e0.bs, e0.bsz, fun b _ _ => noA b, fun b z => absurd z (noA b), e0.funs, e0.frf⟩,
    rfl, e0.bare, Un.kept hk, ⟨_, hns, fun i y v' h1 h2 h3 => ?_⟩, fun y c h => ?_, e0.hok.fresh (Nat.le_refl _), fun y c h => ?_, fun q hp => absurd (show q ∈ ([] : List (Addr × Obj)) from hp) (by simp), e0.hok.kept hk, rfl⟩
  · rw [(cells h1).1, (cells h2).1]
  · rcases hy with hy | hy
    · exact absurd rfl (F.nc _ (PySem.mem_of_lookup (show fd.scope.names.lookup y = some .cell from hy)))
    · have := F.fr y hy
      subst this
      refine ⟨cc, ?_⟩
      show fd.closure.lookup ("__class__" : Str) = some cc
      rw [ec]
      simp [List.lookup]
  · have := (cells h).1
    subst this
    exact absurd (of_decide_eq_true (show decide (("__class__" : Str) ≠ "__class__") = true from hfn)) (by simp)
  · match i with
    | 0 =>
      cases h1
      cases h2
      exact ⟨_, rfl, .inl ⟨F.nS, by
        show ([("self", Value.ref a), (p, u)] : List (Str × Value)).reverse.lookup ("self" : Str) = _
        have hb : (("self" : Str) == p) = false := beq_eq_false_iff_ne.mpr (Ne.symm F.ne)
        simp [List.lookup, hb]⟩⟩
    | 1 =>
      cases h1
      cases h2
      refine ⟨_, rv, .inl ⟨F.nP, ?_⟩⟩
      show ([("self", Value.ref a), (p, u)] : List (Str × Value)).reverse.lookup p = _
      simp [List.lookup]
    | i + 2 => cases h1
  · obtain ⟨rfl, rfl⟩ := cells h
    exact ⟨_, hc0⟩
  · obtain ⟨rfl, rfl⟩ := cells h
    exact hHc
theorem exinit_fn (F : ExIn P K C fI f p fd) (hsup : mg "super" = none) : FnOk P w K mg base CX 1 fI fd ["self", p] (spExI C f) := by
  refine ⟨fun vs H Q E h => by obtain ⟨a, v, rfl, _⟩ := h; rfl, fun A outer s H args us vs Q E hr e0 hb rv hs => ?_⟩
  obtain ⟨a, v, rfl, ha, hq⟩ := hs
  obtain ⟨u1, u2, rfl, r1, r2⟩ := vals2 rv
  cases (show u1 = Value.ref a from r1)
  have KX : K.In s.heap := e0.mod.kin.keeps fun b o e => (e0.bs b o e).1
  have lim : s.heap.NoLimit := e0.mod.nolimit.keeps fun b o e => (e0.bs b o e).1
  obtain ⟨oc, od, osl, lk⟩ := F.lk
  obtain ⟨cda, ccl, cdd, cvs, ccs, file, tf, ecd, hcd, lcd, hv2, hfile⟩ := F.code
  obtain ⟨b, eb, m, j, q0, q1, q2, q3, q4, q5, q6, q7, q8, q9, hline, rfl⟩ := F.body
  obtain ⟨cc, cl, cld, csl, ec, lc⟩ := F.clo
  obtain ⟨cd, hcls⟩ := F.cd
  refine ks_codeAny_call_defAt (binds := [("self", .ref a), (p, u2)]) (Room.depth hr) (KX _ _ lk) rfl lim (PySem.W.codeRec_of KX hcd) eb hb F.nc (fun x hx => ?_) (fun h₀ hns hk => ?_) F.co F.ge F.ki
  · rcases List.mem_cons.mp hx with rfl | hx
    · exact F.nS
    · rcases List.mem_cons.mp hx with rfl | hx
      · exact F.nP
      · cases hx
  have I : Inv (cxE CX P w K mg base p fd fI A outer s H E) [] [some (.ref a), some v] H { s with heap := h₀, toks := s.toks + 2 } := exinit_start F e0 hr.hd r2 hns hk
  have KX1 : K.In h₀ := KX.keeps hk
  -- super().__init__('text')
  have hi : interactive (callEnv fd s.heap.objs.size fI) = false := by
    show (fd.scope.kind == .module && _) = false
    rw [F.ki]; rfl
  have he : eval (.Call (.Attribute (.Call (.Name "super" q0) [] [] q1) "__init__" q2) [.Constant (.str m) j q3] [] q4) (callEnv fd s.heap.objs.size fI) = (do
      let ov ← attributeBase (.Call (.Name "super" q0) [] [] q1) "__init__" (callEnv fd s.heap.objs.size fI) (eval (.Call (.Name "super" q0) [] [] q1) (callEnv fd s.heap.objs.size fI))
      standAt q2.atName
      let (f, first) ← holding [ov] (getMethod ov "__init__" (do return (← importBound (.Call (.Name "super" q0) [] [] q1) (callEnv fd s.heap.objs.size fI)).getD true))
      callWith q4 f first (backTo q4 (starEach [.Constant (.str m) j q3] (callEnv fd s.heap.objs.size fI))) []) := by
    show (do
      let ov ← attributeBase (.Call (.Name "super" q0) [] [] q1) "__init__" (callEnv fd s.heap.objs.size fI) (eval (.Call (.Name "super" q0) [] [] q1) (callEnv fd s.heap.objs.size fI))
      standAt q2.atName
      methodCall (.Call (.Name "super" q0) [] [] q1) "__init__" q2 q4 (callEnv fd s.heap.objs.size fI) ov 1 (backTo q4 (starEach [.Constant (.str m) j q3] (callEnv fd s.heap.objs.size fI))) []) = _
    unfold methodCall methodCallPos
    rw [hline]
    rfl
  refine ks_wpAt_execs_cons (ks_wpAt_Expr_any (ks_wpAt_MethodCall ?_ he) hi)
  obtain ⟨ar, ear, ear2⟩ : ∃ ar, (fd.params.posonlyargs ++ fd.params.args).head? = some ar ∧ ar.arg = "self" := by
    have := F.ps
    cases q : (fd.params.posonlyargs ++ fd.params.args).head? with
    | none => rw [q] at this; cases this
    | some ar => rw [q] at this; exact ⟨ar, rfl, Option.some.inj this⟩
  refine ks_wpAt_super_base (env := callEnv fd s.heap.objs.size fI) F.nU F.nC rfl rfl (KX1 _ _ lk) rfl ear ecd (KX1 _ _ lcd) rfl hv2 hfile F.top ?_
  obtain ⟨mb, hb1, hb2⟩ := e0.mod.blt
  have bk : ∀ b o, base.get? b = some o → h₀.get? b = some o := fun b o e => hk b o (e0.bs b o e).1
  refine PySem.W.ks_loadName_global F.ki F.nU (loadGlobal_builtin (env := callEnv fd s.heap.objs.size fI) (by show h₀.Ns fd.globals mg; rw [F.gl]; exact e0.mod.glob.keeps bk) hsup (by show h₀.Ns fd.builtins mb; rw [F.bl]; exact hb1.keeps bk)
    ((hb2 _ (by decide)).trans (show bootBuiltins "super" = some (.type "super") by decide +kernel)) ⟨rfl, ?_⟩)
  refine wpAny_loadName_free F.ki F.nC (c := cc) (by show fd.closure.lookup ("__class__" : Str) = some cc; rw [ec]; simp [List.lookup]) ⟨_, KX1 _ _ lc, rfl⟩ ?_
  rw [ear2]
  refine wpAny_loadName_local F.ki F.nS hns (by
    show ([("self", Value.ref a), (p, u2)] : List (Str × Value)).reverse.lookup ("self" : Str) = _
    have hb : (("self" : Str) == p) = false := beq_eq_false_iff_ne.mpr (Ne.symm F.ne)
    simp [List.lookup, hb]
    rfl) ?_
  obtain ⟨oD, hD1, hD2⟩ : ∃ oD, h₀.get? C = some oD ∧ oD.data = .cls cd := by
    unfold PySem.W.clsIn at hcls
    split at hcls
    · rename_i c d cd' sl ho
      cases hcls
      exact ⟨_, KX1 _ _ ho, rfl⟩
    · cases hcls
  refine ks_wpAny_isType_cls hD1 hD2 ⟨rfl, ?_⟩
  obtain ⟨t1, hoe⟩ := exo_at I.hok ha
  refine ks_wpAny_call_super hD1 hD2 hoe rfl (fun c e => nomatch e) (PySem.W.looks_mroIn KX1 F.mro) (fun h1 hso k1 => ?_)
  have I1 := I.kept (h' := h1) (t' := s.toks + 2) k1
  have KX2 : K.In h1 := KX1.keeps k1
  have hoe1 := k1 _ _ hoe
  have J : PySem.W.InstAt h1 a _ C none := ⟨hoe1, rfl, rfl, trivial⟩
  have hI : PySem.W.Looks (model P w) h1 (isInstance (.ref a) (.type "ValueError")) true := J.type.andThen (PySem.W.looks_subIn KX2 F.sub)
  have hsp := F.sup
  unfold PySem.W.ks_superIn at hsp
  rw [hcls] at hsp
  refine PySem.W.kxs_getMethod PySem.W.kxs_ValueError hso (PySem.W.looks_opaque KX2 F.opq) (l₀ := cd.mro) ?_ rfl KX2 hsp hI (PySem.W.ks_ne KX2 J hcls) (by decide) ?_
  · exact fun A Q E s k q => wpAny_bind ((PySem.W.looks_clsIn KX2 hcls) A _ E s k (wpAny_pure q))
  have k2 : ∀ b o, h1.get? b = some o → (h1.push (PySem.W.kxs_mw "ValueError.__init__" a)).get? b = some o := fun b o e => Heap.get?_push_of_some _ e
  have hu : (h1.push (PySem.W.kxs_mw "ValueError.__init__" a)).get? h1.objs.size = some (PySem.W.kxs_mw "ValueError.__init__" a) := Heap.get?_push_at rfl rfl
  have I2 := I1.kept (h' := h1.push (PySem.W.kxs_mw "ValueError.__init__" a)) (t' := s.toks + 2 + 1) k2
  refine PySem.W.kxs_callWith (i := "ValueError.__init__") (x := a) rfl ?_
  rw [show starEach [.Constant (.str m) j q3] (callEnv fd s.heap.objs.size fI) = (false, eval (.Constant (.str m) j q3) (callEnv fd s.heap.objs.size fI)) :: starEach [] (callEnv fd s.heap.objs.size fI) from rfl]
  refine evalArgs_plain ?_
  refine spliced_cons (wpAny_Constant_str (k := j) (pos := q3) (spliced_nil ⟨hu, ?_⟩))
  obtain ⟨nm', N', qn', bs', bm', hdct', sn', sub', ab', col', dd', k0', k1', k2', k3', k5', hCo, hT⟩ := PySem.W.excInit_of (KX2.keeps k2) F.ei
  have hoe2 := k2 _ _ hoe1
  have I3 : Inv (cxE CX P w K mg base p fd fI A outer s H E) [] [some (.ref a), some v] H { s with heap := h1.push (PySem.W.kxs_mw "ValueError.__init__" a), toks := s.toks + 2 + 1 + 1 } := I1.kept (t' := s.toks + 2 + 1 + 1) k2
  refine wpAny_call (codeAny_of_tree ?_)
  show wpAny _ _ (callAny (.ref h1.objs.size) ⟨[.str m _], []⟩) _ _ _
  simp only [callAny]
  refine wpAny_bind (wpAny_load hu ?_)
  simp only [PySem.W.kxs_mw, show (Value.type "method-wrapper" == Value.type "method" || Value.type "method-wrapper" == Value.type "builtin_function_or_method" || Value.type "method-wrapper" == Value.type "method-wrapper") = true by decide, if_true]
  refine PySem.W.KFB.if_so (by decide) ?_
  refine wpAny_bind (PySem.W.check_bound_init PySem.F.excBase_ValueError.toExcCallFacts hCo hoe2 rfl ?_)
  refine wpAny_bind (wpAny_pure (wpAny_pure ?_))
  refine ⟨plainId_quiet PySem.F.excBase_ValueError.init.plain _, codeAny_builtin PySem.F.excBase_ValueError.initEntry ?_⟩
  refine PySem.W.exc_init_tree (cls := .ref C) (t0 := t1) (dv := none) (c2 := .none) (c3 := .none) (b4 := .bool false) hoe2 (by rw [sizeLine_eq]; exact (show 1 ≤ 16777216 by decide)) (fun h' k3 hx _ => ?_)
  have J3 := I3.write (t' := s.toks + 2 + 1 + 1) (x := a) (e := a) (o := exo a C none) (by rw [ha]; exact True.intro) (.inl rfl) k3 ⟨_, hx⟩ (exo_ok hx)
  have eu : upd H a (exo a C none) = H := by
    funext b
    by_cases hb : b = a
    · rw [hb, upd_same, ha]
    · rw [upd_ne hb]
  rw [eu] at J3
  -- self.f = p
  refine wpAt_of_wpAny ?_
  have hps : PSs (cxE CX P w K mg base p fd fI A outer s H E) [.Assign [.Attribute (.Name "self" q6) f q7] (.Name p q8) q9] (tOst K f (tVar 0) (tVar 1)) :=
    pss_one (ps_ost (X := cxE CX P w K mg base p fd fI A outer s H E) (pe_var (i := 0) rfl (.inl F.nS)) (pe_var (i := 1) rfl (.inl F.nP) (beq_eq_false_iff_ne.mpr F.nd1) (beq_eq_false_iff_ne.mpr F.nd2)))
  refine wpAny_mono (hps.run [] _ _ H { nx := fun _ H' => Q .non H', rt := fun _ _ => False } J3 ⟨v, rfl, .ref a, rfl, a, C, rfl, F.oc, F.no, .inl ⟨ha, fun dx n ne => hq dx n ne⟩⟩) (fun fl s' hs => ?_) fun e s' hs => hs
  cases fl with
  | ret u => obtain ⟨_, _, _, _, _, z⟩ := hs; exact z.elim
  | next =>
    obtain ⟨σ', H', J, q⟩ := hs
    exact ⟨.non, H', J.os, J.bare, J.base, J.hok, rfl, q⟩
  | brk => obtain ⟨_, _, _, z⟩ := hs; exact z.elim
  | cont => obtain ⟨_, _, _, z⟩ := hs; exact z.elim
end
end Dl
namespace PySem.W
open PySem PySem.Spec PySem.Calls PyProof.Rows
section
variable {prog : Program} {w : World} {A : Around} {E : Value → Shared → Prop} {s : Shared} {K : Frag} {x D : Addr} {ox : Obj} {odx : Option Obj}
theorem findObj_dataD {C : Addr} {name : Str} {a g : Value} (hc : (clsIn K C).isSome = true) (ha : findIn K (.ref C) name = some (some a)) (hg : specialIn K a "__get__" = some (some g)) (ht : takesIn K a = some true) : findObj K C odx name = some (.bind g a) := by
  obtain ⟨cd, hc⟩ := Option.isSome_iff_exists.mp hc
  unfold findObj
  rw [hc, Option.bind_some, ha, Option.bind_some]
  simp [hg, ht]
theorem kin_classD {Q : Option Value → Shared → Prop} (hga : findIn K (.ref D) "__getattribute__" = some (some (.builtin "BaseException.__getattribute__"))) (hgt : findIn K (.ref D) "__getattr__" = some none) (hsub : subIn K (.ref D) (.type "BaseException") = some true)
    (hdct : hasDictIn K D = true) (ha : findIn K (.ref D) "__class__" = some (some (.builtin "object.__class__")))
    (hn : specialIn K (.builtin "object.__class__") "__get__" = some (some (.builtin "getset_descriptor.__get__"))) (htk : takesIn K (.builtin "object.__class__") = some true) (hm : mroIn K D (.type "object") = some true)
    (X : K.In s.heap) (I : InstAt s.heap x ox D odx) (h : Q (some (.ref D)) { s with toks := s.toks + 1 }) : wpAny (model prog w) A (getAttr? (.ref x) "__class__") Q E s := by
  have hf : findObj K D odx "__class__" = some (.bind (.builtin "getset_descriptor.__get__") (.builtin "object.__class__")) := findObj_dataD (by obtain ⟨cd, hc, _⟩ := any_some hdct; rw [hc]; rfl) ha hn htk
  obtain ⟨hp, g, d, t, os⟩ := s
  have L0 := I.type (M := model prog w)
  have L1 := looks_findIn (M := model prog w) X hga
  have L2 := looks_findIn (M := model prog w) X hgt
  have L3 := looks_find (M := model prog w) X I hf
  have sub : Looks (model prog w) hp (isInstance (.ref x) (.type "BaseException")) true := L0.andThen (looks_subIn X hsub)
  have hx0 : (false && onTheHeap (Value.builtin "BaseException.__getattribute__")) = false := rfl
  have hx2 : (Value.builtin "BaseException.__getattribute__" == Value.builtin "object.__getattribute__") = false := by decide +kernel
  have hx1 : (onTheHeap (Value.ref D) && Value.builtin "BaseException.__getattribute__" == Value.builtin "object.__getattribute__") = false := by rw [hx2]; rfl
  unfold getAttr? getAttrBy? getAttrBy
  refine wpAny_bind (wpAny_mkText (wpAny_bind (wpAny_attempt (wpAny_holding (wpAny_bind (L0.at (wpAny_bind (L1.at ?_))))))))
  show wpAny _ _ (if (onTheHeap (Value.ref D) && Value.builtin "BaseException.__getattribute__" == Value.builtin "object.__getattribute__") = true then _ else _) _ _ _
  rw [hx1, if_neg Bool.false_ne_true]
  unfold getAttrByItsOwn hookBefore
  refine wpAny_bind ?_
  rw [if_pos (show onTheHeap (Value.ref D) = true from rfl)]
  refine L2.at ?_
  refine wpAny_bind (wpAny_attempt (wpAny_holding ?_))
  unfold callGetattribute
  rw [hx0, if_neg Bool.false_ne_true]
  unfold boundAndCalled
  rw [PySem.F.excAttr_ValueError.ga.bind (.ref x)]
  refine wpAny_bind (wpAny_pure ?_)
  show wpAny _ _ (call (.builtin "BaseException.__getattribute__") [.ref x, .str "__class__" t]) _ _ _
  refine wpAny_call (codeAny_call_builtin PySem.F.excAttr_ValueError.ga.plain PySem.F.entry_bexc_ga ?_)
  refine @check_slot (model prog w) _ _ ⟨hp, g, d, t + 1, os⟩ "BaseException.__getattribute__" "BaseException" "__getattribute__" (.ref x) [.str "__class__" t] [] _ (by decide +kernel) (by decide +kernel) sub (PySem.F.args_bexc_ga (.ref x) (.str "__class__" t)) ?_
  unfold Builtin.«object.__getattribute__»
  refine wpAny_bind (wpAny_of_eq (a := ((Value.ref x : Value), [Value.str "__class__" t])) (by first | rfl | (simp only [slotArgs]; rfl)) ?_)
  refine wpAny_bind (wpAny_pure (wpAny_bind (L0.at (wpAny_bind (L3.at ?_)))))
  show wpAny _ _ (holding [Value.builtin "object.__class__"] (call (.builtin "getset_descriptor.__get__") [.builtin "object.__class__", .ref x, .ref D]) >>= ret) _ _ _
  refine wpAny_bind (wpAny_holding (wpAny_call (class_get (s := ⟨hp, g, d, t + 1, os⟩) (ox := ox) (od := odx) X I hm ?_)))
  refine wpAny_pure ?_
  show wpAny _ _ (handedOut (.ref D)) _ _ _
  rw [handedOut_of (v := .ref D) rfl]
  first
    | exact wpAny_pure (wpAny_pure h)
    | exact wpAny_pure h
    | exact wpAny_pure (wpAny_bind (wpAny_pure (wpAny_pure h)))
theorem kitx_excD (hga : findIn K (.ref D) "__getattribute__" = some (some (.builtin "BaseException.__getattribute__"))) (hgt : findIn K (.ref D) "__getattr__" = some none) (hsub : subIn K (.ref D) (.type "BaseException") = some true) (hdct : hasDictIn K D = true) (ha : findIn K (.ref D) "__class__" = some (some (.builtin "object.__class__")))
    (hn : specialIn K (.builtin "object.__class__") "__get__" = some (some (.builtin "getset_descriptor.__get__"))) (htk : takesIn K (.builtin "object.__class__") = some true) (hm : mroIn K D (.type "object") = some true) :
    KitX K (.ref x) (.ref D) (fun h => ∃ ox odx, InstAt h x ox D odx) where
  ty := fun _ _ _ ⟨_, _, I⟩ => I.type
  it := fun _ _ X _ => by
    obtain ⟨cdD, hcD, _⟩ := any_some hdct
    unfold clsIn at hcD
    split at hcD
    · rename_i c' d' cd' sl' ho
      intro A' Q' E' s' k q
      unfold isType loadHead
      exact wpAny_bind (wpAny_loadPart (k _ _ (X _ _ ho)) (wpAny_pure q))
    · cases hcD
  ne := fun h tp dd its n sl X htp => by
    obtain ⟨cdD, hcD, _⟩ := any_some hdct
    refine Bool.eq_false_iff.mpr fun q => ?_
    have e : D = tp := Value.ref.inj (beq_iff_eq.mp q)
    subst e
    unfold clsIn at hcD
    split at hcD
    · rename_i c' d' cd' sl' ho
      have z := (X _ _ ho).symm.trans htp
      cases z
    · cases hcD
  ca := fun X ⟨_, _, I⟩ k => kin_classD hga hgt hsub hdct ha hn htk hm X I k
end
end PySem.W
namespace Dl
open PySem PySem.Spec PyProof.Rows L2
structure Ex0 (K : PySem.W.Frag) (mg : Str → Option Value) (C : Str → Addr) (c : Str) : Prop where
  ex : PySem.W.excIn K (C c) He.veBase "ValueError.__new__" = true
  gl : mg c = some (.ref (C c))
  kp : PySem.W.keepIn K (.ref (C c)) = true
  sb : PySem.W.subIn K (.ref (C c)) (.type "BaseException") = some true
  ty : PySem.W.typeIn K (.ref (C c)) = some (.type "type")
structure Ex1 (P : Program) (w : World) (K : PySem.W.Frag) (mg : Str → Option Value) (base : Heap) (C : Str → Addr) (c f : Str) : Prop where
  oc : OexC K (C c)
  gl : mg c = some (.ref (C c))
  ex : ∃ (fI : Addr) (fd : FuncData) (ps : List Str), PySem.W.findIn K (.ref (C c)) "__init__" = some (some (.ref fI)) ∧ PySem.W.typeIn K (.ref fI) = some (.type "function") ∧
    (∀ CX : CXT, FnOk P w K mg base CX 1 fI fd ps (spExI (C c) f)) ∧ Binds K fd ps []
def dRaise0 (c : Str) : DS := fun k ρ => k.ex c [] ρ
def dRaise1 (c f : Str) (fe : DE) : DS := fun k ρ => fe (k.xq ρ) ρ fun d => k.ex c [(f, d)] ρ
section
variable {Γ : Kx} {W : WX} {te : TE} {fe : DE} {c f : Str}
theorem js_raise1 (a : JE Γ W te fe) : JS Γ W (fun _ σ H => tMkO (Γ.C c) (spExI (Γ.C c) f) [] (tCons te tNil) σ H fun cls d H' => W cls d σ H') (dRaise1 c f fe) := fun G0 R0 H0 G R H σ ρ k D n w e fz =>
  a H0 G R H σ ρ _ _ _ w (e.lk n w) fz fun v G1 R1 H1 d n1 r1 q1 => ⟨by show 1 ≤ 1000; omega, fun p hp => by
    refine ⟨p, v, rfl, upd_same, fun dx hdx ne => ⟨rfl, dx, [(f, v)], upd_same, by rw [upd_ne ne, upd_same], ?_, ?_⟩⟩
    · rw [upd_ne ne] at hdx
      exact hdx
    · have hdx' : H1 dx = none := by rw [upd_ne ne] at hdx; exact hdx
      have eH : upd (del (upd (upd (upd H1 p (exo p (Γ.C c) none)) dx (exd dx [(f, v)])) p (exo p (Γ.C c) (some dx))) p) dx (.xd [(f, v)]) = upd H1 dx (.xd [(f, v)]) := by
        funext b
        by_cases h1 : b = dx
        · rw [h1, upd_same, upd_same]
        · rw [upd_ne h1, upd_ne h1]
          by_cases h2 : b = p
          · rw [h2, del_same, hp]
          · rw [del_ne h2, upd_ne h2, upd_ne h1, upd_ne h2]
      rw [eH]
      have n2 : Nx G1 R1 H1 G1 R1 (upd H1 dx (.xd [(f, v)])) := Nx.new n1.gd _ hdx'
      refine e.ex c [(f, d)] _ (some dx) G1 R1 _ σ ρ ((n.trans n1).trans n2) ((w.nx n1).nx n2) q1 ⟨rfl, .inr ⟨by simp, dx, [(f, v)], rfl, upd_same, ?_⟩⟩
      unfold RpF
      exact ⟨v, [], rfl, r1, by unfold RpF; rfl⟩⟩
end
section
variable {X : Cx} {C : Str → Addr} {W : WX} {k : Nat} {bl : Str → Bool} {e : Expr} {es : List Expr} {fe : DE} {pos p p1 p2 : Pos} {c f : Str}
theorem takes_no (tk : Takes X W) : Passes (L2.CX X.prog X.w) X (fun _ _ _ => False) := passes_call tk fun _ _ _ _ h => h.elim
theorem cs_raise1 (h : Ex1 X.prog X.w X.K X.mg X.base C c f) (g : GE X W k bl) (ha : CE X C W e fe) (hk : 2 ≤ k := by decide) (hg : Gl X c := by rfl) (hdb : (c == ("__debug__" : Str)) = false := by decide)
    (he : starEach [e] X.env = (false, eval e X.env) :: starEach [] X.env := by rfl) : CS X C W (.Raise (some (.Call (.Name c p) [e] [] p1)) none pos) (dRaise1 c f fe) :=
  let ⟨_, p, q⟩ := ha
  let ⟨_, _, _, iC, tI, F, b⟩ := h.ex
  ⟨_, ps_raise g.calm g.tk (pmk_oex h.oc iC tI (F _) (g.room.mono hk) b .nil (takes_no g.tk) hg h.gl (pa_cons p pa_nil he) hdb he rfl), js_raise1 q⟩
end
def kSu (k : DK) (i : Nat) : DK := ⟨fun ρ => k.nx (ρ.set i .un), fun d ρ => k.rt d (ρ.set i .un), fun ρ => k.bk (ρ.set i .un), fun ρ => k.ct (ρ.set i .un), fun _ _ _ => False, fun v as d ρ => k.ro v as d (ρ.set i .un)⟩
def dTry (exs : List Str) (i : Nat) (fb : DS) (su : Addr → Option Addr → Str → List (Str × D) → DS) : DS := fun k ρ =>
  fb ⟨k.nx, k.rt, k.bk, k.ct, fun c fs ρ' => c ∈ exs ∧ ∀ a d, su a d c fs (kSu k i) (ρ'.set i (.ex a d c fs)), k.ro⟩ ρ
def tSof (Γ : Kx) (W : WX) (fs : DS) : TS := fun D σ H => ∃ (G0 : Hp) (R0 : Addr → Prop) (H0 G : Hp) (R : Addr → Prop) (ρ : En) (k : DK), Nx G0 R0 H0 G R H ∧ Wd Γ H0 G R H σ ρ ∧ EndsOk Γ W G0 R0 H0 k D ∧ fs k ρ
theorem CSs.canon {X : Cx} {C : Str → Addr} {W : WX} {st : List Stmt} {fs : DS} (h : CSs X C W st fs) : PSs X st (tSof ⟨X.K, C⟩ W fs) := let ⟨t, p, q⟩ := h; ⟨fun pins s σ H D I ⟨G0, R0, H0, G, R, ρ, k, n, w, e, f⟩ => p.run pins s σ H D I (q G0 R0 H0 G R H σ ρ k D n w e f)⟩
structure ExT (K : PySem.W.Frag) (C : Str → Addr) (exs : List Str) (cv : Value) : Prop where
  exm : ∀ c ∈ exs, PySem.W.exmOne K (.ref (C c)) cv = some true
section
variable {X : Cx} {C : Str → Addr} {W : WX} {k : Nat} {bl : Str → Bool} {x n : Str} {cv : Value} {i : Nat} {body suite : List Stmt} {b₀ : Stmt} {np pos pos' : Pos} {exs : List Str} {fb : DS} {su : Addr → Option Addr → Str → List (Str × D) → DS}
theorem cs_try (hs : X.stack = X.env :: X.outer) (hf : X.env.frame = some X.env.locals) (hN : X.N.Nodup) (hi : X.N[i]? = some n) (hln : X.env.kindOf n = some .local) (hc : Names X x cv) (tk : Takes X W) (ht : ExT X.K C exs cv)
    (hb : ∀ (W' : WX) (pn : List (Addr × Obj)) (xe : Value → Shared → Prop), Takes (X.tr pn xe) W' → PassesOwn (model X.prog X.w) X.A X.env xe → CSs (X.tr pn xe) C W' body fb)
    (hsu : ∀ (a : Addr) (oe : Obj) (c : Str) (d : Option Addr) (fs : List (Str × D)) (pn : List (Addr × Obj)), c ∈ exs → Zc (.ref (C c)) d oe → (∃ vs, oe.data = .fields vs) → CSs (X.suite a ((a, oe) :: pn)) C W0 (b₀ :: suite) (su a d c fs)) :
    CS X C W (.Try body [.ExceptHandler (some (.Name x np)) (some n) (b₀ :: suite) pos'] [] [] pos) (dTry exs i fb su) := by
  refine ⟨_, ps_try_as (tb := fun W' => tSof ⟨X.K, C⟩ W' fb) (ts := fun a cls d D σ H => ∃ c fs, c ∈ exs ∧ cls = .ref (C c) ∧ tSof ⟨X.K, C⟩ W0 (su a d c fs) D σ H) (Wout := W) hs hf hN hi hln hc tk (fun W' pn xe h1 h2 => (hb W' pn xe h1 h2).canon)
    (fun a oe cls d pn hz hd => ⟨fun pins s σ H D I ⟨c, fs, hc, ec, h⟩ => ?_⟩), ?_⟩
  · subst ec
    exact (hsu a oe c d fs pn hc hz hd).canon.run pins s σ H D I h
  · intro G0 R0 H0 G R H σ ρ kk D n0 w e fz
    refine ⟨G0, R0, H0, G, R, ρ, ⟨kk.nx, kk.rt, kk.bk, kk.ct, fun c fs ρ' => c ∈ exs ∧ ∀ a d, su a d c fs (kSu kk i) (ρ'.set i (.ex a d c fs)), kk.ro⟩, n0, w, ⟨e.nx, e.rt, e.bk, e.ct, ?_, e.ro⟩, fz⟩
    intro c fs cls dx G1 R1 H1 σ1 ρ1 n1 w1 ⟨hc, q⟩ ⟨ec, er⟩
    subst ec
    refine ⟨true, ht.exm c hc, fun _ a ha => ?_, fun z => by cases z⟩
    have w2 : Wd ⟨X.K, C⟩ H0 G1 R1 H1 (σ1.set i (some (.ref a))) (ρ1.set i (.ex a dx c fs)) := w1.set i ⟨rfl, by
      rcases er with ⟨e1, e2⟩ | ⟨e1, dd, vs, e2, e3, e4⟩
      · exact .inl ⟨e1, e2⟩
      · refine .inr ⟨dd, vs, e2, e3, fun z => ?_, e4⟩
        obtain ⟨_, _, _, z2⟩ := w1.gd.rd dd z
        rw [e3] at z2; cases z2⟩ (fun _ z => absurd z List.not_mem_nil)
    refine ⟨c, fs, hc, rfl, G0, R0, H0, G1, R1, _, _, n1, w2, ⟨?_, ?_, ?_, ?_, ?_, ?_⟩, q a dx⟩
    · exact fun G' R' H' σ' ρ' m w' z => e.nx G' R' H' _ _ m (w'.un i none) z
    · exact fun v d G' R' H' σ' ρ' m w' r z => e.rt v d G' R' H' _ _ m (w'.un i none) r z
    · exact fun G' R' H' σ' ρ' m w' z => e.bk G' R' H' _ _ m (w'.un i none) z
    · exact fun G' R' H' σ' ρ' m w' z => e.ct G' R' H' _ _ m (w'.un i none) z
    · exact fun _ _ _ _ _ _ _ _ _ _ _ z => z.elim
    · exact fun v as d G' R' H' σ' ρ' m w' r nd z => e.ro v as d G' R' H' _ _ m (w'.un i none) r nd z
end
end Dl
namespace Dl
open PySem PySem.Spec PyProof.Rows L2
def rIsE2 (K : PySem.W.Frag) (Dc a : Addr) (d : Option Addr) : List V → Hp → VK → Prop := fun xs H Q => ∃ (c : V) (cv : Value) (b : Bool), xs = [.ref a, c] ∧ (∀ u, RelV c u → u = cv) ∧ PySem.W.kitOne K (.ref Dc) cv = some b ∧
  (d = none ∨ ∃ dd fs, d = some dd ∧ H dd = some (.xd fs)) ∧ Q (.bl b) H
theorem inst_exc {X : Cx} {pins : List (Addr × Obj)} {σ : St} {H : Hp} {s : Shared} {a Dc : Addr} {oe : Obj} {d : Option Addr} {pn : List (Addr × Obj)} (hz : Zc (.ref Dc) d oe) (hf : ∃ vs, oe.data = .fields vs) (I : Inv (X.suite a ((a, oe) :: pn)) pins σ H s)
    (hd : d = none ∨ ∃ dd fs, d = some dd ∧ H dd = some (.xd fs)) : ∃ ox odx, PySem.W.InstAt s.heap a ox Dc odx := by
  obtain ⟨ha, _⟩ := I.pin (a, oe) (List.mem_append_left _ List.mem_cons_self)
  obtain ⟨vs, hv⟩ := hf
  rcases hd with rfl | ⟨dd, fs, rfl, hx⟩
  · refine ⟨oe, none, ?_⟩
    obtain ⟨oc, od, oda, osl⟩ := oe
    obtain ⟨h1, h2⟩ := hz
    dsimp only at h1 h2 hv
    subst h1 h2 hv
    exact ⟨ha, rfl, rfl, trivial⟩
  · have hx' : ObjOk X.prog X.w H s.heap dd (.xd fs) := I.hok dd _ hx
    obtain ⟨mA, hns, hr⟩ := hx'
    obtain ⟨od, ho, hl⟩ := lookIn_ns hns
    exact ⟨oe, some od, ha, hz.1, by unfold PySem.W.notCls; rw [hv] <;> rfl, by rw [hz.2]; exact ho⟩
theorem call_isE2 {X : Cx} {a Dc : Addr} {oe : Obj} {d : Option Addr} {pn : List (Addr × Obj)} (C : ExcC X.K Dc) (hz : Zc (.ref Dc) d oe) (hf : ∃ vs, oe.data = .fields vs) : CallR (X.suite a ((a, oe) :: pn)) (.builtin "isinstance") (rIsE2 X.K Dc a d) := by
  intro pins s σ H xs us Q I r h
  obtain ⟨c, cv, b, rfl, hcv, e, hd, q⟩ := h
  cases r with
  | cons rx rr =>
    cases rr with
    | cons rt rr =>
      cases rr
      cases rx
      have ec := hcv _ rt
      subst ec
      exact PySem.W.kia_one (PySem.W.kitx_excD C.hg C.hk C.hs C.hd C.ha C.hn C.ht C.hm) I.kIn (inst_exc hz hf I hd) e (fun z => nomatch z) fun tk => ⟨.bl b, H, I.kept (t' := tk) fun _ _ z => z, rfl, q⟩
def dExIs (a : Addr) (d : Option Addr) (i : Nat) (b : Bool) : DE := fun _ ρ Q => (∃ c fs, ρ[i]? = some (.ex a d c fs)) ∧ Q (.bl b)
def dExFld (a : Addr) (d : Option Addr) (fs : List (Str × D)) (i : Nat) (f : Str) : DE := fun _ ρ Q => (∃ c, ρ[i]? = some (.ex a d c fs)) ∧ ∃ v, fs.lookup f = some v ∧ Q v
section
variable {Γ : Kx} {W : WX} {a Dc : Addr} {d : Option Addr} {i : Nat} {b : Bool} {c : V} {cv : Value} {f : Str} {fs : List (Str × D)}
theorem je_exIs (hcv : ∀ u, RelV c u → u = cv) (hk : PySem.W.kitOne Γ.K (.ref Dc) cv = some b) : JE Γ W (tCB (rIsE2 Γ.K Dc a d) (tCons (tVar i) (tCons (tC c) tNil))) (dExIs a d i b) := fun H0 G R H σ ρ xq Qd Q w x fz k => by
  obtain ⟨⟨c', fs, e⟩, q⟩ := fz
  obtain ⟨v, e2, e3, e4⟩ := w.sl i _ e
  subst e3
  exact ⟨_, e2, c, cv, b, rfl, hcv, hk, e4.imp And.right fun ⟨dd, vs, z1, z2, _⟩ => ⟨dd, vs, z1, z2⟩, k _ G R H _ (Nx.refl w.gd) rp_bl q⟩
theorem je_exFld : JE Γ W (tXf a (.ref Dc) d Dc f (tVar i)) (dExFld a d fs i f) := fun H0 G R H σ ρ xq Qd Q w x fz k => by
  obtain ⟨⟨c', e⟩, d', l, q⟩ := fz
  obtain ⟨v, e2, e3, e4⟩ := w.sl i _ e
  subst e3
  rcases e4 with ⟨e4, _⟩ | ⟨dd, vs, z1, z2, z3, z4⟩
  · subst e4; cases l
  · obtain ⟨u, l2, ru⟩ := z4.lookup l
    exact ⟨_, e2, rfl, rfl, dd, vs, u, z1, z2, l2, k u G R H d' (Nx.refl w.gd) ru q⟩
end
section
variable {X : Cx} {C : Str → Addr} {W : WX} {a : Addr} {d : Option Addr} {c y f : Str} {oe : Obj} {pn : List (Addr × Obj)} {i : Nat} {b : Bool} {e : Expr} {fs : List (Str × D)} {pos p p2 : Pos}
theorem ce_exIs (CC : ExcC X.K (C c)) (hz : Zc (.ref (C c)) d oe) (hf : ∃ vs, oe.data = .fields vs) (hk : PySem.W.kitOne X.K (.ref (C c)) (.ref (C y)) = some b) (hy : X.mg y = some (.ref (C y))) (hm : X.mg "isinstance" = none)
    (he : PE (X.suite a ((a, oe) :: pn)) e (tVar i)) (hg : Gl X "isinstance" := by rfl) (hgy : Gl X y := by rfl) (hdy : (y == ("__debug__" : Str)) = false := by decide)
    (hs1 : starEach [e, .Name y p2] X.env = (false, eval e X.env) :: starEach [.Name y p2] X.env := by rfl) (hs2 : starEach [.Name y p2] X.env = (false, eval (.Name y p2) X.env) :: starEach [] X.env := by rfl) (hpl : (backTo pos (starEach [.Name y p2] X.env)).any (·.1) = false := by rfl) :
    CE (X.suite a ((a, oe) :: pn)) C W (.Call (.Name "isinstance" p) [e, .Name y p2] [] pos) (dExIs a d i b) :=
  ⟨_, pe_callB (X := X.suite a ((a, oe) :: pn)) (call_isE2 CC hz hf) hg hm boot_isinstance (pa_cons he (pa_cons (pe_glob (v := .ref (C y)) hgy hy rfl hdy) pa_nil hs2) hs1) (by decide) (by decide) hs1 hpl, je_exIs (fun u r => r) hk⟩
theorem ce_exIsB {T : String} (CC : ExcC X.K (C c)) (hz : Zc (.ref (C c)) d oe) (hf : ∃ vs, oe.data = .fields vs) (hk : PySem.W.kitOne X.K (.ref (C c)) (.type T) = some b) (hy : X.mg y = none) (hT : bootBuiltins y = some (.type T)) (hm : X.mg "isinstance" = none)
    (he : PE (X.suite a ((a, oe) :: pn)) e (tVar i)) (hg : Gl X "isinstance" := by rfl) (hgy : Gl X y := by rfl) (hn : y ≠ "__name__" := by decide) (hdy : (y == ("__debug__" : Str)) = false := by decide)
    (hs1 : starEach [e, .Name y p2] X.env = (false, eval e X.env) :: starEach [.Name y p2] X.env := by rfl) (hs2 : starEach [.Name y p2] X.env = (false, eval (.Name y p2) X.env) :: starEach [] X.env := by rfl) (hpl : (backTo pos (starEach [.Name y p2] X.env)).any (·.1) = false := by rfl) :
    CE (X.suite a ((a, oe) :: pn)) C W (.Call (.Name "isinstance" p) [e, .Name y p2] [] pos) (dExIs a d i b) :=
  ⟨_, pe_callB (X := X.suite a ((a, oe) :: pn)) (call_isE2 CC hz hf) hg hm boot_isinstance (pa_cons he (pa_cons (pe_bltn (v := .ty T) hgy hy hT rfl hn hdy) pa_nil hs2) hs1) (by decide) (by decide) hs1 hpl, je_exIs (fun u r => r) hk⟩
theorem ce_exFld (T : XfC X.K (C c)) (hno : PySem.W.findIn X.K (.ref (C c)) f = some none) (hz : Zc (.ref (C c)) d oe) (hf : ∃ vs, oe.data = .fields vs) (he : PE (X.suite a ((a, oe) :: pn)) e (tVar i)) (hb : attributeBase e f X.env (eval e X.env) = eval e X.env := by rfl) :
    CE (X.suite a ((a, oe) :: pn)) C W (.Attribute e f pos) (dExFld a d fs i f) := ⟨_, pe_xf T hno hz hf he hb, je_exFld⟩
end
section
variable {X : Cx} {C : Str → Addr} {W : WX} {bl : Str → Bool} {a : Expr} {fa : DE} {pos p p2 : Pos} {x : Str} {T : String}
theorem ce_isiB (t : Ty5 T) (hT : bootBuiltins x = some (.type T)) (hbl : ∀ n, bl n = true → X.mg n = none) (h : CQ X C W a fa) (hb : bl "isinstance" = true := by decide +kernel) (hbT : bl x = true := by decide +kernel) (hg : Gl X "isinstance" := by rfl) (hgT : Gl X x := by rfl) (hn : x ≠ "__name__" := by decide) (hd : (x == ("__debug__" : Str)) = false := by decide)
    (he : starEach [a, .Name x p2] X.env = (false, eval a X.env) :: starEach [.Name x p2] X.env := by rfl) (he' : starEach [.Name x p2] X.env = (false, eval (.Name x p2) X.env) :: starEach [] X.env := by rfl) (hpl : (backTo pos (starEach [.Name x p2] X.env)).any (·.1) = false := by rfl) : CE X C W (.Call (.Name "isinstance" p) [a, .Name x p2] [] pos) (d1 (gIsi T) fa) :=
  let ⟨_, p, q⟩ := h; ⟨_, pe_callB call_isi hg (hbl _ hb) boot_isinstance (pa_cons p (pa_cons (pe_bltn (v := .ty T) hgT (hbl _ hbT) hT rfl hn hd) pa_nil he') he) (by decide) (by decide) he hpl, je_isi t q⟩
end
def gIsC (cs : List Str) (isa : Str → Bool) (x : D) (Q : D → Prop) : Prop := match x with
  | .ins c _ => c ∈ cs ∧ Q (.bl (isa c))
  | .rd => False
  | .any => False
  | .dic _ => False
  | .fr _ => False
  | .raw _ => False
  | _ => Q (.bl false)
structure IsC (K : PySem.W.Frag) (C : Str → Addr) (cs : List Str) (isa : Str → Bool) (y : Str) : Prop where
  ins : ∀ c ∈ cs, Cls K (C c) ∧ PySem.W.findIn K (.ref (C c)) "__class__" = some (some (.builtin "object.__class__")) ∧ PySem.W.mroIn K (C c) (.type "object") = some true ∧ PySem.W.kitOne K (.ref (C c)) (.ref (C y)) = some (isa c)
  sp : PySem.W.specialIn K (.builtin "object.__class__") "__get__" = some (some (.builtin "getset_descriptor.__get__"))
  tk : PySem.W.takesIn K (.builtin "object.__class__") = some true
  bs : ∀ t ∈ ["NoneType", "bool", "int", "str", "tuple", "list"], PySem.W.kitOne K (.type t) (.ref (C y)) = some false
section
variable {X : Cx} {C : Str → Addr} {W : WX} {k : Nat} {bl : Str → Bool} {a : Expr} {fa : DE} {pos p p2 : Pos} {y : Str} {cs : List Str} {isa : Str → Bool}
theorem je_isC {Γ : Kx} {te : TE} (h : IsC Γ.K Γ.C cs isa y) (q : JQ Γ W te fa) : JE Γ W (tCB (rIsi Γ.K) (tCons te (tCons (tC (.ref (Γ.C y))) tNil))) (d1 (gIsC cs isa) fa) := fun H0 G R H σ ρ xq Qd Q w x f k =>
  q H0 G R H σ ρ xq _ _ w x f fun v1 G1 R1 H1 d1 n1 r1 q1 => by
    by_cases hi : ∃ c fs, d1 = .ins c fs
    · obtain ⟨c, fs, rfl⟩ := hi
      obtain ⟨hc, q1⟩ : c ∈ cs ∧ Qd (.bl (isa c)) := q1
      obtain ⟨h1, h2, h3, h4⟩ := h.ins c hc
      obtain ⟨p, dx, vs, e, hh, _⟩ := r1.ins n1.gd
      exact ⟨v1, .ref (Γ.C y), _, _, _, rfl, .own _, by rw [e]; exact .base (.ins hh h1 h2 h.sp h.tk h3), h4, k _ G1 R1 H1 _ n1 rp_bl q1⟩
    · have h1 : ∀ c fs, d1 ≠ .ins c fs := fun c fs e => hi ⟨c, fs, e⟩
      have h2 : d1 ≠ .rd := fun e => by subst e; exact q1
      have a3 : d1 ≠ .any := fun e => by subst e; exact q1
      have a4 : (∀ kvs, d1 ≠ .dic kvs) ∧ (∀ x, d1 ≠ .fr x) ∧ ∀ x, d1 ≠ .raw x := ⟨fun kvs e => by subst e; exact q1, fun kvs e => by subst e; exact q1, fun kvs e => by subst e; exact q1⟩
      have h3 : Qd (.bl false) := by
        cases d1 <;> first | exact q1 | exact absurd rfl h2 | exact absurd rfl (h1 _ _) | exact q1.elim
      exact ⟨v1, .ref (Γ.C y), _, _, _, rfl, .own _, r1.ty n1.gd h1 h2 a3 a4, h.bs _ (dty_mem h1 a3 a4), k _ G1 R1 H1 _ n1 rp_bl h3⟩
theorem ce_isC (hc : IsC X.K C cs isa y) (hy : X.mg y = some (.ref (C y))) (g : GE X W k bl) (h : CQ X C W a fa) (hb : bl "isinstance" = true := by decide +kernel) (hg : Gl X "isinstance" := by rfl) (hgT : Gl X y := by rfl) (hd : (y == ("__debug__" : Str)) = false := by decide)
    (he : starEach [a, .Name y p2] X.env = (false, eval a X.env) :: starEach [.Name y p2] X.env := by rfl) (he' : starEach [.Name y p2] X.env = (false, eval (.Name y p2) X.env) :: starEach [] X.env := by rfl) (hpl : (backTo pos (starEach [.Name y p2] X.env)).any (·.1) = false := by rfl) : CE X C W (.Call (.Name "isinstance" p) [a, .Name y p2] [] pos) (d1 (gIsC cs isa) fa) :=
  let ⟨_, p, q⟩ := h; ⟨_, pe_callB call_isi hg (g.bl _ hb) boot_isinstance (pa_cons p (pa_cons (pe_glob (v := .ref (C y)) hgT hy rfl hd) pa_nil he') he) (by decide) (by decide) he hpl, je_isC hc q⟩
variable {b e : Expr} {es : List Expr} {fs fb : DE} {fr : DA} {f c m : Str} {n j i : Nat}
theorem ce_fld {ks : List Str} (hk : FldOk X.K C ks f) (h : CQ X C W a fa) (hb : attributeBase a f X.env (eval a X.env) = eval a X.env := by rfl) : CE X C W (.Attribute a f pos) (d1 (gFld ks f) fa) := let ⟨_, p, q⟩ := h; ⟨_, pe_fld p hb, je_fld hk q⟩
def dFldI (i : Nat) (cs : List Str) (f : Str) : DE := fun xq ρ Q => (∃ a c fs, ρ[i]? = some (.io a c fs) ∧ c ∈ cs) ∧ dFldV i f xq ρ Q
theorem ce_fldI {ks : List Str} (hk : FldOk X.K C ks f) (h : PE X a (tVar i)) (hb : attributeBase a f X.env (eval a X.env) = eval a X.env := by rfl) : CE X C W (.Attribute a f pos) (dFldI i ks f) := ⟨_, pe_fld h hb, je_fldV hk⟩
theorem cs_setF {ks : List Str} (i : Nat) {p' : Pos} (hk : FldOk X.K C ks f) (ho : PE X a (tVar i)) (h : CE X C W e fa) (hs : swapsWith e (some (.Attribute a f p')) pos.line X.env = pure false := by rfl) : CS X C W (.Assign [.Attribute a f p'] e pos) (dSetF i ks f fa) :=
  let ⟨_, p, q⟩ := h; ⟨_, ps_fld ho p hs, js_setF hk q⟩
theorem ce_meth {S : DF} {apos : Pos} {pl : Sem Bool} (h : CalM X.prog X.w X.K X.mg X.base C j c m S) (g : GE X W k bl) (ho : CE X C W a fa) (ha : CA X C W (e :: es) fr n) (hk : j ≤ k := by decide)
    (hst : starEach (e :: es) X.env = (false, eval e X.env) :: starEach es X.env := by rfl) (hpl : (backTo pos (starEach es X.env)).any (·.1) = false := by rfl)
    (ht : eval (.Call (.Attribute a m apos) (e :: es) [] pos) X.env = (do
      let ov ← eval a X.env
      standAt apos.atName
      let (f, first) ← holding [ov] (getMethod ov m pl)
      callWith pos f first (backTo pos (starEach (e :: es) X.env)) (backToKw pos (keywordEach [] X.env))) := by rfl) : CE X C W (.Call (.Attribute a m apos) (e :: es) [] pos) (dMeth c m S fa fr) :=
  let ⟨_, p1, q1⟩ := ho
  let ⟨_, p2, q2⟩ := ha
  let ⟨_, _, _, F, hm, hc, hb⟩ := h.ex
  ⟨_, pe_methS (pl := pl) p1 hc hm F (g.room.mono hk) hb (fun σ => passAt g.tk σ) p2 hst hpl ht, je_meth q1 q2.a⟩
theorem ce_make {S : DI} (h : CalI X.prog X.w X.K X.mg X.base C j c S) (g : GE X W k bl) (ha : CA X C W (e :: es) fr n) (hk : j + 1 ≤ k := by decide) (hg : Gl X c := by rfl) (hdb : (c == ("__debug__" : Str)) = false := by decide)
    (he : starEach (e :: es) X.env = (false, eval e X.env) :: starEach es X.env := by rfl) (hpl : (backTo pos (starEach es X.env)).any (·.1) = false := by rfl) : CE X C W (.Call (.Name c p) (e :: es) [] pos) (dMake c S fr) :=
  let ⟨_, p2, q2⟩ := ha
  let ⟨_, _, _, F, hm, hc, hb⟩ := h.ex
  ⟨_, pe_makeS hm F (g.room.mono hk) hg hc hb (fun σ => passAt g.tk σ) p2 hdb he hpl, je_make q2.a⟩
theorem ce_gInt {x : Str} {z : Int} (hm : ∃ t, X.mg x = some (.int z t)) (hg : Gl X x := by rfl) (hd : (x == ("__debug__" : Str)) = false := by decide) : CE X C W (.Name x pos) (dC (.int z)) := let ⟨t, e⟩ := hm; ⟨_, pe_glob (v := .int z) hg e ⟨t, rfl⟩ hd, je_int⟩
end
end Dl
namespace Dl
open PySem PySem.Spec PyProof.Rows L2 He
structure CTb where
  cls : List Str
  exs : List Str
  ex0 : List Str
  flds : List (Str × Str)
  tgt : List Str
  cat : List Str
  isa : Str → Str → Bool
  meth : List (Str × Str)
  mkd : List Str
  gints : List (Str × Int)
  gstrs : List (Str × Str)
  gtups : List (Str × List Str) := []
  gtup2 : List (Str × List (List Str)) := []
def strOf : Value → Option Str
  | .str s _ => some s
  | _ => none
def tupB (K : PySem.W.Frag) (p : Str × List Str) : Bool := (Fa.glo p.1).ok K && (match K.lookup (ga K p.1) with
  | some o => decide (o.cls = .type "tuple") && (match o.data with
    | .seq its _ => decide (its.toList.map strOf = p.2.map some) && decide (its.size ≤ 1000)
    | _ => false)
  | none => false)
theorem strs_vals : ∀ {us : List Value} {xs : List Str}, us.map strOf = xs.map some → Vals (xs.map V.str) us
  | [], [], _ => .nil
  | [], _ :: _, h => by simp at h
  | _ :: _, [], h => by simp at h
  | u :: us, x :: xs, h => by
    rw [List.map_cons, List.map_cons] at h
    obtain ⟨h1, h2⟩ := List.cons.inj h
    refine .cons ?_ (strs_vals h2)
    cases u <;> first | (unfold strOf at h1; cases h1; exact ⟨_, rfl⟩) | (unfold strOf at h1; cases h1)
theorem tupB_ok {K : PySem.W.Frag} {p : Str × List Str} (h : tupB K p = true) : (Fa.glo p.1).ok K = true ∧ ∃ (o : Obj) (its : Array Value) (n : Nat), K.lookup (ga K p.1) = some o ∧ o.cls = .type "tuple" ∧ o.data = .seq its n ∧ its.size ≤ sizeLine ∧ Vals (p.2.map V.str) its.toList := by
  obtain ⟨h1, h2⟩ := ba h
  refine ⟨h1, ?_⟩
  split at h2
  · rename_i o e
    obtain ⟨h3, h4⟩ := ba h2
    split at h4
    · rename_i its n e2
      obtain ⟨h5, h6⟩ := ba h4
      have h6 := of_decide_eq_true h6
      exact ⟨o, its, n, e, of_decide_eq_true h3, e2, by rw [sizeLine_eq]; omega, strs_vals (of_decide_eq_true h5)⟩
    · cases h4
  · cases h2
def TupS (K : PySem.W.Frag) (a : Addr) (ys : List Str) : Prop := ∃ (o : Obj) (its : Array Value) (n : Nat), K.lookup a = some o ∧ o.cls = .type "tuple" ∧ o.data = .seq its n ∧ its.size ≤ sizeLine ∧ Vals (ys.map V.str) its.toList
def tupA (K : PySem.W.Frag) (a : Addr) (ys : List Str) : Bool := match K.lookup a with
  | some o => decide (o.cls = .type "tuple") && (match o.data with
    | .seq its _ => decide (its.toList.map strOf = ys.map some) && decide (its.size ≤ 1000)
    | _ => false)
  | none => false
theorem tupA_ok {K : PySem.W.Frag} {a : Addr} {ys : List Str} (h2 : tupA K a ys = true) : TupS K a ys := by
  unfold tupA at h2
  split at h2
  · rename_i o e
    obtain ⟨h3, h4⟩ := ba h2
    split at h4
    · rename_i its n e2
      obtain ⟨h5, h6⟩ := ba h4
      have h6 := of_decide_eq_true h6
      exact ⟨o, its, n, e, of_decide_eq_true h3, e2, by rw [sizeLine_eq]; omega, strs_vals (of_decide_eq_true h5)⟩
    · cases h4
  · cases h2
def TupsS (K : PySem.W.Frag) : List Value → List (List Str) → Prop
  | [], [] => True
  | .ref a :: us, ys :: r => TupS K a ys ∧ TupsS K us r
  | _, _ => False
def tupsA (K : PySem.W.Frag) : List Value → List (List Str) → Bool
  | [], [] => true
  | .ref a :: us, ys :: r => tupA K a ys && tupsA K us r
  | _, _ => false
theorem tupsA_ok {K : PySem.W.Frag} : ∀ {us : List Value} {yss : List (List Str)}, tupsA K us yss = true → TupsS K us yss
  | [], [], _ => trivial
  | [], _ :: _, h => by unfold tupsA at h; cases h
  | .ref a :: us, ys :: r, h => by
    unfold tupsA at h
    obtain ⟨h1, h2⟩ := ba h
    exact ⟨tupA_ok h1, tupsA_ok h2⟩
  | .ref _ :: _, [], h => by unfold tupsA at h; cases h
  | .int _ _ :: _, _, h => by unfold tupsA at h; cases h
  | u :: us, yss, h => by
    cases u <;> cases yss <;> first | (unfold tupsA at h; cases h; done) | skip
    rename_i a ys r
    unfold tupsA at h
    obtain ⟨h1, h2⟩ := ba h
    exact ⟨tupA_ok h1, tupsA_ok h2⟩
def Tup2 (K : PySem.W.Frag) (a : Addr) (yss : List (List Str)) : Prop := ∃ (o : Obj) (its : Array Value) (n : Nat), K.lookup a = some o ∧ o.cls = .type "tuple" ∧ o.data = .seq its n ∧ its.size ≤ sizeLine ∧ TupsS K its.toList yss
def tup2B (K : PySem.W.Frag) (p : Str × List (List Str)) : Bool := (Fa.glo p.1).ok K && (match K.lookup (ga K p.1) with
  | some o => decide (o.cls = .type "tuple") && (match o.data with
    | .seq its _ => tupsA K its.toList p.2 && decide (its.size ≤ 1000)
    | _ => false)
  | none => false)
theorem tup2B_ok {K : PySem.W.Frag} {p : Str × List (List Str)} (h : tup2B K p = true) : (Fa.glo p.1).ok K = true ∧ Tup2 K (ga K p.1) p.2 := by
  obtain ⟨h1, h2⟩ := ba h
  refine ⟨h1, ?_⟩
  split at h2
  · rename_i o e
    obtain ⟨h3, h4⟩ := ba h2
    split at h4
    · rename_i its n e2
      obtain ⟨h5, h6⟩ := ba h4
      have h6 := of_decide_eq_true h6
      exact ⟨o, its, n, e, of_decide_eq_true h3, e2, by rw [sizeLine_eq]; omega, tupsA_ok h5⟩
    · cases h4
  · cases h2
def bases : List String := ["NoneType", "bool", "int", "str", "tuple", "list"]
def kitB1 (K : PySem.W.Frag) (t c : Value) (b : Bool) : Bool := decide (PySem.W.kitOne K t c = some b)
def isoB (K : PySem.W.Frag) : Bool := decide (PySem.W.specialIn K (.builtin "object.__class__") "__get__" = some (some (.builtin "getset_descriptor.__get__"))) && decide (PySem.W.takesIn K (.builtin "object.__class__") = some true)
def objB (K : PySem.W.Frag) (c : Str) : Bool := eqO (PySem.W.findIn K (.ref (ga K c)) "__class__") (some (some (.builtin "object.__class__"))) && decide (PySem.W.mroIn K (ga K c) (.type "object") = some true)
def ex0B (K : PySem.W.Frag) (c : Str) : Bool := PySem.W.excIn K (ga K c) veBase "ValueError.__new__" && (PySem.W.keepIn K (.ref (ga K c)) && (decide (PySem.W.subIn K (.ref (ga K c)) (.type "BaseException") = some true) && decide (PySem.W.typeIn K (.ref (ga K c)) = some (.type "type"))))
def ctB (T : CTb) (K : PySem.W.Frag) : Bool :=
  ((T.cls ++ T.exs).all fun c => (Fa.glo c).ok K) && ((T.cls.all fun c => (Fa.cls c).ok K && objB K c) && (isoB K && ((T.flds.all fun p => (Fa.noat p.1 p.2).ok K) &&
  (((T.cls ++ T.exs).all fun c => T.tgt.all fun y => kitB1 K (.ref (ga K c)) (.ref (ga K y)) (T.isa c y)) && ((T.tgt.all fun y => bases.all fun t => kitB1 K (.type t) (.ref (ga K y)) false) &&
  ((T.exs.all fun c => kitB1 K (.ref (ga K c)) (.type "ValueError") true && (xfB K (ga K c) && objB K c)) && ((T.exs.all fun c => T.cat.all fun y => decide (PySem.W.exmOne K (.ref (ga K c)) (.ref (ga K y)) = some (T.isa c y))) &&
  ((T.ex0.all fun c => ex0B K c && (Fa.glo c).ok K) && ((T.meth.all fun p => (Fa.meth p.1 p.2).ok K) && ((T.mkd.all fun c => (Fa.mkr c).ok K) && ((T.gints.all fun p => (Fa.int p.1 p.2).ok K) && ((T.gstrs.all fun p => (Fa.str p.1 p.2).ok K) && ((T.gtups.all fun p => tupB K p) && T.gtup2.all fun p => tup2B K p)))))))))))))
structure KC (K : PySem.W.Frag) (mg : Str → Option Value) (C : Str → Addr) (T : CTb) : Prop where
  glo : ∀ c ∈ T.cls ++ T.exs, mg c = some (.ref (C c))
  cls : ∀ c ∈ T.cls, Cls K (C c)
  obj : ∀ c ∈ T.cls, PySem.W.findIn K (.ref (C c)) "__class__" = some (some (.builtin "object.__class__")) ∧ PySem.W.mroIn K (C c) (.type "object") = some true
  sp : PySem.W.specialIn K (.builtin "object.__class__") "__get__" = some (some (.builtin "getset_descriptor.__get__"))
  tk : PySem.W.takesIn K (.builtin "object.__class__") = some true
  no : ∀ p ∈ T.flds, PySem.W.findIn K (.ref (C p.1)) p.2 = some none
  isa : ∀ c ∈ T.cls ++ T.exs, ∀ y ∈ T.tgt, PySem.W.kitOne K (.ref (C c)) (.ref (C y)) = some (T.isa c y)
  bs : ∀ y ∈ T.tgt, ∀ t ∈ bases, PySem.W.kitOne K (.type t) (.ref (C y)) = some false
  ve : ∀ c ∈ T.exs, PySem.W.kitOne K (.ref (C c)) (.type "ValueError") = some true
  xf : ∀ c ∈ T.exs, XfC K (C c)
  xc : ∀ c ∈ T.exs, ExcC K (C c)
  exm : ∀ c ∈ T.exs, ∀ y ∈ T.cat, PySem.W.exmOne K (.ref (C c)) (.ref (C y)) = some (T.isa c y)
  x0 : ∀ c ∈ T.ex0, Ex0 K mg C c
  meth : ∀ p ∈ T.meth, Meth K (C p.1) p.2 (ma K (C p.1) p.2)
  mks : ∀ c ∈ T.mkd, Mk K (C c) (ma K (C c) "__init__")
  gi : ∀ p ∈ T.gints, ∃ t, mg p.1 = some (.int p.2 t)
  gs : ∀ p ∈ T.gstrs, ∃ t, mg p.1 = some (.str p.2 t)
  gt : ∀ p ∈ T.gtups, mg p.1 = some (.ref (C p.1)) ∧ ∃ (o : Obj) (its : Array Value) (n : Nat), K.lookup (C p.1) = some o ∧ o.cls = .type "tuple" ∧ o.data = .seq its n ∧ its.size ≤ sizeLine ∧ Vals (p.2.map V.str) its.toList
  gt2 : ∀ p ∈ T.gtup2, mg p.1 = some (.ref (C p.1)) ∧ Tup2 K (C p.1) p.2
theorem kc_of {T : CTb} {K : PySem.W.Frag} {h : Heap} {mg : Str → Option Value} (X : K.In h) (G : h.Ns mainGlobals mg) (c : ctB T K = true) : KC K mg (ga K) T := by
  obtain ⟨b1, c⟩ := ba c
  obtain ⟨b2, c⟩ := ba c
  obtain ⟨b3, c⟩ := ba c
  obtain ⟨b4, c⟩ := ba c
  obtain ⟨b5, c⟩ := ba c
  obtain ⟨b6, c⟩ := ba c
  obtain ⟨b7, c⟩ := ba c
  obtain ⟨b8, c⟩ := ba c
  obtain ⟨b9, c⟩ := ba c
  obtain ⟨b10, c⟩ := ba c
  obtain ⟨b11, c⟩ := ba c
  obtain ⟨b12, c⟩ := ba c
  obtain ⟨b13, c⟩ := ba c
  obtain ⟨b14, b15⟩ := ba c
  obtain ⟨s1, s2⟩ := ba b3
  have s1 := of_decide_eq_true s1
  have s2 := of_decide_eq_true s2
  have hcl : ∀ c ∈ T.cls, (Fa.cls c).ok K = true ∧ objB K c = true := fun c hc => ba (List.all_eq_true.mp b2 c hc)
  have hob : ∀ {c}, objB K c = true → PySem.W.findIn K (.ref (ga K c)) "__class__" = some (some (.builtin "object.__class__")) ∧ PySem.W.mroIn K (ga K c) (.type "object") = some true := fun {c} z => by
    obtain ⟨z1, z2⟩ := ba z
    exact ⟨eqO_ok z1, of_decide_eq_true z2⟩
  have hex : ∀ c ∈ T.exs, PySem.W.kitOne K (.ref (ga K c)) (.type "ValueError") = some true ∧ XfC K (ga K c) ∧ objB K c = true := fun c hc => by
    obtain ⟨z1, z⟩ := ba (List.all_eq_true.mp b7 c hc)
    obtain ⟨z2, z3⟩ := ba z
    exact ⟨of_decide_eq_true z1, xfB_ok z2, z3⟩
  have hmeth : ∀ {x m}, (Fa.meth x m).ok K = true → Meth K (ga K x) m (ma K (ga K x) m) := fun {x m} z => by
    obtain ⟨z1, z⟩ := ba z
    obtain ⟨z2, z3⟩ := ba z
    exact ⟨eqO_ok z1, z2, z3⟩
  exact {
    glo := fun c hc => glo_ok X G (List.all_eq_true.mp b1 c hc)
    cls := fun c hc => cls_ok (hcl c hc).1
    obj := fun c hc => hob (hcl c hc).2
    sp := s1
    tk := s2
    no := fun p hp => eqO_ok (List.all_eq_true.mp b4 p hp)
    isa := fun c hc y hy => of_decide_eq_true (List.all_eq_true.mp (List.all_eq_true.mp b5 c hc) y hy)
    bs := fun y hy t ht => of_decide_eq_true (List.all_eq_true.mp (List.all_eq_true.mp b6 y hy) t ht)
    ve := fun c hc => (hex c hc).1
    xf := fun c hc => (hex c hc).2.1
    xc := fun c hc => by
      obtain ⟨_, x, o⟩ := hex c hc
      obtain ⟨o1, o2⟩ := hob o
      exact ⟨x.ga, x.gg, x.exC, x.hdC, o1, s1, s2, o2⟩
    exm := fun c hc y hy => of_decide_eq_true (List.all_eq_true.mp (List.all_eq_true.mp b8 c hc) y hy)
    x0 := fun c hc => by
      obtain ⟨z, z5⟩ := ba (List.all_eq_true.mp b9 c hc)
      obtain ⟨z1, z⟩ := ba z
      obtain ⟨z2, z⟩ := ba z
      obtain ⟨z3, z4⟩ := ba z
      exact ⟨z1, glo_ok X G z5, z2, of_decide_eq_true z3, of_decide_eq_true z4⟩
    meth := fun p hp => hmeth (List.all_eq_true.mp b10 p hp)
    mks := fun c hc => by
      obtain ⟨z1, z⟩ := ba (List.all_eq_true.mp b11 c hc)
      obtain ⟨z2, z⟩ := ba z
      obtain ⟨z3, z4⟩ := ba z
      exact ⟨z1, eqO_ok z2, z3, z4⟩
    gi := fun p hp => int_ok X G (List.all_eq_true.mp b12 p hp)
    gs := fun p hp => str_ok X G (List.all_eq_true.mp b13 p hp)
    gt := fun p hp => by
      obtain ⟨z1, z2⟩ := tupB_ok (List.all_eq_true.mp b14 p hp)
      exact ⟨glo_ok X G z1, z2⟩
    gt2 := fun p hp => by
      obtain ⟨z1, z2⟩ := tup2B_ok (List.all_eq_true.mp b15 p hp)
      exact ⟨glo_ok X G z1, z2⟩ }
section
variable {K : PySem.W.Frag} {mg : Str → Option Value} {C : Str → Addr} {T : CTb}
theorem KC.fld (kc : KC K mg C T) {cs : List Str} {f : Str} (h : (cs.all fun c => T.cls.contains c && T.flds.contains (c, f)) = true := by decide +kernel) : FldOk K C cs f := fun c hc => by
  obtain ⟨h1, h2⟩ := ba (List.all_eq_true.mp h c hc)
  exact ⟨kc.cls c (List.contains_iff_mem.mp h1), kc.no (c, f) (List.contains_iff_mem.mp h2)⟩
theorem KC.isc (kc : KC K mg C T) {cs : List Str} {y : Str} (h : (T.tgt.contains y && cs.all fun c => T.cls.contains c) = true := by decide +kernel) : IsC K C cs (fun c => T.isa c y) y := by
  obtain ⟨h1, h2⟩ := ba h
  have h1 := List.contains_iff_mem.mp h1
  have h2 : ∀ c ∈ cs, c ∈ T.cls := fun c hc => List.contains_iff_mem.mp (List.all_eq_true.mp h2 c hc)
  exact ⟨fun c hc => ⟨kc.cls c (h2 c hc), (kc.obj c (h2 c hc)).1, (kc.obj c (h2 c hc)).2, kc.isa c (List.mem_append_left _ (h2 c hc)) y h1⟩, kc.sp, kc.tk, fun t ht => kc.bs y h1 t ht⟩
theorem KC.g (kc : KC K mg C T) {c : Str} (h : (T.cls ++ T.exs).contains c = true := by decide +kernel) : mg c = some (.ref (C c)) := kc.glo c (List.contains_iff_mem.mp h)
theorem KC.int (kc : KC K mg C T) {x : Str} {i : Int} (h : T.gints.contains (x, i) = true := by decide +kernel) : ∃ t, mg x = some (.int i t) := kc.gi (x, i) (List.contains_iff_mem.mp h)
theorem KC.str (kc : KC K mg C T) {x z : Str} (h : T.gstrs.contains (x, z) = true := by decide +kernel) : ∃ t, mg x = some (.str z t) := kc.gs (x, z) (List.contains_iff_mem.mp h)
theorem KC.tup (kc : KC K mg C T) {x : Str} {ys : List Str} (h : T.gtups.contains (x, ys) = true := by decide +kernel) : mg x = some (.ref (C x)) ∧ ∃ (o : Obj) (its : Array Value) (n : Nat), K.lookup (C x) = some o ∧ o.cls = .type "tuple" ∧ o.data = .seq its n ∧ its.size ≤ sizeLine ∧ Vals (ys.map V.str) its.toList := kc.gt (x, ys) (List.contains_iff_mem.mp h)
theorem KC.ex0 (kc : KC K mg C T) {c : Str} (h : T.ex0.contains c = true := by decide +kernel) : Ex0 K mg C c := kc.x0 c (List.contains_iff_mem.mp h)
theorem KC.ext (kc : KC K mg C T) {y : Str} {exs : List Str} (h : (T.cat.contains y && exs.all fun c => T.exs.contains c && T.isa c y) = true := by decide +kernel) : ExT K C exs (.ref (C y)) := by
  obtain ⟨h1, h2⟩ := ba h
  exact ⟨fun c hc => by
    obtain ⟨h3, h4⟩ := ba (List.all_eq_true.mp h2 c hc)
    rw [kc.exm c (List.contains_iff_mem.mp h3) y (List.contains_iff_mem.mp h1), h4]⟩
theorem KC.xsub (kc : KC K mg C T) {exs : List Str} (h : (exs.all fun c => T.exs.contains c) = true := by decide +kernel) {c : Str} (hc : c ∈ exs) : c ∈ T.exs := List.contains_iff_mem.mp (List.all_eq_true.mp h c hc)
theorem KC.xisa (kc : KC K mg C T) {c y : Str} (hc : c ∈ T.exs) (h : T.tgt.contains y = true := by decide +kernel) : PySem.W.kitOne K (.ref (C c)) (.ref (C y)) = some (T.isa c y) := kc.isa c (List.mem_append_right _ hc) y (List.contains_iff_mem.mp h)
theorem KC.xno (kc : KC K mg C T) {c f : Str} (hc : c ∈ T.exs) (h : (T.exs.all fun c => T.flds.contains (c, f)) = true := by decide +kernel) : PySem.W.findIn K (.ref (C c)) f = some none := kc.no (c, f) (List.contains_iff_mem.mp (List.all_eq_true.mp h c hc))
theorem KC.mt (kc : KC K mg C T) {c m : Str} (h : T.meth.contains (c, m) = true := by decide +kernel) : Meth K (C c) m (ma K (C c) m) := kc.meth (c, m) (List.contains_iff_mem.mp h)
theorem KC.mkr (kc : KC K mg C T) {c : Str} (h : T.mkd.contains c = true := by decide +kernel) : Mk K (C c) (ma K (C c) "__init__") := kc.mks c (List.contains_iff_mem.mp h)
theorem KC.cl (kc : KC K mg C T) {c : Str} (h : T.cls.contains c = true := by decide +kernel) : Cls K (C c) := kc.cls c (List.contains_iff_mem.mp h)
end
structure ExD where
  c : Str
  f : Str
  p : Str
  params : Arguments
  body : List Stmt
  scope : Scope
abbrev ExW : Type := Option (Arguments × FuncBody × Scope × Addr × Addr)
def exW (K : PySem.W.Frag) (c : Str) : ExW := match K.lookup (ma K (ga K c) "__init__") with
  | some ⟨_, _, .func fd, _⟩ => some (fd.params, fd.body, fd.scope, fd.globals, fd.builtins)
  | _ => none
def ExD.val (d : ExD) : ExW := some (d.params, .stmts d.body, d.scope, mainGlobals, builtinsNs)
structure ExSt (d : ExD) : Prop where
  ps : (d.params.posonlyargs ++ d.params.args).head?.map (·.arg) = some ("self" : Str)
  co : d.scope.isCoroutine = false
  ge : d.scope.isGenerator = false
  ki : d.scope.kind = .function
  nc : (d.scope.names.all fun q => decide (q.2 ≠ .cell)) = true
  nS : d.scope.names.lookup ("self" : Str) = some .local
  nP : d.scope.names.lookup d.p = some .local
  nU : d.scope.names.lookup ("super" : Str) = some .globalImplicit
  nC : d.scope.names.lookup ("__class__" : Str) = some .free
  fr : (d.scope.names.all fun q => decide (q.2 ≠ .free) || decide (q.1 = "__class__")) = true
  ne : decide (d.p ≠ "self" ∧ d.p ≠ ("__debug__" : Str) ∧ d.p ≠ ("__classdict__" : Str)) = true
  body : exShape d.body d.f d.p
  bd : ∀ (nm qn : Str) (gl bl : Addr) (cl : List (Str × Addr)) (kV doc pm cdv ct : Value) (an : Option Addr) (us : List Value), us.length = 2 →
    bindArgs ⟨nm, qn, d.params, .stmts d.body, d.scope, gl, cl, .none, kV, doc, pm, an, cdv, ct, bl⟩ ⟨us, []⟩ = pure ((["self", d.p] : List Str).zip us)
def oexB (K : PySem.W.Frag) (C : Addr) : Bool := (match K.lookup C with
  | some ⟨.type "type", _, .cls cd, sl⟩ => (match cd.mro, sl.toList with
    | .ref C' :: bm, [_, _, _, _, some (.builtin n), _] => decide (C' = C) && (decide (n = "ValueError.__new__") && (cd.hasDict && (!cd.hasDel && PySem.HandSPX.refsVE bm)))
    | _, _ => false)
  | _ => false) && (eqO (PySem.W.findIn K (.ref C) "__setattr__") (some (some (.builtin "object.__setattr__"))) && (decide (PySem.W.subIn K (.ref C) (.type "BaseException") = some true) && (decide (PySem.W.typeIn K (.ref C) = some (.type "type")) && PySem.W.keepIn K (.ref C))))
theorem oexB_ok {K : PySem.W.Frag} {C : Addr} (h : oexB K C = true) : OexC K C := by
  obtain ⟨h1, h⟩ := ba h
  obtain ⟨h2, h⟩ := ba h
  obtain ⟨h3, h⟩ := ba h
  obtain ⟨h4, h5⟩ := ba h
  refine ⟨?_, eqO_ok h2, of_decide_eq_true h3, of_decide_eq_true h4, h5⟩
  split at h1
  · rename_i dd cd sl ho
    split at h1
    · rename_i C' bm k0 k1 k2 k3 n k5 hm hs
      obtain ⟨e1, h1⟩ := ba h1
      obtain ⟨e2, h1⟩ := ba h1
      obtain ⟨e3, h1⟩ := ba h1
      obtain ⟨e4, e5⟩ := ba h1
      have e1 := of_decide_eq_true e1
      have e2 := of_decide_eq_true e2
      subst e1 e2
      obtain ⟨nm, bs, mro, ns, qn, hd, sn, sb, ab, col, del⟩ := cd
      dsimp only at hm e3 e4
      have e4 : del = false := by simpa using e4
      subst hm e3 e4
      have hsl : sl = #[k0, k1, k2, k3, some (.builtin "ValueError.__new__"), k5] := by
        obtain ⟨l⟩ := sl
        simp only at hs
        rw [hs]
      subst hsl
      exact ⟨nm, qn, ns, bs, bm, sn, sb, ab, col, dd, k0, k1, k2, k3, k5, ho, e5⟩
    · cases h1
  · cases h1
def exB (P : Program) (K : PySem.W.Frag) (d : ExD) : Bool := oexB K (ga K d.c) && ((Fa.glo d.c).ok K && (eqO (PySem.W.findIn K (.ref (ga K d.c)) "__init__") (some (some (.ref (ma K (ga K d.c) "__init__")))) &&
  (decide (PySem.W.typeIn K (.ref (ma K (ga K d.c) "__init__")) = some (.type "function")) && ((match K.lookup (ma K (ga K d.c) "__init__") with
    | some ⟨_, _, .func fd, _⟩ => decide (fd.defaults = .none) && ((match fd.closure with
      | [(x, cc)] => decide (x = "__class__") && (match K.lookup cc with
        | some ⟨_, _, .cell (some (.ref C')), _⟩ => decide (C' = ga K d.c)
        | _ => false)
      | _ => false) && (PySem.W.codeIn K fd.code fd.qualname && (match fd.code with
        | .ref c => (match K.lookup c with
          | some ⟨_, _, .fields vs, _⟩ => (match (vs[2]? : Option Value) with
            | some (Value.str file _) => ((P.main.file : Str) == file)
            | _ => false)
          | _ => false)
        | _ => false)))
    | _ => false) && ((PySem.W.clsIn K (ga K d.c)).isSome && (decide (PySem.W.mroIn K (ga K d.c) (.ref (ga K d.c)) = some true) && (eqO (PySem.W.ks_superIn K (ga K d.c) (ga K d.c) "__init__") (some (some (.builtin "ValueError.__init__"))) &&
    (decide (PySem.W.subIn K (.ref (ga K d.c)) (.type "ValueError") = some true) && (eqO (PySem.W.nsIn K cStatics "thirdparty.any") (some none) && (PySem.W.excInitIn K (ga K d.c) veBase "ValueError.__new__" && eqO (PySem.W.findIn K (.ref (ga K d.c)) d.f) (some none)))))))))))
theorem exIn_of {P : Program} {w : World} {K : PySem.W.Frag} {h : Heap} {mg : Str → Option Value} {base : Heap} {d : ExD} (X : K.In h) (G : h.Ns mainGlobals mg) (st : ExSt d) (ob : exW K d.c = d.val) (c : exB P K d = true) (top : (P.main.scope.names.lookup ("super" : Str)).isSome = false) (hsup : mg "super" = none) :
    Ex1 P w K mg base (ga K) d.c d.f := by
  obtain ⟨c1, c⟩ := ba c
  obtain ⟨c2, c⟩ := ba c
  obtain ⟨c3, c⟩ := ba c
  obtain ⟨c4, c⟩ := ba c
  obtain ⟨c5, c⟩ := ba c
  obtain ⟨c6, c⟩ := ba c
  obtain ⟨c7, c⟩ := ba c
  obtain ⟨c8, c⟩ := ba c
  obtain ⟨c9, c⟩ := ba c
  obtain ⟨c10, c⟩ := ba c
  obtain ⟨c11, c12⟩ := ba c
  obtain ⟨n1, n2, n3⟩ := of_decide_eq_true st.ne
  unfold exW at ob
  cases q : K.lookup (ma K (ga K d.c) "__init__") with
  | none => rw [q] at c5; cases c5
  | some o =>
    obtain ⟨oc, od, dt, osl⟩ := o
    rw [q] at c5 ob
    cases dt with
    | func fd =>
      obtain ⟨f1, f2, f3, f4, f5, f6, f7, f8, f9, f10, f11, f12, f13, f14, f15⟩ := fd
      have ob2 : (some (f3, f4, f5, f6, f15) : ExW) = some (d.params, .stmts d.body, d.scope, mainGlobals, builtinsNs) := ob
      simp only [Option.some.injEq, Prod.mk.injEq] at ob2
      obtain ⟨e1, e2, e3, e4, e5⟩ := ob2
      subst e1 e2 e3 e4 e5
      obtain ⟨k1, k⟩ := ba c5
      obtain ⟨k2, k⟩ := ba k
      obtain ⟨k3, k4⟩ := ba k
      have k1 : f8 = .none := of_decide_eq_true k1
      subst k1
      refine ⟨oexB_ok c1, glo_ok X G c2, _, _, ["self", d.p], eqO_ok c3, of_decide_eq_true c4, fun CX => exinit_fn (fd := ⟨f1, f2, d.params, .stmts d.body, d.scope, mainGlobals, f7, .none, f9, f10, f11, f12, f13, f14, builtinsNs⟩) ?_ hsup, .all fun us hu => st.bd _ _ _ _ _ _ _ _ _ _ _ us hu⟩
      refine { lk := ⟨_, _, _, q⟩, tf := of_decide_eq_true c4, ps := st.ps, gl := rfl, bl := rfl, co := st.co, ge := st.ge, ki := st.ki, nc := fun x hx => of_decide_eq_true (List.all_eq_true.mp st.nc x hx), nS := st.nS, nP := st.nP, nU := st.nU, nC := st.nC, fr := fun x hx => ?_,
               ne := n1, nd1 := n2, nd2 := n3, clo := ?_, code := ?_, body := ⟨_, rfl, st.body⟩, top := top, cd := ?_, mro := of_decide_eq_true c7, sup := eqO_ok c8, sub := of_decide_eq_true c9, opq := eqO_ok c10, ei := c11, oc := oexB_ok c1, no := eqO_ok c12 }
      · have := List.all_eq_true.mp st.fr _ (PySem.mem_of_lookup hx)
        simp only [Bool.or_eq_true, decide_eq_true_eq] at this
        rcases this with z | z
        · exact absurd rfl z
        · exact z
      · have k2' := k2
        dsimp only at k2'
        split at k2'
        · rename_i x cc e
          obtain ⟨z1, z2⟩ := ba k2'
          have z1 := of_decide_eq_true z1
          subst z1
          split at z2
          · rename_i c0 d0 C' s0 e2
            have z2 := of_decide_eq_true z2
            subst z2
            exact ⟨cc, _, _, _, rfl, e2⟩
          · cases z2
        · cases k2'
      · cases f13 with
        | ref cda =>
          have k4' : (match K.lookup cda with
          | some ⟨_, _, .fields vs, _⟩ => (match (vs[2]? : Option Value) with
            | some (Value.str file _) => ((P.main.file : Str) == file)
            | _ => false)
          | _ => false) = true := k4
          cases e1 : K.lookup cda with
          | none => rw [e1] at k4'; cases k4'
          | some oo =>
            obtain ⟨oc1, od1, dt1, sl1⟩ := oo
            rw [e1] at k4'
            cases dt1 with
            | fields vs =>
              dsimp only at k4'
              cases e2 : (vs[2]? : Option Value) with
              | none => rw [e2] at k4'; cases k4'
              | some vv =>
                rw [e2] at k4'
                cases vv with
                | str file tf => exact ⟨cda, _, _, _, _, _, _, rfl, k3, e1, e2, k4'⟩
                | _ => cases k4'
            | _ => cases k4'
        | _ => cases k4
      · exact Option.isSome_iff_exists.mp c6
    | _ => cases c5
abbrev AlY : Type := AlD × List ExW × Bool
def obsY (fa : List Fa) (fn : List DefD) (T : CTb) (xd : List ExD) (P : Program) (K : PySem.W.Frag) : AlY := (obsD fa fn K, xd.map (fun d => exW K d.c), ctB T K && xd.all (exB P K))
def valY (fn : List DefD) (xd : List ExD) : AlY := (valD fn, xd.map ExD.val, true)
def SaysY (fa : List Fa) (fn : List DefD) (T : CTb) (xd : List ExD) (P : Program) (K : PySem.W.Frag) : Prop := obsY fa fn T xd P K = valY fn xd
section
variable {fa : List Fa} {fn : List DefD} {T : CTb} {xd : List ExD} {P : Program} {K : PySem.W.Frag}
theorem SaysY.d (c : SaysY fa fn T xd P K) : SaysD fa fn K := congrArg (fun z : AlY => z.1) c
theorem SaysY.ct (c : SaysY fa fn T xd P K) : ctB T K = true := (ba (show (ctB T K && xd.all (exB P K)) = true from congrArg (fun z : AlY => z.2.2) c)).1
theorem SaysY.xb (c : SaysY fa fn T xd P K) {d : ExD} (h : d ∈ xd) : exB P K d = true := List.all_eq_true.mp (ba (show (ctB T K && xd.all (exB P K)) = true from congrArg (fun z : AlY => z.2.2) c)).2 d h
theorem SaysY.xw (c : SaysY fa fn T xd P K) (i : Nat) {d : ExD} (h : xd[i]? = some d) : exW K d.c = d.val := by
  have e : xd.map (fun d => exW K d.c) = xd.map ExD.val := congrArg (fun z : AlY => z.2.1) c
  have e2 : (xd.map fun d => exW K d.c)[i]? = (xd.map ExD.val)[i]? := by rw [e]
  rw [List.getElem?_map, List.getElem?_map, h] at e2
  exact Option.some.inj e2
end
end Dl
namespace Dl
open PySem PySem.Spec PyProof.Rows L2 He
def refsZ (o : Obj) : List Addr := match o.data with
  | .func fd => refV fd.code ++ refV fd.defaults ++ refV fd.kwdefaults ++ fd.closure.map (·.2)
  | .dict es _ => es.toList.flatMap fun e => refV e.val
  | .cls cd => cd.ns :: cd.mro.tail.flatMap refV
  | .seq its _ => its.toList.flatMap refV
  | .fields vs => vs.toList.flatMap refV
  | .cell (some v) => refV v
  | _ => []
def lvlZ (g : Addr → Option Obj) : Nat → List Addr → List Addr
  | 0, as => as
  | n + 1, as => as ++ lvlZ g n (as.flatMap fun a => match g a with
    | some o => refsZ o
    | none => [])
def asZ (g : Addr → Option Obj) (n : Nat) : List Addr := lvlZ g n [mainGlobals, cStatics]
def obsZG (n : Nat) (fa : List Fa) (fn : List DefD) (T : CTb) (xd : List ExD) (P : Program) (g : Addr → Option Obj) : AlY := obsY fa fn T xd P (frG g (asZ g n))
def hookZ (n : Nat) (fa : List Fa) (fn : List DefD) (T : CTb) (xd : List ExD) (P : Program) : PySem.W.Hook where
  α := AlY
  obs := fun s => obsZG n fa fn T xd P s.heap.get?
  val := fun _ => valY fn xd
  says := fun _ h => ∃ K : PySem.W.Frag, K.In h ∧ SaysY fa fn T xd P K
  of := fun _ _ e => ⟨_, frG_in, e⟩
  keeps := fun _ _ _ ⟨K, hK, c⟩ k => ⟨K, PySem.W.Frag.In.keeps hK k, c⟩
theorem obsZG_eq {n : Nat} {fa : List Fa} {fn : List DefD} {T : CTb} {xd : List ExD} {P : Program} {g : Addr → Option Obj} {s : Shared} (h : ∀ a, g a = s.heap.get? a) : obsZG n fa fn T xd P g = (hookZ n fa fn T xd P).obs s := by
  have e : g = s.heap.get? := funext h
  rw [e] <;> rfl
end Dl
namespace Dl
open PySem PySem.Spec PyProof.Rows L2
abbrev DB := D → (En → Prop) → En → Prop
def setAll : List Nat → List D → En → En
  | i :: is, d :: ds, ρ => setAll is ds (ρ.set i (.fz d))
  | _, _, ρ => ρ
def bTup (is : List Nat) : DB := fun d P ρ => ∃ ds, d = .tup ds ∧ ds.length = is.length ∧ P (setAll is ds ρ)
def JG (Γ : Kx) (g : TG) (b : DB) : Prop := ∀ (H0 G : Hp) (R : Addr → Prop) (H : Hp) (σ : St) (ρ : En) (d : D) (v : V) (P : En → Prop) (Q : St → Hp → Prop), Wd Γ H0 G R H σ ρ → Rp Γ G R d v → b d P ρ →
  (∀ σ' ρ', Wd Γ H0 G R H σ' ρ' → P ρ' → Q σ' H) → g v σ H Q
def gNs : List Nat → TGs
  | [] => gNil
  | i :: is => gCons (gName i) (gNs is)
theorem jgs {Γ : Kx} {H0 G : Hp} {R : Addr → Prop} {H : Hp} {Q : St → Hp → Prop} : ∀ (is : List Nat) (ds : List D) (vs : List V) (σ : St) (ρ : En), Wd Γ H0 G R H σ ρ → RpL Γ G R ds vs → ds.length = is.length →
    (∀ σ', Wd Γ H0 G R H σ' (setAll is ds ρ) → Q σ' H) → gNs is vs σ H Q
  | [], ds, vs, σ, ρ, w, r, e, k => by
    have e2 : ds = [] := List.eq_nil_of_length_eq_zero (by simpa using e)
    subst e2
    unfold RpL at r
    subst r
    exact ⟨rfl, k σ w⟩
  | i :: is, [], vs, σ, ρ, w, r, e, k => by simp at e
  | i :: is, d :: ds, vs, σ, ρ, w, r, e, k => by
    unfold RpL at r
    obtain ⟨v, q, rfl, h1, h2⟩ := r
    exact ⟨v, q, rfl, jgs is ds q _ _ (w.fz i h1) h2 (by simpa using e) k⟩
theorem jg_tup {Γ : Kx} {is : List Nat} {n : Nat} (hn : is.length = n) : JG Γ (gTup Γ.K n (gNs is)) (bTup is) := fun H0 G R H σ ρ d v P Q w r b k => by
  obtain ⟨ds, rfl, e, p⟩ := b
  have r' := r
  unfold Rp at r'
  obtain ⟨a, vs, ev, s, l⟩ := r'
  exact ⟨a, vs, ev, Same.seqT w.gd.sub s, by rw [← l.len, e, hn], jgs is ds vs σ ρ w l e fun σ' w' => k σ' _ w' p⟩
def dAsg (b : DB) (fe : DE) : DS := fun k ρ => fe (k.xq ρ) ρ fun d => b d k.nx ρ
theorem js_asg {Γ : Kx} {W : WX} {te : TE} {fe : DE} {g : TG} {b : DB} (a : JE Γ W te fe) (h : JG Γ g b) : JS Γ W (tAsg te g) (dAsg b fe) := fun G0 R0 H0 G R H σ ρ k D n w e f =>
  a H0 G R H σ ρ _ _ _ w (e.lk n w) f fun v G' R' H' d m r q => h H0 G' R' H' σ ρ d v k.nx _ (w.nx m) r q fun σ' ρ' w' p => e.nx G' R' H' σ' ρ' (n.trans m) w' p
def forLoopB (fb : DS) (b : DB) (k : DK) : List D → En → Prop
  | [], ρ => k.nx ρ
  | d :: ds, ρ => b d (fun ρ' => fb { k with nx := forLoopB fb b k ds, ct := forLoopB fb b k ds, bk := k.nx } ρ') ρ
def dForB (fi : DA) (b : DB) (fb : DS) : DS := fun k ρ => fi (k.xq ρ) ρ fun ds => forLoopB fb b k ds ρ
section
variable {X : Cx} {C : Str → Addr} {W : WX} {k : Nat} {bl : Str → Bool} {a b c e tg iter : Expr} {es : List Expr} {fa fb fc fe : DE} {fi : DA} {pos p p1 p2 p3 : Pos} {g1 : DS} {s1 : List Stmt} {is : List Nat} {z : Nat}
inductive PNs (X : Cx) : List Expr → List Nat → Prop
  | nil : PNs X [] []
  | cons {x : Str} {i : Nat} {p : Pos} {es : List Expr} {is : List Nat} : PG X (.Name x p) (gName i) → PNs X es is → ((assignEach (.Name x p :: es) X.env).map (·.2) = assign (.Name x p) X.env :: (assignEach es X.env).map (·.2)) → PNs X (.Name x p :: es) (i :: is)
theorem PNs.gs : ∀ {es : List Expr} {is : List Nat}, PNs X es is → PGs X es (gNs is)
  | _, _, .nil => pgs_nil
  | _, _, .cons h t q => pgs_cons h t.gs q
theorem cs_unp (g : GE X W k bl) (h : PNs X es is) (ha : CE X C W e fe) (hn : (assignEach es X.env).length = is.length := by rfl) (hst : (assignEach es X.env).findIdx? (·.1) = none := by rfl)
    (hs : swapsWithSole [.Tuple es z p] e pos.line X.env = pure false := by rfl) (hw : swappedStores [.Tuple es z p] e X.env = pure none := by rfl)
    (h1 : (assignEach [.Tuple es z p] X.env).map (·.2) = [assign (.Tuple es z p) X.env] := by rfl) : CS X C W (.Assign [.Tuple es z p] e pos) (dAsg (bTup is) fe) :=
  let ⟨_, q, j⟩ := ha; ⟨_, ps_asg q (pg_tup g.calm h.gs hn hst) hs hw h1, js_asg j (jg_tup rfl)⟩
def gIsi2 (T1 T2 : String) (d : D) (Q : D → Prop) : Prop := match d with
  | .ins _ _ => False
  | .rd => False
  | .any => False
  | .dic _ => False
  | .fr _ => False
  | .raw _ => False
  | d => Q (.bl (kty (dty d) T1 || kty (dty d) T2))
theorem je_isi2 {Γ : Kx} {te : TE} {T1 T2 : String} (t1 : Ty5 T1) (t2 : Ty5 T2) (q : JQ Γ W te fa) : JE Γ W (tCB (rIsiT Γ.K) (tCons te (tCons (tTup (tCons (tC (.ty T1)) (tCons (tC (.ty T2)) tNil))) tNil))) (d1 (gIsi2 T1 T2) fa) := fun H0 G R H σ ρ xq Qd Q w x f k =>
  q H0 G R H σ ρ xq _ _ w x f fun v1 G1 R1 H1 d1 n1 r1 q1 => ⟨by rw [sizeLine_eq]; exact (by decide : 2 ≤ 16777216), fun tp htp => by
    have hi : (∀ c fs, d1 ≠ .ins c fs) ∧ d1 ≠ .rd ∧ d1 ≠ .any ∧ ((∀ kvs, d1 ≠ .dic kvs) ∧ (∀ x, d1 ≠ .fr x) ∧ ∀ x, d1 ≠ .raw x) ∧ Qd (.bl (kty (dty d1) T1 || kty (dty d1) T2)) := by
      cases d1 <;> first | exact q1.elim | exact ⟨(fun c fs e => nomatch e), (fun e => nomatch e), (fun e => nomatch e), ⟨(fun _ e => nomatch e), (fun _ e => nomatch e), (fun _ e => nomatch e)⟩, q1⟩
    obtain ⟨h1, h2, a3, a4, h3⟩ := hi
    have n2 : Nx G1 R1 H1 G1 R1 (upd H1 tp (.tup [.ty T1, .ty T2])) := Nx.new n1.gd _ htp
    have e1 := kit_ty (K := Γ.K) (t1 _ (dty_mem h1 a3 a4))
    have e2 := kit_ty (K := Γ.K) (t2 _ (dty_mem h1 a3 a4))
    refine ⟨v1, tp, [.ty T1, .ty T2], _, [.type T1, .type T2], _, rfl, upd_same, .cons (.ty T1) (.cons (.ty T2) .nil), (r1.nx n2).ty n2.gd h1 h2 a3 a4, kitAny_cons (r := kty (dty d1) T1 || kty (dty d1) T2) e1 (fun z => ?_) (fun z => by rw [z]; rfl), k _ G1 R1 _ _ (n1.trans n2) rp_bl h3⟩
    rw [z]
    refine kitAny_cons e2 (fun z => ?_) (fun z => ?_)
    · rw [z]; exact kitAny_nil
    · rw [z]; rfl⟩
theorem ce_isi2 {x y : Str} {T1 T2 : String} (t1 : Ty5 T1) (t2 : Ty5 T2) (hT : bootBuiltins x = some (.type T1)) (hU : bootBuiltins y = some (.type T2)) (g : GE X W k bl) (h : CQ X C W a fa) (hb : bl "isinstance" = true := by decide +kernel) (hbT : bl x = true := by decide +kernel) (hbU : bl y = true := by decide +kernel)
    (hg : Gl X "isinstance" := by rfl) (hgT : Gl X x := by rfl) (hgU : Gl X y := by rfl) (hn : x ≠ "__name__" := by decide) (hd : (x == ("__debug__" : Str)) = false := by decide) (hn2 : y ≠ "__name__" := by decide) (hd2 : (y == ("__debug__" : Str)) = false := by decide)
    (he : starEach [a, .Tuple [.Name x p2, .Name y p3] z p1] X.env = (false, eval a X.env) :: starEach [.Tuple [.Name x p2, .Name y p3] z p1] X.env := by rfl) (he' : starEach [.Tuple [.Name x p2, .Name y p3] z p1] X.env = (false, eval (.Tuple [.Name x p2, .Name y p3] z p1) X.env) :: starEach [] X.env := by rfl)
    (hs1 : starEach [.Name x p2, .Name y p3] X.env = (false, eval (.Name x p2) X.env) :: starEach [.Name y p3] X.env := by rfl) (hs2 : starEach [.Name y p3] X.env = (false, eval (.Name y p3) X.env) :: starEach [] X.env := by rfl)
    (hpl : (backTo pos (starEach [.Tuple [.Name x p2, .Name y p3] z p1] X.env)).any (·.1) = false := by rfl) :
    CE X C W (.Call (.Name "isinstance" p) [a, .Tuple [.Name x p2, .Name y p3] z p1] [] pos) (d1 (gIsi2 T1 T2) fa) :=
  let ⟨_, p, q⟩ := h; ⟨_, pe_callB call_isiT hg (g.bl _ hb) boot_isinstance (pa_cons p (pa_cons (pe_tup (pa_cons (pe_bltn (v := .ty T1) hgT (g.bl _ hbT) hT rfl hn hd) (pa_cons (pe_bltn (v := .ty T2) hgU (g.bl _ hbU) hU rfl hn2 hd2) pa_nil hs2) hs1)) pa_nil he') he) (by decide) (by decide) he hpl, je_isi2 t1 t2 q⟩
def gIndexL (x y : D) (Q : D → Prop) : Prop := match x with
  | .lst ds => eqOk (.lst ds) = true ∧ eqOk y = true ∧ ∃ (j : Nat) (u : D), ds[j]? = some u ∧ deq u y = true ∧ (∀ (m : Nat) u', m < j → ds[m]? = some u' → deq u' y = false) ∧ Q (.int j)
  | _ => False
def dIndexL (fo fe : DE) : DE := fun xq ρ Q => fo xq ρ fun x => (∃ ds, x = .lst ds) ∧ fe xq ρ fun y => gIndexL x y Q
theorem je_chain {Γ : Kx} {r r' : R2} {g g' : D → D → (D → Prop) → Prop} {ta tb tc : TE} (u : U2 Γ r g) (u' : U2 Γ r' g') (ha : JQ Γ W ta fa) (hb : JQ Γ W tb fb) (hc : JQ Γ W tc fc) : JE Γ W (tChain r r' ta tb tc) (dChain g g' fa fb fc) := fun H0 G R H σ ρ xq Qd Q w x f k =>
  ha H0 G R H σ ρ xq _ _ w x f fun v1 G1 R1 H1 d1 n1 r1 q1 => hb H0 G1 R1 H1 σ ρ xq _ _ (w.nx n1) (x.nx n1) q1 fun v2 G2 R2 H2 d2 n2 r2 q2 =>
    u G2 R2 H2 d1 d2 v1 v2 _ _ n2.gd (r1.nx n2) r2 q2 fun v3 G3 R3 H3 d3 n3 r3 q3 => by
      have n := (n1.trans n2).trans n3
      split at q3
      · unfold Rp at r3
        refine ⟨true, r3, ?_⟩
        exact hc H0 G3 R3 H3 σ ρ xq _ _ (w.nx n) (x.nx n) q3 fun v4 G4 R4 H4 d4 n4 r4 q4 => u' G4 R4 H4 d2 d4 v2 v4 Qd Q n4.gd ((r2.nx n3).nx n4) r4 q4 fun w' G' R' H' c m r q => k w' G' R' H' c ((n.trans n4).trans m) r q
      · unfold Rp at r3
        exact ⟨false, r3, k _ G3 R3 H3 _ n rp_bl q3⟩
      · exact q3.elim
theorem ct_chain {op op' : CmpOp} {r r' : R2} {g g' : D → D → (D → Prop) → Prop} (ho : OpR X (compareOp op) r) (ho' : OpR X (compareOp op') r') (u : U2 ⟨X.K, C⟩ r g) (u' : U2 ⟨X.K, C⟩ r' g') (ha : CQ X C W a fa) (hb : CQ X C W b fb) (hc : CQ X C W c fc) (hm : lastMarks [op, op'] [b, c] = false := by with_unfolding_all rfl) :
    CT X C W (.Compare a [op, op'] [b, c] pos) (dB (dChain g g' fa fb fc)) := let ⟨_, p, q⟩ := ha; let ⟨_, p1, q1⟩ := hb; let ⟨_, p2, q2⟩ := hc; ⟨_, pt_chain ho ho' p p1 p2 hm, jt_b (je_chain u u' q q1 q2).q⟩
end
end Dl
namespace Dl
open PySem PySem.Spec PyProof.Rows L2
theorem GS.tr {X : Cx} {W W' : WX} {k : Nat} {bl : Str → Bool} (g : GS X W k bl) {pn : List (Addr × Obj)} {xe : Value → Shared → Prop} (tk : Takes (X.tr pn xe) W') (po : PassesOwn (model X.prog X.w) X.A X.env xe) : GS (X.tr pn xe) W' k bl :=
  ⟨⟨g.calm, g.room, tk, g.bl⟩, po⟩
end Dl
open PySem L2 Dl in
local macro_rules | `(tactic| walk_at "dl") => `(tactic| simp only [dSeq, dSet, dSetN, dIfS, dRet, dRetV, dRetN, dExpr, dBreak, dCont, dNext, dFrz, frz, dApp, dExt, dSetIx, dFor, dVar, dVarQ, dC, dImm, dLst, d1, d2, n1, n2, dNil, dCons, dTup, dCall, dCallQ, dB, dTru, gTru, dNot, dAnd, dOr, dAndV, dOrV, dNotV, dIf, dSl, nSl, oNo, oSome, iIt, iR1, iR2, iStrD, gItems, dLc, dYes, dRd, kD, DK.xq, gAdd, gMns, gI2, gCmp, gNeg, gLen, gInt, gStr, gMin, gMax, gListN, gTuple, gRevN, gCat, gSlN, gSl, gIx_rd0, gIx_rd1, gIx_rd2, gEq_int, gNe_int, gIn_tI, gIn_lI, List.getElem?_cons_zero, List.getElem?_cons_succ, List.set_cons_zero, List.set_cons_succ, if_true, if_false, Bool.false_eq_true, ite_true, ite_false])
namespace Rnd
open PySem L2 Dl
def b__law_cell : DS :=
  dSeq (dIfS (dB (d2 gLt (dVar 1) (d1 gLen (dVar 0))))
    (dRet (d2 gIx (dVar 0) (dVar 1)))
    dNext)
  (dRet (dC (.int 0)))
def b__law_reader : DS :=
  dRet (dRd (dCons (dVar 0) (dCons (dC (.int 0)) (dCons (d2 gMns (dVar 0) (d2 gPow (dC (.int 10)) (dC (.int 18)))) dNil))))
def b__law_next : DS :=
  dSeq (dSet 2 (d2 gIx (dVar 0) (dC (.int 1))))
  (dSeq (dSetIx 0 (dC (.int 1)) (d2 gAdd (dVar 2) (dC (.int 1))))
  (dSeq (dIfS (dAnd (dB (d2 gGe (d2 gIx (dVar 0) (dC (.int 0))) (d2 gPow (dC (.int 10)) (dC (.int 18))))) (dB (d2 gGt (d2 gIx (dVar 0) (dC (.int 2))) (dC (.int 0)))))
    (dSeq (dSet 3 (d2 gIx (dVar 0) (dC (.int 2))))
    (dSeq (dSetIx 0 (dC (.int 2)) (d2 gFdiv (dVar 3) (dVar 1)))
    (dRet (d2 gMod (d1 gInt (dVar 3)) (dVar 1)))))
    dNext)
  (dSeq (dSet 4 (d2 gMod (d1 gInt (d2 gAdd (d2 gAdd (d2 gIx (dVar 0) (dC (.int 0))) (d2 gMul (dC (.int 7919)) (dVar 2))) (dC (.int 13)))) (dC (.int 2147483647))))
  (dSeq (dSet 4 (d2 gMod (d1 gInt (d2 gMul (dVar 4) (d2 gAdd (dVar 4) (dC (.int 48271))))) (dC (.int 2147483629))))
  (dSeq (dSet 4 (d2 gMod (d1 gInt (d2 gAdd (d2 gMul (dVar 4) (d2 gAdd (dVar 4) (dC (.int 69621)))) (d2 gMul (dC (.int 31)) (dVar 2)))) (dC (.int 2147483647))))
  (dRet (d2 gMod (d1 gInt (d2 gFdiv (dVar 4) (dC (.int 9)))) (dVar 1))))))))
theorem p_cell (ds : List D) (Qd : D → Prop) (Xq : XQ) (h : S_cell ds Qd Xq) : b__law_cell (kD Qd Xq) (startD 2 ds) := by
  obtain ⟨ns, k, rfl, h0, h⟩ := h
  show b__law_cell (kD Qd Xq) [.fz (.scr ns), .fz (.int k)]
  unfold b__law_cell
  walk_at "dl"
  by_cases hk : k < (ns.length : Int)
  · rw [if_pos (decide_eq_true hk)]
    obtain ⟨a, e, _⟩ := atI_in h0 hk
    rw [gIx_scr e]
    exact h a
  · rw [if_neg (by simpa using hk)]
    exact h 0
theorem p_reader (ds : List D) (Qd : D → Prop) (Xq : XQ) (h : S_reader ds Qd Xq) : b__law_reader (kD Qd Xq) (startD 1 ds) := by
  obtain ⟨c, rfl, h⟩ := h
  show b__law_reader (kD Qd Xq) [.fz (.int c)]
  unfold b__law_reader
  walk_at "dl"
  exact ⟨⟨by decide, by decide, by decide⟩, ⟨c, 0, _, rfl⟩, h⟩
theorem p_next (ds : List D) (Qd : D → Prop) (Xq : XQ) (h : S_next ds Qd Xq) : b__law_next (kD Qd Xq) (startD 5 ds) := by
  obtain ⟨size, rfl, h0, h1, h⟩ := h
  show b__law_next (kD Qd Xq) [.fz .rd, .fz (.int size), .un, .un, .un]
  unfold b__law_next
  walk_at "dl"
  have hm : ∀ n : Int, Qd (.int (n % size)) := fun n => h _ (Int.emod_nonneg _ (by omega)) (Int.emod_lt_of_pos _ h0)
  have hc : ∀ n m : Int, (0 < m ∧ m ≤ 2147483647) → CMul (n % m) (n % m + 48271) := fun n m hm => by
    have a := Int.emod_nonneg n (b := m) (by omega)
    have b := Int.emod_lt_of_pos n (b := m) (by omega)
    generalize n % m = z at a b
    exact .inl ⟨by omega, by omega⟩
  have hc2 : ∀ n m : Int, (0 < m ∧ m ≤ 2147483647) → CMul (n % m) (n % m + 69621) := fun n m hm => by
    have a := Int.emod_nonneg n (b := m) (by omega)
    have b := Int.emod_lt_of_pos n (b := m) (by omega)
    generalize n % m = z at a b
    exact .inl ⟨by omega, by omega⟩
  intro k0
  refine ⟨by decide, by decide, fun c0 => ⟨⟨by decide, by decide, by decide⟩, ?_⟩⟩
  have tail : ∀ n : Int, CMul 7919 k0 ∧ (0 : Int) < 2147483647 ∧ CMul ((n + 7919 * k0 + 13) % 2147483647) ((n + 7919 * k0 + 13) % 2147483647 + 48271) := fun n => ⟨.inl ⟨by decide, by decide⟩, by decide, hc _ _ ⟨by decide, by decide⟩⟩
  have c31 : CMul 31 k0 := .inl ⟨by decide, by decide⟩
  have c9 : ∀ n : Int, CDiv n 9 := fun n => ⟨by decide, by decide⟩
  split
  · intro n
    split
    · intro m
      exact ⟨⟨h0, h1⟩, by decide, by decide, h0, hm _⟩
    · intro m
      exact ⟨(tail m).1, by decide, (tail m).2.2, by decide, hc2 _ _ ⟨by decide, by decide⟩, c31, by decide, c9 _, h0, hm _⟩
  · intro m
    exact ⟨(tail m).1, by decide, (tail m).2.2, by decide, hc2 _ _ ⟨by decide, by decide⟩, c31, by decide, c9 _, h0, hm _⟩
end Rnd
namespace Dl
open PySem PySem.Spec PyProof.Rows L2 HT
section
variable {prog : Program} {w : World} {A : Around} {E : Value → Shared → Prop} {s : Shared}
end
end Dl
namespace Dl
open PySem PySem.Spec PyProof.Rows L2
def idxD (ys : List Str) (y : D) (Q : D → Prop) : Prop := match y with
  | .str z => ∃ j : Nat, ys[j]? = some z ∧ (∀ m, m < j → ys[m]? ≠ some z) ∧ Q (.int j)
  | _ => False
def dIndex (fo fe : DE) : DE := fun xq ρ Q => fo xq ρ fun x => match x with
  | .nms ys => fe xq ρ fun y => idxD ys y Q
  | .lst ds => ∃ ys : List Str, ds = ys.map D.str ∧ fe xq ρ fun y => idxD ys y Q
  | _ => False
def gSplit (x y : D) (Q : D → Prop) : Prop := match x, y with
  | .str a, .str b => (b.length == 0) = false ∧ a.length + 2 ≤ sizeLine ∧ Q (.lst ((Txt.split a b).map D.str))
  | _, _ => False
def dSplit (fa fb : DE) : DE := fun xq ρ Q => fa xq ρ fun x => match x with
    | .str s => fb xq ρ fun y => gSplit (.str s) y Q
    | _ => False
theorem Cal.none {P : Program} {w : World} {K : PySem.W.Frag} {mg : Str → Option Value} {base : Heap} {C : Str → Addr} {k : Nat} {x : Str} {params : Arguments} {body : List Stmt} {sc : Scope} {ps : List Str} {f : Addr} {fd : FuncData} (F : FunD K x x params body sc [] [] f fd) (gf : mg x = some (.ref f)) (hb : Binds K fd ps []) : Cal P w K mg base C k x fun _ _ _ => False :=
  ⟨f, fd, ps, ⟨fun vs H Q E h => by obtain ⟨_, _, _, _, _, _, _, z, _⟩ := h; exact z.elim, fun A outer s H args us vs Q E hr he hbt hv h => by obtain ⟨_, _, _, _, _, _, _, z, _⟩ := h; exact z.elim⟩, gf, F.kp, hb⟩
end Dl
open PySem L2 Dl in
local macro_rules | `(tactic| walk_at "dl") => `(tactic| simp only [dSeq, dSet, dSetN, dIfS, dRet, dRetV, dRetN, dExpr, dBreak, dCont, dNext, dFrz, frz, dApp, dExt, dSetIx, dFor, dVar, dVarQ, dC, dImm, dLst, d1, d2, n1, n2, dNil, dCons, dTup, dCall, dCallQ, dB, dTru, gTru, dNot, dAnd, dOr, dAndV, dOrV, dNotV, dIf, dSl, nSl, oNo, oSome, iIt, iR1, iR2, iStrD, gItems_lst, gItems_tup, gItems_scr, dLc, dYes, dRd, kD, DK.xq, gAdd, gMns, gI2, gCmp, gNeg, gLen_lst, gLen_tup, gLen_scr, gInt, gStr, gMin, gMax, gListN_lst, gListN_tup, gTuple_lst, gTuple_tup, gRevN, gCat, gSlN, gSl, gIx_rd0, gIx_rd1, gIx_rd2, gEq_int, gNe_int, gIn_tI, gIn_lI, gIsi_tup, gIsi_int, gIsi_bool, dIndex, dSplit, List.getElem?_cons_zero, List.getElem?_cons_succ, List.set_cons_zero, List.set_cons_succ, if_true, if_false, Bool.false_eq_true, ite_true, ite_false])
namespace Expr
open PySem L2 Dl
inductive Ex where
  | num (n : Int) | nam (s : Str) | no (e : Ex) | bin (op : Str) (a b : Ex)
theorem gEq_str {a b : Str} (ha : (PyData.str a).canLay0 = true) (hb : (PyData.str b).canLay0 = true) (Q : D → Prop) : gEq (.str a) (.str b) Q = Q (.bl (decide (a = b))) := propext ⟨fun h => by have := h.2.2; rwa [deq_str] at this, fun h => ⟨(eo_str 0 a ha).ok, (eo_str 0 b hb).ok, by rwa [deq_str]⟩⟩
def lays (s : Str) : Bool := (PyData.str s).canLay0
end Expr
namespace Dl
open PySem L2
abbrev lays := Expr.lays
theorem gAdd_int (i j : Int) (Q : D → Prop) : gAdd (.int i) (.int j) Q = Q (.int (i + j)) := rfl
theorem gAdd_str (s t : Str) (Q : D → Prop) : gAdd (.str s) (.str t) Q = (s.length + t.length ≤ sizeLine ∧ Q (.str (s ++ t))) := rfl
theorem gAdd_lst (a b : List D) (Q : D → Prop) : gAdd (.lst a) (.lst b) Q = (a.length + b.length ≤ sizeLine ∧ Q (.lst (a ++ b))) := rfl
theorem gAdd_tup (a b : List D) (Q : D → Prop) : gAdd (.tup a) (.tup b) Q = (a.length + b.length ≤ sizeLine ∧ Q (.tup (a ++ b))) := rfl
theorem gMns_int (i j : Int) (Q : D → Prop) : gMns (.int i) (.int j) Q = Q (.int (i - j)) := rfl
theorem gI2_int (C : Int → Int → Prop) (o : Int → Int → D) (i j : Int) (Q : D → Prop) : gI2 C o (.int i) (.int j) Q = (C i j ∧ Q (o i j)) := rfl
theorem gCmp_int (p : Int → Int → Bool) (i j : Int) (Q : D → Prop) : gCmp p (.int i) (.int j) Q = Q (.bl (p i j)) := rfl
theorem gNeg_int (i : Int) (Q : D → Prop) : gNeg (.int i) Q = Q (.int (-i)) := rfl
theorem gIsN_non (x : D) (Q : D → Prop) : gIsN x .non Q = Q (.bl (isNon x)) := propext ⟨fun h => h.2, fun h => ⟨rfl, h⟩⟩
theorem gNotN_non (x : D) (Q : D → Prop) : gNotN x .non Q = Q (.bl (!isNon x)) := propext ⟨fun h => h.2, fun h => ⟨rfl, h⟩⟩
theorem gTru_non (Q : Bool → Prop) : gTru .non Q = Q false := rfl
theorem gTru_bl (b : Bool) (Q : Bool → Prop) : gTru (.bl b) Q = Q b := rfl
theorem gTru_int (i : Int) (Q : Bool → Prop) : gTru (.int i) Q = Q (i != 0) := rfl
theorem gTru_lst (ds : List D) (Q : Bool → Prop) : gTru (.lst ds) Q = Q (!ds.isEmpty) := rfl
theorem gTru_tup (ds : List D) (Q : Bool → Prop) : gTru (.tup ds) Q = Q (!ds.isEmpty) := rfl
theorem gInt_int (i : Int) (Q : D → Prop) : gInt (.int i) Q = Q (.int i) := rfl
theorem gInt_bl (b : Bool) (Q : D → Prop) : gInt (.bl b) Q = Q (.int (if b then 1 else 0)) := rfl
theorem gStr_int (i : Int) (Q : D → Prop) : gStr (.int i) Q = (i.natAbs.log2 < 1920 ∧ Q (.str (toString i))) := rfl
theorem gMin_int (i j : Int) (Q : D → Prop) : gMin (.int i) (.int j) Q = Q (.int (if j < i then j else i)) := rfl
theorem gMax_int (i j : Int) (Q : D → Prop) : gMax (.int i) (.int j) Q = Q (.int (if j > i then j else i)) := rfl
theorem gEq_strL (a b : Str) (Q : D → Prop) (ha : lays a = true) (hb : lays b = true) : gEq (.str a) (.str b) Q = Q (.bl (decide (a = b))) := Expr.gEq_str ha hb Q
theorem gNe_strL (a b : Str) (Q : D → Prop) (ha : lays a = true) (hb : lays b = true) : gNe (.str a) (.str b) Q = Q (.bl (!decide (a = b))) := propext ⟨fun h => by
  have := h.2.2
  rwa [deq_str] at this, fun h => ⟨(eo_str 0 a ha).ok, (eo_str 0 b hb).ok, by rwa [deq_str]⟩⟩
theorem gIsi_int_non (Q : D → Prop) : gIsi "int" (D.non) Q = Q (.bl false) := by
  show Q (.bl (kty "NoneType" "int")) = _
  rw [show kty "NoneType" "int" = false by decide +kernel]
theorem gIsi_int_bl (b : Bool) (Q : D → Prop) : gIsi "int" (D.bl b) Q = Q (.bl true) := by
  show Q (.bl (kty "bool" "int")) = _
  rw [show kty "bool" "int" = true by decide +kernel]
theorem gIsi_int_int (i : Int) (Q : D → Prop) : gIsi "int" (D.int i) Q = Q (.bl true) := by
  show Q (.bl (kty "int" "int")) = _
  rw [show kty "int" "int" = true by decide +kernel]
theorem gIsi_int_str (s : Str) (Q : D → Prop) : gIsi "int" (D.str s) Q = Q (.bl false) := by
  show Q (.bl (kty "str" "int")) = _
  rw [show kty "str" "int" = false by decide +kernel]
theorem gIsi_int_tup (ds : List D) (Q : D → Prop) : gIsi "int" (D.tup ds) Q = Q (.bl false) := by
  show Q (.bl (kty "tuple" "int")) = _
  rw [show kty "tuple" "int" = false by decide +kernel]
theorem gIsi_int_lst (ds : List D) (Q : D → Prop) : gIsi "int" (D.lst ds) Q = Q (.bl false) := by
  show Q (.bl (kty "list" "int")) = _
  rw [show kty "list" "int" = false by decide +kernel]
theorem gIsi_bool_non (Q : D → Prop) : gIsi "bool" (D.non) Q = Q (.bl false) := by
  show Q (.bl (kty "NoneType" "bool")) = _
  rw [show kty "NoneType" "bool" = false by decide +kernel]
theorem gIsi_bool_bl (b : Bool) (Q : D → Prop) : gIsi "bool" (D.bl b) Q = Q (.bl true) := by
  show Q (.bl (kty "bool" "bool")) = _
  rw [show kty "bool" "bool" = true by decide +kernel]
theorem gIsi_bool_int (i : Int) (Q : D → Prop) : gIsi "bool" (D.int i) Q = Q (.bl false) := by
  show Q (.bl (kty "int" "bool")) = _
  rw [show kty "int" "bool" = false by decide +kernel]
theorem gIsi_bool_str (s : Str) (Q : D → Prop) : gIsi "bool" (D.str s) Q = Q (.bl false) := by
  show Q (.bl (kty "str" "bool")) = _
  rw [show kty "str" "bool" = false by decide +kernel]
theorem gIsi_bool_tup (ds : List D) (Q : D → Prop) : gIsi "bool" (D.tup ds) Q = Q (.bl false) := by
  show Q (.bl (kty "tuple" "bool")) = _
  rw [show kty "tuple" "bool" = false by decide +kernel]
theorem gIsi_bool_lst (ds : List D) (Q : D → Prop) : gIsi "bool" (D.lst ds) Q = Q (.bl false) := by
  show Q (.bl (kty "list" "bool")) = _
  rw [show kty "list" "bool" = false by decide +kernel]
theorem gIsi_str_non (Q : D → Prop) : gIsi "str" (D.non) Q = Q (.bl false) := by
  show Q (.bl (kty "NoneType" "str")) = _
  rw [show kty "NoneType" "str" = false by decide +kernel]
theorem gIsi_str_bl (b : Bool) (Q : D → Prop) : gIsi "str" (D.bl b) Q = Q (.bl false) := by
  show Q (.bl (kty "bool" "str")) = _
  rw [show kty "bool" "str" = false by decide +kernel]
theorem gIsi_str_int (i : Int) (Q : D → Prop) : gIsi "str" (D.int i) Q = Q (.bl false) := by
  show Q (.bl (kty "int" "str")) = _
  rw [show kty "int" "str" = false by decide +kernel]
theorem gIsi_str_str (s : Str) (Q : D → Prop) : gIsi "str" (D.str s) Q = Q (.bl true) := by
  show Q (.bl (kty "str" "str")) = _
  rw [show kty "str" "str" = true by decide +kernel]
theorem gIsi_str_tup (ds : List D) (Q : D → Prop) : gIsi "str" (D.tup ds) Q = Q (.bl false) := by
  show Q (.bl (kty "tuple" "str")) = _
  rw [show kty "tuple" "str" = false by decide +kernel]
theorem gIsi_str_lst (ds : List D) (Q : D → Prop) : gIsi "str" (D.lst ds) Q = Q (.bl false) := by
  show Q (.bl (kty "list" "str")) = _
  rw [show kty "list" "str" = false by decide +kernel]
theorem gIsi_tuple_non (Q : D → Prop) : gIsi "tuple" (D.non) Q = Q (.bl false) := by
  show Q (.bl (kty "NoneType" "tuple")) = _
  rw [show kty "NoneType" "tuple" = false by decide +kernel]
theorem gIsi_tuple_bl (b : Bool) (Q : D → Prop) : gIsi "tuple" (D.bl b) Q = Q (.bl false) := by
  show Q (.bl (kty "bool" "tuple")) = _
  rw [show kty "bool" "tuple" = false by decide +kernel]
theorem gIsi_tuple_int (i : Int) (Q : D → Prop) : gIsi "tuple" (D.int i) Q = Q (.bl false) := by
  show Q (.bl (kty "int" "tuple")) = _
  rw [show kty "int" "tuple" = false by decide +kernel]
theorem gIsi_tuple_str (s : Str) (Q : D → Prop) : gIsi "tuple" (D.str s) Q = Q (.bl false) := by
  show Q (.bl (kty "str" "tuple")) = _
  rw [show kty "str" "tuple" = false by decide +kernel]
theorem gIsi_tuple_tup (ds : List D) (Q : D → Prop) : gIsi "tuple" (D.tup ds) Q = Q (.bl true) := by
  show Q (.bl (kty "tuple" "tuple")) = _
  rw [show kty "tuple" "tuple" = true by decide +kernel]
theorem gIsi_tuple_lst (ds : List D) (Q : D → Prop) : gIsi "tuple" (D.lst ds) Q = Q (.bl false) := by
  show Q (.bl (kty "list" "tuple")) = _
  rw [show kty "list" "tuple" = false by decide +kernel]
theorem gIsi_list_non (Q : D → Prop) : gIsi "list" (D.non) Q = Q (.bl false) := by
  show Q (.bl (kty "NoneType" "list")) = _
  rw [show kty "NoneType" "list" = false by decide +kernel]
theorem gIsi_list_bl (b : Bool) (Q : D → Prop) : gIsi "list" (D.bl b) Q = Q (.bl false) := by
  show Q (.bl (kty "bool" "list")) = _
  rw [show kty "bool" "list" = false by decide +kernel]
theorem gIsi_list_int (i : Int) (Q : D → Prop) : gIsi "list" (D.int i) Q = Q (.bl false) := by
  show Q (.bl (kty "int" "list")) = _
  rw [show kty "int" "list" = false by decide +kernel]
theorem gIsi_list_str (s : Str) (Q : D → Prop) : gIsi "list" (D.str s) Q = Q (.bl false) := by
  show Q (.bl (kty "str" "list")) = _
  rw [show kty "str" "list" = false by decide +kernel]
theorem gIsi_list_tup (ds : List D) (Q : D → Prop) : gIsi "list" (D.tup ds) Q = Q (.bl false) := by
  show Q (.bl (kty "tuple" "list")) = _
  rw [show kty "tuple" "list" = false by decide +kernel]
theorem gIsi_list_lst (ds : List D) (Q : D → Prop) : gIsi "list" (D.lst ds) Q = Q (.bl true) := by
  show Q (.bl (kty "list" "list")) = _
  rw [show kty "list" "list" = true by decide +kernel]
theorem gIsi2_lt_non (Q : D → Prop) : gIsi2 "list" "tuple" (D.non) Q = Q (.bl false) := by
  show Q (.bl (kty "NoneType" "list" || kty "NoneType" "tuple")) = _
  rw [show (kty "NoneType" "list" || kty "NoneType" "tuple") = false by decide +kernel]
theorem gIsi2_lt_bl (b : Bool) (Q : D → Prop) : gIsi2 "list" "tuple" (D.bl b) Q = Q (.bl false) := by
  show Q (.bl (kty "bool" "list" || kty "bool" "tuple")) = _
  rw [show (kty "bool" "list" || kty "bool" "tuple") = false by decide +kernel]
theorem gIsi2_lt_int (i : Int) (Q : D → Prop) : gIsi2 "list" "tuple" (D.int i) Q = Q (.bl false) := by
  show Q (.bl (kty "int" "list" || kty "int" "tuple")) = _
  rw [show (kty "int" "list" || kty "int" "tuple") = false by decide +kernel]
theorem gIsi2_lt_str (s : Str) (Q : D → Prop) : gIsi2 "list" "tuple" (D.str s) Q = Q (.bl false) := by
  show Q (.bl (kty "str" "list" || kty "str" "tuple")) = _
  rw [show (kty "str" "list" || kty "str" "tuple") = false by decide +kernel]
theorem gIsi2_lt_tup (ds : List D) (Q : D → Prop) : gIsi2 "list" "tuple" (D.tup ds) Q = Q (.bl true) := by
  show Q (.bl (kty "tuple" "list" || kty "tuple" "tuple")) = _
  rw [show (kty "tuple" "list" || kty "tuple" "tuple") = true by decide +kernel]
theorem gIsi2_lt_lst (ds : List D) (Q : D → Prop) : gIsi2 "list" "tuple" (D.lst ds) Q = Q (.bl true) := by
  show Q (.bl (kty "list" "list" || kty "list" "tuple")) = _
  rw [show (kty "list" "list" || kty "list" "tuple") = true by decide +kernel]
theorem isNon_non : isNon (D.non) = true := rfl
theorem isNon_bl (b : Bool) : isNon (D.bl b) = false := rfl
theorem isNon_int (i : Int) : isNon (D.int i) = false := rfl
theorem isNon_str (s : Str) : isNon (D.str s) = false := rfl
theorem isNon_tup (ds : List D) : isNon (D.tup ds) = false := rfl
theorem isNon_lst (ds : List D) : isNon (D.lst ds) = false := rfl
theorem gIx_tup0 (a : D) (l : List D) (Q : D → Prop) : gIx (.tup (a :: l)) (.int 0) Q = Q a := gIx_tup (atI_nat (j := 0) rfl) Q
theorem gIx_lst0 (a : D) (l : List D) (Q : D → Prop) : gIx (.lst (a :: l)) (.int 0) Q = Q a := gIx_lst (atI_nat (j := 0) rfl) Q
theorem gIx_tup1 (a b : D) (l : List D) (Q : D → Prop) : gIx (.tup (a :: b :: l)) (.int 1) Q = Q b := gIx_tup (atI_nat (j := 1) rfl) Q
theorem gIx_lst1 (a b : D) (l : List D) (Q : D → Prop) : gIx (.lst (a :: b :: l)) (.int 1) Q = Q b := gIx_lst (atI_nat (j := 1) rfl) Q
theorem gIx_tup2 (a b c : D) (l : List D) (Q : D → Prop) : gIx (.tup (a :: b :: c :: l)) (.int 2) Q = Q c := gIx_tup (atI_nat (j := 2) rfl) Q
theorem gIx_lst2 (a b c : D) (l : List D) (Q : D → Prop) : gIx (.lst (a :: b :: c :: l)) (.int 2) Q = Q c := gIx_lst (atI_nat (j := 2) rfl) Q
theorem gIx_tup3 (a b c d : D) (l : List D) (Q : D → Prop) : gIx (.tup (a :: b :: c :: d :: l)) (.int 3) Q = Q d := gIx_tup (atI_nat (j := 3) rfl) Q
theorem gIx_lst3 (a b c d : D) (l : List D) (Q : D → Prop) : gIx (.lst (a :: b :: c :: d :: l)) (.int 3) Q = Q d := gIx_lst (atI_nat (j := 3) rfl) Q
theorem gIx_tup4 (a b c d e : D) (l : List D) (Q : D → Prop) : gIx (.tup (a :: b :: c :: d :: e :: l)) (.int 4) Q = Q e := gIx_tup (atI_nat (j := 4) rfl) Q
theorem gIx_lst4 (a b c d e : D) (l : List D) (Q : D → Prop) : gIx (.lst (a :: b :: c :: d :: e :: l)) (.int 4) Q = Q e := gIx_lst (atI_nat (j := 4) rfl) Q
theorem gIx_tup5 (a b c d e f : D) (l : List D) (Q : D → Prop) : gIx (.tup (a :: b :: c :: d :: e :: f :: l)) (.int 5) Q = Q f := gIx_tup (atI_nat (j := 5) rfl) Q
theorem gIx_lst5 (a b c d e f : D) (l : List D) (Q : D → Prop) : gIx (.lst (a :: b :: c :: d :: e :: f :: l)) (.int 5) Q = Q f := gIx_lst (atI_nat (j := 5) rfl) Q
theorem gIx_tup6 (a b c d e f g : D) (l : List D) (Q : D → Prop) : gIx (.tup (a :: b :: c :: d :: e :: f :: g :: l)) (.int 6) Q = Q g := gIx_tup (atI_nat (j := 6) rfl) Q
theorem gIx_lst6 (a b c d e f g : D) (l : List D) (Q : D → Prop) : gIx (.lst (a :: b :: c :: d :: e :: f :: g :: l)) (.int 6) Q = Q g := gIx_lst (atI_nat (j := 6) rfl) Q
theorem gIx_tup7 (a b c d e f g h : D) (l : List D) (Q : D → Prop) : gIx (.tup (a :: b :: c :: d :: e :: f :: g :: h :: l)) (.int 7) Q = Q h := gIx_tup (atI_nat (j := 7) rfl) Q
theorem gIx_lst7 (a b c d e f g h : D) (l : List D) (Q : D → Prop) : gIx (.lst (a :: b :: c :: d :: e :: f :: g :: h :: l)) (.int 7) Q = Q h := gIx_lst (atI_nat (j := 7) rfl) Q
theorem gSl_lst (ds : List D) (lo hi : Option Int) (Q : D → Prop) : gSl (.lst ds) lo hi Q = Q (.lst (cutD ds lo hi)) := rfl
theorem gSl_tup (ds : List D) (lo hi : Option Int) (Q : D → Prop) : gSl (.tup ds) lo hi Q = Q (.tup (cutD ds lo hi)) := rfl
theorem gSl_str (s : Str) (lo hi : Option Int) (Q : D → Prop) : gSl (.str s) lo hi Q = (s.length ≤ sizeLine ∧ Q (.str (cutS s lo hi))) := rfl
theorem gSlN_lst (ds : List D) (lo hi : Option Int) (Q : List D → Prop) : gSlN (.lst ds) lo hi Q = Q (cutD ds lo hi) := rfl
theorem gCat_lst (a b : List D) (Q : List D → Prop) : gCat (.lst a) (.lst b) Q = (a.length + b.length ≤ sizeLine ∧ Q (a ++ b)) := rfl
theorem bTup_tup (is : List Nat) (ds : List D) (P : En → Prop) (ρ : En) : bTup is (.tup ds) P ρ = (ds.length = is.length ∧ P (setAll is ds ρ)) := propext ⟨fun ⟨_, e, h⟩ => by cases e; exact h, fun h => ⟨_, rfl, h⟩⟩
theorem gEq_bl (a b : Bool) (Q : D → Prop) : gEq (.bl a) (.bl b) Q = Q (.bl (decide (a = b))) := gEq_enc enc_bl (by omega) a b Q
theorem gNe_bl (a b : Bool) (Q : D → Prop) : gNe (.bl a) (.bl b) Q = Q (.bl (!decide (a = b))) := gNe_enc enc_bl (by omega) a b Q
theorem cut_t1 (a : D) (l : List D) : cutD (a :: l) none (some 1) = [a] := cutD_to _ 1
theorem cut_t2 (a b : D) (l : List D) : cutD (a :: b :: l) none (some 2) = [a, b] := cutD_to _ 2
theorem cut_t3 (a b c : D) (l : List D) : cutD (a :: b :: c :: l) none (some 3) = [a, b, c] := cutD_to _ 3
theorem cut_f1 (a : D) (l : List D) : cutD (a :: l) (some 1) none = l := cutD_from _ 1
end Dl
namespace Dl
open PySem L2
theorem lay_0 : lays "allmends.programs" = true := by decide +kernel
theorem lay_1 : lays "law_allmends_k01_value_of" = true := by decide +kernel
theorem lay_2 : lays "abcdefghijklmnopqrstuvwxyz0123456789" = true := by decide +kernel
theorem lay_3 : lays "number" = true := by decide +kernel
theorem lay_4 : lays "name" = true := by decide +kernel
theorem lay_5 : lays "not" = true := by decide +kernel
theorem lay_6 : lays "+" = true := by decide +kernel
theorem lay_7 : lays "-" = true := by decide +kernel
theorem lay_8 : lays "*" = true := by decide +kernel
theorem lay_9 : lays "==" = true := by decide +kernel
theorem lay_10 : lays "<" = true := by decide +kernel
theorem lay_11 : lays "and" = true := by decide +kernel
theorem lay_12 : lays " " = true := by decide +kernel
theorem lay_13 : lays "0123456789" = true := by decide +kernel
theorem lay_14 : lays "or" = true := by decide +kernel
theorem lay_15 : lays "abcdefghijklmnopqrstuvwxyz" = true := by decide +kernel
theorem lay_16 : lays "allmends.common" = true := by decide +kernel
theorem lay_17 : lays "allmends.errors" = true := by decide +kernel
theorem lay_18 : lays "allmends.names" = true := by decide +kernel
theorem lay_19 : lays "allmends.checks" = true := by decide +kernel
theorem lay_20 : lays "allmends.flow" = true := by decide +kernel
theorem lay_21 : lays "law_allmends_k02_value_at_a_place" = true := by decide +kernel
theorem lay_22 : lays "letters" = true := by decide +kernel
theorem lay_23 : lays "answers" = true := by decide +kernel
theorem lay_24 : lays "global" = true := by decide +kernel
theorem lay_25 : lays "proc" = true := by decide +kernel
theorem lay_26 : lays "local" = true := by decide +kernel
theorem lay_27 : lays "read" = true := by decide +kernel
theorem lay_28 : lays "write" = true := by decide +kernel
theorem lay_29 : lays "if" = true := by decide +kernel
theorem lay_30 : lays "then" = true := by decide +kernel
theorem lay_31 : lays "else" = true := by decide +kernel
theorem lay_32 : lays "while" = true := by decide +kernel
theorem lay_33 : lays "do" = true := by decide +kernel
theorem lay_34 : lays "call" = true := by decide +kernel
theorem lay_35 : lays "skip" = true := by decide +kernel
theorem lay_36 : lays "end" = true := by decide +kernel
theorem lay_37 : lays "set" = true := by decide +kernel
theorem lay_38 : lays "test" = true := by decide +kernel
theorem lay_39 : lays "names" = true := by decide +kernel
theorem lay_40 : lays "wide" = true := by decide +kernel
theorem lay_41 : lays "left" = true := by decide +kernel
theorem lay_42 : lays "calls" = true := by decide +kernel
theorem lay_43 : lays "globals" = true := by decide +kernel
theorem lay_44 : lays "places" = true := by decide +kernel
theorem lay_45 : lays "called" = true := by decide +kernel
theorem lay_46 : lays "sizes" = true := by decide +kernel
theorem lay_47 : lays "passed" = true := by decide +kernel
theorem lay_48 : lays "rows" = true := by decide +kernel
theorem lay_49 : lays "the program breaks a rule" = true := by decide +kernel
theorem lay_50 : lays "" = true := by decide +kernel
theorem lay_51 : lays "procedures" = true := by decide +kernel
theorem lay_52 : lays "main" = true := by decide +kernel
theorem lay_53 : lays "statements" = true := by decide +kernel
theorem lay_54 : lays "spoilt" = true := by decide +kernel
theorem lay_55 : lays "variables" = true := by decide +kernel
theorem lay_56 : lays "twice" = true := by decide +kernel
theorem lay_57 : lays "sights" = true := by decide +kernel
theorem lay_58 : lays "nesting" = true := by decide +kernel
theorem lay_59 : lays "depth" = true := by decide +kernel
theorem lay_60 : lays "pass" = true := by decide +kernel
theorem lay_61 : lays "size" = true := by decide +kernel
theorem lay_62 : lays "unknown" = true := by decide +kernel
theorem lay_63 : lays "law_allmends_k03_sights_in_order" = true := by decide +kernel
theorem lay_64 : lays "law_allmends_k04_places_in_text_order" = true := by decide +kernel
theorem lay_65 : lays "law_allmends_k05_points_and_next" = true := by decide +kernel
theorem lay_66 : lays "made" = true := by decide +kernel
theorem lay_67 : lays "the text does not fit" = true := by decide +kernel
theorem lay_68 : lays "the contract breaks a rule" = true := by decide +kernel
theorem lay_69 : lays "the place does not fit" = true := by decide +kernel
theorem lay_70 : lays "the edit does not fit its place" = true := by decide +kernel
theorem lay_71 : lays "the line does not fit" = true := by decide +kernel
theorem lay_72 : lays "the name does not fit" = true := by decide +kernel
theorem lay_73 : lays "changed" = true := by decide +kernel
theorem lay_74 : lays "abcd0123" = true := by decide +kernel
theorem lay_75 : lays "\n" = true := by decide +kernel
theorem lay_76 : lays "v0" = true := by decide +kernel
theorem lay_77 : lays "other" = true := by decide +kernel
theorem lay_78 : lays "v1" = true := by decide +kernel
theorem lay_79 : lays "p" = true := by decide +kernel
theorem lay_80 : lays "refused" = true := by decide +kernel
theorem lay_81 : lays "v" = true := by decide +kernel
theorem lay_82 : lays "allmends.contracts" = true := by decide +kernel
theorem lay_83 : lays "law_allmends_k11_contract_rows" = true := by decide +kernel
theorem lay_84 : lays "over" = true := by decide +kernel
theorem lay_85 : lays "states" = true := by decide +kernel
theorem lay_86 : lays "new" = true := by decide +kernel
theorem lay_87 : lays "target" = true := by decide +kernel
theorem lay_88 : lays "row" = true := by decide +kernel
theorem lay_89 : lays "allmends.words" = true := by decide +kernel
theorem lay_90 : lays "(),=<+-*" = true := by decide +kernel
theorem lay_91 : lays " \n" = true := by decide +kernel
theorem lay_92 : lays "allmends.tables" = true := by decide +kernel
theorem lay_93 : lays "  " = true := by decide +kernel
theorem lay_94 : lays "state" = true := by decide +kernel
theorem lay_95 : lays "(" = true := by decide +kernel
theorem lay_96 : lays "0" = true := by decide +kernel
theorem lay_97 : lays "fault" = true := by decide +kernel
theorem lay_98 : lays "finish" = true := by decide +kernel
theorem lay_99 : lays "silent" = true := by decide +kernel
theorem lay_100 : lays "007" = true := by decide +kernel
theorem lay_101 : lays "00" = true := by decide +kernel
theorem lay_102 : lays "10000" = true := by decide +kernel
theorem lay_103 : lays "9999" = true := by decide +kernel
theorem lay_104 : lays "10" = true := by decide +kernel
theorem lay_105 : lays "1" = true := by decide +kernel
theorem lay_106 : lays "2" = true := by decide +kernel
theorem lay_107 : lays "3" = true := by decide +kernel
theorem lay_108 : lays "4" = true := by decide +kernel
theorem lay_109 : lays "5" = true := by decide +kernel
theorem lay_110 : lays "7" = true := by decide +kernel
theorem lay_111 : lays "8" = true := by decide +kernel
theorem lay_112 : lays "9" = true := by decide +kernel
theorem lay_113 : lays "NUMBER" = true := by decide +kernel
theorem lay_114 : lays "tokens" = true := by decide +kernel
theorem lay_115 : lays "at" = true := by decide +kernel
theorem lay_116 : lays "END" = true := by decide +kernel
theorem lay_117 : lays "parts" = true := by decide +kernel
theorem lay_118 : lays "word" = true := by decide +kernel
theorem lay_119 : lays "sign" = true := by decide +kernel
theorem lay_120 : lays "to" = true := by decide +kernel
theorem lay_121 : lays " finish" = true := by decide +kernel
theorem lay_122 : lays " silent" = true := by decide +kernel
theorem lay_123 : lays "letters " = true := by decide +kernel
theorem lay_124 : lays "answers " = true := by decide +kernel
theorem lay_125 : lays "FAULT" = true := by decide +kernel
theorem lay_126 : lays "WORD" = true := by decide +kernel
theorem lay_127 : lays "reason" = true := by decide +kernel
theorem lay_128 : lays "\nanswers " = true := by decide +kernel
theorem lay_129 : lays "\n\n " = true := by decide +kernel
theorem lay_130 : lays "SIGN" = true := by decide +kernel
theorem lay_131 : lays "over to " = true := by decide +kernel
theorem lay_132 : lays " to " = true := by decide +kernel
theorem lay_133 : lays "law_allmends_k13_both_contracts" = true := by decide +kernel
theorem lay_134 : lays "too large" = true := by decide +kernel
theorem lay_135 : lays "too long" = true := by decide +kernel
theorem lay_136 : lays "too many cases" = true := by decide +kernel
theorem lay_137 : lays "mismatch" = true := by decide +kernel
theorem lay_138 : lays "large states" = true := by decide +kernel
theorem lay_139 : lays "large " = true := by decide +kernel
theorem lay_140 : lays "allmends.changes" = true := by decide +kernel
theorem lay_141 : lays "law_allmends_k14_change_kept_in_order" = true := by decide +kernel
theorem lay_142 : lays "a place stands twice" = true := by decide +kernel
theorem lay_143 : lays "an entry of another place is set" = true := by decide +kernel
theorem lay_144 : lays "an entry is set twice" = true := by decide +kernel
theorem lay_145 : lays "law_allmends_k15_turned_entries" = true := by decide +kernel
theorem lay_146 : lays "allmends.edits" = true := by decide +kernel
theorem lay_147 : lays "law_allmends_k21_edits_listed" = true := by decide +kernel
theorem lay_148 : lays "put" = true := by decide +kernel
theorem lay_149 : lays "pq" = true := by decide +kernel
theorem lay_150 : lays "late" = true := by decide +kernel
theorem lay_151 : lays "drop" = true := by decide +kernel
theorem lay_152 : lays "g" = true := by decide +kernel
theorem lay_153 : lays "go" = true := by decide +kernel
theorem lay_154 : lays "no place" = true := by decide +kernel
theorem lay_155 : lays "a" = true := by decide +kernel
theorem lay_156 : lays "b1" = true := by decide +kernel
theorem lay_157 : lays "x" = true := by decide +kernel
theorem lay_158 : lays "law_allmends_k22_edits_applied" = true := by decide +kernel
theorem lay_159 : lays "law_allmends_k23_draft_picks" = true := by decide +kernel
theorem lay_160 : lays "draft" = true := by decide +kernel
theorem lay_161 : lays "the place of a pick is not in the field" = true := by decide +kernel
theorem lay_162 : lays "a place stands twice in the field" = true := by decide +kernel
theorem lay_163 : lays "a place has two picks" = true := by decide +kernel
theorem lay_164 : lays "allmends.amendments" = true := by decide +kernel
theorem lay_165 : lays "law_allmends_k26_amended_place" = true := by decide +kernel
theorem lay_166 : lays "q" = true := by decide +kernel
theorem lay_167 : lays "b" = true := by decide +kernel
theorem lay_168 : lays "k7" = true := by decide +kernel
theorem lay_169 : lays "abcdefgh" = true := by decide +kernel
theorem lay_170 : lays "place" = true := by decide +kernel
end Dl
namespace Dl
open PySem L2
def subs : List (Str × Str) := ([("InvalidInput", "MendError"), ("BoundError", "MendError"), ("DeskError", "MendError"), ("InvalidText", "InvalidInput"), ("InvalidText", "MendError"), ("InvalidProgram", "InvalidInput"), ("InvalidProgram", "MendError"), ("InvalidContract", "InvalidInput"), ("InvalidContract", "MendError"), ("InvalidChange", "InvalidInput"), ("InvalidChange", "MendError"), ("InvalidStream", "InvalidInput"), ("InvalidStream", "MendError"), ("InvalidPlaces", "InvalidInput"), ("InvalidPlaces", "MendError")] : List (Str × Str)) ++ ([("InvalidEdit", "InvalidInput"), ("InvalidEdit", "MendError"), ("InvalidLine", "InvalidInput"), ("InvalidLine", "MendError"), ("InvalidName", "InvalidInput"), ("InvalidName", "MendError"), ("Mismatch", "InvalidInput"), ("Mismatch", "MendError"), ("TooLarge", "BoundError"), ("TooLarge", "MendError"), ("TooLong", "BoundError"), ("TooLong", "MendError"), ("TooManyCases", "BoundError"), ("TooManyCases", "MendError"), ("NameTaken", "DeskError")] : List (Str × Str)) ++ ([("NameTaken", "MendError"), ("UnknownName", "DeskError"), ("UnknownName", "MendError"), ("NothingToUndo", "DeskError"), ("NothingToUndo", "MendError"), ("NothingToRedo", "DeskError"), ("NothingToRedo", "MendError")] : List (Str × Str))
def isaF (c y : Str) : Bool := decide (c = y) || subs.contains (c, y)
theorem ex_is (a : Addr) (d : Option Addr) (c : Str) (fs : List (Str × D)) : (∃ c' fs', some (S.ex a d c fs) = some (S.ex a d c' fs')) = True := propext ⟨fun _ => True.intro, fun _ => ⟨_, _, rfl⟩⟩
theorem ex_fl (a : Addr) (d : Option Addr) (c : Str) (fs : List (Str × D)) : (∃ c', some (S.ex a d c fs) = some (S.ex a d c' fs)) = True := propext ⟨fun _ => True.intro, fun _ => ⟨_, rfl⟩⟩
theorem lk_hd (f : Str) (d : D) (l : List (Str × D)) (P : D → Prop) : (∃ v, List.lookup f ((f, d) :: l) = some v ∧ P v) = P d := propext ⟨fun ⟨v, e, p⟩ => by simp [List.lookup] at e; subst e; exact p, fun p => ⟨d, by simp [List.lookup], p⟩⟩
end Dl
namespace Dl
open PySem PySem.Spec PyProof.Rows L2
def leafB : D → Bool
  | .lst _ => false
  | .dic _ => false
  | .tup ds => go ds
  | _ => true
where go : List D → Bool
  | [] => true
  | d :: ds => leafB d && go ds
section
variable {Γ : Kx} {H0 G G' : Hp} {R R' : Addr → Prop} {H H' : Hp}
mutual
theorem Ow.leaf (g : Same G H) : ∀ (d : D) (v : V), leafB d = true → Rp Γ G R d v → Ow Γ H0 G R H d v []
  | .non, v, _, h => by unfold Ow; exact ⟨rfl, h⟩
  | .bl _, v, _, h => by unfold Ow; exact ⟨rfl, h⟩
  | .int _, v, _, h => by unfold Ow; exact ⟨rfl, h⟩
  | .str _, v, _, h => by unfold Ow; exact ⟨rfl, h⟩
  | .scr _, v, _, h => by unfold Ow; exact ⟨rfl, h⟩
  | .rd, v, _, h => by unfold Ow; exact ⟨rfl, h⟩
  | .ins _ _, v, _, h => by unfold Ow; exact ⟨rfl, h⟩
  | .nms _, v, _, h => by unfold Ow; exact ⟨rfl, h⟩
  | .any, v, _, h => by unfold Ow; exact ⟨rfl, h⟩
  | .fr _, v, _, h => by unfold Ow; exact ⟨rfl, h⟩
  | .raw _, v, _, h => by unfold Ow; exact ⟨rfl, h⟩
  | .tup ds, v, m, h => by
    unfold Rp at h
    unfold Ow
    unfold leafB at m
    obtain ⟨a, vs, e, s, l⟩ := h
    exact ⟨a, vs, e, Same.seqT g s, OwL.leaf g ds vs m l⟩
  | .lst _, v, m, h => by unfold leafB at m; cases m
  | .dic _, v, m, h => by unfold leafB at m; cases m
theorem OwL.leaf (g : Same G H) : ∀ (ds : List D) (vs : List V), leafB.go ds = true → RpL Γ G R ds vs → OwL Γ H0 G R H ds vs []
  | [], vs, _, h => by unfold RpL at h; unfold OwL; exact ⟨h, rfl⟩
  | d :: ds, vs, m, h => by
    unfold RpL at h
    unfold leafB.go at m
    rw [Bool.and_eq_true] at m
    obtain ⟨v, r, e, h1, h2⟩ := h
    unfold OwL
    exact ⟨v, r, [], [], e, rfl, Ow.leaf g d v m.1 h1, OwL.leaf g ds r m.2 h2⟩
end
mutual
theorem Ow.older {H1 : Hp} (o : ∀ a, H0 a = none → H1 a = none) : ∀ (d : D) (v : V) (as : List Addr), Ow Γ H0 G R H d v as → Ow Γ H1 G R H d v as
  | .lst ds, v, as, h => by
    unfold Ow at *
    obtain ⟨a, vs, bs, e, rfl, h0, g, r, hl, l⟩ := h
    exact ⟨a, vs, bs, e, rfl, o a h0, g, r, hl, OwL.older o ds vs bs l⟩
  | .dic ds, v, as, h => by
    unfold Ow at *
    obtain ⟨a, vs, bs, e, rfl, h0, g, r, hl, l⟩ := h
    exact ⟨a, vs, bs, e, rfl, o a h0, g, r, hl, OwK.older o ds vs bs l⟩
  | .tup ds, v, as, h => by
    unfold Ow at *
    obtain ⟨a, vs, e, q, l⟩ := h
    exact ⟨a, vs, e, q, OwL.older o ds vs as l⟩
  | .non, v, as, h => by unfold Ow at *; exact h
  | .bl _, v, as, h => by unfold Ow at *; exact h
  | .int _, v, as, h => by unfold Ow at *; exact h
  | .str _, v, as, h => by unfold Ow at *; exact h
  | .scr _, v, as, h => by unfold Ow at *; exact h
  | .rd, v, as, h => by unfold Ow at *; exact h
  | .ins _ _, v, as, h => by unfold Ow at *; exact h
  | .nms _, v, as, h => by unfold Ow at *; exact h
  | .any, v, as, h => by unfold Ow at *; exact h
  | .fr _, v, as, h => by unfold Ow at *; exact h
  | .raw _, v, as, h => by unfold Ow at *; exact h
theorem OwL.older {H1 : Hp} (o : ∀ a, H0 a = none → H1 a = none) : ∀ (ds : List D) (vs : List V) (as : List Addr), OwL Γ H0 G R H ds vs as → OwL Γ H1 G R H ds vs as
  | [], vs, as, h => by unfold OwL at *; exact h
  | d :: ds, vs, as, h => by
    unfold OwL at *
    obtain ⟨v, r, bs, cs, e, rfl, h1, h2⟩ := h
    exact ⟨v, r, bs, cs, e, rfl, Ow.older o d v bs h1, OwL.older o ds r cs h2⟩
theorem OwK.older {H1 : Hp} (o : ∀ a, H0 a = none → H1 a = none) : ∀ (ds : List (Key × D)) (vs : List (Key × V)) (as : List Addr), OwK Γ H0 G R H ds vs as → OwK Γ H1 G R H ds vs as
  | [], vs, as, h => by unfold OwK at *; exact h
  | (x, d) :: ds, vs, as, h => by
    unfold OwK at *
    obtain ⟨v, r, bs, cs, e, rfl, h1, h2⟩ := h
    exact ⟨v, r, bs, cs, e, rfl, Ow.older o d v bs h1, OwK.older o ds r cs h2⟩
end
theorem OwL.len : ∀ {ds : List D} {vs : List V} {as : List Addr}, OwL Γ H0 G R H ds vs as → ds.length = vs.length
  | [], vs, as, h => by unfold OwL at h; rw [h.1]; rfl
  | d :: ds, vs, as, h => by
    unfold OwL at h
    obtain ⟨v, r, bs, cs, rfl, _, h1, h2⟩ := h
    rw [List.length_cons, List.length_cons, OwL.len h2]
theorem OwL.nil : OwL Γ H0 G R H [] [] [] := by unfold OwL; exact ⟨rfl, rfl⟩
theorem OwL.cons {d : D} {v : V} {as : List Addr} {ds : List D} {vs : List V} {bs : List Addr} (h : Ow Γ H0 G R H d v as) (t : OwL Γ H0 G R H ds vs bs) : OwL Γ H0 G R H (d :: ds) (v :: vs) (as ++ bs) := by
  unfold OwL
  exact ⟨v, vs, as, bs, rfl, rfl, h, t⟩
theorem OwL.append : ∀ {ds es : List D} {vs us : List V} {as bs : List Addr}, OwL Γ H0 G R H ds vs as → OwL Γ H0 G R H es us bs → OwL Γ H0 G R H (ds ++ es) (vs ++ us) (as ++ bs)
  | [], _, vs, _, as, _, h, t => by unfold OwL at h; obtain ⟨rfl, rfl⟩ := h; exact t
  | d :: ds, es, vs, us, as, bs, h, t => by
    unfold OwL at h
    obtain ⟨v, r, b1, c1, rfl, rfl, h1, h2⟩ := h
    have := OwL.cons h1 (OwL.append h2 t)
    simpa using this
theorem OwL.snoc {d : D} {v : V} {bs : List Addr} {ds : List D} {vs : List V} {as : List Addr} (t : OwL Γ H0 G R H ds vs as) (h : Ow Γ H0 G R H d v bs) : OwL Γ H0 G R H (ds ++ [d]) (vs ++ [v]) (as ++ bs) := by
  have := t.append (OwL.cons h OwL.nil)
  simpa using this
theorem OwL.rev : ∀ {ds : List D} {vs : List V} {as : List Addr}, OwL Γ H0 G R H ds vs as → as.Nodup → ∃ bs, OwL Γ H0 G R H ds.reverse vs.reverse bs ∧ bs.Nodup ∧ ∀ a, a ∈ bs ↔ a ∈ as
  | [], vs, as, h, nd => by
    unfold OwL at h
    obtain ⟨rfl, rfl⟩ := h
    exact ⟨[], OwL.nil, nd, fun a => Iff.rfl⟩
  | d :: ds, vs, as, h, nd => by
    unfold OwL at h
    obtain ⟨v, r, b1, c1, rfl, rfl, h1, h2⟩ := h
    obtain ⟨n1, n2, n3⟩ := List.nodup_append.mp nd
    obtain ⟨bs, l, nb, m⟩ := h2.rev n2
    rw [List.reverse_cons, List.reverse_cons]
    refine ⟨bs ++ b1, l.snoc h1, List.nodup_append.mpr ⟨nb, n1, fun a ha b hb e => n3 b hb a ((m a).mp ha) e.symm⟩, fun a => ?_⟩
    rw [List.mem_append, List.mem_append, m a]
    exact Or.comm
end
section
variable {Γ : Kx} {H0 G G' G'' : Hp} {R R' R'' : Addr → Prop} {H H' H'' : Hp}
theorem Nx.stays (g : Gd G R H) (n : Nx G R H G' R' H') (as : List Addr) : Stays G R H G' R' H' as := ⟨fun a o _ h s g r => n.openO h s.stiff g r, fun a o h s => n.st h s g, n.rr, n.gg⟩
theorem Stays.trans {as : List Addr} (s : Stays G R H G' R' H' as) (t : Stays G' R' H' G'' R'' H'' as) : Stays G R H G'' R'' H'' as := ⟨fun a o m h op g r => by
  obtain ⟨x, y, z⟩ := s.sl a o m h op g r
  exact t.sl a o m x op y z, fun a o h st => t.st a o (s.st a o h st) st, fun a r => t.rd a (s.rd a r), fun a o e => t.gg a o (s.gg a o e)⟩
theorem Stays.upd {as : List Addr} {a : Addr} {o u : HO} (hm : a ∉ as) (h : H a = some u) (hu : ¬ Stiff u) : Stays G R H G R (L2.upd H a o) as := ⟨fun b w m h op g r => ⟨by rw [upd_ne (fun (e : b = a) => hm (e ▸ m))]; exact h, g, r⟩, fun b w e s => by
  rw [upd_ne (fun (z : b = a) => by rw [z, h] at e; cases e; exact hu s)]
  exact e, fun _ h => h, fun _ _ h => h⟩
def wo (as bs : List Addr) : List Addr := as.filter fun a => !decide (a ∈ bs)
theorem mem_wo {as bs : List Addr} {a : Addr} : a ∈ wo as bs ↔ a ∈ as ∧ a ∉ bs := by
  unfold wo
  rw [List.mem_filter]
  simp
def Frs (H0 G : Hp) (R : Addr → Prop) (H : Hp) (as : List Addr) : Prop := ∀ a ∈ as, H0 a = none ∧ G a = none ∧ ¬ R a ∧ ∃ o, H a = some o ∧ Open o
theorem Gd.cut {as : List Addr} (g : Gd G R H) (f : ∀ a ∈ as, G a = none ∧ ¬ R a) : Gd G R (Dl.cut H as) :=
  ⟨fun b o e => by rw [cut_out (fun m => by rw [(f b m).1] at e; cases e)]; exact g.sub b o e, fun a r => by
    obtain ⟨x, y, z, e⟩ := g.rd a r
    exact ⟨x, y, z, by rw [cut_out (fun m => (f a m).2 r)]; exact e⟩, g.dis⟩
theorem Gd.uncut {as : List Addr} (g : Gd G R (Dl.cut H as)) : Gd G R H :=
  ⟨fun b o e => (cut_some (g.sub b o e)).2, fun a r => by
    obtain ⟨x, y, z, e⟩ := g.rd a r
    exact ⟨x, y, z, (cut_some e).2⟩, g.dis⟩
theorem Nx.cut {G0 : Hp} {R0 : Addr → Prop} {as : List Addr} (n : Nx G0 R0 H0 G R H) (f : Frs H0 G R H as) : Nx G0 R0 H0 G R (Dl.cut H as) where
  gg := n.gg
  rr := n.rr
  gd := n.gd.cut fun a m => ⟨(f a m).2.1, (f a m).2.2.1⟩
  ev := fun b o e r => by rw [cut_out (fun m => by rw [(f b m).1] at e; cases e)]; exact n.ev b o e r
  ex := fun b o e => by rw [cut_out (fun m => by rw [(f b m).1] at e; cases e)]; exact n.ex b o e
  fg := n.fg
  fr := n.fr
theorem Nx.uncut {as : List Addr} (g : Gd G R H) (h : ∀ a ∈ as, G a = none) : Nx G R (Dl.cut H as) G R H where
  gg := fun _ _ h => h
  rr := fun _ h => h
  gd := g
  ev := fun b o e _ => (cut_some e).2
  ex := fun b o e => ⟨o, (cut_some e).2⟩
  fg := fun b o e => .inl e
  fr := fun b r => .inl r
theorem Nx.cutUpd {as : List Addr} {a : Addr} {o : HO} (n : Nx G R H G' R' H') (m : a ∈ as) (g : G' a = none) (r : ¬ R' a) : Nx G R (Dl.cut H as) G' R' (L2.upd H' a o) where
  gg := n.gg
  rr := n.rr
  gd := ⟨fun b u q => by rw [upd_ne (ne_of_none q g)]; exact n.gd.sub b u q, fun b q => by
    have ne : b ≠ a := fun z => r (by subst z; exact q)
    obtain ⟨c, k, m, y⟩ := n.gd.rd b q
    exact ⟨c, k, m, by rw [upd_ne ne]; exact y⟩, n.gd.dis⟩
  ev := fun b u e z => by
    obtain ⟨e1, e2⟩ := cut_some e
    rw [upd_ne (fun (q : b = a) => e1 (q ▸ m))]
    exact n.ev b u e2 z
  ex := fun b u e => by
    obtain ⟨e1, e2⟩ := cut_some e
    rw [upd_ne (fun (q : b = a) => e1 (q ▸ m))]
    exact n.ex b u e2
  fg := fun b u e => by
    rcases n.fg b u e with z | z | z
    · exact .inl z
    · refine .inr (.inl ?_)
      unfold Dl.cut
      split
      · rfl
      · exact z
    · exact .inr (.inr z)
  fr := fun b z => by
    rcases n.fr b z with y | y
    · exact .inl y
    · refine .inr ?_
      unfold Dl.cut
      split
      · rfl
      · exact y
theorem Nx.cutOf {as : List Addr} (n : Nx G R H G' R' H') : Nx G R (Dl.cut H as) G' R' H' where
  gg := n.gg
  rr := n.rr
  gd := n.gd
  ev := fun b u e z => n.ev b u (cut_some e).2 z
  ex := fun b u e => n.ex b u (cut_some e).2
  fg := fun b u e => by
    rcases n.fg b u e with z | z | z
    · exact .inl z
    · refine .inr (.inl ?_)
      unfold Dl.cut
      split
      · rfl
      · exact z
    · exact .inr (.inr z)
  fr := fun b z => by
    rcases n.fr b z with y | y
    · exact .inl y
    · refine .inr ?_
      unfold Dl.cut
      split
      · rfl
      · exact y
end
section
variable {Γ : Kx} {H0 G G' : Hp} {R R' : Addr → Prop} {H H' : Hp} {σ : St} {ρ : En} {i : Nat} {v : V} {as as' : List Addr} {d d' : D}
theorem Wd.frs (w : Wd Γ H0 G R H σ ρ) (e : ρ[i]? = some (.ow v as d)) : Frs H0 G R H as := by
  obtain ⟨u, _, _, h, _⟩ := w.sl i _ e
  exact Ow.fresh d v as h
theorem Wd.take (w : Wd Γ H0 G R H σ ρ) (e : ρ[i]? = some (.ow v as d)) : Wd Γ H0 G R (Dl.cut H as) σ (ρ.set i .un) := by
  have f := w.frs e
  obtain ⟨v0, eσ, y1, y2, y3⟩ := w.sl i _ e
  have hi : i < ρ.length := (List.getElem?_eq_some_iff.mp e).1
  refine ⟨w.gd.cut fun a m => ⟨(f a m).2.1, (f a m).2.2.1⟩, by rw [List.length_set]; exact w.len, fun j t q => ?_, fun j m s1 s2 v1 v2 a hjm e1 e2 e3 e4 o1 o2 => ?_⟩
  · by_cases hj : i = j
    · subst hj
      rw [List.getElem?_set_self hi] at q
      cases q
      exact ⟨_, eσ, True.intro⟩
    · rw [List.getElem?_set_ne hj] at q
      obtain ⟨u, e2, y⟩ := w.sl j t q
      refine ⟨u, e2, ?_⟩
      have far : ∀ a, a ∈ t.fpt u → a ∉ as := fun a m z => w.dj i j _ t _ u a hj e q eσ e2 z m
      cases t with
      | un => exact True.intro
      | fz d => exact y
      | op es =>
        obtain ⟨a, us, rfl, y1, y2, y3, y4, y5⟩ := y
        exact ⟨a, us, rfl, by rw [cut_out (far a (List.mem_singleton.mpr rfl))]; exact y1, y2, y3, y4, y5⟩
      | io a c fs =>
        obtain ⟨dx, us, rfl, y1, y2, y3, y4, y5⟩ := y
        exact ⟨dx, us, rfl, by rw [cut_out (far a (List.mem_singleton.mpr rfl))]; exact y1, y2, y3, y4, y5⟩
      | ex a d c fs =>
        obtain ⟨y1, y2⟩ := y
        refine ⟨y1, y2.imp id fun ⟨dd, vs, z1, z2, z3⟩ => ⟨dd, vs, z1, ?_, z3⟩⟩
        rw [cut_out (fun m => by
          obtain ⟨_, _, _, o, ho, op⟩ := f dd m
          rw [z2] at ho; cases ho; exact op.elim)]
        exact z2
      | ow x bs d =>
        obtain ⟨y1, y2, y3⟩ := y
        refine ⟨y1, Ow.mono d x bs ⟨fun a o m h _ g r => ⟨by rw [cut_out (far a m)]; exact h, g, r⟩, fun a o h s => ?_, fun _ h => h, fun _ _ h => h⟩ y2, y3⟩
        rw [cut_out (fun m => by
          obtain ⟨_, _, _, o, ho, op⟩ := f a m
          rw [h] at ho; cases ho; exact op.stiff s)]
        exact h
      | se d =>
        obtain ⟨x, y1, y2⟩ := y
        refine ⟨x, y1, Rp.mono (fun b u e => ?_) (fun _ h => h) d x y2⟩
        obtain ⟨e1, e2⟩ := viewO_iff.mp e
        refine viewO_iff.mpr ⟨?_, e2⟩
        rw [cut_out (fun m => by
          obtain ⟨h0, g0, r0, o, ho, op⟩ := f b m
          rw [e1] at ho
          cases ho
          rcases e2 with z | z | z
          · rw [g0] at z; cases z
          · exact op.stiff z
          · exact z.2.1 h0)]
        exact e1
  · by_cases hj : i = j
    · subst hj
      rw [List.getElem?_set_self hi] at e1
      cases e1
      exact absurd o1 List.not_mem_nil
    · rw [List.getElem?_set_ne hj] at e1
      by_cases hm : i = m
      · subst hm
        rw [List.getElem?_set_self hi] at e2
        cases e2
        exact absurd o2 List.not_mem_nil
      · rw [List.getElem?_set_ne hm] at e2
        exact w.dj j m s1 s2 v1 v2 a hjm e1 e2 e3 e4 o1 o2
theorem Wd.putO (w : Wd Γ H0 G R H σ ρ) (e : ρ[i]? = some (.ow v as d)) (n : Nx G R (Dl.cut H as) G' R' H') (h : Ow Γ H0 G' R' H' d' v as') (nd : as'.Nodup) (hs : ∀ a ∈ as', Dl.cut H as a = none) : Wd Γ H0 G' R' H' σ (ρ.set i (.ow v as' d')) := by
  have w0 := w.take e
  have w1 := w0.nx n
  obtain ⟨v0, eσ, rfl, _⟩ := w.sl i _ e
  have := w1.set i (v := some v) (s := .ow v as' d') ⟨rfl, h, nd⟩ fun a m j t u hj e1 e2 m2 => by
    obtain ⟨⟨o, ho, _⟩, _⟩ := w0.ownThere e1 e2 m2
    rw [hs a m] at ho
    cases ho
  rw [List.set_set] at this
  have eσ2 : σ.set i (some v) = σ := by
    obtain ⟨hl, q⟩ := List.getElem?_eq_some_iff.mp eσ
    conv => lhs; rw [← q]
    exact List.set_getElem_self hl
  rw [eσ2] at this
  exact this
theorem Nx.putO {G0 : Hp} {R0 : Addr → Prop} (n0 : Nx G0 R0 H0 G R H) (w : Wd Γ H0 G R H σ ρ) (e : ρ[i]? = some (.ow v as d)) (n : Nx G R (Dl.cut H as) G' R' H') : Nx G0 R0 H0 G' R' H' := (n0.cut (w.frs e)).trans n
end
section
variable {Γ : Kx} {H0 G G' : Hp} {R R' : Addr → Prop} {H H' : Hp}
structure Comp (Γ : Kx) (H0 G : Hp) (R : Addr → Prop) (H : Hp) (v : V) (as : List Addr) (f : D → D) (d1 : D) (v1 : V) (as1 : List Addr) : Prop where
  ow : Ow Γ H0 G R H d1 v1 as1
  nd : as1.Nodup
  sub : ∀ a ∈ as1, a ∈ as
  re : ∀ (G' : Hp) (R' : Addr → Prop) (H' : Hp) (d2 : D) (as2 : List Addr), Stays G R H G' R' H' (wo as as1) → Ow Γ H0 G' R' H' d2 v1 as2 → as2.Nodup → (∀ a ∈ as2, a ∈ as → a ∈ as1) →
    ∃ as3, Ow Γ H0 G' R' H' (f d2) v as3 ∧ as3.Nodup ∧ ∀ a, a ∈ as3 ↔ a ∈ as2 ∨ (a ∈ as ∧ a ∉ as1)
theorem Comp.refl {d : D} {v : V} {as : List Addr} (h : Ow Γ H0 G R H d v as) (nd : as.Nodup) : Comp Γ H0 G R H v as (fun x => x) d v as :=
  ⟨h, nd, fun _ m => m, fun G' R' H' d2 as2 _ h n _ => ⟨as2, h, n, fun a => ⟨.inl, fun m => m.elim id fun z => absurd z.1 z.2⟩⟩⟩
theorem Comp.trans {v v1 v2 : V} {as as1 as2 : List Addr} {f g : D → D} {d1 d2 : D} (c : Comp Γ H0 G R H v as f d1 v1 as1) (e : Comp Γ H0 G R H v1 as1 g d2 v2 as2) : Comp Γ H0 G R H v as (fun x => f (g x)) d2 v2 as2 := by
  refine ⟨e.ow, e.nd, fun a m => c.sub a (e.sub a m), fun G' R' H' d3 as3 s h nd hs => ?_⟩
  obtain ⟨as4, h4, n4, m4⟩ := e.re G' R' H' d3 as3 (s.sub fun a m => by
    rw [mem_wo] at *
    exact ⟨c.sub a m.1, m.2⟩) h nd fun a m ma => hs a m (c.sub a ma)
  obtain ⟨as5, h5, n5, m5⟩ := c.re G' R' H' (g d3) as4 (s.sub fun a m => by
    rw [mem_wo] at *
    exact ⟨m.1, fun z => m.2 (e.sub a z)⟩) h4 n4 fun a m ma => by
      rcases (m4 a).mp m with z | z
      · exact e.sub a (hs a z ma)
      · exact z.1
  refine ⟨as5, h5, n5, fun a => ⟨fun m => ?_, fun m => ?_⟩⟩
  · rcases (m5 a).mp m with z | z
    · rcases (m4 a).mp z with y | y
      · exact .inl y
      · exact .inr ⟨c.sub a y.1, y.2⟩
    · exact .inr ⟨z.1, fun y => z.2 (e.sub a y)⟩
  · refine (m5 a).mpr ?_
    rcases m with z | z
    · exact .inl ((m4 a).mpr (.inl z))
    · by_cases q : a ∈ as1
      · exact .inl ((m4 a).mpr (.inr ⟨q, z.2⟩))
      · exact .inr ⟨z.1, q⟩
theorem Comp.nx {v v1 : V} {as as1 : List Addr} {f : D → D} {d1 : D} (c : Comp Γ H0 G R H v as f d1 v1 as1) (g : Gd G R H) (n : Nx G R H G' R' H') : Comp Γ H0 G' R' H' v as f d1 v1 as1 :=
  ⟨Ow.mono d1 v1 as1 (n.stays g _) c.ow, c.nd, c.sub, fun G'' R'' H'' d2 as2 s h nd hs => c.re G'' R'' H'' d2 as2 ((n.stays g _).trans s) h nd hs⟩
theorem OwL.at : ∀ {ds : List D} {vs : List V} {bs : List Addr} {j : Nat} {d1 : D}, OwL Γ H0 G R H ds vs bs → bs.Nodup → ds[j]? = some d1 →
    ∃ v1 as1, vs[j]? = some v1 ∧ Ow Γ H0 G R H d1 v1 as1 ∧ as1.Nodup ∧ (∀ a ∈ as1, a ∈ bs) ∧ ∀ (G' : Hp) (R' : Addr → Prop) (H' : Hp) (d2 : D) (v2 : V) (as2 : List Addr), Stays G R H G' R' H' (wo bs as1) → Ow Γ H0 G' R' H' d2 v2 as2 → as2.Nodup → (∀ a ∈ as2, a ∈ bs → a ∈ as1) →
      ∃ bs3, OwL Γ H0 G' R' H' (ds.set j d2) (vs.set j v2) bs3 ∧ bs3.Nodup ∧ ∀ a, a ∈ bs3 ↔ a ∈ as2 ∨ (a ∈ bs ∧ a ∉ as1)
  | [], _, _, _, _, _, _, e => by simp at e
  | d :: ds, vs, bs, 0, d1, h, nd, e => by
    simp at e
    subst e
    unfold OwL at h
    obtain ⟨v, r, b1, c1, rfl, rfl, h1, h2⟩ := h
    obtain ⟨n1, n2, n3⟩ := List.nodup_append.mp nd
    refine ⟨v, b1, by simp, h1, n1, fun a m => List.mem_append_left _ m, fun G' R' H' d2 v2 as2 s h nd2 hs => ?_⟩
    have l2 := OwL.mono ds r c1 (s.sub fun a m => mem_wo.mpr ⟨List.mem_append_right _ m, fun z => n3 a z a m rfl⟩) h2
    rw [List.set_cons_zero, List.set_cons_zero]
    refine ⟨as2 ++ c1, OwL.cons h l2, List.nodup_append.mpr ⟨nd2, n2, fun a ha b hb e => ?_⟩, fun a => ?_⟩
    · subst e
      exact n3 a (hs a ha (List.mem_append_right _ hb)) a hb rfl
    · refine ⟨fun m => ?_, fun m => ?_⟩
      · rcases List.mem_append.mp m with m | m
        · exact .inl m
        · exact .inr ⟨List.mem_append_right _ m, fun z => n3 a z a m rfl⟩
      · rcases m with m | m
        · exact List.mem_append_left _ m
        · exact List.mem_append_right _ ((List.mem_append.mp m.1).resolve_left m.2)
  | d :: ds, vs, bs, j + 1, d1, h, nd, e => by
    simp at e
    unfold OwL at h
    obtain ⟨v, r, b1, c1, rfl, rfl, h1, h2⟩ := h
    obtain ⟨n1, n2, n3⟩ := List.nodup_append.mp nd
    obtain ⟨v1, as1, e1, o1, nd1, sub1, re1⟩ := h2.at n2 e
    refine ⟨v1, as1, by simpa using e1, o1, nd1, fun a m => List.mem_append_right _ (sub1 a m), fun G' R' H' d2 v2 as2 s h nd2 hs => ?_⟩
    have h1' := Ow.mono d v b1 (s.sub fun a m => mem_wo.mpr ⟨List.mem_append_left _ m, fun z => n3 a m a (sub1 a z) rfl⟩) h1
    obtain ⟨c3, l3, nc3, m3⟩ := re1 G' R' H' d2 v2 as2 (s.sub fun a m => by
      rw [mem_wo] at *
      exact ⟨List.mem_append_right _ m.1, m.2⟩) h nd2 fun a m ma => hs a m (List.mem_append_right _ ma)
    rw [List.set_cons_succ, List.set_cons_succ]
    refine ⟨b1 ++ c3, OwL.cons h1' l3, List.nodup_append.mpr ⟨n1, nc3, fun a ha b hb e => ?_⟩, fun a => ?_⟩
    · subst e
      rcases (m3 a).mp hb with z | z
      · exact n3 a ha a (sub1 a (hs a z (List.mem_append_left _ ha))) rfl
      · exact n3 a ha a z.1 rfl
    · refine ⟨fun m => ?_, fun m => ?_⟩
      · rcases List.mem_append.mp m with m | m
        · exact .inr ⟨List.mem_append_left _ m, fun z => n3 a m a (sub1 a z) rfl⟩
        · rcases (m3 a).mp m with z | z
          · exact .inl z
          · exact .inr ⟨List.mem_append_right _ z.1, z.2⟩
      · rcases m with m | m
        · exact List.mem_append_right _ ((m3 a).mpr (.inl m))
        · rcases List.mem_append.mp m.1 with z | z
          · exact List.mem_append_left _ z
          · exact List.mem_append_right _ ((m3 a).mpr (.inr ⟨z, m.2⟩))
theorem Comp.lst {v v1 : V} {as as1 : List Addr} {f : D → D} {ds : List D} (c : Comp Γ H0 G R H v as f (.lst ds) v1 as1) : ∃ a vs bs, v1 = .ref a ∧ as1 = a :: bs ∧ a ∈ as ∧ a ∉ bs ∧ bs.Nodup ∧ (∀ x ∈ bs, x ∈ as) ∧ H a = some (.lst vs) ∧ G a = none ∧ ¬ R a ∧ OwL Γ H0 G R H ds vs bs ∧
    ∀ (ds' : List D) (vs' : List V) (bs' : List Addr), OwL Γ H0 G R H ds' vs' bs' → bs'.Nodup → a ∉ bs' → (∀ b ∈ bs', b ∈ as → b ∈ bs) → ∃ as3, Ow Γ H0 G R (upd H a (.lst vs')) (f (.lst ds')) v as3 ∧ as3.Nodup ∧ ∀ x ∈ as3, x ∈ bs' ∨ x ∈ as := by
  have h := c.ow
  unfold Ow at h
  obtain ⟨a, vs, bs, rfl, rfl, h0, g, r, hl, l⟩ := h
  obtain ⟨na, nb⟩ := List.nodup_cons.mp c.nd
  refine ⟨a, vs, bs, rfl, rfl, c.sub a (List.mem_cons_self ..), na, nb, fun x m => c.sub x (List.mem_cons_of_mem _ m), hl, g, r, l, fun ds' vs' bs' l' nd' na' hs => ?_⟩
  have st : ¬ Stiff (HO.lst vs) := fun t => t
  obtain ⟨as3, h3, n3, m3⟩ := c.re G R (upd H a (.lst vs')) (.lst ds') (a :: bs') (Stays.upd (fun m => (mem_wo.mp m).2 (List.mem_cons_self ..)) hl st) (by
    unfold Ow
    exact ⟨a, vs', bs', rfl, rfl, h0, g, r, upd_same, OwL.mono ds' vs' bs' (Stays.upd na' hl st) l'⟩) (List.nodup_cons.mpr ⟨na', nd'⟩) fun x m mx => by
      rcases List.mem_cons.mp m with rfl | m
      · exact List.mem_cons_self ..
      · exact List.mem_cons_of_mem _ (hs x m mx)
  refine ⟨as3, h3, n3, fun x m => ?_⟩
  rcases (m3 x).mp m with z | z
  · rcases List.mem_cons.mp z with rfl | z
    · exact .inr (c.sub x (List.mem_cons_self ..))
    · exact .inl z
  · exact .inr z.1
end
end Dl
namespace Dl
open PySem PySem.Spec PyProof.Rows L2
section
variable {Γ : Kx} {H0 G G2 G' : Hp} {R R' : Addr → Prop} {H H' : Hp} {σ : St} {ρ : En} {W : WX}
mutual
theorem Ow.view (g : Same G H) : ∀ (d : D) (v : V) (as : List Addr), Ow Γ H0 G R H d v as → Rp Γ (viewO H G R H) R d v
  | .lst ds, v, as, h => by
    unfold Ow at h
    obtain ⟨a, vs, bs, e, _, _, _, r, hl, l⟩ := h
    unfold Rp
    exact ⟨a, vs, e, viewO_iff.mpr ⟨hl, .inr (.inr ⟨r, by rw [hl]; exact (fun z => nomatch z), trivial⟩)⟩, OwL.view g ds vs bs l⟩
  | .dic ds, v, as, h => by
    unfold Ow at h
    obtain ⟨a, vs, bs, e, _, _, _, r, hl, l⟩ := h
    unfold Rp
    exact ⟨a, vs, e, viewO_iff.mpr ⟨hl, .inr (.inr ⟨r, by rw [hl]; exact (fun z => nomatch z), trivial⟩)⟩, OwK.view g ds vs bs l⟩
  | .tup ds, v, as, h => by
    unfold Ow at h
    obtain ⟨a, vs, e, q, l⟩ := h
    unfold Rp
    exact ⟨a, vs, e, seqT_stiff (fun a o e s => viewO_iff.mpr ⟨e, .inr (.inl s)⟩) q, OwL.view g ds vs as l⟩
  | .non, v, as, h => by unfold Ow at h; exact Rp.mono (viewO_same g) (fun _ h => h) _ _ h.2
  | .bl _, v, as, h => by unfold Ow at h; exact Rp.mono (viewO_same g) (fun _ h => h) _ _ h.2
  | .int _, v, as, h => by unfold Ow at h; exact Rp.mono (viewO_same g) (fun _ h => h) _ _ h.2
  | .str _, v, as, h => by unfold Ow at h; exact Rp.mono (viewO_same g) (fun _ h => h) _ _ h.2
  | .scr _, v, as, h => by unfold Ow at h; exact Rp.mono (viewO_same g) (fun _ h => h) _ _ h.2
  | .rd, v, as, h => by unfold Ow at h; exact Rp.mono (viewO_same g) (fun _ h => h) _ _ h.2
  | .ins _ _, v, as, h => by unfold Ow at h; exact Rp.mono (viewO_same g) (fun _ h => h) _ _ h.2
  | .nms _, v, as, h => by unfold Ow at h; exact Rp.mono (viewO_same g) (fun _ h => h) _ _ h.2
  | .any, v, as, h => by unfold Ow at h; exact Rp.mono (viewO_same g) (fun _ h => h) _ _ h.2
  | .fr _, v, as, h => by unfold Ow at h; exact Rp.mono (viewO_same g) (fun _ h => h) _ _ h.2
  | .raw _, v, as, h => by unfold Ow at h; exact Rp.mono (viewO_same g) (fun _ h => h) _ _ h.2
theorem OwL.view (g : Same G H) : ∀ (ds : List D) (vs : List V) (as : List Addr), OwL Γ H0 G R H ds vs as → RpL Γ (viewO H G R H) R ds vs
  | [], vs, as, h => by unfold OwL at h; unfold RpL; exact h.1
  | d :: ds, vs, as, h => by
    unfold OwL at h
    obtain ⟨v, r, bs, cs, e, _, h1, h2⟩ := h
    unfold RpL
    exact ⟨v, r, e, Ow.view g d v bs h1, OwL.view g ds r cs h2⟩
theorem OwK.view (g : Same G H) : ∀ (ds : List (Key × D)) (vs : List (Key × V)) (as : List Addr), OwK Γ H0 G R H ds vs as → RpK Γ (viewO H G R H) R ds vs
  | [], vs, as, h => by unfold OwK at h; unfold RpK; exact h.1
  | (x, d) :: ds, vs, as, h => by
    unfold OwK at h
    obtain ⟨v, r, bs, cs, e, _, h1, h2⟩ := h
    unfold RpK
    exact ⟨v, r, e, Ow.view g d v bs h1, OwK.view g ds r cs h2⟩
end
def S.seen : S → S
  | .op ds => .fz (.lst ds)
  | .ow _ _ d => .fz d
  | .se d => .fz d
  | s => s
theorem view_gd (g : Gd G R H) : Gd (viewO H0 G R H) R H := ⟨fun b o e => (viewO_iff.mp e).1, g.rd, fun a r => by
  cases q : viewO H0 G R H a with
  | none => rfl
  | some o =>
    obtain ⟨e, z⟩ := viewO_iff.mp q
    rcases z with z | z | z
    · rw [g.dis a r] at z; cases z
    · obtain ⟨_, _, _, y⟩ := g.rd a r
      rw [e] at y
      cases y
      exact z.elim
    · exact absurd r z.1⟩
theorem Wd.view (w : Wd Γ H0 G R H σ ρ) : Wd Γ H0 (viewO H G R H) R H σ (ρ.map S.seen) := by
  have sm : Same G (viewO H G R H) := viewO_same w.gd.sub
  refine ⟨view_gd w.gd, by rw [List.length_map]; exact w.len, fun i s e => ?_, fun i j s t v1 v2 a hij e1 e2 e3 e4 o1 o2 => ?_⟩
  · rw [List.getElem?_map] at e
    cases q : ρ[i]? with
    | none => rw [q] at e; cases e
    | some s0 =>
      rw [q] at e
      cases e
      obtain ⟨v, eσ, y⟩ := w.sl i s0 q
      refine ⟨v, eσ, ?_⟩
      cases s0 with
      | un => exact True.intro
      | fz d => obtain ⟨x, y1, y2⟩ := y; exact ⟨x, y1, Rp.mono sm (fun _ h => h) d x y2⟩
      | op ds =>
        obtain ⟨l, vs, y1, y2, y3, y4, y5, y6⟩ := y
        refine ⟨.ref l, y1, ?_⟩
        unfold Rp
        exact ⟨l, vs, rfl, viewO_iff.mpr ⟨y2, .inr (.inr ⟨y4, by rw [y2]; exact (fun z => nomatch z), trivial⟩)⟩, RpL.mono sm (fun _ h => h) ds vs y6⟩
      | io a c fs =>
        obtain ⟨dx, vs, y1, y2, y3, y4, y5, y6⟩ := y
        refine ⟨dx, vs, y1, y2, ?_, y4, y5, RpF.mono sm (fun _ h => h) fs vs y6⟩
        cases q : viewO H G R H a with
        | none => rfl
        | some o =>
          obtain ⟨e, z⟩ := viewO_iff.mp q
          rw [y2] at e
          cases e
          rcases z with z | z | z
          · rw [y3] at z; cases z
          · exact z.elim
          · exact z.2.2.elim
      | ex a d c fs =>
        obtain ⟨y1, y2⟩ := y
        exact ⟨y1, y2.imp id fun ⟨dd, vs, z1, z2, z3, z4⟩ => ⟨dd, vs, z1, z2, z3, RpF.mono sm (fun _ h => h) fs vs z4⟩⟩
      | ow x as d => exact ⟨x, y.1, Ow.view w.gd.sub d x as y.2.1⟩
      | se d =>
        obtain ⟨x, y1, y2⟩ := y
        refine ⟨x, y1, Rp.mono (fun b o e => ?_) (fun _ h => h) d x y2⟩
        obtain ⟨e1, e2⟩ := viewO_iff.mp e
        exact viewO_iff.mpr ⟨e1, e2.imp id fun z => z.imp id fun z => ⟨z.1, by rw [e1]; exact (fun z => nomatch z), z.2.2⟩⟩
  · rw [List.getElem?_map] at e1 e2
    cases q1 : ρ[i]? with
    | none => rw [q1] at e1; cases e1
    | some s0 =>
      cases q2 : ρ[j]? with
      | none => rw [q2] at e2; cases e2
      | some t0 =>
        rw [q1] at e1
        rw [q2] at e2
        cases e1
        cases e2
        have sub : ∀ (s : S) (v : Option V) a, a ∈ s.seen.fpt v → a ∈ s.fpt v := fun s v a m => by
          cases s <;> first | exact m | exact absurd m List.not_mem_nil
        exact w.dj i j s0 t0 v1 v2 a hij q1 q2 e3 e4 (sub _ _ _ o1) (sub _ _ _ o2)
theorem Nx.back (s : Same G G2) (n : Nx G2 R H G' R' H') : Nx G R H (Dl.satur G H') R' H' where
  gg := satur_same
  rr := n.rr
  gd := by
    have s1 : Same G H' := fun b o e => n.gd.sub b o (n.gg b o (s b o e))
    have g1 : Gd G R' H' := ⟨s1, n.gd.rd, fun a r => by
      cases q : G a with
      | none => rfl
      | some o =>
        have := n.gg a o (s a o q)
        rw [n.gd.dis a r] at this
        cases this⟩
    exact g1.satur
  ev := n.ev
  ex := n.ex
  fg := fun b u q => by
    rcases satur_cases q with z | ⟨_, z⟩
    · exact .inl z
    · exact .inr (.inr (stiff_of z))
  fr := n.fr
def dSee (fe : DE) : DE := fun xq ρ Q => fe (fun c fs => immF fs = true ∧ xq c fs) (ρ.map S.seen) fun d => immB d = true ∧ Q d
def dSeeT (ft : DT) : DT := fun xq ρ Q => ft (fun c fs => immF fs = true ∧ xq c fs) (ρ.map S.seen) Q
theorem Lk.view {xq : XQ} (g : Gd G R H) (x : Lk Γ W xq σ G R H) : Lk Γ W (fun c fs => immF fs = true ∧ xq c fs) σ (viewO H G R H) R H := fun c fs G' R' H' cls dx n z e => by
  refine x c fs _ R' H' cls dx (n.back (viewO_same g.sub)) z.2 ⟨e.1, e.2.imp id fun ⟨e1, a, vs, e2, e3, e4⟩ => ⟨e1, a, vs, e2, e3, ?_⟩⟩
  have s1 : Same G H' := fun b o y => n.gd.sub b o (n.gg b o (viewO_same g.sub b o y))
  exact RpF.imm (satur_tups s1) (fun _ h => h) fs vs z.1 (RpF.mono n.gd.sub (fun _ h => h) fs vs e4)
theorem je_see {te : TE} {fe : DE} (a : JE Γ W te fe) : JE Γ W te (dSee fe) := fun H0 G R H σ ρ xq Qd Q w x f k =>
  a H0 (viewO H G R H) R H σ (ρ.map S.seen) _ _ Q w.view (x.view w.gd) f fun v G' R' H' d n r q => by
    have s1 : Same G H' := fun b o y => n.gd.sub b o (n.gg b o (viewO_same w.gd.sub b o y))
    refine k v _ R' H' d (n.back (viewO_same w.gd.sub)) ?_ q.2
    exact Rp.imm (satur_tups s1) (fun _ h => h) d v q.1 (Rp.mono n.gd.sub (fun _ h => h) d v r)
theorem jt_see {tt : TT} {ft : DT} (a : JT Γ W tt ft) : JT Γ W tt (dSeeT ft) := fun H0 G R H σ ρ xq Qd Q w x f k =>
  a H0 (viewO H G R H) R H σ (ρ.map S.seen) _ _ Q w.view (x.view w.gd) f fun b G' R' H' n q => k b _ R' H' (n.back (viewO_same w.gd.sub)) q
end
section
variable {Γ : Kx} {W : WX}
def JF (Γ : Kx) (W : WX) (te : TE) (fo : DE) : Prop := ∀ (H0 G : Hp) (R : Addr → Prop) (H : Hp) (σ : St) (ρ : En) (xq : XQ) (Qd : D → Prop) (Q : VK), Wd Γ H0 G R H σ ρ → Lk Γ W xq σ G R H → fo xq ρ Qd →
  (∀ v as G' R' H' d, Nx G R H G' R' H' → Ow Γ H G' R' H' d v as → as.Nodup → Qd d → Q v H') → te σ H Q
def JFA (Γ : Kx) (W : WX) (ta : TA) (fa : DA) (n : Nat) : Prop := ∀ (H0 G : Hp) (R : Addr → Prop) (H : Hp) (σ : St) (ρ : En) (xq : XQ) (Qd : List D → Prop) (Q : List V → Hp → Prop), Wd Γ H0 G R H σ ρ → Lk Γ W xq σ G R H → fa xq ρ Qd →
  (∀ vs as G' R' H' ds, Nx G R H G' R' H' → OwL Γ H G' R' H' ds vs as → as.Nodup → vs.length = n → Qd ds → Q vs H') → ta σ H Q
def dLeaf (fe : DE) : DE := fun xq ρ Q => fe xq ρ fun d => leafB d = true ∧ Q d
theorem jf_je {te : TE} {fe : DE} (h : JE Γ W te fe) : JF Γ W te (dLeaf fe) := fun H0 G R H σ ρ xq Qd Q w x f k =>
  h H0 G R H σ ρ xq _ Q w x f fun v G' R' H' d n r q => k v [] G' R' H' d n (Ow.leaf n.gd.sub d v q.1 r) (by simp) q.2
def dOwn (fa : DA) : DE := fun xq ρ Q => fa xq ρ fun ds => leafB.go ds = true ∧ Q (.lst ds)
theorem jf_jn {te : TE} {fa : DA} (h : JN Γ W te fa) : JF Γ W te (dOwn fa) := fun H0 G R H σ ρ xq Qd Q w x f k =>
  h H0 G R H σ ρ xq _ Q w x f fun l vs G' R' H' ds n e g r h0 rl q => by
    refine k (.ref l) [l] G' R' H' (.lst ds) n ?_ (by simp) q.2
    unfold Ow
    exact ⟨l, vs, [], rfl, rfl, h0, g, r, e, OwL.leaf n.gd.sub ds vs q.1 rl⟩
theorem older_of {G G' : Hp} {R R' : Addr → Prop} {H H' : Hp} (n : Nx G R H G' R' H') : ∀ a, H' a = none → H a = none := fun a ha => by
  cases y : H a with
  | none => rfl
  | some o =>
    obtain ⟨o', e'⟩ := n.ex a o y
    rw [ha] at e'; cases e'
theorem jfa_nil : JFA Γ W tNil dNil 0 := fun H0 G R H σ ρ xq Qd Q w x f k => k [] [] G R H [] (Nx.refl w.gd) OwL.nil (by simp) rfl f
theorem jfa_cons {te : TE} {ta : TA} {fo : DE} {fa : DA} {n : Nat} (a : JF Γ W te fo) (b : JFA Γ W ta fa n) : JFA Γ W (tCons te ta) (dCons fo fa) (n + 1) := fun H0 G R H σ ρ xq Qd Q w x f k =>
  a H0 G R H σ ρ xq _ _ w x f fun v1 as1 G1 R1 H1 d1 n1 o1 nd1 q1 => b H0 G1 R1 H1 σ ρ xq _ _ (w.nx n1) (x.nx n1) q1 fun vs as2 G2 R2 H2 ds n2 o2 nd2 l q2 => by
    have o1' := Ow.mono d1 v1 as1 (n2.stays n1.gd _) o1
    have f1 := Ow.fresh d1 v1 as1 o1
    have f2 := OwL.fresh ds vs as2 o2
    refine k (v1 :: vs) (as1 ++ as2) G2 R2 H2 (d1 :: ds) (n1.trans n2) (OwL.cons o1' (OwL.older (older_of n1) ds vs as2 o2)) (List.nodup_append.mpr ⟨nd1, nd2, fun a ha b hb e => ?_⟩) (by rw [List.length_cons, l]) q2
    subst e
    obtain ⟨_, _, _, o, ho, _⟩ := f1 a ha
    rw [(f2 a hb).1] at ho
    cases ho
theorem Stays.new {G : Hp} {R : Addr → Prop} {H : Hp} {as : List Addr} {p : Addr} {o : HO} (h : H p = none) : Stays G R H G R (L2.upd H p o) as := ⟨fun a u _ e _ g r => ⟨by rw [upd_ne (ne_of_none e h)]; exact e, g, r⟩, fun a u e _ => by rw [upd_ne (ne_of_none e h)]; exact e, fun _ h => h, fun _ _ h => h⟩
def dPick (fa : DA) (fe : DE) : DE := fun xq ρ Q => fa xq ρ fun ds => fe xq ρ fun x => match x with
  | .int z => match ixN ds.length z with
    | some j => ∃ d, ds[j]? = some d ∧ Q d
    | none => False
  | _ => False
theorem atI_ix {α : Type} {l : List α} {z : Int} {j : Nat} (h : ixN l.length z = some j) : atI l z = l[j]? := by
  unfold atI
  rw [h]
  rfl
theorem jf_pick {ta : TA} {ti : TE} {fa : DA} {fe : DE} {n : Nat} (a : JFA Γ W ta fa n) (hn : n ≤ sizeLine) (b : JE Γ W ti fe) : JF Γ W (tOp (rIx Γ.K) (tLst ta) ti) (dPick fa fe) := fun H0 G R H σ ρ xq Qd Q w x f k =>
  a H0 G R H σ ρ xq _ _ w x f fun vs as G1 R1 H1 ds n1 o1 nd l q => ⟨by rw [l]; exact hn, fun p hp => by
    have n2 : Nx G R H G1 R1 _ := n1.trans (Nx.new n1.gd (.lst vs) hp)
    refine b H0 G1 R1 _ σ ρ xq _ _ (w.nx n2) (x.nx n2) q fun v2 G3 R3 H3 d3 n3 r3 q3 => ?_
    cases d3 <;> first | exact q3.elim | skip
    rename_i z
    have q3' : match ixN ds.length z with
      | some j => ∃ d, ds[j]? = some d ∧ Qd d
      | none => False := q3
    cases hj : ixN ds.length z with
    | none => rw [hj] at q3'; exact q3'.elim
    | some j =>
      rw [hj] at q3'
      obtain ⟨d, ed, qd⟩ := q3'
      have o2 := OwL.mono ds vs as (Stays.new (o := .lst vs) hp) o1
      obtain ⟨o, _, _⟩ := n3.open_ (l := p) upd_same (n1.gd.fresh hp).1 (n1.gd.fresh hp).2
      have o3 := OwL.mono ds vs as (n3.stays (Nx.new n1.gd (.lst vs) hp).gd as) o2
      obtain ⟨v1, as1, e1, ow1, nd1, _⟩ := o3.at nd ed
      refine .inl ⟨p, vs, z, v1, rfl, (by unfold Rp at r3; exact r3), SqL.of o, ?_, k v1 as1 G3 R3 H3 d (n2.trans n3) ow1 nd1 qd⟩
      rw [atI_ix (by rw [← o1.len]; exact hj)]
      exact e1⟩
end
end Dl
namespace Dl
open PySem PySem.Spec PyProof.Rows L2
abbrev DP := XQ → En → (Nat → (D → D) → D → Prop) → Prop
def dP0 (i : Nat) : DP := fun _ ρ Q => match ρ[i]? with
  | some (.ow _ _ d) => Q i (fun x => x) d
  | _ => False
def ixP (d x : D) (Q : (D → D) → D → Prop) : Prop := match x with
  | .int z => match d with
    | .lst ds => match ixN ds.length z with
      | some j => match ds[j]? with
        | some d1 => Q (fun y => .lst (ds.set j y)) d1
        | none => False
      | none => False
    | .tup ds => match ixN ds.length z with
      | some j => match ds[j]? with
        | some d1 => Q (fun y => .tup (ds.set j y)) d1
        | none => False
      | none => False
    | _ => False
  | _ => False
def dPIx (fp : DP) (fe : DE) : DP := fun xq ρ Q => fp xq ρ fun i f d => fe xq ρ fun x => ixP d x fun g d1 => Q i (fun y => f (g y)) d1
def putS (i : Nat) (d' : D) (K : En → Prop) (ρ : En) : Prop := match ρ[i]? with
  | some (.ow v _ _) => ∀ as, K (ρ.set i (.ow v as d'))
  | _ => False
section
variable {Γ : Kx} {W : WX} {tp te ti : TE} {fp : DP} {fe fi fo : DE}
def JP (Γ : Kx) (W : WX) (tp : TE) (fp : DP) : Prop := ∀ (H0 G : Hp) (R : Addr → Prop) (H : Hp) (σ : St) (ρ : En) (xq : XQ) (Qp : Nat → (D → D) → D → Prop) (Q : VK), Wd Γ H0 G R H σ ρ → Lk Γ W xq σ G R H → fp xq ρ Qp →
  (∀ v1 G' R' H' i f d1 v as d as1, Nx G R H G' R' H' → ρ[i]? = some (.ow v as d) → Comp Γ H0 G' R' H' v as f d1 v1 as1 → Qp i f d1 → Q v1 H') → tp σ H Q
theorem jp_var {i : Nat} : JP Γ W (tVar i) (dP0 i) := fun H0 G R H σ ρ xq Qp Q w x f k => by
  unfold dP0 at f
  split at f
  · rename_i v as d e
    obtain ⟨u, e2, rfl, h, nd⟩ := w.sl i _ e
    exact ⟨v, e2, k v G R H i _ d v as d as (Nx.refl w.gd) e (Comp.refl h nd) f⟩
  · exact f.elim
theorem place_put {H0 G0 G G' : Hp} {R0 R R' : Addr → Prop} {H H' : Hp} {σ : St} {ρ : En} {i : Nat} {v v1 : V} {as as1 : List Addr} {d : D} {f : D → D} {ds : List D} {k : En → Prop} {P : Hp → Prop}
    (n0 : Nx G0 R0 H0 G R H) (w : Wd Γ H0 G R H σ ρ) (e : ρ[i]? = some (.ow v as d)) (n : Nx G R H G' R' H') (c : Comp Γ H0 G' R' H' v as f (.lst ds) v1 as1) (ex : ∀ G2 R2 H2 ρ2, Nx G0 R0 H0 G2 R2 H2 → Wd Γ H0 G2 R2 H2 σ ρ2 → k ρ2 → P H2) :
    ∃ a vs bs, v1 = .ref a ∧ H' a = some (.lst vs) ∧ OwL Γ H0 G' R' H' ds vs bs ∧ bs.Nodup ∧ a ∉ bs ∧ (∀ b ∈ bs, ∃ o, H b = some o) ∧ (∃ o, H a = some o) ∧
      ∀ (ds' : List D) (vs' : List V) (bs' : List Addr), OwL Γ H0 G' R' H' ds' vs' bs' → bs'.Nodup → (∀ b ∈ bs', b ∈ bs ∨ H b = none) → putS i (f (.lst ds')) k ρ → P (upd H' a (.lst vs')) := by
  obtain ⟨a, vs, bs, rfl, rfl, ma, na, nb, sb, hl, g, r, l, re⟩ := c.lst
  have fr := w.frs e
  have there : ∀ b ∈ as, ∃ o, H b = some o := fun b m => by
    obtain ⟨_, _, _, o, h, _⟩ := fr b m
    exact ⟨o, h⟩
  refine ⟨a, vs, bs, rfl, hl, l, nb, na, fun b m => there b (sb b m), there a ma, fun ds' vs' bs' l' nd' hs q => ?_⟩
  obtain ⟨as3, h3, n3, m3⟩ := re ds' vs' bs' l' nd' (fun m => by
    rcases hs a m with z | z
    · exact na z
    · obtain ⟨o, h⟩ := there a ma
      rw [z] at h; cases h) fun b m mb => by
      rcases hs b m with z | z
      · exact z
      · obtain ⟨o, h⟩ := there b mb
        rw [z] at h; cases h
  have nn := n.cutUpd (a := a) (o := .lst vs') ma g r
  unfold putS at q
  rw [e] at q
  refine ex G' R' _ _ (n0.putO w e nn) (w.putO e nn h3 n3 fun x m => ?_) (q as3)
  rcases m3 x m with z | z
  · rcases hs x z with y | y
    · exact cut_in (sb x y)
    · unfold Dl.cut
      split
      · rfl
      · exact y
  · exact cut_in z
def dAppO (fp : DP) (fo : DE) : DS := fun k ρ => fp (k.xq ρ) ρ fun i f d => match d with
  | .lst ds => fo (k.xq ρ) ρ fun x => ds.length < sizeLine ∧ putS i (f (.lst (ds ++ [x]))) k.nx ρ
  | _ => False
theorem js_appO (a : JP Γ W tp fp) (b : JF Γ W te fo) : JS Γ W (tDrop (tBM Γ.K "list" rAppend tp (tCons te tNil))) (dAppO fp fo) := fun G0 R0 H0 G R H σ ρ k D n w e f =>
  a H0 G R H σ ρ _ _ _ w (e.lk n w) f fun v1 G1 R1 H1 i f d1 v as d as1 n1 es c q => by
    cases d1 <;> first | exact q.elim | skip
    rename_i ds
    obtain ⟨l, vs0, _, rfl, _, _, _, _, _, hl0, _⟩ := c.lst
    refine ⟨.inl ⟨rfl, vs0, SqL.of hl0⟩, b H0 G1 R1 H1 σ ρ _ _ _ (w.nx n1) ((e.lk n w).nx n1) q fun v2 bx G2 R2 H2 x n2 ox ndx q2 => ?_⟩
    obtain ⟨a, vs, bs, z, hl, ol, nb, na, there, ta, put⟩ := place_put (k := k.nx) (P := fun H' => D.nx σ H') n w es (n1.trans n2) (c.nx n1.gd n2) fun G' R' H' ρ' => e.nx G' R' H' σ ρ'
    cases z
    have old := older_of n1
    have fx := Ow.fresh x v2 bx ox
    have dis : ∀ b ∈ bs, b ∉ bx := fun b m mx => by
      obtain ⟨o, h⟩ := there b m
      rw [old b (fx b mx).1] at h; cases h
    have fresh0 : ∀ b, H1 b = none → H0 b = none := fun b h => n.free0 (old b h)
    refine ⟨l, vs, v2, rfl, rfl, hl, by rw [← ol.len]; exact q2.1, put (ds ++ [x]) (vs ++ [v2]) (bs ++ bx) (ol.snoc (Ow.older fresh0 x v2 bx ox)) (List.nodup_append.mpr ⟨nb, ndx, fun a ha b hb e => dis a ha (e ▸ hb)⟩) (fun b m => ?_) q2.2⟩
    rcases List.mem_append.mp m with m | m
    · exact .inl m
    · exact .inr (old b (fx b m).1)
def dClrO (fp : DP) : DS := fun k ρ => fp (k.xq ρ) ρ fun i f d => match d with
  | .lst _ => putS i (f (.lst [])) k.nx ρ
  | _ => False
def dRevO (fp : DP) : DS := fun k ρ => fp (k.xq ρ) ρ fun i f d => match d with
  | .lst ds => putS i (f (.lst ds.reverse)) k.nx ρ
  | _ => False
theorem js_revO (a : JP Γ W tp fp) : JS Γ W (tDrop (tBM0 Γ.K "list" rReverse tp)) (dRevO fp) := fun G0 R0 H0 G R H σ ρ k D n w e f =>
  a H0 G R H σ ρ _ _ _ w (e.lk n w) f fun v1 G1 R1 H1 i f d1 v as d as1 n1 es c q => by
    cases d1 <;> first | exact q.elim | skip
    rename_i ds
    obtain ⟨a, vs, bs, rfl, hl, ol, nb, na, there, ta, put⟩ := place_put (k := k.nx) (P := fun H' => D.nx σ H') n w es n1 c fun G' R' H' ρ' => e.nx G' R' H' σ ρ'
    obtain ⟨bs', l', nb', m'⟩ := ol.rev nb
    exact ⟨.inl ⟨rfl, vs, SqL.of hl⟩, a, vs, rfl, rfl, hl, put _ _ bs' l' nb' (fun b m => .inl ((m' b).mp m)) q⟩
def dInsO (fp : DP) (fi fo : DE) : DS := fun k ρ => fp (k.xq ρ) ρ fun i f d => match d with
  | .lst ds => fi (k.xq ρ) ρ fun y => match y with
    | .int z => fo (k.xq ρ) ρ fun x => ds.length < sizeLine ∧ 0 ≤ z ∧ z < 2 ^ 63 ∧ putS i (f (.lst (ds.take z.toNat ++ [x] ++ ds.drop z.toNat))) k.nx ρ
    | _ => False
  | _ => False
def dSetO (fp : DP) (fi fo : DE) : DS := fun k ρ => fo (k.xq ρ) ρ fun x => fp (k.xq ρ) ρ fun i f d => fi (k.xq ρ) ρ fun y => match d with
  | .lst ds => match y with
    | .int z => match ixN ds.length z with
      | some j => j < ds.length ∧ putS i (f (.lst (ds.set j x))) k.nx ρ
      | none => False
    | _ => False
  | _ => False
end
end Dl
namespace Dl
open PySem PySem.Spec PyProof.Rows L2
section
variable {Γ : Kx} {H0 G G' : Hp} {R R' : Addr → Prop} {H H' : Hp} {σ : St} {ρ : En} {i : Nat} {v v1 : V} {as as' as1 : List Addr} {d d' d1 : D} {f : D → D}
mutual
theorem Ow.base {H1 : Hp} : ∀ (d : D) (v : V) (as : List Addr), (∀ a ∈ as, H1 a = none) → Ow Γ H0 G R H d v as → Ow Γ H1 G R H d v as
  | .lst ds, v, as, o, h => by
    unfold Ow at *
    obtain ⟨a, vs, bs, e, rfl, h0, g, r, hl, l⟩ := h
    exact ⟨a, vs, bs, e, rfl, o a (List.mem_cons_self ..), g, r, hl, OwL.base ds vs bs (fun b m => o b (List.mem_cons_of_mem _ m)) l⟩
  | .dic ds, v, as, o, h => by
    unfold Ow at *
    obtain ⟨a, vs, bs, e, rfl, h0, g, r, hl, l⟩ := h
    exact ⟨a, vs, bs, e, rfl, o a (List.mem_cons_self ..), g, r, hl, OwK.base ds vs bs (fun b m => o b (List.mem_cons_of_mem _ m)) l⟩
  | .tup ds, v, as, o, h => by
    unfold Ow at *
    obtain ⟨a, vs, e, q, l⟩ := h
    exact ⟨a, vs, e, q, OwL.base ds vs as o l⟩
  | .non, v, as, _, h => by unfold Ow at *; exact h
  | .bl _, v, as, _, h => by unfold Ow at *; exact h
  | .int _, v, as, _, h => by unfold Ow at *; exact h
  | .str _, v, as, _, h => by unfold Ow at *; exact h
  | .scr _, v, as, _, h => by unfold Ow at *; exact h
  | .rd, v, as, _, h => by unfold Ow at *; exact h
  | .ins _ _, v, as, _, h => by unfold Ow at *; exact h
  | .nms _, v, as, _, h => by unfold Ow at *; exact h
  | .any, v, as, _, h => by unfold Ow at *; exact h
  | .fr _, v, as, _, h => by unfold Ow at *; exact h
  | .raw _, v, as, _, h => by unfold Ow at *; exact h
theorem OwL.base {H1 : Hp} : ∀ (ds : List D) (vs : List V) (as : List Addr), (∀ a ∈ as, H1 a = none) → OwL Γ H0 G R H ds vs as → OwL Γ H1 G R H ds vs as
  | [], vs, as, _, h => by unfold OwL at *; exact h
  | d :: ds, vs, as, o, h => by
    unfold OwL at *
    obtain ⟨v, r, bs, cs, e, rfl, h1, h2⟩ := h
    exact ⟨v, r, bs, cs, e, rfl, Ow.base d v bs (fun a m => o a (List.mem_append_left _ m)) h1, OwL.base ds r cs (fun a m => o a (List.mem_append_right _ m)) h2⟩
theorem OwK.base {H1 : Hp} : ∀ (ds : List (Key × D)) (vs : List (Key × V)) (as : List Addr), (∀ a ∈ as, H1 a = none) → OwK Γ H0 G R H ds vs as → OwK Γ H1 G R H ds vs as
  | [], vs, as, _, h => by unfold OwK at *; exact h
  | (x, d) :: ds, vs, as, o, h => by
    unfold OwK at *
    obtain ⟨v, r, bs, cs, e, rfl, h1, h2⟩ := h
    exact ⟨v, r, bs, cs, e, rfl, Ow.base d v bs (fun a m => o a (List.mem_append_left _ m)) h1, OwK.base ds r cs (fun a m => o a (List.mem_append_right _ m)) h2⟩
end
theorem Ow.nn (h : Ow Γ H0 G R H d v as) (hn : isNon d = false) : v ≠ .non := by
  cases d with
  | non => cases hn
  | bl b => unfold Ow Rp at h; rw [h.2]; exact fun e => nomatch e
  | int b => unfold Ow Rp at h; rw [h.2]; exact fun e => nomatch e
  | str b => unfold Ow Rp at h; rw [h.2]; exact fun e => nomatch e
  | scr b => unfold Ow Rp at h; obtain ⟨_, a, e, _⟩ := h; rw [e]; exact fun e => nomatch e
  | rd => unfold Ow Rp at h; obtain ⟨_, a, e, _⟩ := h; rw [e]; exact fun e => nomatch e
  | ins c fs => unfold Ow Rp at h; obtain ⟨_, a, _, _, e, _⟩ := h; rw [e]; exact fun e => nomatch e
  | nms b => unfold Ow Rp at h; obtain ⟨_, a, _, e, _⟩ := h; rw [e]; exact fun e => nomatch e
  | any => unfold Ow Rp at h; exact h.2
  | fr d => unfold Ow Rp at h; exact h.2.1
  | raw u => unfold Ow Rp at h; rw [h.2]; exact of_decide_eq_false hn
  | lst ds => unfold Ow at h; obtain ⟨a, _, _, e, _⟩ := h; rw [e]; exact fun e => nomatch e
  | dic ds => unfold Ow at h; obtain ⟨a, _, _, e, _⟩ := h; rw [e]; exact fun e => nomatch e
  | tup ds => unfold Ow at h; obtain ⟨a, _, e, _⟩ := h; rw [e]; exact fun e => nomatch e
theorem Nx.cut2 (n : Nx G R H G' R' H') (sub : ∀ a ∈ as1, a ∈ as) (g : ∀ a ∈ as1, G' a = none ∧ ¬ R' a) : Nx G R (Dl.cut H as) G' R' (Dl.cut H' as1) where
  gg := n.gg
  rr := n.rr
  gd := n.gd.cut g
  ev := fun b o e z => by
    obtain ⟨e1, e2⟩ := cut_some e
    rw [cut_out fun m => e1 (sub b m)]
    exact n.ev b o e2 z
  ex := fun b o e => by
    obtain ⟨e1, e2⟩ := cut_some e
    rw [cut_out fun m => e1 (sub b m)]
    exact n.ex b o e2
  fg := n.cutOf.fg
  fr := n.cutOf.fr
theorem Wd.addO (w : Wd Γ H0 G R (Dl.cut H as) σ ρ) (h : Ow Γ H0 G R H d v as) (nd : as.Nodup) (x : Nat) : Wd Γ H0 G R H (σ.set x (some v)) (ρ.set x (.ow v as d)) := by
  have fr := Ow.fresh d v as h
  have g : Gd G R H := w.gd.uncut
  exact (w.nx (Nx.uncut g fun a m => (fr a m).2.1)).set x (v := some v) (s := .ow v as d) ⟨rfl, h, nd⟩ fun a m j t u hj e1 e2 m2 => by
    obtain ⟨⟨o, ho, _⟩, _⟩ := w.ownThere e1 e2 m2
    rw [cut_in (show a ∈ as from m)] at ho
    cases ho
end
section
variable {Γ : Kx} {W : WX} {tp te ti : TE} {fp : DP} {fe fi fo : DE} {ts : TS} {fs : DS}
def dNewO (x : Nat) (fo : DE) : DS := fun k ρ => fo (k.xq ρ) ρ fun d => ∀ v as, k.nx (ρ.set x (.ow v as d))
theorem js_newO {x : Nat} (a : JF Γ W te fo) : JS Γ W (tAsg te (gName x)) (dNewO x fo) := fun G0 R0 H0 G R H σ ρ k D n w e f =>
  a H0 G R H σ ρ _ _ _ w (e.lk n w) f fun v as G' R' H' d m o nd q => by
    have fr : Frs H G' R' H' as := Ow.fresh d v as o
    have o0 : Ow Γ H0 G' R' H' d v as := Ow.older (fun a h => n.free0 h) d v as o
    exact e.nx G' R' H' _ _ (n.trans m) ((w.nx (m.cut fr)).addO o0 nd x) (q v as)
def dMvO (x : Nat) (fp : DP) : DS := fun k ρ => fp (k.xq ρ) ρ fun i f d1 => isNon d1 = false ∧ putS i (f .any) (fun ρ' => ∀ v1 as1, k.nx (ρ'.set x (.ow v1 as1 d1))) ρ
def dAppV (fp : DP) (j : Nat) : DS := fun k ρ => fp (k.xq ρ) ρ fun i f d => match d with
  | .lst ds => match ρ[j]? with
    | some (.ow _ _ x) => i ≠ j ∧ ds.length < sizeLine ∧ putS i (f (.lst (ds ++ [x]))) k.nx (ρ.set j .un)
    | _ => False
  | _ => False
def dRetO (j : Nat) : DS := fun k ρ => match ρ[j]? with
  | some (.ow v as d) => k.ro v as d (ρ.set j .un)
  | _ => False
def dRetF (fo : DE) : DS := fun k ρ => fo (k.xq ρ) ρ fun d => ∀ v as, k.ro v as d ρ
def forLoopO (fb : DS) (x i : Nat) (k : DK) : List D → List D → En → Prop
  | _, [], ρ => k.nx ρ
  | done, d :: rest, ρ => isNon d = false ∧ match ρ[i]? with
    | some (.ow v _ _) => ∀ v1 as1 as2, fb { k with nx := fun ρ' => ρ'[i]? = some (.ow v as1 (.lst (done ++ .any :: rest))) ∧ forLoopO fb x i k (done ++ [.any]) rest ρ', ct := fun ρ' => ρ'[i]? = some (.ow v as1 (.lst (done ++ .any :: rest))) ∧ forLoopO fb x i k (done ++ [.any]) rest ρ', bk := k.nx }
        ((ρ.set i (.ow v as1 (.lst (done ++ .any :: rest)))).set x (.ow v1 as2 d))
    | _ => False
def dForO (i x : Nat) (fb : DS) : DS := fun k ρ => match ρ[i]? with
  | some (.ow _ _ (.lst ds)) => i ≠ x ∧ forLoopO fb x i k [] ds ρ
  | _ => False
end
end Dl
namespace Dl
open PySem PySem.Spec PyProof.Rows L2
inductive AD where
  | d (d : D) | o (d : D)
abbrev DFO := List AD → (AD → List AD → Prop) → XQ → Prop
section
variable (Γ : Kx) (H0 G : Hp) (R : Addr → Prop) (H : Hp)
def AL : List AD → List V → List (List Addr) → Prop
  | [], vs, ass => vs = [] ∧ ass = []
  | .d d :: r, vs, ass => ∃ v q as', vs = v :: q ∧ ass = [] :: as' ∧ Rp Γ G R d v ∧ AL r q as'
  | .o d :: r, vs, ass => ∃ v q a as', vs = v :: q ∧ ass = a :: as' ∧ Ow Γ H0 G R H d v a ∧ AL r q as'
end
def spO (Γ : Kx) (S : DFO) : Sp := fun vs H Q E => ∃ (G : Hp) (R : Addr → Prop) (ads : List AD) (ass : List (List Addr)) (Qd : AD → List AD → Prop) (Xq : XQ), Gd G R H ∧ AL Γ (cut H ass.flatten) G R H ads vs ass ∧ ass.flatten.Nodup ∧ S ads Qd Xq ∧
  (∀ v G' R' H' r rs ads' ass', Nx G R (cut H ass.flatten) G' R' H' → AL Γ (cut H ass.flatten) G' R' H' (r :: ads') (v :: vs) (rs :: ass') → (rs ++ ass'.flatten).Nodup → Qd r ads' → Q v H') ∧
  ∀ c fs G' R' H' cls dx, Nx G R (cut H ass.flatten) G' R' H' → Xq c fs → ExRep Γ G' R' H' c fs cls dx → E cls dx H'
section
variable {Γ : Kx} {H0 G G' : Hp} {R R' : Addr → Prop} {H H' : Hp}
theorem AL.len : ∀ {ads : List AD} {vs : List V} {ass : List (List Addr)}, AL Γ H0 G R H ads vs ass → vs.length = ads.length ∧ ass.length = ads.length
  | [], vs, ass, h => by unfold AL at h; obtain ⟨rfl, rfl⟩ := h; exact ⟨rfl, rfl⟩
  | .d d :: r, vs, ass, h => by
    unfold AL at h
    obtain ⟨v, q, as', rfl, rfl, _, h⟩ := h
    exact ⟨congrArg (· + 1) h.len.1, congrArg (· + 1) h.len.2⟩
  | .o d :: r, vs, ass, h => by
    unfold AL at h
    obtain ⟨v, q, a, as', rfl, rfl, _, h⟩ := h
    exact ⟨congrArg (· + 1) h.len.1, congrArg (· + 1) h.len.2⟩
theorem AL.ds : ∀ {ds : List D} {vs : List V}, RpL Γ G R ds vs → ∃ ass, AL Γ H0 G R H (ds.map AD.d) vs ass ∧ ass.flatten = []
  | [], vs, h => by unfold RpL at h; subst h; exact ⟨[], ⟨rfl, rfl⟩, rfl⟩
  | d :: ds, vs, h => by
    unfold RpL at h
    obtain ⟨v, q, rfl, h1, h2⟩ := h
    obtain ⟨ass, h3, h4⟩ := AL.ds h2
    exact ⟨[] :: ass, ⟨v, q, ass, rfl, rfl, h1, h3⟩, by simpa using h4⟩
theorem AL.one : ∀ {ds1 ds2 : List D} {vs1 vs2 : List V} {d : D} {v : V} {as : List Addr}, RpL Γ G R ds1 vs1 → Ow Γ H0 G R H d v as → RpL Γ G R ds2 vs2 → ∃ ass, AL Γ H0 G R H (ds1.map AD.d ++ .o d :: ds2.map AD.d) (vs1 ++ v :: vs2) ass ∧ ass.flatten = as
  | [], ds2, vs1, vs2, d, v, as, h1, h, h2 => by
    unfold RpL at h1
    subst h1
    obtain ⟨ass, a1, a2⟩ := AL.ds (H0 := H0) (H := H) h2
    exact ⟨as :: ass, ⟨v, vs2, as, ass, rfl, rfl, h, a1⟩, by simp [a2]⟩
  | x :: ds1, ds2, vs1, vs2, d, v, as, h1, h, h2 => by
    unfold RpL at h1
    obtain ⟨u, q, rfl, p1, p2⟩ := h1
    obtain ⟨ass, a1, a2⟩ := AL.one p2 h h2
    exact ⟨[] :: ass, ⟨u, q ++ v :: vs2, ass, rfl, rfl, p1, a1⟩, by simpa using a2⟩
theorem AL.at : ∀ {ads : List AD} {vs : List V} {ass : List (List Addr)} {j : Nat} {d : D}, AL Γ H0 G R H ads vs ass → ass.flatten.Nodup → ads[j]? = some (.o d) → ∃ v as, vs[j]? = some v ∧ Ow Γ H0 G R H d v as ∧ as.Nodup
  | [], _, _, _, _, _, _, e => by simp at e
  | .d x :: r, vs, ass, 0, d, h, nd, e => by simp at e
  | .o x :: r, vs, ass, 0, d, h, nd, e => by
    simp at e
    subst e
    unfold AL at h
    obtain ⟨v, q, a, as', rfl, rfl, o, h⟩ := h
    rw [List.flatten_cons] at nd
    exact ⟨v, a, rfl, o, (List.nodup_append.mp nd).1⟩
  | .d x :: r, vs, ass, j + 1, d, h, nd, e => by
    unfold AL at h
    obtain ⟨v, q, as', rfl, rfl, o, h⟩ := h
    rw [List.flatten_cons] at nd
    obtain ⟨u, as, a1, a2⟩ := AL.at h (List.nodup_append.mp nd).2.1 (by simpa using e)
    exact ⟨u, as, by simpa using a1, a2⟩
  | .o x :: r, vs, ass, j + 1, d, h, nd, e => by
    unfold AL at h
    obtain ⟨v, q, a, as', rfl, rfl, o, h⟩ := h
    rw [List.flatten_cons] at nd
    obtain ⟨u, as, a1, a2⟩ := AL.at h (List.nodup_append.mp nd).2.1 (by simpa using e)
    exact ⟨u, as, by simpa using a1, a2⟩
end
def dCallF (S : DFO) (fa : DA) : DE := fun xq ρ Q => fa xq ρ fun ds => S (ds.map AD.d) (fun r _ => ∃ d, r = .o d ∧ Q d) xq
def JX (Γ : Kx) (W : WX) (te : TE) (fx : XQ → En → (D → En → Prop) → Prop) : Prop := ∀ (G0 : Hp) (R0 : Addr → Prop) (H0 G : Hp) (R : Addr → Prop) (H : Hp) (σ : St) (ρ : En) (xq : XQ) (Qd : D → En → Prop) (Q : VK), Nx G0 R0 H0 G R H → Wd Γ H0 G R H σ ρ → Lk Γ W xq σ G R H → fx xq ρ Qd →
  (∀ v G' R' H' ρ' d, Nx G0 R0 H0 G' R' H' → Wd Γ H0 G' R' H' σ ρ' → Rp Γ G' R' d v → Qd d ρ' → Q v H') → te σ H Q
abbrev DX := XQ → En → (List D → Nat → (D → D) → D → List D → Prop) → Prop
def xHere (fp : DP) (fa : DA) : DX := fun xq ρ Q => fp xq ρ fun i f d1 => fa xq ρ fun ds2 => Q [] i f d1 ds2
def xSkip (fe : DE) (fx : DX) : DX := fun xq ρ Q => fe xq ρ fun x => fx xq ρ fun ds1 i f d1 ds2 => Q (x :: ds1) i f d1 ds2
def dCallX (S : DFO) (fx : DX) : XQ → En → (D → En → Prop) → Prop := fun xq ρ Q => fx xq ρ fun ds1 i f d1 ds2 =>
  S (ds1.map AD.d ++ .o d1 :: ds2.map AD.d) (fun r ads' => ∃ d d2, r = .d d ∧ ads'[ds1.length]? = some (.o d2) ∧ putS i (f d2) (Q d) ρ) fun _ _ => False
section
variable {Γ : Kx} {W : WX} {te tp : TE} {ta : TA} {fe : DE} {fp : DP} {fa : DA} {fx : DX}
def dSetX (x : Nat) (fx : XQ → En → (D → En → Prop) → Prop) : DS := fun k ρ => fx (k.xq ρ) ρ fun d ρ' => k.nx (ρ'.set x (.fz d))
def dExprX (fx : XQ → En → (D → En → Prop) → Prop) : DS := fun k ρ => fx (k.xq ρ) ρ fun _ ρ' => k.nx ρ'
def dRetX (fx : XQ → En → (D → En → Prop) → Prop) : DS := fun k ρ => fx (k.xq ρ) ρ fun d ρ' => k.rt d ρ'
end
def startA : List AD → List V → List (List Addr) → En
  | .d d :: r, _ :: vs, _ :: ass => .fz d :: startA r vs ass
  | .o d :: r, v :: vs, as :: ass => .ow v as d :: startA r vs ass
  | _, _, _ => []
def startO (n : Nat) (ads : List AD) (vs : List V) (ass : List (List Addr)) : En := startA ads vs ass ++ List.replicate (n - ads.length) S.un
def postO : List AD → List V → Nat → En → (List AD → Prop) → Prop
  | .d d :: r, _ :: vs, j, ρ, Q => postO r vs (j + 1) ρ fun l => Q (.d d :: l)
  | .o _ :: r, v :: vs, j, ρ, Q => ∃ as d', ρ[j]? = some (.ow v as d') ∧ postO r vs (j + 1) ρ fun l => Q (.o d' :: l)
  | _, _, _, _, Q => Q []
def kO (ads : List AD) (vs : List V) (Qd : AD → List AD → Prop) (Xq : XQ) : DK := ⟨fun ρ => postO ads vs 0 ρ (Qd (.d .non)), fun d ρ => postO ads vs 0 ρ (Qd (.d d)), fun _ => False, fun _ => False, fun c fs _ => Xq c fs, fun _ _ d ρ => postO ads vs 0 ρ (Qd (.o d))⟩
section
variable {Γ : Kx} {H0 G G' : Hp} {R R' : Addr → Prop} {H H' : Hp} {σ : St} {ρ : En}
end
end Dl
namespace Dl
open PySem PySem.Spec PyProof.Rows L2
def insF : D → Bool
  | .ins _ _ => false
  | .tup ds => go ds
  | .lst ds => go ds
  | .dic kvs => gk kvs
  | .fr _ => false
  | .raw _ => false
  | _ => true
where
  go : List D → Bool
  | [] => true
  | d :: ds => insF d && go ds
  gk : List (Key × D) → Bool
  | [] => true
  | (_, d) :: ds => insF d && gk ds
section
variable {Γ : Kx} {H0 G G' : Hp} {R R' : Addr → Prop} {H H' : Hp}
structure Soft (G G' : Hp) : Prop where
  lst : ∀ a vs, G a = some (.lst vs) → G' a = some (.lst vs)
  dK : ∀ a vs, G a = some (.dK vs) → G' a = some (.dK vs)
  st : ∀ a o, G a = some o → Stiff o → G' a = some o
mutual
theorem Rp.soft (s : Soft G G') : ∀ (d : D) (v : V), insF d = true → Rp Γ G R d v → Rp Γ G' R d v
  | .non, _, _, h => by unfold Rp at *; exact h
  | .bl _, _, _, h => by unfold Rp at *; exact h
  | .int _, _, _, h => by unfold Rp at *; exact h
  | .str _, _, _, h => by unfold Rp at *; exact h
  | .rd, _, _, h => by unfold Rp at *; exact h
  | .any, _, _, h => by unfold Rp at *; exact h
  | .fr _, _, m, _ => by unfold insF at m; cases m
  | .raw _, _, m, _ => by unfold insF at m; cases m
  | .ins _ _, _, m, h => by unfold insF at m; cases m
  | .nms ys, v, _, h => by
    unfold Rp at *
    obtain ⟨a, its, e, q⟩ := h
    exact ⟨a, its, e, s.st a _ q trivial⟩
  | .scr ns, v, _, h => by
    unfold Rp at *
    obtain ⟨a, e, q⟩ := h
    refine ⟨a, e, ?_⟩
    rcases q with (q | ⟨o, q⟩) | q
    · exact .inl (.inl (s.lst _ _ q))
    · exact .inl (.inr ⟨o, s.st _ _ q trivial⟩)
    · exact .inr q
  | .tup ds, v, m, h => by
    unfold Rp at *
    unfold insF at m
    obtain ⟨a, vs, e, q, l⟩ := h
    exact ⟨a, vs, e, seqT_stiff s.st q, RpL.soft s ds vs m l⟩
  | .lst ds, v, m, h => by
    unfold Rp at *
    unfold insF at m
    obtain ⟨a, vs, e, q, l⟩ := h
    exact ⟨a, vs, e, s.lst _ _ q, RpL.soft s ds vs m l⟩
  | .dic ds, v, m, h => by
    unfold Rp at *
    unfold insF at m
    obtain ⟨a, vs, e, q, l⟩ := h
    exact ⟨a, vs, e, s.dK _ _ q, RpK.soft s ds vs m l⟩
theorem RpL.soft (s : Soft G G') : ∀ (ds : List D) (vs : List V), insF.go ds = true → RpL Γ G R ds vs → RpL Γ G' R ds vs
  | [], _, _, h => by unfold RpL at *; exact h
  | d :: ds, vs, m, h => by
    unfold RpL at *
    unfold insF.go at m
    rw [Bool.and_eq_true] at m
    obtain ⟨v, q, e, h1, h2⟩ := h
    exact ⟨v, q, e, Rp.soft s d v m.1 h1, RpL.soft s ds q m.2 h2⟩
theorem RpK.soft (s : Soft G G') : ∀ (ds : List (Key × D)) (vs : List (Key × V)), insF.gk ds = true → RpK Γ G R ds vs → RpK Γ G' R ds vs
  | [], _, _, h => by unfold RpK at *; exact h
  | (x, d) :: ds, vs, m, h => by
    unfold RpK at *
    unfold insF.gk at m
    rw [Bool.and_eq_true] at m
    obtain ⟨v, q, e, h1, h2⟩ := h
    exact ⟨v, q, e, Rp.soft s d v m.1 h1, RpK.soft s ds q m.2 h2⟩
end
theorem viewO_up (g : Gd G R H) (n : Nx G R H G' R' H') : Same (viewO H G R H) (viewO H' G' R' H') := fun b o e => by
  obtain ⟨h, z⟩ := viewO_iff.mp e
  rcases z with z | z | ⟨z1, z2, z3⟩
  · have := n.gg b o z
    exact viewO_iff.mpr ⟨n.gd.sub b o this, .inl this⟩
  · exact viewO_iff.mpr ⟨n.st h z g, .inr (.inl z)⟩
  · exact viewO_iff.mpr ⟨n.ev b o h z1, .inr (.inr ⟨(fun y => (n.fr b y).elim z1 fun y => by rw [h] at y; cases y), by rw [n.ev b o h z1]; exact (fun z => nomatch z), z3⟩)⟩
theorem soft_view {G2 : Hp} (g : Gd G' R' H') : Soft G' (viewO H' (Dl.satur G2 H') R' H') where
  lst := fun a vs e => viewO_iff.mpr ⟨g.sub a _ e, .inr (.inr ⟨(fun r => by rw [g.dis a r] at e; cases e), by rw [g.sub a _ e]; exact (fun z => nomatch z), trivial⟩)⟩
  dK := fun a vs e => viewO_iff.mpr ⟨g.sub a _ e, .inr (.inr ⟨(fun r => by rw [g.dis a r] at e; cases e), by rw [g.sub a _ e]; exact (fun z => nomatch z), trivial⟩)⟩
  st := fun a o e s => viewO_iff.mpr ⟨g.sub a _ e, .inr (.inl s)⟩
end
def JVA (Γ : Kx) (W : WX) (ta : TA) (fa : DA) : Prop := ∀ (H0 G : Hp) (R : Addr → Prop) (H : Hp) (σ : St) (ρ : En) (xq : XQ) (Qd : List D → Prop) (Q : List V → Hp → Prop), Wd Γ H0 G R H σ ρ → Lk Γ W xq σ G R H → fa xq ρ Qd →
  (∀ vs G' R' H' ds, Nx G R H G' R' H' → RpL Γ (viewO H' G' R' H') R' ds vs → Qd ds → Q vs H') → ta σ H Q
def dSeeV (fe : DE) : DE := fun xq ρ Q => fe (fun c fs => immF fs = true ∧ xq c fs) (ρ.map S.seen) fun d => insF d = true ∧ Q d
section
variable {Γ : Kx} {W : WX} {te : TE} {ta : TA} {fe : DE} {fa : DA}
theorem jva_nil : JVA Γ W tNil dNil := fun H0 G R H σ ρ xq Qd Q w x f k => k [] G R H [] (Nx.refl w.gd) RpL.nil f
theorem jva_e (a : JE Γ W te fe) (b : JVA Γ W ta fa) : JVA Γ W (tCons te ta) (dCons fe fa) := fun H0 G R H σ ρ xq Qd Q w x f k =>
  a H0 G R H σ ρ xq _ _ w x f fun v G1 R1 H1 d n1 r1 q => b H0 G1 R1 H1 σ ρ xq _ _ (w.nx n1) (x.nx n1) q fun vs G2 R2 H2 ds n2 r2 q2 =>
    k (v :: vs) G2 R2 H2 (d :: ds) (n1.trans n2) (RpL.cons (Rp.mono (viewO_same n2.gd.sub) (fun _ h => h) d v (Rp.mono n2.gg n2.rr d v r1)) r2) q2
theorem jva_s (a : JE Γ W te fe) (b : JVA Γ W ta fa) : JVA Γ W (tCons te ta) (dCons (dSeeV fe) fa) := fun H0 G R H σ ρ xq Qd Q w x f k =>
  a H0 (viewO H G R H) R H σ (ρ.map S.seen) _ _ _ w.view (x.view w.gd) f fun v G1 R1 H1 d n1 r1 q => by
    have m := n1.back (viewO_same w.gd.sub)
    refine b H0 _ R1 H1 σ ρ xq _ _ (w.nx m) (x.nx m) q.2 fun vs G2 R2 H2 ds n2 r2 q2 => ?_
    have r1' := Rp.soft (soft_view (G2 := G) n1.gd) d v q.1 r1
    exact k (v :: vs) G2 R2 H2 (d :: ds) (m.trans n2) (RpL.cons (Rp.mono (viewO_up m.gd n2) n2.rr d v r1') r2) q2
end
def spS (Γ : Kx) (S : DF) : Sp := fun vs H Q E => ∃ (G : Hp) (R : Addr → Prop) (ds : List D) (Qd : D → Prop) (Xq : XQ), Gd G R H ∧ RpL Γ (viewO H G R H) R ds vs ∧ S ds Qd Xq ∧
  (∀ v G' R' H' d, Nx G R H G' R' H' → Rp Γ G' R' d v → Qd d → Q v H') ∧ ∀ c fs G' R' H' cls dx, Nx G R H G' R' H' → Xq c fs → ExRep Γ G' R' H' c fs cls dx → E cls dx H'
def spIS (Γ : Kx) (c : Str) (S : DI) : Sp := fun vs H Q E => ∃ (G : Hp) (R : Addr → Prop) (H1 : Hp) (x dx : Addr) (us : List V) (ds : List D) (Qf : List (Str × D) → Prop) (Xq : XQ),
  vs = .ref x :: us ∧ H = upd (upd H1 dx (.own x)) x (.ins (Γ.C c) dx []) ∧ H1 x = none ∧ H1 dx = none ∧ dx ≠ x ∧ Gd G R H1 ∧ RpL Γ (viewO H1 G R H1) R ds us ∧ S ds Qf Xq ∧
  (∀ G' R' H' dx' ws fs, Nx G R H1 G' R' H' → H' x = some (.ins (Γ.C c) dx' ws) → G' x = none → ¬ R' x → RpF Γ G' R' fs ws → Qf fs → Q .non H') ∧ ∀ c fs G' R' H' cls dx, Nx G R H1 G' R' H' → Xq c fs → ExRep Γ G' R' H' c fs cls dx → E cls dx H'
def dCallS (S : DF) (fa : DA) : DE := fun xq ρ Q => fa xq ρ fun ds => S ds Q xq
theorem je_callS {Γ : Kx} {W : WX} {ta : TA} {fa : DA} {S : DF} (a : JVA Γ W ta fa) : JE Γ W (tCallS (spS Γ S) (WE W) ta) (dCallS S fa) := fun H0 G R H σ ρ xq Qd Q w x f k =>
  a H0 G R H σ ρ xq _ _ w x f fun vs G1 R1 H1 ds n1 r1 q1 => ⟨G1, R1, ds, Qd, xq, n1.gd, r1, q1, fun v G' R' H' d n r q => k v G' R' H' d (n1.trans n) r q,
    fun c fs G' R' H' cls dx n => x.nx n1 c fs G' R' H' cls dx n⟩
def dMakeS (c : Str) (S : DI) (fa : DA) : DE := fun xq ρ Q => fa xq ρ fun ds => S ds (fun fs => Q (.ins c fs)) xq
theorem je_makeS {Γ : Kx} {W : WX} {ta : TA} {fa : DA} {c : Str} {S : DI} (a : JVA Γ W ta fa) : JE Γ W (tMakeS (Γ.C c) (spIS Γ c S) (WE W) ta) (dMakeS c S fa) := fun H0 G R H σ ρ xq Qd Q w x f k =>
  a H0 G R H σ ρ xq _ _ w x f fun vs G1 R1 H1 ds n1 r1 q1 => fun p dx hp hdx ne => ⟨G1, R1, H1, p, dx, vs, ds, _, xq, rfl, rfl, hp, hdx, ne, n1.gd, r1, q1, fun G' R' H' dx' ws fs n h g nr rf q => ⟨rfl, by
    refine k (.ref p) (upd G' p (.ins (Γ.C c) dx' ws)) R' H' (.ins c fs) (n1.trans (n.freeze h g nr hp)) ?_ q
    unfold Rp
    exact ⟨p, dx', ws, rfl, upd_same, RpF.mono (fun b u z => by rw [upd_ne (ne_of_none z g)]; exact z) (fun _ h => h) fs ws rf⟩⟩,
    fun c fs G' R' H' cls dx n => x.nx n1 c fs G' R' H' cls dx n⟩
def startS (n : Nat) (ds : List D) : En := ds.map S.se ++ List.replicate (n - ds.length) S.un
def startIS (n : Nat) (a : Addr) (c : Str) (ds : List D) : En := .io a c [] :: startS (n - 1) ds
theorem startS_fpt {n : Nat} {ds : List D} {j : Nat} {t : S} {v : Option V} {a : Addr} (q : (startS n ds)[j]? = some t) (o : a ∈ t.fpt v) : False := by
  unfold startS at q
  have m := List.mem_of_getElem? q
  rcases List.mem_append.mp m with m | m
  · obtain ⟨d, _, z⟩ := List.mem_map.mp m
    subst z; exact absurd o List.not_mem_nil
  · have := List.eq_of_mem_replicate m
    subst this; exact absurd o List.not_mem_nil
theorem start_wdS {Γ : Kx} {G : Hp} {R : Addr → Prop} {H : Hp} {N : List Str} {ds : List D} {vs : List V} (g : Gd G R H) (r : RpL Γ (viewO H G R H) R ds vs) (hl : ds.length ≤ N.length) : Wd Γ H G R H (L2.start N vs) (startS N.length ds) := by
  have e := r.len
  refine ⟨g, by unfold L2.start startS; simp [e], fun i s q => ?_, fun i j s1 s2 v1 v2 l hij q1 q2 _ _ o1 _ => startS_fpt q1 o1⟩
  unfold startS at q
  unfold L2.start
  by_cases hi : i < ds.length
  · rw [List.getElem?_append_left (by simpa using hi), List.getElem?_map, List.getElem?_eq_getElem hi] at q
    cases q
    obtain ⟨v, e2, r2⟩ := r.get (List.getElem?_eq_getElem hi)
    refine ⟨some v, ?_, v, rfl, r2⟩
    rw [List.getElem?_append_left (by rw [List.length_map]; omega), List.getElem?_map, e2]
    rfl
  · rw [List.getElem?_append_right (by simpa using hi)] at q
    have hs : s = .un := List.eq_of_mem_replicate (List.mem_of_getElem? q)
    subst hs
    have hlt := (List.getElem?_eq_some_iff.mp q).1
    simp only [List.length_map, List.length_replicate] at hlt
    refine ⟨none, ?_, True.intro⟩
    rw [List.getElem?_append_right (by rw [List.length_map]; omega), List.length_map, ← e]
    rw [List.getElem?_replicate, if_pos (by omega)]
theorem start_wdIS {Γ : Kx} {G : Hp} {R : Addr → Prop} {H1 : Hp} {c : Str} {x dx : Addr} {N : List Str} {ds : List D} {us : List V} (g : Gd G R H1) (hx : H1 x = none) (hd : H1 dx = none) (ne : dx ≠ x) (r : RpL Γ (viewO H1 G R H1) R ds us) (hl : ds.length + 1 ≤ N.length) :
    Nx G R H1 G R (upd (upd H1 dx (.own x)) x (.ins (Γ.C c) dx [])) ∧ Wd Γ H1 G R (upd (upd H1 dx (.own x)) x (.ins (Γ.C c) dx [])) (L2.start N (.ref x :: us)) (startIS N.length x c ds) := by
  have n1 : Nx G R H1 G R (upd H1 dx (.own x)) := Nx.new g _ hd
  have hx1 : (upd H1 dx (.own x)) x = none := by rw [upd_ne (Ne.symm ne)]; exact hx
  have n := n1.trans (Nx.new n1.gd (.ins (Γ.C c) dx []) hx1)
  refine ⟨n, ?_⟩
  obtain ⟨n0, N', rfl⟩ : ∃ n0 N', N = n0 :: N' := by
    cases N with
    | nil => simp at hl
    | cons a b => exact ⟨a, b, rfl⟩
  have w0 : Wd Γ H1 G R H1 (L2.start N' us) (startS N'.length ds) := start_wdS g r (by simpa using hl)
  have w1 := w0.nx n
  have eσ : L2.start (n0 :: N') (V.ref x :: us) = some (.ref x) :: L2.start N' us := by
    unfold L2.start
    simp
  have eρ : startIS (n0 :: N').length x c ds = .io x c [] :: startS N'.length ds := rfl
  rw [eσ, eρ]
  refine ⟨w1.gd, by simp [w1.len], fun i s q => ?_, fun i j s t v1 v2 l hij q1 q2 e3 e4 o1 o2 => ?_⟩
  · cases i with
    | zero =>
      rw [List.getElem?_cons_zero] at q
      cases q
      exact ⟨_, rfl, dx, [], rfl, upd_same, (g.fresh hx).1, (g.fresh hx).2, hx, by unfold RpF; rfl⟩
    | succ i =>
      rw [List.getElem?_cons_succ] at q
      obtain ⟨v, a, b⟩ := w1.sl i s q
      exact ⟨v, by rw [List.getElem?_cons_succ]; exact a, b⟩
  · cases i with
    | zero =>
      cases j with
      | zero => exact hij rfl
      | succ j => exact startS_fpt (by simpa using q2) o2
    | succ i => exact startS_fpt (by simpa using q1) o1
theorem dfnS {P : Program} {w : World} {K : PySem.W.Frag} {mg : Str → Option Value} {base : Heap} {C : Str → Addr} {bl : Str → Bool} {x q : Str} {params : Arguments} {body : List Stmt} {sc : Scope} {N ps : List Str} {dvs : List V} {kws : List (Str × V)} {f : Addr} {fd : FuncData} {k : Nat} {S : DF} {fs : DS}
    (F : FunD K x q params body sc dvs kws f fd) (Sc : FnScope N ps sc) (hbl : ∀ n, bl n = true → mg n = none) (len : ∀ ds Q Xq, S ds Q Xq → ds.length = ps.length)
    (hbody : ∀ (cdv : Value) (A : Around) (outer : List PySem.Env) (s : Shared) (H : Hp) (E : XK), GS (cxD P w K mg base N q sc f cdv A outer s H E) (wD E) k bl → CSs (cxD P w K mg base N q sc f cdv A outer s H E) C (wD E) body fs)
    (spec : ∀ ds Qd Xq, S ds Qd Xq → fs (kD Qd Xq) (startS N.length ds)) : FnOk P w K mg base (L2.CX P w) (k + 1) f fd ps (spS ⟨K, C⟩ S) := by
  refine F.ok Sc (fun vs H Q E h => ?_) (fun cdv A outer s H vs Q E hr h => ?_)
  · obtain ⟨G, R, ds, Qd, Xq, g, r, q, _⟩ := h
    rw [← r.len]
    exact len _ _ _ q
  · obtain ⟨G, R, ds, Qd, Xq, g, r, q', h1, h2⟩ := h
    have gs : GS (cxD P w K mg base N q sc f cdv A outer s H E) (wD E) k bl := ⟨⟨rfl, hr, takes_of rfl rfl rfl rfl, hbl⟩, passes_of rfl⟩
    obtain ⟨t, p, j⟩ := hbody cdv A outer s H E gs
    refine ⟨t, p, ?_⟩
    have hl : ds.length ≤ N.length := by
      rw [len _ _ _ q']
      have := congrArg List.length Sc.pre
      rw [List.length_take] at this
      omega
    refine j G R H G R H _ _ (kD Qd Xq) _ (Nx.refl g) (start_wdS g r hl) ⟨?_, ?_, ?_, ?_, ?_, ?_⟩ (spec ds Qd Xq q')
    · exact fun G' R' H' σ ρ n _ z => h1 .non G' R' H' .non n rp_non z
    · exact fun v d G' R' H' _ _ n _ r' z => h1 v G' R' H' d n r' z
    · exact fun _ _ _ _ _ _ _ z => z.elim
    · exact fun _ _ _ _ _ _ _ z => z.elim
    · exact fun c fs' cls dx G' R' H' σ ρ n _ z e => h2 c fs' G' R' H' cls dx n z e
    · exact fun _ _ _ _ _ _ _ _ _ _ _ _ z => z.elim
theorem dinitS {P : Program} {w : World} {K : PySem.W.Frag} {mg : Str → Option Value} {base : Heap} {C : Str → Addr} {bl : Str → Bool} {c q : Str} {params : Arguments} {body : List Stmt} {sc : Scope} {N ps : List Str} {dvs : List V} {kws : List (Str × V)} {f : Addr} {fd : FuncData} {k : Nat} {S : DI} {fs : DS}
    (F : FunD K "__init__" q params body sc dvs kws f fd) (Sc : FnScope N ps sc) (hbl : ∀ n, bl n = true → mg n = none) (len : ∀ ds Q Xq, S ds Q Xq → ds.length + 1 = ps.length)
    (hbody : ∀ (cdv : Value) (A : Around) (outer : List PySem.Env) (s : Shared) (H : Hp) (E : XK), GS (cxD P w K mg base N q sc f cdv A outer s H E) (wD E) k bl → CSs (cxD P w K mg base N q sc f cdv A outer s H E) C (wD E) body fs)
    (spec : ∀ a ds Qf Xq, S ds Qf Xq → fs (kI a c Qf Xq) (startIS N.length a c ds)) : FnOk P w K mg base (L2.CX P w) (k + 1) f fd ps (spIS ⟨K, C⟩ c S) := by
  refine F.ok Sc (fun vs H Q E h => ?_) (fun cdv A outer s H vs Q E hr h => ?_)
  · obtain ⟨G, R, H1, x, dx, us, ds, Qf, Xq, rfl, _, _, _, _, g, r, q', _⟩ := h
    rw [List.length_cons, ← r.len]
    exact len _ _ _ q'
  · obtain ⟨G, R, H1, x, dx, us, ds, Qf, Xq, rfl, rfl, hx, hd, ne, g, r, q', h1, h2⟩ := h
    have gs : GS (cxD P w K mg base N q sc f cdv A outer s (upd (upd H1 dx (.own x)) x (.ins (C c) dx [])) E) (wD E) k bl := ⟨⟨rfl, hr, takes_of rfl rfl rfl rfl, hbl⟩, passes_of rfl⟩
    obtain ⟨t, p, j⟩ := hbody cdv A outer s _ E gs
    refine ⟨t, p, ?_⟩
    have hl : ds.length + 1 ≤ N.length := by
      rw [len _ _ _ q']
      have := congrArg List.length Sc.pre
      rw [List.length_take] at this
      omega
    obtain ⟨n0, w0⟩ := start_wdIS (Γ := ⟨K, C⟩) (c := c) (N := N) g hx hd ne r hl
    refine j G R H1 G R _ _ _ (kI x c Qf Xq) _ n0 w0 ⟨?_, ?_, ?_, ?_, ?_, ?_⟩ (spec x ds Qf Xq q')
    · intro G' R' H' σ ρ n w' ⟨fs', e, z⟩
      obtain ⟨v, _, dx', ws, _, ha, ga, ra, _, rf⟩ := w'.sl 0 _ e
      exact h1 G' R' H' dx' ws fs' n ha ga ra rf z
    · exact fun _ _ _ _ _ _ _ _ _ _ z => z.elim
    · exact fun _ _ _ _ _ _ _ z => z.elim
    · exact fun _ _ _ _ _ _ _ z => z.elim
    · exact fun c' fs' cls dx' G' R' H' σ ρ n _ z e => h2 c' fs' G' R' H' cls dx' n z e
    · exact fun _ _ _ _ _ _ _ _ _ _ _ _ z => z.elim
end Dl
namespace Dl
open PySem PySem.Spec PyProof.Rows L2
section
variable (X : Cx) (C : Str → Addr) (W : WX)
def CF (e : Expr) (fo : DE) : Prop := ∃ te, PE X e te ∧ JF ⟨X.K, C⟩ W te fo
def CFA (es : List Expr) (fa : DA) (n : Nat) : Prop := ∃ ta, PA X es ta ∧ JFA ⟨X.K, C⟩ W ta fa n
def CP (e : Expr) (fp : DP) : Prop := ∃ te, PE X e te ∧ JP ⟨X.K, C⟩ W te fp
def CX (e : Expr) (fx : XQ → En → (D → En → Prop) → Prop) : Prop := ∃ te, PE X e te ∧ JX ⟨X.K, C⟩ W te fx
def CVA (es : List Expr) (fa : DA) : Prop := ∃ ta, PA X es ta ∧ JVA ⟨X.K, C⟩ W ta fa
end
structure CalO (P : Program) (w : World) (K : PySem.W.Frag) (mg : Str → Option Value) (base : Heap) (C : Str → Addr) (k : Nat) (x : Str) (S : DFO) : Prop where
  ex : ∃ (f : Addr) (fd : FuncData) (ps : List Str), FnOk P w K mg base (L2.CX P w) k f fd ps (spO ⟨K, C⟩ S) ∧ mg x = some (.ref f) ∧ PySem.W.keepIn K (.ref f) = true ∧ Binds K fd ps []
structure CalS (P : Program) (w : World) (K : PySem.W.Frag) (mg : Str → Option Value) (base : Heap) (C : Str → Addr) (k : Nat) (x : Str) (S : DF) : Prop where
  ex : ∃ (f : Addr) (fd : FuncData) (ps : List Str), FnOk P w K mg base (L2.CX P w) k f fd ps (spS ⟨K, C⟩ S) ∧ mg x = some (.ref f) ∧ PySem.W.keepIn K (.ref f) = true ∧ Binds K fd ps []
structure CalIS (P : Program) (w : World) (K : PySem.W.Frag) (mg : Str → Option Value) (base : Heap) (C : Str → Addr) (k : Nat) (c : Str) (S : DI) : Prop where
  ex : ∃ (f : Addr) (fd : FuncData) (ps : List Str), FnOk P w K mg base (L2.CX P w) k f fd ps (spIS ⟨K, C⟩ c S) ∧ Mk K (C c) f ∧ mg c = some (.ref (C c)) ∧ Binds K fd ps []
section
variable {P : Program} {w : World} {K : PySem.W.Frag} {mg : Str → Option Value} {base : Heap} {C : Str → Addr} {j k : Nat} {x c : Str} {S : DFO} {S' : DF} {S2 : DI}
theorem CalO.mono (h : CalO P w K mg base C k x S) (i : k ≤ j) : CalO P w K mg base C j x S := let ⟨f, fd, ps, F, m, kp, b⟩ := h.ex; ⟨f, fd, ps, F.mono i, m, kp, b⟩
theorem CalS.mono (h : CalS P w K mg base C k x S') (i : k ≤ j) : CalS P w K mg base C j x S' := let ⟨f, fd, ps, F, m, kp, b⟩ := h.ex; ⟨f, fd, ps, F.mono i, m, kp, b⟩
theorem CalIS.mono (h : CalIS P w K mg base C k c S2) (i : k ≤ j) : CalIS P w K mg base C j c S2 := let ⟨f, fd, ps, F, m, kp, b⟩ := h.ex; ⟨f, fd, ps, F.mono i, m, kp, b⟩
theorem CalO.imp {S S' : DFO} (c : CalO P w K mg base C k x S) (h : ∀ ads Q Xq, S' ads Q Xq → S ads Q Xq) : CalO P w K mg base C k x S' :=
  let ⟨f, fd, ps, F, m, kp, b⟩ := c.ex
  ⟨f, fd, ps, F.imp fun vs H Q E ⟨G, R, ads, ass, Qd, Xq, g, al, nd, s, k1, k2⟩ => ⟨G, R, ads, ass, Qd, Xq, g, al, nd, h _ _ _ s, k1, k2⟩, m, kp, b⟩
theorem CalO.none {params : Arguments} {body : List Stmt} {sc : Scope} {ps : List Str} {f : Addr} {fd : FuncData} (F : FunD K x x params body sc [] [] f fd) (gf : mg x = some (.ref f)) (hb : Binds K fd ps []) : CalO P w K mg base C k x fun _ _ _ => False :=
  ⟨f, fd, ps, ⟨fun vs H Q E h => by obtain ⟨_, _, _, _, _, _, _, _, _, z, _⟩ := h; exact z.elim, fun A outer s H args us vs Q E hr he hbt hv h => by obtain ⟨_, _, _, _, _, _, _, _, _, z, _⟩ := h; exact z.elim⟩, gf, F.kp, hb⟩
end
theorem dfnS1 {P : Program} {w : World} {K : PySem.W.Frag} {mg : Str → Option Value} {base : Heap} {C : Str → Addr} {bl : Str → Bool} {x : Str} {params : Arguments} {body : List Stmt} {sc : Scope} {N ps : List Str} {f : Addr} {fd : FuncData} {k : Nat} {S : DF} {fs : DS}
    (F : FunD K x x params body sc [] [] f fd) (gf : mg x = some (.ref f)) (Sc : FnScope N ps sc) (hb : Binds K fd ps []) (hbl : ∀ n, bl n = true → mg n = none) (len : ∀ ds Q Xq, S ds Q Xq → ds.length = ps.length)
    (hbody : ∀ (cdv : Value) (A : Around) (outer : List PySem.Env) (s : Shared) (H : Hp) (E : XK), GS (cxD P w K mg base N x sc f cdv A outer s H E) (wD E) k bl → CSs (cxD P w K mg base N x sc f cdv A outer s H E) C (wD E) body fs)
    (spec : ∀ ds Qd Xq, S ds Qd Xq → fs (kD Qd Xq) (startS N.length ds)) : CalS P w K mg base C (k + 1) x S :=
  ⟨f, fd, ps, dfnS F Sc hbl len hbody spec, gf, F.kp, hb⟩
section
variable {X : Cx} {C : Str → Addr} {W : WX} {k j : Nat} {bl : Str → Bool} {a b c e o : Expr} {es : List Expr} {fa fb fc fe fo fi : DE} {fs fr : DA} {ft : DT} {fp : DP} {fx : DX} {pos p p1 p2 : Pos} {n i : Nat} {x y : Str}
theorem ce_see (h : CE X C W e fe) : CE X C W e (dSee fe) := let ⟨_, p, q⟩ := h; ⟨_, p, je_see q⟩
theorem ct_see (h : CT X C W e ft) : CT X C W e (dSeeT ft) := let ⟨_, p, q⟩ := h; ⟨_, p, jt_see q⟩
theorem cf_leaf (h : CE X C W e fe) : CF X C W e (dLeaf fe) := let ⟨_, p, q⟩ := h; ⟨_, p, jf_je q⟩
theorem cf_own (h : CN X C W e fs) : CF X C W e (dOwn fs) := let ⟨_, p, q⟩ := h; ⟨_, p, jf_jn q⟩
theorem cfa_nil : CFA X C W [] dNil 0 := ⟨_, pa_nil, jfa_nil⟩
theorem cfa_cons (h : CF X C W e fo) (h' : CFA X C W es fs n) (hs : starEach (e :: es) X.env = (false, eval e X.env) :: starEach es X.env := by rfl) : CFA X C W (e :: es) (dCons fo fs) (n + 1) := let ⟨_, p, q⟩ := h; let ⟨_, p', q'⟩ := h'; ⟨_, pa_cons p p' hs, jfa_cons q q'⟩
theorem cf_pick (h : CFA X C W es fs n) (h' : CE X C W b fb) (hn : n ≤ sizeLine := by rw [sizeLine_eq]; decide) (hp : PlainIx b := by exact fun _ _ => rfl) : CF X C W (.Subscript (.List es p) b pos) (dPick fs fb) :=
  let ⟨_, p, q⟩ := h; let ⟨_, p', q'⟩ := h'; ⟨_, pe_ix ix_seq (pe_lst p) p' hp, jf_pick q hn q'⟩
theorem cp_var (h : PE X e (tVar i)) : CP X C W e (dP0 i) := ⟨_, h, jp_var⟩
theorem cva_nil : CVA X C W [] dNil := ⟨_, pa_nil, jva_nil⟩
theorem cva_e (h : CE X C W e fe) (h' : CVA X C W es fs) (hs : starEach (e :: es) X.env = (false, eval e X.env) :: starEach es X.env := by rfl) : CVA X C W (e :: es) (dCons fe fs) := let ⟨_, p, q⟩ := h; let ⟨_, p', q'⟩ := h'; ⟨_, pa_cons p p' hs, jva_e q q'⟩
theorem cva_s (h : CE X C W e fe) (h' : CVA X C W es fs) (hs : starEach (e :: es) X.env = (false, eval e X.env) :: starEach es X.env := by rfl) : CVA X C W (e :: es) (dCons (dSeeV fe) fs) := let ⟨_, p, q⟩ := h; let ⟨_, p', q'⟩ := h'; ⟨_, pa_cons p p' hs, jva_s q q'⟩
theorem ce_callS {S : DF} (c : CalS X.prog X.w X.K X.mg X.base C k x S) (g : GE X W j bl) (h : CVA X C W (e :: es) fs) (hk : k ≤ j := by decide) (hg : Gl X x := by rfl)
    (hdb : (x == ("__debug__" : Str)) = false := by decide) (he : starEach (e :: es) X.env = (false, eval e X.env) :: starEach es X.env := by rfl) (hpl : (backTo pos (starEach es X.env)).any (·.1) = false := by rfl) : CE X C W (.Call (.Name x p) (e :: es) [] pos) (dCallS S fs) :=
  let ⟨f, fd, ps, F, m, kp, b⟩ := c.ex
  let ⟨_, p, q⟩ := h
  ⟨_, pe_callS F (g.room.mono hk) hg m kp b (fun σ => passAt g.tk σ) p hdb he hpl, je_callS q⟩
theorem ce_makeS {S : DI} (h : CalIS X.prog X.w X.K X.mg X.base C j x S) (g : GE X W k bl) (ha : CVA X C W (e :: es) fr) (hk : j + 1 ≤ k := by decide) (hg : Gl X x := by rfl) (hdb : (x == ("__debug__" : Str)) = false := by decide)
    (he : starEach (e :: es) X.env = (false, eval e X.env) :: starEach es X.env := by rfl) (hpl : (backTo pos (starEach es X.env)).any (·.1) = false := by rfl) : CE X C W (.Call (.Name x p) (e :: es) [] pos) (dMakeS x S fr) :=
  let ⟨_, p2, q2⟩ := ha
  let ⟨_, _, _, F, hm, hc, hb⟩ := h.ex
  ⟨_, pe_makeS hm F (g.room.mono hk) hg hc hb (fun σ => passAt g.tk σ) p2 hdb he hpl, je_makeS q2⟩
theorem cs_newO (i : Nat) (hN : X.N.Nodup) (h : CF X C W e fo) (hi : X.N[i]? = some x := by rfl) (hx : Loc X.env.scope x := by first | exact Or.inl rfl | exact Or.inr rfl) (hs : swapsWith e (some (.Name x p)) pos.line X.env = pure false := by rfl) (hf : X.fn x = true ∨ X.env.scope.names.lookup x = some .local := by first | exact .inl rfl | exact .inr rfl) :
    CS X C W (.Assign [.Name x p] e pos) (dNewO i fo) := let ⟨_, p, q⟩ := h; ⟨_, ps_set hN hi hx p hs hf, js_newO q⟩
theorem cs_appO {apos cpos : Pos} (ho : CP X C W o fp) (h : CF X C W e fo) (hbase : attributeBase o "append" X.env (eval o X.env) = eval o X.env := by rfl)
    (hfew : ((backTo cpos (starEach [e] X.env)).all (fun x => !x.1) && (backToKw cpos (keywordEach [] X.env)).all (fun x => x.1.isSome) && decide (([e] : List Expr).length + ([] : List Keyword).length + (if ([] : List Keyword).isEmpty then 0 else 1) < 30)) = true := by rfl)
    (hline : (apos.endLine == cpos.line) = true := by rfl) (hs : starEach [e] X.env = (false, eval e X.env) :: starEach [] X.env := by rfl) (hsw : swapsWith (.Call (.Attribute o "append" apos) [e] [] cpos) none pos.line X.env = pure false := by rfl) :
    CS X C W (.Expr (.Call (.Attribute o "append" apos) [e] [] cpos) pos) (dAppO fp fo) :=
  let ⟨_, p0, q0⟩ := ho; let ⟨_, p, q⟩ := h; ⟨_, ps_expr (pe_bm PySem.F.plainAttrs_list PySem.F.slot_list_append PySem.F.type_list_append mt_append p0 (pa_cons p pa_nil hs) hbase hfew hline hs rfl) hsw, js_appO q0 q⟩
theorem cs_revO {apos cpos : Pos} (ho : CP X C W o fp) (hbase : attributeBase o "reverse" X.env (eval o X.env) = eval o X.env := by rfl)
    (hline : (apos.endLine == cpos.line) = true := by rfl) (hsw : swapsWith (.Call (.Attribute o "reverse" apos) [] [] cpos) none pos.line X.env = pure false := by rfl) :
    CS X C W (.Expr (.Call (.Attribute o "reverse" apos) [] [] cpos) pos) (dRevO fp) :=
  let ⟨_, p0, q0⟩ := ho; ⟨_, ps_expr (pe_bm0 PySem.F.plainAttrs_list PySem.F.slot_list_reverse PySem.F.type_list_reverse mt_reverse p0 hbase hline) hsw, js_revO q0⟩
def tFof (Γ : Kx) (W : WX) (fo : DE) : TE := fun σ H Q => ∃ (H0 G : Hp) (R : Addr → Prop) (ρ : En) (xq : XQ) (Qd : D → Prop), Wd Γ H0 G R H σ ρ ∧ Lk Γ W xq σ G R H ∧ fo xq ρ Qd ∧ ∀ v as G' R' H' d, Nx G R H G' R' H' → Ow Γ H G' R' H' d v as → as.Nodup → Qd d → Q v H'
theorem CF.canon (h : CF X C W e fo) : PE X e (tFof ⟨X.K, C⟩ W fo) := let ⟨t, p, q⟩ := h; ⟨fun pins s σ H Q I ⟨H0, G, R, ρ, xq, Qd, w, x, f, z⟩ => p.run pins s σ H Q I (q H0 G R H σ ρ xq Qd Q w x f z)⟩
variable {tg iter elt : Expr} {fit : DA} {scope : Scope} {xp py spos : Pos}
end
end Dl
namespace Dl
open PySem PySem.Spec PyProof.Rows L2
section
variable {X : Cx} {C : Str → Addr} {W : WX} {k j : Nat} {bl : Str → Bool} {a b c e : Expr} {fa fb fc fe : DE} {pos p p1 p2 : Pos}
end
end Dl
namespace Dl
open PySem PySem.Spec PyProof.Rows L2
def tIof (Γ : Kx) (W : WX) (fi : DA) : TI := fun σ H Q => ∃ (H0 G : Hp) (R : Addr → Prop) (ρ : En) (xq : XQ) (Qd : List D → Prop), Wd Γ H0 G R H σ ρ ∧ Lk Γ W xq σ G R H ∧ fi xq ρ Qd ∧ ∀ J G' R' H' ds, Nx G R H G' R' H' → ItOk Γ G' R' J ds → Qd ds → Q J H'
section
variable {X : Cx} {C : Str → Addr} {W : WX} {k j j1 : Nat} {bl : Str → Bool} {tg iter iter1 elt : Expr} {fi fi1 : DA} {ft ft1 : DT} {fe : DE} {ifs ifs1 : List Expr} {scope : Scope} {x x1 y : Str} {xp xp1 py pos spos : Pos}
theorem CI.canon (h : CI X C W tg iter fi) : PI X tg iter (tIof ⟨X.K, C⟩ W fi) := let ⟨t, p, q⟩ := h; ⟨fun pins s σ H Q I ⟨H0, G, R, ρ, xq, Qd, w, x, f, z⟩ => p.run pins s σ H Q I (q H0 G R H σ ρ xq Qd Q w x f z)⟩
end
end Dl
namespace PySem.AutoSeq1
end PySem.AutoSeq1
namespace Dl
open PySem PySem.Spec PyProof.Rows L2
section
variable {X : Cx}
end
def dExtA (i : Nat) (fe : DE) : DS := fun k ρ => match ρ[i]? with
  | some (.op ds) => fe (k.xq ρ) ρ fun d => match d with
    | .lst es => ds.length + es.length ≤ sizeLine ∧ k.nx (ρ.set i (.op (ds ++ es)))
    | .tup es => ds.length + es.length ≤ sizeLine ∧ k.nx (ρ.set i (.op (ds ++ es)))
    | _ => False
  | _ => False
end Dl
namespace K11
open PySem PySem.Spec PyProof.Rows L2 Dl
def TB : CTb where
  cls := (["Contract"] : List Str)
  exs := (["MendError", "InvalidInput", "BoundError", "DeskError", "InvalidText", "InvalidProgram", "InvalidContract", "InvalidChange", "InvalidStream", "InvalidPlaces", "InvalidEdit", "InvalidLine", "InvalidName", "Mismatch"] : List Str)
  ex0 := (["MendError", "InvalidInput", "BoundError", "DeskError", "InvalidChange", "InvalidStream", "Mismatch"] : List Str)
  flds := ([("Contract", "letters"), ("Contract", "answers"), ("Contract", "states"), ("MendError", "name"), ("MendError", "number"), ("MendError", "place"), ("MendError", "position"), ("MendError", "reason"), ("InvalidInput", "name"), ("InvalidInput", "number"), ("InvalidInput", "place"), ("InvalidInput", "position"), ("InvalidInput", "reason"), ("BoundError", "name"), ("BoundError", "number"), ("BoundError", "place"), ("BoundError", "position"), ("BoundError", "reason"), ("DeskError", "name"), ("DeskError", "number")] : List (Str × Str)) ++ ([("DeskError", "place"), ("DeskError", "position"), ("DeskError", "reason"), ("InvalidText", "name"), ("InvalidText", "number"), ("InvalidText", "place"), ("InvalidText", "position"), ("InvalidText", "reason"), ("InvalidProgram", "name"), ("InvalidProgram", "number"), ("InvalidProgram", "place"), ("InvalidProgram", "position"), ("InvalidProgram", "reason"), ("InvalidContract", "name"), ("InvalidContract", "number"), ("InvalidContract", "place"), ("InvalidContract", "position"), ("InvalidContract", "reason"), ("InvalidChange", "name"), ("InvalidChange", "number")] : List (Str × Str)) ++ ([("InvalidChange", "place"), ("InvalidChange", "position"), ("InvalidChange", "reason"), ("InvalidStream", "name"), ("InvalidStream", "number"), ("InvalidStream", "place"), ("InvalidStream", "position"), ("InvalidStream", "reason"), ("InvalidPlaces", "name"), ("InvalidPlaces", "number"), ("InvalidPlaces", "place"), ("InvalidPlaces", "position"), ("InvalidPlaces", "reason"), ("InvalidEdit", "name"), ("InvalidEdit", "number"), ("InvalidEdit", "place"), ("InvalidEdit", "position"), ("InvalidEdit", "reason"), ("InvalidLine", "name"), ("InvalidLine", "number")] : List (Str × Str)) ++ ([("InvalidLine", "place"), ("InvalidLine", "position"), ("InvalidLine", "reason"), ("InvalidName", "name"), ("InvalidName", "number"), ("InvalidName", "place"), ("InvalidName", "position"), ("InvalidName", "reason"), ("Mismatch", "name"), ("Mismatch", "number"), ("Mismatch", "place"), ("Mismatch", "position"), ("Mismatch", "reason")] : List (Str × Str))
  tgt := (["BoundError", "Contract", "DeskError", "InvalidChange", "InvalidContract", "InvalidEdit", "InvalidInput", "InvalidLine", "InvalidName", "InvalidPlaces", "InvalidProgram", "InvalidStream", "InvalidText", "Mismatch"] : List Str)
  cat := (["MendError"] : List Str)
  isa := isaF
  meth := ([("Contract", "follow"), ("Contract", "with_row"), ("Contract", "with_flags"), ("Contract", "with_state")] : List (Str × Str))
  mkd := (["Contract"] : List Str)
  gints := ([("GREATEST_LETTERS", 3), ("FEWEST_ANSWERS", 2), ("GREATEST_ANSWERS", 4), ("GREATEST_STATES", 8)] : List (Str × Int))
  gstrs := []
  gtups := []
def top (i : Nat) : Stmt := PySem.Challenge.pw_allmends_k11_contract_rows.main.body.getD i (.Pass ⟨0, 0, 0, 0⟩)
def bl0 (x : Str) : Bool := decide (x ∈ (["ValueError", "all", "bool", "int", "isinstance", "len", "list", "range", "sorted", "str", "super", "tuple"] : List Str))
def xd_InvalidContract : ExD := ⟨"InvalidContract", "reason", "reason", defArgs (inClass (top 9) 0), defBody (inClass (top 9) 0), defScope (inClass (top 9) 0)⟩
theorem xs_InvalidContract : ExSt xd_InvalidContract := ⟨rfl, rfl, rfl, rfl, by decide +kernel, rfl, rfl, rfl, rfl, by decide +kernel, by decide +kernel, ⟨_, _, _, _, _, _, _, _, _, _, _, _, rfl, rfl⟩, fun _ _ _ _ _ _ _ _ _ _ _ us h => match us, h with | [_, _], _ => rfl⟩
def xds : List ExD := [xd_InvalidContract]
abbrev st_frozen : Stmt := top 1
abbrev st_Contract___init__ : Stmt := inClass (top 22) 0
abbrev st_Contract_follow : Stmt := inClass (top 22) 1
abbrev st_Contract_with_row : Stmt := inClass (top 22) 2
abbrev st_Contract_with_flags : Stmt := inClass (top 22) 3
abbrev st_Contract_with_state : Stmt := inClass (top 22) 4
abbrev st_replaced : Stmt := top 23
abbrev st_check_contract : Stmt := top 24
abbrev st__law_cell : Stmt := top 26
abbrev st__law_reader : Stmt := top 27
abbrev st__law_next : Stmt := top 28
abbrev st__law_same : Stmt := top 29
abbrev st__law_put : Stmt := top 30
abbrev st__law_target : Stmt := top 31
abbrev st__law_states : Stmt := top 32
abbrev st__law_events : Stmt := top 33
abbrev st__law_follow : Stmt := top 34
abbrev st__law_right : Stmt := top 35
abbrev st__law_turned_row : Stmt := top 36
abbrev st__law_reason : Stmt := top 37
abbrev st__law_faulty : Stmt := top 38
abbrev st__law_told : Stmt := top 39
abbrev st__law_flagged : Stmt := top 40
abbrev st__law_walked : Stmt := top 41
abbrev st_law : Stmt := top 42
def d_frozen : He.DefD := ⟨("frozen", none), "frozen", "frozen", defArgs st_frozen, defBody st_frozen, defScope st_frozen, [], []⟩
def d_Contract___init__ : He.DefD := ⟨("Contract", some "__init__"), "__init__", "Contract.__init__", defArgs st_Contract___init__, defBody st_Contract___init__, defScope st_Contract___init__, [], []⟩
def d_Contract_follow : He.DefD := ⟨("Contract", some "follow"), "follow", "Contract.follow", defArgs st_Contract_follow, defBody st_Contract_follow, defScope st_Contract_follow, [], []⟩
def d_Contract_with_row : He.DefD := ⟨("Contract", some "with_row"), "with_row", "Contract.with_row", defArgs st_Contract_with_row, defBody st_Contract_with_row, defScope st_Contract_with_row, [], []⟩
def d_Contract_with_flags : He.DefD := ⟨("Contract", some "with_flags"), "with_flags", "Contract.with_flags", defArgs st_Contract_with_flags, defBody st_Contract_with_flags, defScope st_Contract_with_flags, [], [("finish", .non), ("silence", .non)]⟩
def d_Contract_with_state : He.DefD := ⟨("Contract", some "with_state"), "with_state", "Contract.with_state", defArgs st_Contract_with_state, defBody st_Contract_with_state, defScope st_Contract_with_state, [], []⟩
def d_replaced : He.DefD := ⟨("replaced", none), "replaced", "replaced", defArgs st_replaced, defBody st_replaced, defScope st_replaced, [], []⟩
def d_check_contract : He.DefD := ⟨("check_contract", none), "check_contract", "check_contract", defArgs st_check_contract, defBody st_check_contract, defScope st_check_contract, [], []⟩
def d__law_cell : He.DefD := ⟨("_law_cell", none), "_law_cell", "_law_cell", defArgs st__law_cell, defBody st__law_cell, defScope st__law_cell, [], []⟩
def d__law_reader : He.DefD := ⟨("_law_reader", none), "_law_reader", "_law_reader", defArgs st__law_reader, defBody st__law_reader, defScope st__law_reader, [], []⟩
def d__law_next : He.DefD := ⟨("_law_next", none), "_law_next", "_law_next", defArgs st__law_next, defBody st__law_next, defScope st__law_next, [], []⟩
def d__law_same : He.DefD := ⟨("_law_same", none), "_law_same", "_law_same", defArgs st__law_same, defBody st__law_same, defScope st__law_same, [], []⟩
def d__law_put : He.DefD := ⟨("_law_put", none), "_law_put", "_law_put", defArgs st__law_put, defBody st__law_put, defScope st__law_put, [], []⟩
def d__law_target : He.DefD := ⟨("_law_target", none), "_law_target", "_law_target", defArgs st__law_target, defBody st__law_target, defScope st__law_target, [], []⟩
def d__law_states : He.DefD := ⟨("_law_states", none), "_law_states", "_law_states", defArgs st__law_states, defBody st__law_states, defScope st__law_states, [], []⟩
def d__law_events : He.DefD := ⟨("_law_events", none), "_law_events", "_law_events", defArgs st__law_events, defBody st__law_events, defScope st__law_events, [], []⟩
def d__law_follow : He.DefD := ⟨("_law_follow", none), "_law_follow", "_law_follow", defArgs st__law_follow, defBody st__law_follow, defScope st__law_follow, [], []⟩
def d__law_right : He.DefD := ⟨("_law_right", none), "_law_right", "_law_right", defArgs st__law_right, defBody st__law_right, defScope st__law_right, [], []⟩
def d__law_turned_row : He.DefD := ⟨("_law_turned_row", none), "_law_turned_row", "_law_turned_row", defArgs st__law_turned_row, defBody st__law_turned_row, defScope st__law_turned_row, [], []⟩
def d__law_reason : He.DefD := ⟨("_law_reason", none), "_law_reason", "_law_reason", defArgs st__law_reason, defBody st__law_reason, defScope st__law_reason, [], []⟩
def d__law_faulty : He.DefD := ⟨("_law_faulty", none), "_law_faulty", "_law_faulty", defArgs st__law_faulty, defBody st__law_faulty, defScope st__law_faulty, [], []⟩
def d__law_told : He.DefD := ⟨("_law_told", none), "_law_told", "_law_told", defArgs st__law_told, defBody st__law_told, defScope st__law_told, [], []⟩
def d__law_flagged : He.DefD := ⟨("_law_flagged", none), "_law_flagged", "_law_flagged", defArgs st__law_flagged, defBody st__law_flagged, defScope st__law_flagged, [], []⟩
def d__law_walked : He.DefD := ⟨("_law_walked", none), "_law_walked", "_law_walked", defArgs st__law_walked, defBody st__law_walked, defScope st__law_walked, [], []⟩
def d_law : He.DefD := ⟨("law", none), "law", "law", defArgs st_law, defBody st_law, defScope st_law, [], []⟩
def fn : List He.DefD := ([d_frozen, d_Contract___init__, d_Contract_follow, d_Contract_with_row, d_Contract_with_flags, d_Contract_with_state, d_replaced, d_check_contract, d__law_cell, d__law_reader, d__law_next, d__law_same, d__law_put, d__law_target, d__law_states, d__law_events, d__law_follow, d__law_right, d__law_turned_row, d__law_reason, d__law_faulty, d__law_told, d__law_flagged, d__law_walked, d_law] : List He.DefD)
def fa : List He.Fa := ([.glo "frozen", .glo "replaced", .glo "check_contract", .glo "_law_cell", .glo "_law_reader", .glo "_law_next", .glo "_law_same", .glo "_law_put", .glo "_law_target", .glo "_law_states", .glo "_law_events", .glo "_law_follow", .glo "_law_right", .glo "_law_turned_row", .glo "_law_reason", .glo "_law_faulty", .glo "_law_told", .glo "_law_flagged", .glo "_law_walked", .glo "law", .free "ValueError", .free "all", .free "bool", .free "int", .free "isinstance", .free "len", .free "list", .free "range", .free "sorted", .free "str"] : List He.Fa) ++ ([.free "super", .free "tuple"] : List He.Fa)
abbrev R : PySem.W.OpenRow := PySem.W.OpenLaw.row PySem.Challenge.rw_allmends_k11_contract_rows
abbrev hk : PySem.W.Hook := hookZ 5 fa fn TB xds PySem.Challenge.rw_allmends_k11_contract_rows.prog
def ob (s : PySem.W.SharedT) : AlY := obsZG 5 fa fn TB xds PySem.Challenge.rw_allmends_k11_contract_rows.prog (HandSHeadRun.getT s)
theorem ob_eq (s : PySem.W.SharedT) : ob s = hk.obs s.abs := obsZG_eq (HandSHeadRun.getT_eq s)
def loose : List Str := (["__name__", "frozen", "MendError", "InvalidInput", "BoundError", "DeskError", "InvalidText", "InvalidProgram", "InvalidContract", "InvalidChange", "InvalidStream", "InvalidPlaces", "InvalidEdit", "InvalidLine", "InvalidName", "Mismatch", "GREATEST_LETTERS", "FEWEST_ANSWERS", "GREATEST_ANSWERS", "GREATEST_STATES", "Contract", "replaced", "check_contract", "_law_cell", "_law_reader", "_law_next", "_law_same", "_law_put", "_law_target", "_law_states"] : List Str) ++ (["_law_events", "_law_follow", "_law_right", "_law_turned_row", "_law_reason", "_law_faulty", "_law_told", "_law_flagged", "_law_walked"] : List Str)
theorem run (w : World) : HandSHeadRun.RunEq R (PySem.W.view R.prog [42]) hk ob 6000 loose w := by
  intro os
  kernel_rfl
end K11
namespace Con
open PySem L2 Dl
def b_frozen (S_frozen : DF) : DS :=
  dSeq (dIfS (dB (d1 (gIsi2 "list" "tuple") (dVar 0)))
    (dRet (d1 gTuple (dLst (dLc (iIt (dVar 0)) 1 dYes (dCall S_frozen (dCons (dVar 1) dNil))))))
    dNext)
  (dRetV 0)
def b_check_contract : DS :=
  dSeq (dIfS (dOr (dB (d2 gLt (dVar 0) (dC (.int 1)))) (dB (d2 gGt (dVar 0) (dC (.int 3)))))
    (dRaise1 "InvalidContract" "reason" (dC (.str "letters")))
    dNext)
  (dSeq (dIfS (dOr (dB (d2 gLt (dVar 1) (dC (.int 2)))) (dB (d2 gGt (dVar 1) (dC (.int 4)))))
    (dRaise1 "InvalidContract" "reason" (dC (.str "answers")))
    dNext)
  (dSeq (dIfS (dOr (dB (d2 gLt (d1 gLen (dVar 2)) (dC (.int 1)))) (dB (d2 gGt (d1 gLen (dVar 2)) (dC (.int 8)))))
    (dRaise1 "InvalidContract" "reason" (dC (.str "states")))
    dNext)
  (dSeq (dFor (iIt (dVar 2)) 3
    (dIfS (dOr (dB (d2 gNe (d1 gLen (d2 gIx (dVar 3) (dC (.int 0)))) (dVar 0))) (dB (d2 gNe (d1 gLen (d2 gIx (dVar 3) (dC (.int 2)))) (dVar 1))))
      (dRaise1 "InvalidContract" "reason" (dC (.str "rows")))
      dNext))
  (dFor (iIt (dVar 2)) 3
    (dFor (iIt (d2 gAdd (d2 gAdd (d2 gIx (dVar 3) (dC (.int 0))) (dTup (dCons (d2 gIx (dVar 3) (dC (.int 1))) dNil))) (d2 gIx (dVar 3) (dC (.int 2))))) 4
      (dIfS (dAnd (dB (d2 gNotN (dVar 4) (dC .non))) (dOr (dB (d2 gLt (dVar 4) (dC (.int 0)))) (dB (d2 gGe (dVar 4) (d1 gLen (dVar 2))))))
        (dRaise1 "InvalidContract" "reason" (dC (.str "target")))
        dNext))))))
def b_Contract___init__ (S_frozen : DF) (S_check_contract : DF) : DS :=
  dSeq (dSetF 0 ["Contract"] "letters" (dVar 1))
  (dSeq (dSetF 0 ["Contract"] "answers" (dVar 2))
  (dSeq (dSetF 0 ["Contract"] "states" (dCall S_frozen (dCons (dVar 3) dNil)))
  (dExpr (dCall S_check_contract (dCons (dVar 1) (dCons (dVar 2) (dCons (dFldI 0 ["Contract"] "states") dNil)))))))
def b_Contract_follow : DS :=
  dSeq (dAsg (bTup [3, 4, 5]) (dSl (d2 gIx (d1 (gFld ["Contract"] "states") (dVar 0)) (dVar 1)) oNo (oSome (dC (.int 3)))))
  (dSeq (dIfS (dB (d2 gEq (d2 gIx (dVar 2) (dC (.int 0))) (dC (.str "read"))))
    (dRet (d2 gIx (dVar 3) (d2 gIx (dVar 2) (dC (.int 1)))))
    dNext)
  (dSeq (dIfS (dB (d2 gEq (d2 gIx (dVar 2) (dC (.int 0))) (dC (.str "write"))))
    (dRet (d2 gIx (dVar 5) (d2 gIx (dVar 2) (dC (.int 1)))))
    dNext)
  (dRetV 4)))
def b__law_same (S__law_same : DF) : DS :=
  dSeq (dIfS (dB (d1 (gIsi "tuple") (dVar 1)))
    (dSeq (dIfS (dOr (dNot (dB (d1 (gIsi "tuple") (dVar 0)))) (dB (d2 gNe (d1 gLen (dVar 0)) (d1 gLen (dVar 1)))))
      (dRet (dC (.bl false)))
      dNext)
    (dRet (d1 gAll (dLst (dLc (iR1 (d1 gLen (dVar 1))) 2 dYes (dCall S__law_same (dCons (d2 gIx (dVar 0) (dVar 2)) (dCons (d2 gIx (dVar 1) (dVar 2)) dNil))))))))
    dNext)
  (dSeq (dIfS (dB (d2 gIsN (dVar 1) (dC .non)))
    (dRet (d2 gIsN (dVar 0) (dC .non)))
    dNext)
  (dSeq (dIfS (dB (d1 (gIsi "str") (dVar 1)))
    (dRet (dAndV (dB (d1 (gIsi "str") (dVar 0))) (d2 gEq (dVar 0) (dVar 1))))
    dNext)
  (dSeq (dIfS (dOr (dB (d1 (gIsi "bool") (dVar 0))) (dB (d1 (gIsi "bool") (dVar 1))))
    (dRet (dAndV (dB (d1 (gIsi "bool") (dVar 0))) (dAndV (dB (d1 (gIsi "bool") (dVar 1))) (d2 gEq (dVar 0) (dVar 1)))))
    dNext)
  (dRet (dAndV (dB (d1 (gIsi "int") (dVar 0))) (d2 gEq (dVar 0) (dVar 1)))))))
def b__law_target (S__law_next : DF) : DS :=
  dSeq (dSet 2 (dCall S__law_next (dCons (dVar 0) (dCons (d2 gAdd (dVar 1) (dC (.int 1))) dNil))))
  (dSeq (dIfS (dB (d2 gEq (dVar 2) (dVar 1)))
    (dRet (dC .non))
    dNext)
  (dRetV 2))
def b__law_states (S__law_target : DF) (S__law_next : DF) : DS :=
  dSeq (dSetN 4 dNil)
  (dSeq (dFor (iR1 (dVar 3)) 5
    (dSeq (dSet 6 (d1 gTuple (dLst (dLc (iR1 (dVar 1)) 7 dYes (dCall S__law_target (dCons (dVar 0) (dCons (dVar 3) dNil)))))))
    (dSeq (dSet 8 (dCall S__law_target (dCons (dVar 0) (dCons (dVar 3) dNil))))
    (dSeq (dSet 9 (d1 gTuple (dLst (dLc (iR1 (dVar 2)) 7 dYes (dCall S__law_target (dCons (dVar 0) (dCons (dVar 3) dNil)))))))
    (dSeq (dSet 10 (dCall S__law_next (dCons (dVar 0) (dCons (dC (.int 4)) dNil))))
    (dApp 4 (dTup (dCons (dVar 6) (dCons (dVar 8) (dCons (dVar 9) (dCons (d2 gEq (d2 gFdiv (dVar 10) (dC (.int 2))) (dC (.int 1))) (dCons (d2 gEq (d2 gMod (d1 gInt (dVar 10)) (dC (.int 2))) (dC (.int 1))) dNil))))))))))))
  (dRet (d1 gTuple (dVarQ 4))))
def b__law_events : DS :=
  dSeq (dSet 2 (dLst (dLc (iR1 (dVar 0)) 3 dYes (dTup (dCons (dC (.str "read")) (dCons (dVar 3) dNil))))))
  (dRet (d2 gAdd (d2 gAdd (dLst (dCons (dTup (dCons (dC (.str "over")) dNil)) dNil)) (dVar 2)) (dLst (dLc (iR1 (dVar 1)) 3 dYes (dTup (dCons (dC (.str "write")) (dCons (dVar 3) dNil)))))))
def b__law_follow : DS :=
  dSeq (dIfS (dB (d2 gEq (d2 gIx (dVar 2) (dC (.int 0))) (dC (.str "over"))))
    (dRet (d2 gIx (d2 gIx (dVar 0) (dVar 1)) (dC (.int 1))))
    dNext)
  (dSeq (dIfS (dB (d2 gEq (d2 gIx (dVar 2) (dC (.int 0))) (dC (.str "read"))))
    (dRet (d2 gIx (d2 gIx (d2 gIx (dVar 0) (dVar 1)) (dC (.int 0))) (d2 gIx (dVar 2) (dC (.int 1)))))
    dNext)
  (dRet (d2 gIx (d2 gIx (d2 gIx (dVar 0) (dVar 1)) (dC (.int 2))) (d2 gIx (dVar 2) (dC (.int 1))))))
def b__law_right (S__law_same : DF) (S__law_events : DF) (S_Contract_follow : DF) (S__law_follow : DF) : DS :=
  dSeq (dIfS (dOr (dNot (dB (d1 (gIsC ["Contract"] (fun c => isaF c "Contract")) (dVar 0)))) (dNot (dTru (dCall S__law_same (dCons (dTup (dCons (d1 (gFld ["Contract"] "letters") (dVar 0)) (dCons (d1 (gFld ["Contract"] "answers") (dVar 0)) dNil))) (dCons (dTup (dCons (d2 gIx (dVar 1) (dC (.int 0))) (dCons (d2 gIx (dVar 1) (dC (.int 1))) dNil))) dNil))))))
    (dRet (dC (.bl false)))
    dNext)
  (dSeq (dFor (iR1 (d1 gLen (d2 gIx (dVar 1) (dC (.int 2))))) 2
    (dFor (iIt (dCall S__law_events (dCons (d2 gIx (dVar 1) (dC (.int 0))) (dCons (d2 gIx (dVar 1) (dC (.int 1))) dNil)))) 3
      (dIfS (dNot (dTru (dCall S__law_same (dCons (dMeth "Contract" "follow" S_Contract_follow (dVar 0) (dCons (dVar 2) (dCons (dVar 3) dNil))) (dCons (dCall S__law_follow (dCons (d2 gIx (dVar 1) (dC (.int 2))) (dCons (dVar 2) (dCons (dVar 3) dNil)))) dNil)))))
        (dRet (dC (.bl false)))
        dNext)))
  (dRet (dCall S__law_same (dCons (d1 (gFld ["Contract"] "states") (dVar 0)) (dCons (d2 gIx (dVar 1) (dC (.int 2))) dNil)))))
end Con
namespace Dl
open PySem L2
theorem ixP_tup {ds : List D} {j : Nat} {d1 : D} (h : ds[j]? = some d1) (Q : (D → D) → D → Prop) : ixP (.tup ds) (.int (j : Int)) Q = Q (fun y => .tup (ds.set j y)) d1 := by
  have hj := (List.getElem?_eq_some_iff.mp h).1
  have e : ixN ds.length (j : Int) = some j := by
    unfold ixN
    simp; omega
  show (match ixN ds.length (j : Int) with
      | some j => match ds[j]? with
        | some d1 => Q (fun y => .tup (ds.set j y)) d1
        | none => False
      | none => False) = _
  rw [e]
  dsimp only
  rw [h]
theorem ixP_1 (a b : D) (r : List D) (Q : (D → D) → D → Prop) : ixP (.tup (a :: b :: r)) (.int 1) Q = Q (fun y => .tup (a :: y :: r)) b := ixP_tup (j := 1) rfl Q
theorem ixP_2 (a b c : D) (r : List D) (Q : (D → D) → D → Prop) : ixP (.tup (a :: b :: c :: r)) (.int 2) Q = Q (fun y => .tup (a :: b :: y :: r)) c := ixP_tup (j := 2) rfl Q
theorem ixP_3 (a b c d : D) (r : List D) (Q : (D → D) → D → Prop) : ixP (.tup (a :: b :: c :: d :: r)) (.int 3) Q = Q (fun y => .tup (a :: b :: c :: y :: r)) d := ixP_tup (j := 3) rfl Q
end Dl
namespace Dl
open PySem PySem.Spec PyProof.Rows L2
def getK : List (Key × D) → Key → Option D
  | [], _ => none
  | (x, d) :: r, k => if x = k then some d else getK r k
def setK : List (Key × D) → Key → D → List (Key × D)
  | [], k, y => [(k, y)]
  | (x, d) :: r, k, y => if x = k then (x, y) :: r else (x, d) :: setK r k y
theorem RpK.get {Γ : Kx} {G : Hp} {R : Addr → Prop} {k : Key} {d : D} : ∀ {kvs : List (Key × D)} {us : List (Key × V)}, RpK Γ G R kvs us → getK kvs k = some d → ∃ v, valV us k = some v ∧ Rp Γ G R d v
  | [], us, h, e => by unfold getK at e; cases e
  | (x, y) :: r, us, h, e => by
    unfold RpK at h
    obtain ⟨v, q, rfl, h1, h2⟩ := h
    unfold getK at e
    by_cases z : x = k
    · rw [if_pos z] at e
      cases e
      exact ⟨v, valV_pos z, h1⟩
    · rw [if_neg z] at e
      obtain ⟨v2, e2, r2⟩ := RpK.get h2 e
      exact ⟨v2, by rw [valV_neg z]; exact e2, r2⟩
section
variable {Γ : Kx} {W : WX} {te tp : TE} {fe fo : DE} {fp : DP}
end
section
variable {Γ : Kx} {H0 G G' : Hp} {R R' : Addr → Prop} {H H' : Hp}
theorem Comp.dic {v v1 : V} {as as1 : List Addr} {f : D → D} {ds : List (Key × D)} (c : Comp Γ H0 G R H v as f (.dic ds) v1 as1) : ∃ a vs bs, v1 = .ref a ∧ as1 = a :: bs ∧ a ∈ as ∧ a ∉ bs ∧ bs.Nodup ∧ (∀ x ∈ bs, x ∈ as) ∧ H a = some (.dK vs) ∧ G a = none ∧ ¬ R a ∧ OwK Γ H0 G R H ds vs bs ∧
    ∀ (ds' : List (Key × D)) (vs' : List (Key × V)) (bs' : List Addr), OwK Γ H0 G R H ds' vs' bs' → bs'.Nodup → a ∉ bs' → (∀ b ∈ bs', b ∈ as → b ∈ bs) → ∃ as3, Ow Γ H0 G R (upd H a (.dK vs')) (f (.dic ds')) v as3 ∧ as3.Nodup ∧ ∀ x ∈ as3, x ∈ bs' ∨ x ∈ as := by
  have h := c.ow
  unfold Ow at h
  obtain ⟨a, vs, bs, rfl, rfl, h0, g, r, hl, l⟩ := h
  obtain ⟨na, nb⟩ := List.nodup_cons.mp c.nd
  refine ⟨a, vs, bs, rfl, rfl, c.sub a (List.mem_cons_self ..), na, nb, fun x m => c.sub x (List.mem_cons_of_mem _ m), hl, g, r, l, fun ds' vs' bs' l' nd' na' hs => ?_⟩
  have st : ¬ Stiff (HO.dK vs) := fun t => t
  obtain ⟨as3, h3, n3, m3⟩ := c.re G R (upd H a (.dK vs')) (.dic ds') (a :: bs') (Stays.upd (fun m => (mem_wo.mp m).2 (List.mem_cons_self ..)) hl st) (by
    unfold Ow
    exact ⟨a, vs', bs', rfl, rfl, h0, g, r, upd_same, OwK.mono ds' vs' bs' (Stays.upd na' hl st) l'⟩) (List.nodup_cons.mpr ⟨na', nd'⟩) fun x m mx => by
      rcases List.mem_cons.mp m with rfl | m
      · exact List.mem_cons_self ..
      · exact List.mem_cons_of_mem _ (hs x m mx)
  refine ⟨as3, h3, n3, fun x m => ?_⟩
  rcases (m3 x).mp m with z | z
  · rcases List.mem_cons.mp z with rfl | z
    · exact .inr (c.sub x (List.mem_cons_self ..))
    · exact .inl z
  · exact .inr z.1
end
section
variable {Γ : Kx} {W : WX} {te tp ti : TE} {fp : DP} {fe fi fo : DE}
end
section
variable {Γ : Kx} {H0 G G' : Hp} {R : Addr → Prop} {H : Hp}
end
section
variable {Γ : Kx} {W : WX}
end
section
variable {X : Cx} {C : Str → Addr} {W : WX} {k : Nat} {bl : Str → Bool} {a e o : Expr} {es : List Expr} {fa fe fo : DE} {fs : DA} {fp : DP} {pos p1 p2 pos' : Pos} {m : Nat} {z : Str} {i : Nat}
end
end Dl
namespace Dl
open PySem PySem.Spec PyProof.Rows L2
abbrev DXE := XQ → En → (D → En → Prop) → Prop
abbrev DXA := XQ → En → (List D → En → Prop) → Prop
section
variable {Γ : Kx} {W : WX} {te tb tp : TE} {ta : TA} {fe : DE} {fx fy : DXE} {fa : DXA} {fp : DP}
end
inductive At : D → (D → D) → D → Prop
  | here (d : D) : At d (fun x => x) d
  | lst {ds : List D} {j : Nat} {d1 d2 : D} {f : D → D} : ds[j]? = some d1 → At d1 f d2 → At (.lst ds) (fun x => .lst (ds.set j (f x))) d2
  | tup {ds : List D} {j : Nat} {d1 d2 : D} {f : D → D} : ds[j]? = some d1 → At d1 f d2 → At (.tup ds) (fun x => .tup (ds.set j (f x))) d2
  | key {kvs : List (Key × D)} {k : Key} {d1 d2 : D} {f : D → D} : getK kvs k = some d1 → At d1 f d2 → At (.dic kvs) (fun x => .dic (setK kvs k (f x))) d2
section
variable {Γ : Kx} {H0 G G' : Hp} {R R' : Addr → Prop} {H H' : Hp} {σ : St} {ρ : En}
theorem Wd.raw {i : Nat} {v v1 : V} {as as1 : List Addr} {d d1 : D} {f : D → D} (w : Wd Γ H0 G R H σ ρ) (e : ρ[i]? = some (.ow v as d)) (c : Comp Γ H0 G R H v as f d1 v1 as1) : ∃ as3, Wd Γ H0 G R (Dl.cut H as1) σ (ρ.set i (.ow v as3 (f (.raw v1)))) := by
  have fr := w.frs e
  have st : Stays G R H G R (Dl.cut H as1) (wo as as1) := ⟨fun a o m h _ g r => ⟨by rw [cut_out (mem_wo.mp m).2]; exact h, g, r⟩, fun a o h s => by
    rw [cut_out fun m => by
      obtain ⟨_, _, _, u, hu, op⟩ := fr a (c.sub a m)
      rw [h] at hu; cases hu; exact op.stiff s]
    exact h, fun _ h => h, fun _ _ h => h⟩
  obtain ⟨as3, h3, n3, m3⟩ := c.re G R (Dl.cut H as1) (.raw v1) [] st (by unfold Ow Rp; exact ⟨rfl, rfl⟩) (by simp) fun a m => absurd m List.not_mem_nil
  refine ⟨as3, w.putO e ((Nx.refl w.gd).cut2 c.sub fun a m => ⟨(fr a (c.sub a m)).2.1, (fr a (c.sub a m)).2.2.1⟩) h3 n3 fun a m => ?_⟩
  rcases (m3 a).mp m with z | z
  · exact absurd z List.not_mem_nil
  · exact cut_in z.1
end
section
variable {Γ : Kx} {W : WX} {te tp : TE} {fx : DXE} {fp : DP}
end
section
variable {X : Cx} {C : Str → Addr} {W : WX} {k j : Nat} {bl : Str → Bool} {a b e o : Expr} {es : List Expr} {fe : DE} {fx fy : DXE} {fa : DXA} {fp : DP} {pos p p1 p2 : Pos} {n i : Nat}
end
end Dl
namespace Dl
open PySem PySem.Spec PyProof.Rows L2
section
variable {Γ : Kx} {W : WX} {te : TE} {fo : DE}
end
section
variable {X : Cx} {C : Str → Addr} {W : WX} {e : Expr} {fo : DE}
end
mutual
def eqB : Nat → D → Bool
  | _, .non => true
  | _, .bl _ => true
  | _, .int _ => true
  | _, .str s => (PyData.str s).canLay0
  | n + 1, .tup ds => eqL n ds
  | n + 1, .lst ds => eqL n ds
  | _, _ => false
def eqL : Nat → List D → Bool
  | _, [] => true
  | n, d :: ds => eqB n d && eqL n ds
end
theorem eqL_of {n : Nat} : ∀ {ds : List D}, (∀ d ∈ ds, eqB n d = true) → eqL n ds = true
  | [], _ => by unfold eqL; rfl
  | d :: ds, h => by
    unfold eqL
    rw [h d (by simp), eqL_of fun e he => h e (by simp [he])]
    rfl
mutual
theorem eqB_eo : ∀ (n : Nat) (d : D), eqB n d = true → Eo n d
  | n, .non, _ => eo_non n
  | n, .bl b, _ => eo_bl n b
  | n, .int i, _ => eo_int n i
  | n, .str s, h => eo_str n s (by unfold eqB at h; exact h)
  | n + 1, .tup ds, h => by unfold eqB at h; exact eo_tup (eqL_eo n ds h)
  | n + 1, .lst ds, h => by unfold eqB at h; exact eo_lst (eqL_eo n ds h)
  | 0, .tup _, h => by unfold eqB at h; cases h
  | 0, .lst _, h => by unfold eqB at h; cases h
  | _, .scr _, h => by unfold eqB at h; cases h
  | _, .rd, h => by unfold eqB at h; cases h
  | _, .ins _ _, h => by unfold eqB at h; cases h
  | _, .nms _, h => by unfold eqB at h; cases h
  | _, .any, h => by unfold eqB at h; cases h
  | _, .dic _, h => by unfold eqB at h; cases h
  | _, .fr _, h => by unfold eqB at h; cases h
  | _, .raw _, h => by unfold eqB at h; cases h
theorem eqL_eo : ∀ (n : Nat) (ds : List D), eqL n ds = true → ∀ d ∈ ds, Eo n d
  | n, d :: ds, h, e, he => by
    unfold eqL at h
    rw [Bool.and_eq_true] at h
    rcases List.mem_cons.mp he with q | he
    · rw [q]; exact eqB_eo n d h.1
    · exact eqL_eo n ds h.2 e he
end
theorem deq_non : deq .non .non = true := by unfold deq py; rfl
mutual
theorem deq_self : ∀ (n : Nat) (d : D), eqB n d = true → deq d d = true
  | n, .non, _ => deq_non
  | n, .bl b, _ => by rw [deq_bl]; simp
  | n, .int i, _ => by rw [deq_int]; simp
  | n, .str s, h => by rw [deq_str]; simp
  | n + 1, .tup ds, h => by
    unfold eqB at h
    rw [deq_tup (eqL_eo n ds h) (eqL_eo n ds h)]
    exact deqL_self n ds h
  | n + 1, .lst ds, h => by
    unfold eqB at h
    rw [deq_lst (eqL_eo n ds h) (eqL_eo n ds h)]
    exact deqL_self n ds h
  | 0, .tup _, h => by unfold eqB at h; cases h
  | 0, .lst _, h => by unfold eqB at h; cases h
  | _, .scr _, h => by unfold eqB at h; cases h
  | _, .rd, h => by unfold eqB at h; cases h
  | _, .ins _ _, h => by unfold eqB at h; cases h
  | _, .nms _, h => by unfold eqB at h; cases h
  | _, .any, h => by unfold eqB at h; cases h
  | _, .dic _, h => by unfold eqB at h; cases h
  | _, .fr _, h => by unfold eqB at h; cases h
  | _, .raw _, h => by unfold eqB at h; cases h
theorem deqL_self : ∀ (n : Nat) (ds : List D), eqL n ds = true → deqL ds ds = true
  | _, [], _ => rfl
  | n, d :: ds, h => by
    unfold eqL at h
    rw [Bool.and_eq_true] at h
    show (deq d d && deqL ds ds) = true
    rw [deq_self n d h.1, deqL_self n ds h.2]
    rfl
end
theorem gNe_self {n : Nat} {d : D} (h : eqB n d = true) (hn : n ≤ 64) {Q : D → Prop} (q : Q (.bl false)) : gNe d d Q := ⟨(eqB_eo n d h).ok hn, (eqB_eo n d h).ok hn, by rw [deq_self n d h]; exact q⟩
end Dl
namespace Dl
open PySem PySem.Spec PyProof.Rows L2
section
variable {Γ : Kx} {W : WX} {tp : TE} {fp : DP}
end
section
variable {X : Cx} {C : Str → Addr} {W : WX} {e o : Expr} {i : Nat} {pos : Pos} {fp : DP}
end
section
variable {X : Cx} {C : Str → Addr} {W : WX} {bl : Str → Bool} {a : Expr} {fa : DE} {pos p : Pos}
end
end Dl
namespace Dl
open PySem PySem.Spec PyProof.Rows L2
section
variable {Γ : Kx} {W : WX} {H0 G G0 : Hp} {R R0 : Addr → Prop} {H : Hp} {σ : St} {ρ : En} {i : Nat}
end
section
variable {X : Cx} {C : Str → Addr} {W : WX} {sts : List Stmt} {g1 : DS}
end
section
variable {Γ : Kx} {W : WX} {G : Hp} {R : Addr → Prop}
theorem RpK.none {k : Key} : ∀ {kvs : List (Key × D)} {us : List (Key × V)}, RpK Γ G R kvs us → getK kvs k = none → valV us k = none
  | [], us, h, _ => by unfold RpK at h; subst h; rfl
  | (x, y) :: r, us, h, e => by
    unfold RpK at h
    obtain ⟨v, q, rfl, h1, h2⟩ := h
    unfold getK at e
    by_cases z : x = k
    · rw [if_pos z] at e; cases e
    · rw [if_neg z] at e
      rw [valV_neg z]
      exact RpK.none h2 e
end
section
variable {X : Cx} {C : Str → Addr} {W : WX} {k : Nat} {bl : Str → Bool} {a b e o : Expr} {fa fb fo : DE} {fp : DP} {pos p1 pos' : Pos} {x : Str} {i : Nat}
end
end Dl
namespace Dl
open PySem PySem.Spec PyProof.Rows L2
section
variable {Γ : Kx} {W : WX}
end
def tXof (Γ : Kx) (W : WX) (fx : DXE) : TE := fun σ H Q => ∃ (G0 : Hp) (R0 : Addr → Prop) (H0 G : Hp) (R : Addr → Prop) (ρ : En) (xq : XQ) (Qd : D → En → Prop), Nx G0 R0 H0 G R H ∧ Wd Γ H0 G R H σ ρ ∧ Lk Γ W xq σ G R H ∧ fx xq ρ Qd ∧
  ∀ v G' R' H' ρ' d, Nx G0 R0 H0 G' R' H' → Wd Γ H0 G' R' H' σ ρ' → Rp Γ G' R' d v → Qd d ρ' → Q v H'
section
variable {X : Cx} {C : Str → Addr} {W : WX} {k : Nat} {bl : Str → Bool} {a e elt iter : Expr} {fx : DXE} {fi : DA} {pos p xp : Pos} {x : Str} {i : Nat} {scope : Scope}
theorem CX.canon (h : CX X C W e fx) : PE X e (tXof ⟨X.K, C⟩ W fx) := let ⟨t, p, q⟩ := h; ⟨fun pins s σ H Q I ⟨G0, R0, H0, G, R, ρ, xq, Qd, n, w, x, f, z⟩ => p.run pins s σ H Q I (q G0 R0 H0 G R H σ ρ xq Qd Q n w x f z)⟩
end
section
variable {Γ : Kx} {W : WX} {te tp tk : TE} {fo fk : DE} {fp : DP}
end
section
variable {X : Cx} {C : Str → Addr} {W : WX} {k : Nat} {bl : Str → Bool} {a e o : Expr} {fk fo : DE} {fp : DP} {pos pos' : Pos}
end
end Dl
namespace Dl
open PySem PySem.Spec PyProof.Rows L2
section
variable {X : Cx} {CX : CXT} {k n : Nat} {f C : Addr} {fd : FuncData} {ps ks : List Str} {sp : Sp} {E : St → XK} {m x : Str} {p pos apos : Pos} {e o : Expr} {es : List Expr} {kws : List Keyword} {ta : TE} {t tk : TA} {g : List Value → List Value → List Value} {gV : List V → List V → List V}
theorem run_fnSN {pins : List (Addr × Obj)} {σ : St} {H : Hp} {s : Shared} {Q : VK} {us ws : List Value} {vs zs : List V} (F : FnOk X.prog X.w X.K X.mg X.base CX k f fd ps sp) (hr : Room k X.A) (hb : KBn X.K fd ps n ks g gV) (hx : PassesAt CX X σ (E σ))
    (I : Inv X pins σ H s) (r : Vals vs us) (rz : Vals zs ws) (l1 : vs.length = n) (l2 : zs.length = ks.length) (h : sp (gV vs zs) H Q (E σ)) : wpAny (model X.prog X.w) X.A (call (.ref f) us (ks.zip ws)) (EP X pins σ Q) X.xe s := by
  have r2 := hb.rel r rz
  refine wpAny_call (codeAny_mono (F.run X.A X.stack s H ⟨us, ks.zip ws⟩ (g us ws) (gV vs zs) Q (E σ) hr I.env0 (hb.to s us ws I.kIn (r.length.symm.trans l1) (rz.length.symm.trans l2)) r2 h) fun r s' hq => ?_)
  cases r with
  | error e => exact hx pins _ _ e s' I hq
  | ok fl =>
    cases fl with
    | ret u => exact I.after hq
    | next => exact False.elim hq
    | brk => exact False.elim hq
    | cont => exact False.elim hq
def tMethSN (C : Addr) (m : Str) (n mm : Nat) (sp : Sp) (gV : List V → List V → List V) (E : St → XK) (ta : TE) (t tk : TA) : TE := fun σ H Q => ta σ H fun x H1 => ∃ a dx fs, x = .ref a ∧ H1 a = some (.ins C dx fs) ∧ fs.lookup m = none ∧
  t σ H1 fun vs H2 => tk σ H2 fun zs H3 => vs.length = n ∧ zs.length = mm ∧ sp (gV (.ref a :: vs) zs) H3 Q (E σ)
theorem pe_methSN {pl : Sem Bool} (he : PE X o ta) (c : Cls X.K C) (hm : Meth X.K C m f) (F : FnOk X.prog X.w X.K X.mg X.base CX k f fd ps sp) (hr : Room k X.A) (hb : KBn X.K fd ps (n + 1) ks g gV) (hx : ∀ σ, PassesAt CX X σ (E σ)) (ha : PA X (e :: es) t) (hkw : PK X kws tk)
    (hall : (backToKw pos (keywordEach kws X.env)).all (·.1.isSome) = true := by rfl) (hks : (backToKw pos (keywordEach kws X.env)).filterMap (·.1) = ks := by rfl)
    (hst : starEach (e :: es) X.env = (false, eval e X.env) :: starEach es X.env := by rfl)
    (hpl : ((backTo pos (starEach (e :: es) X.env)).any (·.1) || (backToKw pos (keywordEach kws X.env)).any (·.1.isNone)) = false := by rfl)
    (ht : eval (.Call (.Attribute o m apos) (e :: es) kws pos) X.env = (do
      let ov ← eval o X.env
      standAt apos.atName
      let (f, first) ← holding [ov] (getMethod ov m pl)
      callWith pos f first (backTo pos (starEach (e :: es) X.env)) (backToKw pos (keywordEach kws X.env))) := by rfl) :
    PE X (.Call (.Attribute o m apos) (e :: es) kws pos) (tMethSN C m n ks.length sp gV E ta t tk) := by
  refine ⟨fun pins s σ H Q I h => ?_⟩
  refine PySem.W.methodCall_KW (pl := pl) (thn (he.run pins s σ H _ I h) fun u s1 ⟨x, H1, I1, rx, a, dx, fs, ex, ea, l, q⟩ => ?_) ht
  subst ex
  obtain rfl : u = Value.ref a := rx
  refine getmeth_ok I1 ea c hm l ?_
  refine PySem.W.callWith_KW (first := [.ref a]) (h₀ := X.base) I.ok.mod.kin hm.kp hall (thn (ha.run pos pins s1 σ H1 _ I1 q) fun us s2 ⟨vs, H2, I2, r, q2⟩ => ?_) hpl hst
  refine thn (hkw.run pos pins s2 σ H2 _ I2 q2) fun ws s3 ⟨zs, H3, I3, rz, l1, l2, q3⟩ => ⟨I3.kIn, ?_⟩
  rw [hks]
  exact run_fnSN (us := .ref a :: us) (vs := .ref a :: vs) F hr hb (hx σ) I3 (.cons rfl r) rz (congrArg Nat.succ l1) l2 q3
end
end Dl
namespace Dl
open PySem PySem.Spec PyProof.Rows L2
def pkL (pat : List (Bool × Nat)) {α : Type} (us its ws : List α) : List α := us ++ pat.flatMap fun p => if p.1 then (ws.drop p.2).take 1 else (its.drop p.2).take 1
structure Sg where
  n : Nat
  ks : List Str
  pat : List (Bool × Nat)
  dd : List D
theorem pkV {pat : List (Bool × Nat)} {vs ds zs : List V} {us its ws : List Value} (h : Vals vs us) (h1 : Vals ds its) (h2 : Vals zs ws) : Vals (pkL pat vs ds zs) (pkL pat us its ws) := by
  unfold pkL
  refine h.append ?_
  induction pat with
  | nil => exact .nil
  | cons p r ih =>
    rw [List.flatMap_cons, List.flatMap_cons]
    refine Vals.append ?_ ih
    split
    · exact (h2.drop _).take _
    · exact (h1.drop _).take _
section
variable {Γ : Kx} {G : Hp} {R : Addr → Prop}
theorem RpL.app {ds es : List D} {vs zs : List V} (h : RpL Γ G R ds vs) (h' : RpL Γ G R es zs) : RpL Γ G R (ds ++ es) (vs ++ zs) := by
  induction ds generalizing vs with
  | nil => unfold RpL at h; subst h; exact h'
  | cons d ds ih =>
    unfold RpL at h
    obtain ⟨v, q, rfl, h1, h2⟩ := h
    exact RpL.cons h1 (ih h2)
theorem RpL.dr {ds : List D} {vs : List V} (i : Nat) (h : RpL Γ G R ds vs) : RpL Γ G R (ds.drop i) (vs.drop i) := by
  induction i generalizing ds vs with
  | zero => exact h
  | succ i ih =>
    cases ds with
    | nil => unfold RpL at h; subst h; exact RpL.nil
    | cons d ds =>
      unfold RpL at h
      obtain ⟨v, q, rfl, h1, h2⟩ := h
      exact ih h2
theorem RpL.tk1 {ds : List D} {vs : List V} (h : RpL Γ G R ds vs) : RpL Γ G R (ds.take 1) (vs.take 1) := by
  cases ds with
  | nil => unfold RpL at h; subst h; exact RpL.nil
  | cons d ds =>
    unfold RpL at h
    obtain ⟨v, q, rfl, h1, h2⟩ := h
    exact RpL.cons h1 RpL.nil
theorem pkR {pat : List (Bool × Nat)} {ds dd es : List D} {vs dvs zs : List V} (h : RpL Γ G R ds vs) (h1 : RpL Γ G R dd dvs) (h2 : RpL Γ G R es zs) : RpL Γ G R (pkL pat ds dd es) (pkL pat vs dvs zs) := by
  unfold pkL
  refine h.app ?_
  induction pat with
  | nil => exact RpL.nil
  | cons p r ih =>
    rw [List.flatMap_cons, List.flatMap_cons]
    refine RpL.app ?_ ih
    split
    · exact (h2.dr _).tk1
    · exact (h1.dr _).tk1
end
def SgOk (Γ : Kx) (fd : FuncData) (ps : List Str) (e : Nat) (s : Sg) : Prop := ∃ (g : List Value → List Value → List Value) (dvs : List V), KBn Γ.K fd ps (s.n + e) s.ks g (fun vs zs => pkL s.pat vs dvs zs) ∧ ∀ (G : Hp) (R : Addr → Prop), RpL Γ G R s.dd dvs
section
variable (P : Program) (w : World) (K : PySem.W.Frag) (mg : Str → Option Value) (base : Heap) (C : Str → Addr) (k : Nat)
structure CalN (x : Str) (sg : List Sg) (S : DF) : Prop where
  ex : ∃ (f : Addr) (fd : FuncData) (ps : List Str), FnOk P w K mg base (L2.CX P w) k f fd ps (spD ⟨K, C⟩ S) ∧ mg x = some (.ref f) ∧ PySem.W.keepIn K (.ref f) = true ∧ ∀ s ∈ sg, SgOk ⟨K, C⟩ fd ps 0 s
structure CalMN (c m : Str) (sg : List Sg) (S : DF) : Prop where
  ex : ∃ (f : Addr) (fd : FuncData) (ps : List Str), FnOk P w K mg base (L2.CX P w) k f fd ps (spD ⟨K, C⟩ S) ∧ Meth K (C c) m f ∧ Cls K (C c) ∧ ∀ s ∈ sg, SgOk ⟨K, C⟩ fd ps 1 s
structure CalIN (c : Str) (sg : List Sg) (S : DI) : Prop where
  ex : ∃ (f : Addr) (fd : FuncData) (ps : List Str), FnOk P w K mg base (L2.CX P w) k f fd ps (spI ⟨K, C⟩ c S) ∧ Mk K (C c) f ∧ mg c = some (.ref (C c)) ∧ ∀ s ∈ sg, SgOk ⟨K, C⟩ fd ps 1 s
structure CalISN (c : Str) (sg : List Sg) (S : DI) : Prop where
  ex : ∃ (f : Addr) (fd : FuncData) (ps : List Str), FnOk P w K mg base (L2.CX P w) k f fd ps (spIS ⟨K, C⟩ c S) ∧ Mk K (C c) f ∧ mg c = some (.ref (C c)) ∧ ∀ s ∈ sg, SgOk ⟨K, C⟩ fd ps 1 s
end
section
variable {P : Program} {w : World} {K : PySem.W.Frag} {mg : Str → Option Value} {base : Heap} {C : Str → Addr} {j k : Nat} {sg : List Sg}
theorem CalN.mono {x : Str} {S : DF} (h : CalN P w K mg base C k x sg S) (i : k ≤ j) : CalN P w K mg base C j x sg S := let ⟨f, fd, ps, F, m, kp, b⟩ := h.ex; ⟨f, fd, ps, F.mono i, m, kp, b⟩
theorem CalMN.mono {c m : Str} {S : DF} (h : CalMN P w K mg base C k c m sg S) (i : k ≤ j) : CalMN P w K mg base C j c m sg S := let ⟨f, fd, ps, F, m, kp, b⟩ := h.ex; ⟨f, fd, ps, F.mono i, m, kp, b⟩
theorem CalIN.mono {c : Str} {S : DI} (h : CalIN P w K mg base C k c sg S) (i : k ≤ j) : CalIN P w K mg base C j c sg S := let ⟨f, fd, ps, F, m, kp, b⟩ := h.ex; ⟨f, fd, ps, F.mono i, m, kp, b⟩
theorem CalISN.mono {c : Str} {S : DI} (h : CalISN P w K mg base C k c sg S) (i : k ≤ j) : CalISN P w K mg base C j c sg S := let ⟨f, fd, ps, F, m, kp, b⟩ := h.ex; ⟨f, fd, ps, F.mono i, m, kp, b⟩
end
def dMethN (c m : Str) (s : Sg) (S : DF) (fo : DE) (fa fk : DA) : DE := fun xq ρ Q => fo xq ρ fun x => (∃ fs, x = .ins c fs ∧ fs.lookup m = none) ∧ fa xq ρ fun ds => fk xq ρ fun es => S (pkL s.pat (x :: ds) s.dd es) Q xq
section
variable {Γ : Kx} {W : WX} {to : TE} {fo : DE} {ta tk : TA} {fa fk : DA} {s : Sg} {dvs : List V}
theorem je_methN {c m : Str} {S : DF} (hd : ∀ (G : Hp) (R : Addr → Prop), RpL Γ G R s.dd dvs) (o : JE Γ W to fo) (a : JAn Γ W ta fa s.n) (b : JAn Γ W tk fk s.ks.length) : JE Γ W (tMethSN (Γ.C c) m s.n s.ks.length (spD Γ S) (fun vs zs => pkL s.pat vs dvs zs) (WE W) to ta tk) (dMethN c m s S fo fa fk) := fun H0 G R H σ ρ xq Qd Q w x f k =>
  o H0 G R H σ ρ xq _ _ w x f fun v G0 R0 H0' d n0 r0 ⟨⟨fs, e, l⟩, q0⟩ => by
    subst e
    have r0' := r0
    unfold Rp at r0'
    obtain ⟨a', dx, vs, ev, h, rf⟩ := r0'
    subst ev
    refine ⟨a', dx, vs, rfl, n0.gd.sub _ _ h, rf.lookup_none l, a H0 G0 R0 H0' σ ρ xq _ _ (w.nx n0) (x.nx n0) q0 fun us G1 R1 H1 ds n1 r1 l1 q1 => b H0 G1 R1 H1 σ ρ xq _ _ ((w.nx n0).nx n1) ((x.nx n0).nx n1) q1 fun zs G2 R2 H2 es n2 r2 l2 q2 => ?_⟩
    have n12 := n1.trans n2
    have n := n0.trans n12
    exact ⟨l1, l2, G2, R2, pkL s.pat (.ins c fs :: ds) s.dd es, Qd, xq, n2.gd, pkR (RpL.cons (Rp.mono n12.gg n12.rr _ _ r0) (RpL.mono n2.gg n2.rr ds us r1)) (hd _ _) r2, q2, fun v G' R' H' d m r q => k v G' R' H' d (n.trans m) r q, fun c fs G' R' H' cls dx m => x.nx n c fs G' R' H' cls dx m⟩
variable {te : TE} {fe : DE} {n : Nat}
end
section
variable (X : Cx) (C : Str → Addr) (W : WX)
def CK (kws : List Keyword) (fa : DA) (n : Nat) : Prop := ∃ ta, PK X kws ta ∧ JAn ⟨X.K, C⟩ W ta fa n
end
section
variable {X : Cx} {C : Str → Addr} {W : WX} {k j n : Nat} {bl : Str → Bool} {a e : Expr} {es : List Expr} {fa fe : DE} {fr fk fs : DA} {pos p apos kpos : Pos} {x c m y : Str} {kws : List Keyword} {sg : List Sg} {s : Sg}
theorem ck_nil : CK X C W [] dNil 0 := ⟨_, pk_nil, jan_nil⟩
theorem ck_cons (h : CE X C W e fe) (h' : CK X C W kws fk n) : CK X C W (⟨some y, e, kpos⟩ :: kws) (dCons fe fk) (n + 1) := let ⟨_, p, q⟩ := h; let ⟨_, p', q'⟩ := h'; ⟨_, pk_cons p p', jan_cons q q'⟩
theorem ce_methN {S : DF} {pl : Sem Bool} (i : Nat) (h : CalMN X.prog X.w X.K X.mg X.base C j c m sg S) (g : GE X W k bl) (ho : CE X C W a fa) (ha : CA X C W (e :: es) fr s.n) (hkw : CK X C W kws fk s.ks.length) (hi : sg[i]? = some s := by rfl) (hk : j ≤ k := by decide)
    (hall : (backToKw pos (keywordEach kws X.env)).all (·.1.isSome) = true := by rfl) (hks : (backToKw pos (keywordEach kws X.env)).filterMap (·.1) = s.ks := by rfl)
    (hst : starEach (e :: es) X.env = (false, eval e X.env) :: starEach es X.env := by rfl)
    (hpl : ((backTo pos (starEach (e :: es) X.env)).any (·.1) || (backToKw pos (keywordEach kws X.env)).any (·.1.isNone)) = false := by rfl)
    (ht : eval (.Call (.Attribute a m apos) (e :: es) kws pos) X.env = (do
      let ov ← eval a X.env
      standAt apos.atName
      let (f, first) ← holding [ov] (getMethod ov m pl)
      callWith pos f first (backTo pos (starEach (e :: es) X.env)) (backToKw pos (keywordEach kws X.env))) := by rfl) : CE X C W (.Call (.Attribute a m apos) (e :: es) kws pos) (dMethN c m s S fa fr fk) :=
  let ⟨_, p1, q1⟩ := ho
  let ⟨_, p2, q2⟩ := ha
  let ⟨_, p3, q3⟩ := hkw
  let ⟨_, _, _, F, hm, hc, hb⟩ := h.ex
  let ⟨_, _, hb, hd⟩ := hb s (List.mem_of_getElem? hi)
  ⟨_, pe_methSN (pl := pl) p1 hc hm F (g.room.mono hk) hb (fun σ => passAt g.tk σ) p2 p3 hall hks hst hpl ht, je_methN hd q1 q2 q3⟩
end
section
variable {K : PySem.W.Frag} {C : Str → Addr} {x qual : Str} {params : Arguments} {body : List Stmt} {scope : Scope} {dvs : List V} {kws : List (Str × V)} {f : Addr} {fd : FuncData} {ps : List Str}
theorem sg0 (F : FunD K x qual params body scope [] kws f fd) (s : Sg) (e : Nat) (ms : List (Str × V)) (hk : kws ≠ []) (hms : ∀ q ∈ ms, q ∈ kws) (hd : ∀ (G : Hp) (R : Addr → Prop), RpL ⟨K, C⟩ G R s.dd (ms.map (·.2)))
    (h : ∀ (D : Addr) (doc pm : Value) (an : Option Addr) (cdv ct : Value) (us mv ws : List Value), us.length = s.n + e → mv.length = ms.length → ws.length = s.ks.length →
      KwChain D ((ms.map (·.1)).zip mv) (bindArgs (PySem.W.fnOf x qual params body scope .none (.ref D) doc pm an cdv ct) ⟨us, s.ks.zip ws⟩) (ps.zip (pkL s.pat us mv ws))) : SgOk ⟨K, C⟩ fd ps e s :=
  let ⟨_, b⟩ := FunD.kbinds0 F (s.n + e) s.ks ms (fun us mv ws => pkL s.pat us mv ws) hk hms (fun h1 h2 h3 => pkV h1 h2 h3) h
  ⟨_, _, b, hd⟩
end
section
variable {P : Program} {w : World} {K : PySem.W.Frag} {mg : Str → Option Value} {base : Heap} {C : Str → Addr} {bl : Str → Bool} {c m q x : Str} {params : Arguments} {body : List Stmt} {sc : Scope} {N ps : List Str} {dvs : List V} {kws : List (Str × V)} {f : Addr} {fd : FuncData} {k : Nat} {fs : DS} {sg : List Sg}
theorem dmethN {S : DF} (F : FunD K m q params body sc dvs kws f fd) (hm : Meth K (C c) m f) (hc : Cls K (C c)) (Sc : FnScope N ps sc) (hb : ∀ s ∈ sg, SgOk ⟨K, C⟩ fd ps 1 s) (hbl : ∀ n, bl n = true → mg n = none) (len : ∀ ds Q Xq, S ds Q Xq → ds.length = ps.length)
    (hbody : ∀ (cdv : Value) (A : Around) (outer : List PySem.Env) (s : Shared) (H : Hp) (E : XK), GS (cxD P w K mg base N q sc f cdv A outer s H E) (wD E) k bl → CSs (cxD P w K mg base N q sc f cdv A outer s H E) C (wD E) body fs)
    (spec : ∀ ds Qd Xq, S ds Qd Xq → fs (kD Qd Xq) (startD N.length ds)) : CalMN P w K mg base C (k + 1) c m sg S :=
  ⟨f, fd, ps, dfnQ F Sc hbl len hbody spec, hm, hc, hb⟩
end
@[simp] theorem pkL_nil {α : Type} {us its ws : List α} : pkL [] us its ws = us := by simp [pkL]
end Dl
namespace Dl
open PySem PySem.Spec PyProof.Rows L2
def dleR : D → D → Bool := PySem.W.dataLe true pyD
def rSortDR (K : PySem.W.Frag) : List V → List V → Hp → VK → Prop := fun vs zs H Q => ∃ (a : Addr) (xs : List V) (ds : List D), vs = [.ref a] ∧ zs = [.bl true] ∧ SqL K H a xs ∧ DpAll K H xs (ds.map pyD) ∧ SortOk ds ∧
  ∀ p, H p = none → Q (.ref p) (upd H p (.lst (((xs.zip ds).mergeSort (PySem.W.dataLe true fun z => pyD z.2)).map Prod.fst)))
theorem cr_sortedDR {X : Cx} (hu : X.A.units + 70 < cLine) : CallRK X (.builtin "sorted") ["reverse"] (rSortDR X.K) := by
  intro pins s σ H vs zs us ws Q I r rz h
  obtain ⟨a, xs, ds, rfl, rfl, hs, hd, ok, q⟩ := h
  rw [Vals.ref1 r]
  have ew : ws = [Value.bool true] := by
    cases rz with
    | cons h t =>
      cases t
      rw [show _ = Value.bool true from h]
  subst ew
  have hlen : xs.length = ds.length := by rw [dpAll_len hd, List.length_map]
  have henc := zip_enc hlen
  have hal : PySem.W.AllAlike ((xs.zip ds).map fun z => pyD z.2) := by rw [henc]; exact ok.al
  have hk : Sortable2 ((xs.zip ds).map fun z => pyD z.2) := by rw [henc]; exact ok.so
  have hb : ∀ b, b ∈ xs.zip ds → X.A.units + 2 + (pyD b.2).depth < cLine := fun b hb => by
    have := (eqOk_depth (ok.ok b.2 (List.of_mem_zip hb).2)).2
    omega
  have hzl : (xs.zip ds).length = xs.length := by rw [List.length_zip, hlen]; omega
  obtain ⟨its, rv, pl, hz⟩ := I.list hs
  obtain ⟨e1, e2⟩ := readsAll_of I rv hd
  have er' : PySem.W.EachIs (fun v (b : V × D) => ∃ as, Reads (PySem.W.sortingHeap (PySem.W.copyHeap s.heap its) (s.heap.objs.size + 1) its) v (pyD b.2) as) its (xs.zip ds) := e2.mono fun _ _ ⟨as, r⟩ => ⟨as, PyProof.Rows.Reads.keeps (fun _ _ => PySem.W.sorting_copy_old) r⟩
  show wpAny _ _ (call (.builtin "sorted") [.ref a] [(("reverse" : Str), .bool true)]) _ _ _
  refine PySem.W.sorted_rev_vals pl.isList (Dl.SortsAt.any (s := { s with heap := PySem.W.sortingHeap (PySem.W.copyHeap s.heap its) (s.heap.objs.size + 1) its })
    (PySem.W.each_map (R := fun v d => ∃ as, Reads (PySem.W.sortingHeap (PySem.W.copyHeap s.heap its) (s.heap.objs.size + 1) its) v d as) (fun b : V × D => pyD b.2) er') hal hk (PySem.W.bound_map hb)) (by rw [← rv.length]; exact hz) ?_
  have fin : ∀ out : List Value, out.length = (xs.zip ds).length → PySem.W.EachIs (fun u (z : V × D) => RelV z.1 u) out ((xs.zip ds).mergeSort (PySem.W.dataLe true fun z => pyD z.2)) → EP X pins σ Q (.ref (s.heap.objs.size + 1)) { s with heap := sortedAll s.heap its (List.toArray out) } := fun out ho eo => by
    obtain ⟨ep, he'⟩ := PyProof.Rows.sortedAll_at s.heap its out.toArray
    have hl2 : (((xs.zip ds).mergeSort (PySem.W.dataLe true fun z => pyD z.2)).map Prod.fst).length ≤ sizeLine := by rw [List.length_map, List.length_mergeSort, hzl]; exact hz
    exact ⟨.ref _, _, I.laid (t' := s.toks) (o := .lst (((xs.zip ds).mergeSort (PySem.W.dataLe true fun z => pyD z.2)).map Prod.fst)) (fun _ _ => PyProof.Rows.sortedAll_old) (Nat.le_succ _) ⟨hl2, out, ep, each_vals eo, he'⟩, rfl, q _ (I.hok.fresh (Nat.le_succ _))⟩
  exact fin _ ((PySem.W.sortVals_length true rfl).trans (by rw [← rv.length, hzl])) (PySem.W.sortVals_data true e1 er' hal)
def gSortedR (x : D) (Q : List D → Prop) : Prop := match x with
  | .lst ds => SortOk ds ∧ Q (ds.mergeSort dleR)
  | _ => False
theorem sorted_rpR {Γ : Kx} {G : Hp} {R : Addr → Prop} {ds : List D} {vs : List V} (r : RpL Γ G R ds vs) : RpL Γ G R (ds.mergeSort dleR) (((vs.zip ds).mergeSort (PySem.W.dataLe true fun z => pyD z.2)).map Prod.fst) := by
  have hl := r.len
  have e : ds.mergeSort dleR = ((vs.zip ds).mergeSort (PySem.W.dataLe true fun z => pyD z.2)).map Prod.snd := by
    have m := List.map_mergeSort (r := PySem.W.dataLe true fun z : V × D => pyD z.2) (s := dleR) (f := Prod.snd) (l := vs.zip ds) (fun a _ b _ => rfl)
    rw [m, show (vs.zip ds).map Prod.snd = ds from List.map_snd_zip (by omega)]
  rw [e]
  have all : ∀ z ∈ (vs.zip ds).mergeSort (PySem.W.dataLe true fun z => pyD z.2), Rp Γ G R z.2 z.1 := fun z hz => by
    have hz' := (List.mergeSort_perm _ _).mem_iff.mp hz
    obtain ⟨i, hi⟩ := List.getElem?_of_mem hz'
    rw [List.getElem?_zip_eq_some] at hi
    obtain ⟨v, e1, q⟩ := r.get hi.2
    rw [hi.1] at e1
    cases e1
    exact q
  generalize (vs.zip ds).mergeSort (PySem.W.dataLe true fun z => pyD z.2) = zs at all
  clear e hl r
  induction zs with
  | nil => exact RpL.nil
  | cons z zs ih => exact RpL.cons (all z (List.mem_cons_self ..)) (ih fun y hy => all y (List.mem_cons_of_mem _ hy))
theorem n1_sortedR {Γ : Kx} : N1 Γ (fun v H Q => rSortDR Γ.K [v] [.bl true] H Q) gSortedR := fun G R H d v Qd Q gd r1 g k => by
  unfold gSortedR at g
  split at g
  · obtain ⟨a, vs, e1, h1, l1⟩ := r1.lst gd
    exact ⟨a, vs, _, by rw [e1], rfl, SqL.of h1, dpAll_of gd.sub l1 g.1.ok, g.1, new_open gd (sorted_rpR l1) g.2 k⟩
  · exact g.elim
theorem jn_sortR {Γ : Kx} {W : WX} {ta : TE} {fa : DE} (a : JQ Γ W ta fa) : JN Γ W (tCKw (rSortDR Γ.K) (tCons ta tNil) (tCons (tC (.bl true)) tNil)) (n1 gSortedR fa) :=
  show JN Γ W (fun σ H Q => ta σ H fun x H1 => rSortDR Γ.K [x] [.bl true] H1 Q) (n1 gSortedR fa) from jn_u (r := fun v H Q => rSortDR Γ.K [v] [.bl true] H Q) n1_sortedR a
theorem cn_sortedR {X : Cx} {C : Str → Addr} {W : WX} {k j : Nat} {bl : Str → Bool} {a : Expr} {fa : DE} {p p2 kpos pos : Pos} (g : GE X W k bl) (h : CQ X C W a fa) (hb : bl "sorted" = true := by decide +kernel) (hg : Gl X "sorted" := by rfl) (he : starEach [a] X.env = (false, eval a X.env) :: starEach [] X.env := by rfl) :
    CN X C W (.Call (.Name "sorted" p) [a] [⟨some "reverse", .Constant (.bool true) j p2, kpos⟩] pos) (n1 gSortedR fa) :=
  let ⟨_, p, q⟩ := h; ⟨_, pe_callBK (cr_sortedDR (by have := g.room.un; omega)) hg (g.bl _ hb) (by decide +kernel) (pa_cons p pa_nil he) (pk_cons pe_bl pk_nil) (by decide) (by decide) (by rw [he]; rfl) (by rw [he]; rfl), jn_sortR q⟩
end Dl
namespace Dl
open PySem PySem.Spec PyProof.Rows L2
theorem tuple_mul1 (l : Addr) (items : Array Value) (n : Nat) (dd : Option Addr) (sl : Array (Option Value)) (u : Tok) :
    Meets (Builtin.«tuple.__mul__» ⟨[.ref l, .int 1 u], []⟩) (fun _ R s => s.heap.get? l = some { cls := .type "tuple", dict := dd, data := .seq items n, slots := sl } ∧ R (.ok (.ret (Value.ref l))) s) :=
  .of_wp fun prog w A R s h => by
    obtain ⟨hp, g, d, tk, os⟩ := s
    obtain ⟨hl, h⟩ := h
    have f1 := AutoSeq1.idx_int
    have c1 : (items.isEmpty || (1 : Int) == 1) = true := by simp
    wp_walk using wpAny_loadPart' hl
    repeat (first
      | (refine wpAny_ite_false (decide_eq_false (by decide)) ?_; wp_walk using wpAny_loadPart' hl)
      | (refine wpAny_ite_true (decide_eq_true (by rw [c1])) ?_; wp_walk using wpAny_loadPart' hl))
    exact ⟨_, rfl, h⟩
def rRepT1 (K : PySem.W.Frag) : R2 := fun x y H Q => ∃ l xs, x = .ref l ∧ y = .int 1 ∧ SqT K H l xs ∧ Q (.ref l) H
theorem op_repT1 {X : Cx} : OpR X (binaryOp .Mult) (rRepT1 X.K) := by
  intro pins s σ H x y v u Q I rx ry h
  obtain ⟨l, xs, rfl, rfl, hT, q⟩ := h
  cases rx
  obtain ⟨t, rfl⟩ := ry
  obtain ⟨its, r, ⟨⟨cls, dd, data, sl⟩, ho, hc, n, hd⟩, hs⟩ := I.tuple hT
  simp only at hc hd
  subst hc hd
  refine wpAny_binaryOp_repeat_ref (T := "tuple") (U := "int") (by decide) ⟨_, ho, rfl⟩ (fun s' => typeIs_int s' 1 t) noFill_tuple_mul F.fills_int_mul F.slot_int_rmul repeat_tuple F.slot_int_index.lookup
    (call_meets F.slot_int_rmul (typeIs_int s 1 t) F.entry_int_rmul (F.args_int_rmul_2 _ _) (int_rmul_tuple 1 t l its.toArray n dd sl)
      ⟨ho, rfl, ⟨_, ho, rfl⟩, call_meets F.slot_tuple_mul ⟨_, ho, rfl⟩ F.entry_tuple_mul (F.args_tuple_mul_2 _ _) (tuple_mul1 l its.toArray n dd sl t) ⟨ho, ?_⟩⟩)
  exact ⟨.ref l, H, I, rfl, q⟩
def gRepT (x y : D) (Q : D → Prop) : Prop := match x, y with
  | .tup ds, .int k => ds ≠ [] ∧ 1 ≤ k ∧ k ≤ 1000 ∧ ds.length ≤ 1000 ∧ Q (.tup (List.replicate k.toNat ds).flatten)
  | _, _ => False
theorem RpL.rep {Γ : Kx} {G : Hp} {R : Addr → Prop} {ds : List D} {vs : List V} (r : RpL Γ G R ds vs) : ∀ m : Nat, RpL Γ G R (List.replicate m ds).flatten (List.replicate m vs).flatten
  | 0 => RpL.nil
  | m + 1 => by
    rw [List.replicate_succ, List.replicate_succ, List.flatten_cons, List.flatten_cons]
    exact r.app (RpL.rep r m)
theorem u2_repT {Γ : Kx} : U2 Γ (fun x y H Q => rRepT1 Γ.K x y H Q ∨ rRepT Γ.K x y H Q) gRepT := fun G R H d e v u Qd Q gd r1 r2 g k => by
  unfold gRepT at g
  split at g
  · rename_i ds i
    obtain ⟨h0, h1, h2, h3, q⟩ := g
    obtain ⟨a, vs, e1, ht, l1⟩ := r1.tup gd
    have e2 := r2.int
    by_cases hi : i = 1
    · subst hi
      have r1' : Rp Γ G R (.tup ds) v := r1
      refine .inl ⟨a, vs, e1, e2, ht, ?_⟩
      rw [← e1]
      exact k v G R H _ (Nx.refl gd) r1' (by simpa using q)
    · exact .inr ⟨a, i, vs, e1, e2, ht, fun z => h0 (List.eq_nil_of_length_eq_zero (by rw [l1.len, z]; rfl)), by omega, h2, by rw [← l1.len]; exact h3, new_tup gd (l1.rep i.toNat) q k⟩
  · exact g.elim
theorem ce_repT {X : Cx} {C : Str → Addr} {W : WX} {a b : Expr} {fa fb : DE} {pos : Pos} (h : CQ X C W a fa) (h' : CQ X C W b fb) : CE X C W (.BinOp a .Mult b pos) (d2 gRepT fa fb) := let ⟨_, p, q⟩ := h; let ⟨_, p', q'⟩ := h'; ⟨_, pe_op (opR_or op_repT1 op_repT) p p', je_op u2_repT q q'⟩
end Dl
namespace K11
open PySem L2 Dl Con
def b_Contract___init__ (S_frozen : DF) (S_check_contract : DF) : DS :=
  dSeq (dSetF 0 ["Contract"] "letters" (dSee (dVar 1)))
  (dSeq (dSetF 0 ["Contract"] "answers" (dSee (dVar 2)))
  (dSeq (dSetF 0 ["Contract"] "states" (dSee (dCall S_frozen (dCons (dVar 3) dNil))))
  (dExpr (dSee (dCall S_check_contract (dCons (dVar 1) (dCons (dVar 2) (dCons (dFldI 0 ["Contract"] "states") dNil))))))))
def b_Contract_with_row_r1 (S_replaced : DF) (S_Contract_with_state : DF) : DS :=
  dRet (dMeth "Contract" "with_state" S_Contract_with_state (dVar 0) (dCons (dVar 1) (dCons (dTup (dCons (dVar 4) (dCons (dVar 5) (dCons (dVar 6) (dCons (dVar 7) (dCons (dVar 8) dNil)))))) dNil)))
def b_Contract_with_row (S_replaced : DF) (S_Contract_with_state : DF) : DS :=
  dSeq (dAsg (bTup [4, 5, 6, 7, 8]) (d2 gIx (d1 (gFld ["Contract"] "states") (dVar 0)) (dVar 1)))
  (dSeq (dIfS (dB (d2 gEq (d2 gIx (dVar 2) (dC (.int 0))) (dC (.str "read"))))
    (dSet 4 (dCall S_replaced (dCons (dVar 4) (dCons (d2 gIx (dVar 2) (dC (.int 1))) (dCons (dVar 3) dNil)))))
    (dIfS (dB (d2 gEq (d2 gIx (dVar 2) (dC (.int 0))) (dC (.str "write"))))
      (dSet 6 (dCall S_replaced (dCons (dVar 6) (dCons (d2 gIx (dVar 2) (dC (.int 1))) (dCons (dVar 3) dNil)))))
      (dSet 5 (dVar 3))))
  (b_Contract_with_row_r1 S_replaced S_Contract_with_state))
abbrev sg_Contract_with_flags_0 : Sg := ⟨1, ["finish", "silence"], [(true, 0), (true, 1)], []⟩
abbrev sg_Contract_with_flags_1 : Sg := ⟨1, [], [(false, 0), (false, 1)], [.non, .non]⟩
abbrev sg_Contract_with_flags_2 : Sg := ⟨1, ["finish"], [(true, 0), (false, 0)], [.non]⟩
abbrev sg_Contract_with_flags_3 : Sg := ⟨1, ["silence"], [(false, 0), (true, 0)], [.non]⟩
abbrev SG_Contract_with_flags : List Sg := [sg_Contract_with_flags_0, sg_Contract_with_flags_1, sg_Contract_with_flags_2, sg_Contract_with_flags_3]
def b_Contract_with_flags_r1 (S_Contract_with_state : DF) : DS :=
  dRet (dMeth "Contract" "with_state" S_Contract_with_state (dVar 0) (dCons (dVar 1) (dCons (dTup (dCons (dVar 4) (dCons (dVar 5) (dCons (dVar 6) (dCons (dVar 7) (dCons (dVar 8) dNil)))))) dNil)))
def b_Contract_with_flags_r2 (S_Contract_with_state : DF) : DS :=
  dSeq (dIfS (dB (d2 gNotN (dVar 3) (dC .non)))
    (dSet 8 (dVar 3))
    dNext)
  (b_Contract_with_flags_r1 S_Contract_with_state)
def b_Contract_with_flags (S_Contract_with_state : DF) : DS :=
  dSeq (dAsg (bTup [4, 5, 6, 7, 8]) (d2 gIx (d1 (gFld ["Contract"] "states") (dVar 0)) (dVar 1)))
  (dSeq (dIfS (dB (d2 gNotN (dVar 2) (dC .non)))
    (dSet 7 (dVar 2))
    dNext)
  (b_Contract_with_flags_r2 S_Contract_with_state))
def b_Contract_with_state (S_Contract : DI) (S_replaced : DF) : DS :=
  dRet (dMake "Contract" S_Contract (dCons (d1 (gFld ["Contract"] "letters") (dVar 0)) (dCons (d1 (gFld ["Contract"] "answers") (dVar 0)) (dCons (dCall S_replaced (dCons (d1 (gFld ["Contract"] "states") (dVar 0)) (dCons (dVar 1) (dCons (dVar 2) dNil)))) dNil))))
def b_replaced : DS :=
  dRet (d2 gAdd (d2 gAdd (dSl (dVar 0) oNo (oSome (dVar 1))) (dTup (dCons (dVar 2) dNil))) (dSl (dVar 0) (oSome (d2 gAdd (dVar 1) (dC (.int 1)))) oNo))
def b__law_put : DS :=
  dRet (d2 gAdd (d2 gAdd (dSl (dVar 0) oNo (oSome (dVar 1))) (dTup (dCons (dVar 2) dNil))) (dSl (dVar 0) (oSome (d2 gAdd (dVar 1) (dC (.int 1)))) oNo))
def b__law_turned_row_r1 (S__law_put : DF) : DS :=
  dRet (dCall S__law_put (dCons (dVar 0) (dCons (dVar 1) (dCons (dVar 4) dNil))))
def b__law_turned_row (S__law_put : DF) : DS :=
  dSeq (dSet 4 (d2 gIx (dVar 0) (dVar 1)))
  (dSeq (dIfS (dB (d2 gEq (d2 gIx (dVar 2) (dC (.int 0))) (dC (.str "over"))))
    (dSet 4 (dCall S__law_put (dCons (dVar 4) (dCons (dC (.int 1)) (dCons (dVar 3) dNil)))))
    (dIfS (dB (d2 gEq (d2 gIx (dVar 2) (dC (.int 0))) (dC (.str "read"))))
      (dSet 4 (dCall S__law_put (dCons (dVar 4) (dCons (dC (.int 0)) (dCons (dCall S__law_put (dCons (d2 gIx (dVar 4) (dC (.int 0))) (dCons (d2 gIx (dVar 2) (dC (.int 1))) (dCons (dVar 3) dNil)))) dNil)))))
      (dSet 4 (dCall S__law_put (dCons (dVar 4) (dCons (dC (.int 2)) (dCons (dCall S__law_put (dCons (d2 gIx (dVar 4) (dC (.int 2))) (dCons (d2 gIx (dVar 2) (dC (.int 1))) (dCons (dVar 3) dNil)))) dNil)))))))
  (b__law_turned_row_r1 S__law_put))
def b__law_reason : DS :=
  dSeq (dIfS (dB (d2 (gIn true) (dVar 0) (dLst (dCons (dC (.int 1)) (dCons (dC (.int 2)) (dCons (dC (.int 3)) dNil))))))
    (dRet (dC (.str "letters")))
    dNext)
  (dSeq (dIfS (dB (d2 (gIn true) (dVar 1) (dLst (dCons (dC (.int 2)) (dCons (dC (.int 3)) (dCons (dC (.int 4)) dNil))))))
    (dRet (dC (.str "answers")))
    dNext)
  (dSeq (dIfS (dOr (dB (d2 gLt (d1 gLen (dVar 2)) (dC (.int 1)))) (dB (d2 gGt (d1 gLen (dVar 2)) (dC (.int 8)))))
    (dRet (dC (.str "states")))
    dNext)
  (dSeq (dFor (iIt (dVar 2)) 3
    (dIfS (dOr (dB (d2 gNe (d1 gLen (d2 gIx (dVar 3) (dC (.int 0)))) (dVar 0))) (dB (d2 gNe (d1 gLen (d2 gIx (dVar 3) (dC (.int 2)))) (dVar 1))))
      (dRet (dC (.str "rows")))
      dNext))
  (dSeq (dFor (iIt (dVar 2)) 3
    (dFor (iIt (d2 gAdd (d2 gAdd (d2 gIx (dVar 3) (dC (.int 0))) (dTup (dCons (d2 gIx (dVar 3) (dC (.int 1))) dNil))) (d2 gIx (dVar 3) (dC (.int 2))))) 4
      (dIfS (dAnd (dB (d2 gNotN (dVar 4) (dC .non))) (dNot (dB (dChain gLe gLt (dC (.int 0)) (dVar 4) (d1 gLen (dVar 2))))))
        (dRet (dC (.str "target")))
        dNext)))
  (dRet (dC (.str "")))))))
def b__law_faulty (S__law_put : DF) (S__law_next : DF) (S__law_events : DF) (S__law_turned_row : DF) : DS :=
  dSeq (dSet 3 (d2 gIx (dVar 1) (dC (.int 2))))
  (dSeq (dIfS (dB (d2 gLt (dVar 2) (dC (.int 3))))
    (dRet (dCall S__law_put (dCons (dVar 1) (dCons (d2 gMns (dVar 2) (dC (.int 1))) (dCons (d2 gIx (d2 gIx (dLst (dCons (dLst (dCons (dC (.int 0)) (dCons (dC (.int 4)) (dCons (d1 gNeg (dC (.int 1))) (dCons (dC (.int 5)) dNil))))) (dCons (dLst (dCons (dC (.int 1)) (dCons (dC (.int 5)) (dCons (dC (.int 0)) (dCons (dC (.int 6)) dNil))))) dNil))) (d2 gMns (dVar 2) (dC (.int 1)))) (dCall S__law_next (dCons (dVar 0) (dCons (dC (.int 4)) dNil)))) dNil)))))
    dNext)
  (dSeq (dIfS (dB (d2 gEq (dVar 2) (dC (.int 3))))
    (dRet (dCall S__law_put (dCons (dVar 1) (dCons (dC (.int 2)) (dCons (d2 gIx (dLst (dCons (dTup dNil) (dCons (d2 gAdd (dVar 3) (d2 gRepT (dSl (dVar 3) oNo (oSome (dC (.int 1)))) (d2 gMns (dC (.int 9)) (d1 gLen (dVar 3))))) dNil))) (dCall S__law_next (dCons (dVar 0) (dCons (dC (.int 2)) dNil)))) dNil)))))
    dNext)
  (dSeq (dSet 4 (dCall S__law_next (dCons (dVar 0) (dCons (d1 gLen (dVar 3)) dNil))))
  (dSeq (dSet 5 (d2 gMul (dC (.int 2)) (dCall S__law_next (dCons (dVar 0) (dCons (dC (.int 2)) dNil)))))
  (dSeq (dSet 6 (d2 gIx (d2 gIx (dVar 3) (dVar 4)) (dVar 5)))
  (dSeq (dIfS (dB (d2 gEq (dVar 2) (dC (.int 4))))
    (dSeq (dSet 6 (d2 gIx (dLst (dCons (dSl (dVar 6) (oSome (dC (.int 1))) oNo) (dCons (d2 gAdd (dVar 6) (dTup (dCons (dC .non) dNil))) (dCons (d2 gAdd (dVar 6) (dTup (dCons (dC (.int 0)) dNil))) dNil)))) (dCall S__law_next (dCons (dVar 0) (dCons (dC (.int 3)) dNil)))))
    (dRet (dCall S__law_put (dCons (dVar 1) (dCons (dC (.int 2)) (dCons (dCall S__law_put (dCons (dVar 3) (dCons (dVar 4) (dCons (dCall S__law_put (dCons (d2 gIx (dVar 3) (dVar 4)) (dCons (dVar 5) (dCons (dVar 6) dNil)))) dNil)))) dNil))))))
    dNext)
  (dSeq (dSet 7 (dCall S__law_events (dCons (d2 gIx (dVar 1) (dC (.int 0))) (dCons (d2 gIx (dVar 1) (dC (.int 1))) dNil))))
  (dSeq (dSet 8 (d2 gIx (dVar 7) (dCall S__law_next (dCons (dVar 0) (dCons (d1 gLen (dVar 7)) dNil)))))
  (dSeq (dSet 9 (d2 gIx (dLst (dCons (d1 gLen (dVar 3)) (dCons (d1 gNeg (dC (.int 1))) (dCons (d2 gAdd (d1 gLen (dVar 3)) (dC (.int 1))) dNil)))) (dCall S__law_next (dCons (dVar 0) (dCons (dC (.int 3)) dNil)))))
  (dRet (dCall S__law_put (dCons (dVar 1) (dCons (dC (.int 2)) (dCons (dCall S__law_turned_row (dCons (dVar 3) (dCons (dVar 4) (dCons (dVar 8) (dCons (dVar 9) dNil))))) dNil))))))))))))))
def b__law_told_r1 (S_Contract : DI) (S_Contract_with_row : DF) (ea1 : Addr) (ed1 : Option Addr) (ec1 : Str) (ef1 : List (Str × D)) : DS :=
  dIfS (dOr (dB (dExIs ea1 ed1 4 (isaF ec1 "InvalidName"))) (dB (dExIs ea1 ed1 4 (isaF ec1 "Mismatch"))))
            (dSet 3 (dC (.str "other")))
            dNext
def b__law_told_r2 (S_Contract : DI) (S_Contract_with_row : DF) (ea1 : Addr) (ed1 : Option Addr) (ec1 : Str) (ef1 : List (Str × D)) : DS :=
  dSeq (dIfS (dOr (dB (dExIs ea1 ed1 4 (isaF ec1 "InvalidPlaces"))) (dOr (dB (dExIs ea1 ed1 4 (isaF ec1 "InvalidEdit"))) (dB (dExIs ea1 ed1 4 (isaF ec1 "InvalidLine")))))
            (dSet 3 (dC (.str "other")))
            dNext)
          (b__law_told_r1 S_Contract S_Contract_with_row ea1 ed1 ec1 ef1)
def b__law_told_r3 (S_Contract : DI) (S_Contract_with_row : DF) (ea1 : Addr) (ed1 : Option Addr) (ec1 : Str) (ef1 : List (Str × D)) : DS :=
  dSeq (dIfS (dOr (dB (dExIs ea1 ed1 4 (isaF ec1 "InvalidProgram"))) (dOr (dB (dExIs ea1 ed1 4 (isaF ec1 "InvalidChange"))) (dB (dExIs ea1 ed1 4 (isaF ec1 "InvalidStream")))))
            (dSet 3 (dC (.str "other")))
            dNext)
          (b__law_told_r2 S_Contract S_Contract_with_row ea1 ed1 ec1 ef1)
def b__law_told_r4 (S_Contract : DI) (S_Contract_with_row : DF) (ea1 : Addr) (ed1 : Option Addr) (ec1 : Str) (ef1 : List (Str × D)) : DS :=
  dSeq (dIfS (dOr (dB (dExIs ea1 ed1 4 (isaF ec1 "BoundError"))) (dOr (dB (dExIs ea1 ed1 4 (isaF ec1 "DeskError"))) (dB (dExIs ea1 ed1 4 (isaF ec1 "InvalidText")))))
            (dSet 3 (dC (.str "other")))
            dNext)
          (b__law_told_r3 S_Contract S_Contract_with_row ea1 ed1 ec1 ef1)
def b__law_told (S_Contract : DI) (S_Contract_with_row : DF) : DS :=
  dSeq (dSetN 2 dNil)
  (dSeq (dSet 3 (dC (.str "")))
  (dSeq (dTry ["InvalidContract"] 4
    (dIfS (dB (d2 gEq (d2 gIx (dVar 1) (dC (.int 0))) (dC (.str "new"))))
            (dApp 2 (dMake "Contract" S_Contract (dCons (d2 gIx (dVar 1) (dC (.int 1))) (dCons (d2 gIx (dVar 1) (dC (.int 2))) (dCons (d2 gIx (dVar 1) (dC (.int 3))) dNil)))))
            (dApp 2 (dMeth "Contract" "with_row" S_Contract_with_row (dVar 0) (dCons (d2 gIx (dVar 1) (dC (.int 1))) (dCons (d2 gIx (dVar 1) (dC (.int 2))) (dCons (d2 gIx (dVar 1) (dC (.int 3))) dNil))))))
    (fun ea1 ed1 ec1 ef1 => dSeq (dSet 3 (dC (.str "other")))
          (dSeq (dIfS (dAnd (dB (dExIs ea1 ed1 4 (isaF ec1 "InvalidContract"))) (dAnd (dB (dExIs ea1 ed1 4 (isaF ec1 "InvalidInput"))) (dB (dExIs ea1 ed1 4 true))))
            (dIfS (dB (d1 (gIsi "str") (dExFld ea1 ed1 ef1 4 "reason")))
              (dSet 3 (dExFld ea1 ed1 ef1 4 "reason"))
              dNext)
            dNext)
          (b__law_told_r4 S_Contract S_Contract_with_row ea1 ed1 ec1 ef1))))
  (dFrz 2 (dRet (dTup (dCons (dVar 3) (dCons (dVar 2) dNil)))))))
def b__law_told_s_r1 (Ss_Contract : DI) (S_Contract_with_row : DF) (ea1 : Addr) (ed1 : Option Addr) (ec1 : Str) (ef1 : List (Str × D)) : DS :=
  dIfS (dOr (dB (dExIs ea1 ed1 4 (isaF ec1 "InvalidName"))) (dB (dExIs ea1 ed1 4 (isaF ec1 "Mismatch"))))
            (dSet 3 (dC (.str "other")))
            dNext
def b__law_told_s_r2 (Ss_Contract : DI) (S_Contract_with_row : DF) (ea1 : Addr) (ed1 : Option Addr) (ec1 : Str) (ef1 : List (Str × D)) : DS :=
  dSeq (dIfS (dOr (dB (dExIs ea1 ed1 4 (isaF ec1 "InvalidPlaces"))) (dOr (dB (dExIs ea1 ed1 4 (isaF ec1 "InvalidEdit"))) (dB (dExIs ea1 ed1 4 (isaF ec1 "InvalidLine")))))
            (dSet 3 (dC (.str "other")))
            dNext)
          (b__law_told_s_r1 Ss_Contract S_Contract_with_row ea1 ed1 ec1 ef1)
def b__law_told_s_r3 (Ss_Contract : DI) (S_Contract_with_row : DF) (ea1 : Addr) (ed1 : Option Addr) (ec1 : Str) (ef1 : List (Str × D)) : DS :=
  dSeq (dIfS (dOr (dB (dExIs ea1 ed1 4 (isaF ec1 "InvalidProgram"))) (dOr (dB (dExIs ea1 ed1 4 (isaF ec1 "InvalidChange"))) (dB (dExIs ea1 ed1 4 (isaF ec1 "InvalidStream")))))
            (dSet 3 (dC (.str "other")))
            dNext)
          (b__law_told_s_r2 Ss_Contract S_Contract_with_row ea1 ed1 ec1 ef1)
def b__law_told_s_r4 (Ss_Contract : DI) (S_Contract_with_row : DF) (ea1 : Addr) (ed1 : Option Addr) (ec1 : Str) (ef1 : List (Str × D)) : DS :=
  dSeq (dIfS (dOr (dB (dExIs ea1 ed1 4 (isaF ec1 "BoundError"))) (dOr (dB (dExIs ea1 ed1 4 (isaF ec1 "DeskError"))) (dB (dExIs ea1 ed1 4 (isaF ec1 "InvalidText")))))
            (dSet 3 (dC (.str "other")))
            dNext)
          (b__law_told_s_r3 Ss_Contract S_Contract_with_row ea1 ed1 ec1 ef1)
def b__law_told_s (Ss_Contract : DI) (S_Contract_with_row : DF) : DS :=
  dSeq (dSetN 2 dNil)
  (dSeq (dSet 3 (dC (.str "")))
  (dSeq (dTry ["InvalidContract"] 4
    (dIfS (dSeeT (dB (d2 gEq (d2 gIx (dVar 1) (dC (.int 0))) (dC (.str "new")))))
            (dApp 2 (dMakeS "Contract" Ss_Contract (dCons (dSeeV (d2 gIx (dVar 1) (dC (.int 1)))) (dCons (dSeeV (d2 gIx (dVar 1) (dC (.int 2)))) (dCons (dSeeV (d2 gIx (dVar 1) (dC (.int 3)))) dNil)))))
            (dApp 2 (dSee (dMeth "Contract" "with_row" S_Contract_with_row (dVar 0) (dCons (d2 gIx (dVar 1) (dC (.int 1))) (dCons (d2 gIx (dVar 1) (dC (.int 2))) (dCons (d2 gIx (dVar 1) (dC (.int 3))) dNil)))))))
    (fun ea1 ed1 ec1 ef1 => dSeq (dSet 3 (dC (.str "other")))
          (dSeq (dIfS (dAnd (dB (dExIs ea1 ed1 4 (isaF ec1 "InvalidContract"))) (dAnd (dB (dExIs ea1 ed1 4 (isaF ec1 "InvalidInput"))) (dB (dExIs ea1 ed1 4 true))))
            (dIfS (dB (d1 (gIsi "str") (dExFld ea1 ed1 ef1 4 "reason")))
              (dSet 3 (dExFld ea1 ed1 ef1 4 "reason"))
              dNext)
            dNext)
          (b__law_told_s_r4 Ss_Contract S_Contract_with_row ea1 ed1 ec1 ef1))))
  (dFrz 2 (dRet (dTup (dCons (dVar 3) (dCons (dVar 2) dNil)))))))
def b__law_flagged (S_Contract_with_flags : DF) : DS :=
  dSeq (dIfS (dB (d2 gEq (dVar 3) (dC (.int 0))))
    (dRet (dMethN "Contract" "with_flags" sg_Contract_with_flags_1 S_Contract_with_flags (dVar 0) (dCons (dVar 1) dNil) dNil))
    dNext)
  (dSeq (dIfS (dB (d2 gEq (dVar 3) (dC (.int 1))))
    (dRet (dMethN "Contract" "with_flags" sg_Contract_with_flags_2 S_Contract_with_flags (dVar 0) (dCons (dVar 1) dNil) (dCons (d2 gIx (dVar 2) (dC (.int 0))) dNil)))
    dNext)
  (dSeq (dIfS (dB (d2 gEq (dVar 3) (dC (.int 2))))
    (dRet (dMethN "Contract" "with_flags" sg_Contract_with_flags_3 S_Contract_with_flags (dVar 0) (dCons (dVar 1) dNil) (dCons (d2 gIx (dVar 2) (dC (.int 1))) dNil)))
    dNext)
  (dRet (dMethN "Contract" "with_flags" sg_Contract_with_flags_0 S_Contract_with_flags (dVar 0) (dCons (dVar 1) dNil) (dCons (d2 gIx (dVar 2) (dC (.int 0))) (dCons (d2 gIx (dVar 2) (dC (.int 1))) dNil))))))
def b__law_walked_r1 (S__law_next : DF) (S__law_events : DF) (S__law_told : DF) (S__law_put : DF) (S__law_turned_row : DF) (S__law_flagged : DF) : DS :=
  dSeq (dSet 6 (dCall S__law_next (dCons (dVar 0) (dCons (dVar 5) dNil))))
    (dSeq (dSet 11 (dLst (dLc (iR1 (dC (.int 2))) 12 dYes (d2 gIx (dLst (dCons (dC .non) (dCons (dC (.bl true)) (dCons (dC (.bl false)) dNil)))) (dCall S__law_next (dCons (dVar 0) (dCons (dC (.int 3)) dNil)))))))
    (dSeq (dSet 13 (dCall S__law_next (dCons (dVar 0) (dCons (dC (.int 4)) dNil))))
    (dSeq (dSet 1 (dCall S__law_flagged (dCons (dVar 1) (dCons (dVar 6) (dCons (dVar 11) (dCons (dVar 13) dNil))))))
    (dSeq (dFor (iR1 (dC (.int 2))) 12
      (dIfS (dAnd (dB (d2 gNotN (d2 gIx (dVar 11) (dVar 12)) (dC .non))) (dB (d2 (gIn false) (dVar 13) (dLst (dCons (d2 gAdd (dC (.int 1)) (dVar 12)) (dCons (dC (.int 3)) dNil))))))
        (dSeq (dSet 14 (dCall S__law_put (dCons (d2 gIx (d2 gIx (dVar 2) (dC (.int 2))) (dVar 6)) (dCons (d2 gAdd (dC (.int 3)) (dVar 12)) (dCons (d2 gIx (dVar 11) (dVar 12)) dNil)))))
        (dSet 2 (dCall S__law_put (dCons (dVar 2) (dCons (dC (.int 2)) (dCons (dCall S__law_put (dCons (d2 gIx (dVar 2) (dC (.int 2))) (dCons (dVar 6) (dCons (dVar 14) dNil)))) dNil))))))
        dNext))
    (dApp 3 (dTup (dCons (dVar 1) (dCons (dVar 2) dNil))))))))
def b__law_walked (S__law_next : DF) (S__law_events : DF) (S__law_told : DF) (S__law_put : DF) (S__law_turned_row : DF) (S__law_flagged : DF) : DS :=
  dSeq (dSetN 3 (dCons (dTup (dCons (dVar 1) (dCons (dVar 2) dNil))) dNil))
  (dSeq (dFor (iR1 (dC (.int 3))) 4
    (dSeq (dSet 5 (d1 gLen (d2 gIx (dVar 2) (dC (.int 2)))))
    (dSeq (dSet 6 (dCall S__law_next (dCons (dVar 0) (dCons (dVar 5) dNil))))
    (dSeq (dSet 7 (dCall S__law_events (dCons (d2 gIx (dVar 2) (dC (.int 0))) (dCons (d2 gIx (dVar 2) (dC (.int 1))) dNil))))
    (dSeq (dSet 8 (d2 gIx (dVar 7) (dCall S__law_next (dCons (dVar 0) (dCons (d1 gLen (dVar 7)) dNil)))))
    (dSeq (dSet 9 (d2 gIx (dLst (dCons (dC .non) (dCons (dCall S__law_next (dCons (dVar 0) (dCons (dVar 5) dNil))) (dCons (dVar 5) (dCons (d1 gNeg (dC (.int 1))) dNil))))) (dCall S__law_next (dCons (dVar 0) (dCons (dC (.int 4)) dNil)))))
    (dSeq (dSet 10 (dCall S__law_told (dCons (dVar 1) (dCons (dTup (dCons (dC (.str "row")) (dCons (dVar 6) (dCons (dVar 8) (dCons (dVar 9) dNil))))) dNil))))
    (dSeq (dIfS (dAnd (dB (d2 gNotN (dVar 9) (dC .non))) (dNot (dB (dChain gLe gLt (dC (.int 0)) (dVar 9) (dVar 5)))))
      (dIfS (dOr (dB (d2 gNe (d2 gIx (dVar 10) (dC (.int 0))) (dC (.str "target")))) (dB (d2 gNe (d1 gLen (d2 gIx (dVar 10) (dC (.int 1)))) (dC (.int 0)))))
        (dRet (dLst dNil))
        dNext)
      (dSeq (dIfS (dOr (dB (d2 gNe (d2 gIx (dVar 10) (dC (.int 0))) (dC (.str "")))) (dB (d2 gNe (d1 gLen (d2 gIx (dVar 10) (dC (.int 1)))) (dC (.int 1)))))
        (dRet (dLst dNil))
        dNext)
      (dSeq (dSet 1 (d2 gIx (d2 gIx (dVar 10) (dC (.int 1))) (dC (.int 0))))
      (dSeq (dSet 2 (dCall S__law_put (dCons (dVar 2) (dCons (dC (.int 2)) (dCons (dCall S__law_turned_row (dCons (d2 gIx (dVar 2) (dC (.int 2))) (dCons (dVar 6) (dCons (dVar 8) (dCons (dVar 9) dNil))))) dNil)))))
      (dApp 3 (dTup (dCons (dVar 1) (dCons (dVar 2) dNil))))))))
    (b__law_walked_r1 S__law_next S__law_events S__law_told S__law_put S__law_turned_row S__law_flagged)))))))))
  (dRetV 3))
def b_law_r1 (S__law_reader : DF) (S__law_cell : DF) (S__law_next : DF) (S__law_states : DF) (S__law_faulty : DF) (Ss__law_told : DF) (S__law_reason : DF) (S__law_walked : DF) (S__law_right : DF) : DS :=
  dSeq (dSet 15 (dCall S__law_reason (dCons (d2 gIx (dVar 12) (dC (.int 0))) (dCons (d2 gIx (dVar 12) (dC (.int 1))) (dCons (d2 gIx (dVar 12) (dC (.int 2))) dNil)))))
    (dSeq (dIfS (dOr (dB (d2 gNe (d2 gIx (dVar 14) (dC (.int 0))) (dVar 15))) (dB (d2 gNe (d1 gLen (d2 gIx (dVar 14) (dC (.int 1)))) (d1 gInt (d2 gEq (dVar 15) (dC (.str "")))))))
      (dRet (dC (.bl false)))
      dNext)
    (dIfS (dB (d2 gEq (dVar 15) (dC (.str ""))))
      (dApp 11 (dTup (dCons (d2 gIx (d2 gIx (dVar 14) (dC (.int 1))) (dC (.int 0))) (dCons (dVar 12) dNil))))
      dNext))
def b_law (S__law_reader : DF) (S__law_cell : DF) (S__law_next : DF) (S__law_states : DF) (S__law_faulty : DF) (Ss__law_told : DF) (S__law_reason : DF) (S__law_walked : DF) (S__law_right : DF) : DS :=
  dSeq (dSet 1 (dCall S__law_reader (dCons (dCall S__law_cell (dCons (dVar 0) (dCons (dC (.int 0)) dNil))) dNil)))
  (dSeq (dSet 2 (d2 gAdd (dC (.int 1)) (dCall S__law_next (dCons (dVar 1) (dCons (dC (.int 3)) dNil)))))
  (dSeq (dSet 3 (d2 gAdd (dC (.int 2)) (dCall S__law_next (dCons (dVar 1) (dCons (dC (.int 3)) dNil)))))
  (dSeq (dSet 4 (dTup (dCons (dVar 2) (dCons (dVar 3) (dCons (dCall S__law_states (dCons (dVar 1) (dCons (dVar 2) (dCons (dVar 3) (dCons (d2 gAdd (dC (.int 1)) (dCall S__law_next (dCons (dVar 1) (dCons (dC (.int 8)) dNil)))) dNil))))) dNil)))))
  (dSeq (dSet 1 (dCall S__law_reader (dCons (dCall S__law_cell (dCons (dVar 0) (dCons (dC (.int 1)) dNil))) dNil)))
  (dSeq (dSet 5 (dCall S__law_next (dCons (dVar 1) (dCons (dC (.int 3)) dNil))))
  (dSeq (dSet 6 (d2 gAdd (dC (.int 1)) (dCall S__law_next (dCons (dVar 1) (dCons (dC (.int 5)) dNil)))))
  (dSeq (dSet 7 (dLst (n1 gSortedR (dSl (dLst (dCons (dVar 6) (dCons (d2 gAdd (dC (.int 1)) (d2 gMod (d1 gInt (d2 gAdd (dVar 6) (dCall S__law_next (dCons (dVar 1) (dCons (dC (.int 2)) dNil))))) (dC (.int 5)))) dNil))) oNo (oSome (dVar 5))))))
  (dSeq (dSet 8 (dVar 4))
  (dSeq (dFor (iIt (dVar 7)) 9
    (dSet 8 (dCall S__law_faulty (dCons (dVar 1) (dCons (dVar 8) (dCons (dVar 9) dNil))))))
  (dSeq (dSet 10 (dCall S__law_next (dCons (dVar 1) (dCons (dC (.int 2)) dNil))))
  (dSeq (dSetN 11 dNil)
  (dSeq (dFor (iIt (dLst (dCons (dVar 8) (dCons (dVar 4) (dCons (dVar 8) dNil))))) 12
    (dSeq (dNewO 13 (dPick (dCons (dLeaf (d2 gIx (dVar 12) (dC (.int 2)))) (dCons (dOwn (n1 gListN (d2 gIx (dVar 12) (dC (.int 2))))) dNil)) (dVar 10)))
    (dSeq (dSet 14 (dCallS Ss__law_told (dCons (dC .non) (dCons (dSeeV (dTup (dCons (dC (.str "new")) (dCons (d2 gIx (dVar 12) (dC (.int 0))) (dCons (d2 gIx (dVar 12) (dC (.int 1))) (dCons (dVar 13) dNil)))))) dNil))))
    (dSeq (dIfS (dB (d2 gEq (dVar 10) (dC (.int 1))))
      (dSeq (dIfS (dSeeT (dB (d2 gNe (dVar 13) (dLst (n1 gListN (d2 gIx (dVar 12) (dC (.int 2))))))))
        (dRet (dC (.bl false)))
        dNext)
      (dSeq (dRevO (dP0 13))
      (dAppO (dP0 13) (dLeaf (dTup (dCons (dTup dNil) (dCons (dC .non) (dCons (dTup dNil) (dCons (dC (.bl true)) (dCons (dC (.bl true)) dNil))))))))))
      dNext)
    (b_law_r1 S__law_reader S__law_cell S__law_next S__law_states S__law_faulty Ss__law_told S__law_reason S__law_walked S__law_right)))))
  (dFrz 11 (dSeq (dFor (iIt (dVar 11)) 16
    (dSeq (dSet 17 (dCall S__law_walked (dCons (dVar 1) (dCons (d2 gIx (dVar 16) (dC (.int 0))) (dCons (d2 gIx (dVar 16) (dC (.int 1))) dNil)))))
    (dIfS (dOr (dB (d2 gEq (d1 gLen (dVar 17)) (dC (.int 0)))) (dNot (dB (d1 gAll (dLst (dLc (iIt (d2 gAdd (dVar 17) (dVarQ 11))) 18 dYes (dCall S__law_right (dCons (d2 gIx (dVar 18) (dC (.int 0))) (dCons (d2 gIx (dVar 18) (dC (.int 1))) dNil)))))))))
      (dRet (dC (.bl false)))
      dNext)))
  (dRet (dC (.bl true)))))))))))))))))
end K11
namespace Dl
open PySem L2
theorem any_strs (ys : List Str) (a : Str) : ((ys.map D.str).any fun z => deq z (.str a)) = decide (a ∈ ys) := by
  induction ys with
  | nil => rfl
  | cons b l ih =>
    rw [List.map_cons, List.any_cons, ih, deq_str]
    by_cases h1 : b = a
    · subst h1; simp
    · have h2 : ¬ a = b := fun e => h1 e.symm
      simp [h1, h2]
theorem eo_strsT {ys : List Str} (hy : ∀ y ∈ ys, lays y = true) : Eo 1 (.tup (ys.map D.str)) := eo_tup fun d hd => by
  obtain ⟨y, h1, rfl⟩ := List.mem_map.mp hd
  exact eo_str 0 y (hy y h1)
theorem gIn_strT (neg : Bool) {a : Str} {ys : List Str} (ha : lays a = true) (hy : ∀ y ∈ ys, lays y = true) (Q : D → Prop) : gIn neg (.str a) (.tup (ys.map D.str)) Q = Q (.bl (if neg then !decide (a ∈ ys) else decide (a ∈ ys))) := propext ⟨fun h => by
  have := h.2.2
  rwa [any_strs] at this, fun h => ⟨(eo_str 0 a ha).ok, (eo_strsT hy).ok, by rwa [any_strs]⟩⟩
theorem gIn_t2 (a b c : Str) (Q : D → Prop) (ha : lays a = true) (hb : lays b = true) (hc : lays c = true) : gIn false (.str a) (.tup [.str b, .str c]) Q = Q (.bl (decide (a = b) || decide (a = c))) := by
  have := gIn_strT false (ys := [b, c]) ha (fun y m => by
    simp only [List.mem_cons, List.not_mem_nil, or_false] at m
    rcases m with rfl | rfl <;> assumption) Q
  rw [show (D.tup [.str b, .str c]) = .tup ([b, c].map D.str) from rfl, this]
  simp
theorem gIn_t3 (a b c d : Str) (Q : D → Prop) (ha : lays a = true) (hb : lays b = true) (hc : lays c = true) (hd : lays d = true) : gIn false (.str a) (.tup [.str b, .str c, .str d]) Q = Q (.bl (decide (a = b) || (decide (a = c) || decide (a = d)))) := by
  have := gIn_strT false (ys := [b, c, d]) ha (fun y m => by
    simp only [List.mem_cons, List.not_mem_nil, or_false] at m
    rcases m with rfl | rfl | rfl <;> assumption) Q
  rw [show (D.tup [.str b, .str c, .str d]) = .tup ([b, c, d].map D.str) from rfl, this]
  simp
end Dl
open PySem L2 Dl in
local macro_rules | `(tactic| walk_at "dl") => `(tactic| simp (decide := true) only [dSeq, dSet, dSetN, dIfS, dRet, dRetV, dRetN, dExpr, dBreak, dCont, dNext, dFrz, frz, dApp, dExt, dExtA, dSetIx, dFor, dForB, dAsg, dVar, dVarQ, dC, dImm, dLst, d1, d2, n1, n2, dNil, dCons, dTup, dCall, dCallQ, dMeth, dMake, dSetF, dFldI, dFldV, dRaise0, dRaise1, dTry, dB, dTru, dNot, dAnd, dOr, dAndV, dOrV, dNotV, dIf, dSl, nSl, oNo, oSome, iIt, iR1, iR2, iStrD, gItems_lst, gItems_tup, gItems_scr, dLc, dYes, dRd, kD, kI, kSu, DK.xq, gLen_lst, gLen_tup, gLen_scr, gListN_lst, gListN_tup, gTuple_lst, gTuple_tup, gRevN, gCat_lst, gSlN_lst, gSl_lst, gSl_tup, gSl_str, bTup_tup, setAll, gEq_bl, gNe_bl, cut_t1, cut_t2, cut_t3, cut_f1, gIx_rd0, gIx_rd1, gIx_rd2, gEq_int, gNe_int, dIndexL, dExIs, dExFld, putD, List.getElem?_cons_zero, List.getElem?_cons_succ, List.set_cons_zero, List.set_cons_succ, if_true, if_false, Bool.false_eq_true, ite_true, ite_false, decide_true, decide_false, Bool.not_true, Bool.not_false, true_and, and_true, gAdd_int, gAdd_str, gAdd_lst, gAdd_tup, gMns_int, gI2_int, gCmp_int, gNeg_int, gIsN_non, gNotN_non, gTru_non, gTru_bl, gTru_int, gTru_lst, gTru_tup, gInt_int, gInt_bl, gEq_strL, gNe_strL, gStr_int, gMin_int, gMax_int, gIsi_int_non, gIsi_int_bl, gIsi_int_int, gIsi_int_str, gIsi_int_tup, gIsi_int_lst, gIsi_bool_non, gIsi_bool_bl, gIsi_bool_int, gIsi_bool_str, gIsi_bool_tup, gIsi_bool_lst, gIsi_str_non, gIsi_str_bl, gIsi_str_int, gIsi_str_str, gIsi_str_tup, gIsi_str_lst, gIsi_tuple_non, gIsi_tuple_bl, gIsi_tuple_int, gIsi_tuple_str, gIsi_tuple_tup, gIsi_tuple_lst, gIsi_list_non, gIsi_list_bl, gIsi_list_int, gIsi_list_str, gIsi_list_tup, gIsi_list_lst, gIsi2_lt_non, gIsi2_lt_bl, gIsi2_lt_int, gIsi2_lt_str, gIsi2_lt_tup, gIsi2_lt_lst, isNon_non, isNon_bl, isNon_int, isNon_str, isNon_tup, isNon_lst, gIx_tup0, gIx_lst0, gIx_tup1, gIx_lst1, gIx_tup2, gIx_lst2, gIx_tup3, gIx_lst3, gIx_tup4, gIx_lst4, gIx_tup5, gIx_lst5, gIx_tup6, gIx_lst6, gIx_tup7, gIx_lst7, ex_is, ex_fl, lk_hd, gIn_t2, gIn_t3, or_true, or_false, true_or, false_or, Bool.or_true, Bool.or_false, Bool.true_or, Bool.false_or, lay_0, lay_1, lay_2, lay_3, lay_4, lay_5, lay_6, lay_7, lay_8, lay_9, lay_10, lay_11, lay_12, lay_13, lay_14, lay_15, lay_16, lay_17, lay_18, lay_19, lay_20, lay_21, lay_22, lay_23, lay_24, lay_25, lay_26, lay_27, lay_28, lay_29, lay_30, lay_31, lay_32, lay_33, lay_34, lay_35, lay_36, lay_37, lay_38, lay_39, lay_40, lay_41, lay_42, lay_43, lay_44, lay_45, lay_46, lay_47, lay_48, lay_49, lay_50, lay_51, lay_52, lay_53, lay_54, lay_55, lay_56, lay_57, lay_58, lay_59, lay_60, lay_61, lay_62, lay_63, lay_64, lay_65, lay_66, lay_67, lay_68, lay_69, lay_70, lay_71, lay_72, lay_73, lay_74, lay_75, lay_76, lay_77, lay_78, lay_79, lay_80, lay_81, lay_82, lay_83, lay_84, lay_85, lay_86, lay_87, lay_88, lay_89, lay_90, lay_91, lay_92, lay_93, lay_94, lay_95, lay_96, lay_97, lay_98, lay_99, lay_100, lay_101, lay_102, lay_103, lay_104, lay_105, lay_106, lay_107, lay_108, lay_109, lay_110, lay_111, lay_112, lay_113, lay_114, lay_115, lay_116, lay_117, lay_118, lay_119, lay_120, lay_121, lay_122, lay_123, lay_124, lay_125, lay_126, lay_127, lay_128, lay_129, lay_130, lay_131, lay_132, lay_133, lay_134, lay_135, lay_136, lay_137, lay_138, lay_139, lay_140, lay_141, lay_142, lay_143, lay_144, lay_145, lay_146, lay_147, lay_148, lay_149, lay_150, lay_151, lay_152, lay_153, lay_154, lay_155, lay_156, lay_157, lay_158, lay_159, lay_160, lay_161, lay_162, lay_163, lay_164, lay_165, lay_166, lay_167, lay_168, lay_169, lay_170])
namespace Con
open PySem L2 Dl
mutual
def frzD : D → D
  | .tup ds => .tup (frzL ds)
  | .lst ds => .tup (frzL ds)
  | d => d
def frzL : List D → List D
  | [] => []
  | d :: ds => frzD d :: frzL ds
end
mutual
def pl : Nat → D → Bool
  | _ + 1, .non => true
  | _ + 1, .bl _ => true
  | _ + 1, .int _ => true
  | _ + 1, .str _ => true
  | n + 1, .tup ds => decide (ds.length ≤ 1000) && plL n ds
  | n + 1, .lst ds => decide (ds.length ≤ 1000) && plL n ds
  | _, _ => false
def plL : Nat → List D → Bool
  | _, [] => true
  | n, d :: ds => pl n d && plL n ds
end
theorem plL_mem {n : Nat} : ∀ {ds : List D}, plL n ds = true → ∀ d ∈ ds, pl n d = true
  | [], _, d, h => by cases h
  | e :: ds, h, d, hd => by
    unfold plL at h
    rw [Bool.and_eq_true] at h
    rcases List.mem_cons.mp hd with rfl | hd
    · exact h.1
    · exact plL_mem h.2 d hd
theorem frzL_map : ∀ ds : List D, frzL ds = ds.map frzD
  | [] => by unfold frzL; rfl
  | d :: ds => by unfold frzL; rw [frzL_map ds]; rfl
def S_frozen (n : Nat) : DF := fun ds Q _ => ∃ d, ds = [d] ∧ pl n d = true ∧ Q (frzD d)
theorem z_frozen (ds : List D) (Q : D → Prop) (Xq : XQ) (h : S_frozen 0 ds Q Xq) : False := by
  obtain ⟨d, _, h, _⟩ := h
  cases d <;> (unfold pl at h; cases h)
theorem p_frozen (n : Nat) (ds : List D) (Qd : D → Prop) (Xq : XQ) (h : S_frozen (n + 1) ds Qd Xq) : b_frozen (S_frozen n) (kD Qd Xq) (startD 2 ds) := by
  obtain ⟨d, rfl, hp, h⟩ := h
  show b_frozen (S_frozen n) (kD Qd Xq) [.fz d, .un]
  unfold b_frozen
  have seq : ∀ es : List D, (decide (es.length ≤ 1000) && plL n es) = true → Qd (.tup (frzL es)) → es.length ≤ sizeLine ∧ lcLoop dYes (dCall (S_frozen n) (dCons (dVar 1) dNil)) 1 [S.fz d, S.un] (fun ds => Qd (.tup ds)) es [] := fun es he hq => by
    rw [Bool.and_eq_true] at he
    have hl := of_decide_eq_true he.1
    refine ⟨by rw [sizeLine_eq]; omega, ?_⟩
    rw [frzL_map] at hq
    have := lc_map (fun d => d) (fe := dCall (S_frozen n) (dCons (dVar 1) dNil)) (i := 1) (ρ := [S.fz d, S.un]) (Q := fun ds => Qd (.tup ds)) es frzD (fun a ha xq Q q => ?_) hq
    · simpa using this
    · walk_at "dl"
      exact ⟨a, rfl, plL_mem he.2 a ha, q⟩
  cases d with
  | non => walk_at "dl"; unfold frzD at h; exact h
  | bl b => walk_at "dl"; unfold frzD at h; exact h
  | int b => walk_at "dl"; unfold frzD at h; exact h
  | str b => walk_at "dl"; unfold frzD at h; exact h
  | tup es => walk_at "dl"; unfold frzD at h; unfold pl at hp; exact seq es hp h
  | lst es => walk_at "dl"; unfold frzD at h; unfold pl at hp; exact seq es hp h
  | _ => unfold pl at hp; cases hp
def sm : Nat → D → Bool
  | _ + 1, .non => true
  | _ + 1, .bl _ => true
  | _ + 1, .int _ => true
  | _ + 1, .str s => lays s
  | n + 1, .tup ds => decide (ds.length ≤ 1000) && ds.all (sm n)
  | _, _ => false
def S__law_same (n : Nat) : DF := fun ds Q _ => ∃ d, ds = [d, d] ∧ sm n d = true ∧ Q (.bl true)
theorem z__law_same (ds : List D) (Q : D → Prop) (Xq : XQ) (h : S__law_same 0 ds Q Xq) : False := by
  obtain ⟨d, _, h, _⟩ := h
  cases d <;> (unfold sm at h; cases h)
theorem p__law_same (n : Nat) (ds : List D) (Qd : D → Prop) (Xq : XQ) (h : S__law_same (n + 1) ds Qd Xq) : b__law_same (S__law_same n) (kD Qd Xq) (startD 3 ds) := by
  obtain ⟨d, rfl, hp, h⟩ := h
  show b__law_same (S__law_same n) (kD Qd Xq) [.fz d, .fz d, .un]
  unfold b__law_same
  cases d with
  | non => walk_at "dl"; exact h
  | bl b => walk_at "dl"; simpa using h
  | int b => walk_at "dl"; exact h
  | str b =>
    unfold sm at hp
    walk_at "dl"
    rw [gEq_strL _ _ _ hp hp]
    simpa using h
  | tup es =>
    unfold sm at hp
    rw [Bool.and_eq_true] at hp
    have hl := of_decide_eq_true hp.1
    walk_at "dl"
    refine ⟨by omega, by omega, by rw [rng_len, sizeLine_eq]; omega, ?_⟩
    unfold rng
    refine lc_map (fun j : Nat => D.int (0 + (j : Int))) _ (fun _ => D.bl true) (fun j hj xq Q q => ?_) ?_
    · have hj' : j < es.length := by simpa using hj
      walk_at "dl"
      have e : atI es (0 + (j : Int)) = some es[j] := by rw [Int.zero_add]; exact atI_nth hj'
      simp only [gIx_tup e]
      exact ⟨_, rfl, List.all_eq_true.mp hp.2 _ (List.getElem_mem hj'), q⟩
    · rw [gAll_map (fun _ => true), List.all_eq_true.mpr (fun _ _ => rfl)]
      exact h
  | _ => unfold sm at hp; cases hp
def tgD : Option Int → D
  | none => .non
  | some i => .int i
def tgs (l : List (Option Int)) : D := .tup (l.map tgD)
structure Row where
  reads : List (Option Int)
  over : Option Int
  writes : List (Option Int)
  fin : Bool
  sil : Bool
  deriving DecidableEq
def rowD (r : Row) : D := .tup [tgs r.reads, tgD r.over, tgs r.writes, .bl r.fin, .bl r.sil]
def rowsD (rs : List Row) : D := .tup (rs.map rowD)
def conF (l a : Int) (rs : List Row) : List (Str × D) := [("letters", .int l), ("answers", .int a), ("states", rowsD rs)]
def conD (l a : Int) (rs : List Row) : D := .ins "Contract" (conF l a rs)
theorem con_letters (l a : Int) (rs : List Row) (Q : D → Prop) : gFld ["Contract"] "letters" (conD l a rs) Q = Q (.int l) := propext ⟨fun ⟨_, d, e, q⟩ => by cases e; exact q, fun q => ⟨List.mem_singleton.mpr rfl, _, rfl, q⟩⟩
theorem con_answers (l a : Int) (rs : List Row) (Q : D → Prop) : gFld ["Contract"] "answers" (conD l a rs) Q = Q (.int a) := propext ⟨fun ⟨_, d, e, q⟩ => by cases e; exact q, fun q => ⟨List.mem_singleton.mpr rfl, _, rfl, q⟩⟩
theorem con_states (l a : Int) (rs : List Row) (Q : D → Prop) : gFld ["Contract"] "states" (conD l a rs) Q = Q (rowsD rs) := propext ⟨fun ⟨_, d, e, q⟩ => by cases e; exact q, fun q => ⟨List.mem_singleton.mpr rfl, _, rfl, q⟩⟩
theorem con_meth (l a : Int) (rs : List Row) (m : Str) (h : decide (m = "letters") = false ∧ decide (m = "answers") = false ∧ decide (m = "states") = false) : ∃ fs, conD l a rs = .ins "Contract" fs ∧ fs.lookup m = none := by
  obtain ⟨h1, h2, h3⟩ := h
  refine ⟨_, rfl, ?_⟩
  unfold conF
  have e1 : (m == ("letters" : Str)) = false := by simpa using h1
  have e2 : (m == ("answers" : Str)) = false := by simpa using h2
  have e3 : (m == ("states" : Str)) = false := by simpa using h3
  simp [List.lookup, e1, e2, e3]
theorem con_isC (l a : Int) (rs : List Row) (Q : D → Prop) : gIsC ["Contract"] (fun c => isaF c "Contract") (conD l a rs) Q = Q (.bl true) := propext ⟨fun h => h.2, fun h => ⟨List.mem_singleton.mpr rfl, h⟩⟩
inductive Ev where
  | over | read (i : Int) | write (i : Int)
  deriving DecidableEq
def evD : Ev → D
  | .over => .tup [.str "over"]
  | .read i => .tup [.str "read", .int i]
  | .write i => .tup [.str "write", .int i]
def Ev.ok (l a : Int) : Ev → Prop
  | .over => True
  | .read i => 0 ≤ i ∧ i < l
  | .write i => 0 ≤ i ∧ i < a
def Row.ok (l a : Int) (n : Nat) (r : Row) : Prop := (r.reads.length : Int) = l ∧ (r.writes.length : Int) = a ∧ ∀ t ∈ r.over :: (r.reads ++ r.writes), ∀ i, t = some i → 0 ≤ i ∧ i < n
structure CtrOk (l a : Int) (rs : List Row) : Prop where
  hl : 1 ≤ l ∧ l ≤ 3
  ha : 2 ≤ a ∧ a ≤ 4
  hn : 1 ≤ rs.length ∧ rs.length ≤ 8
  rows : ∀ r ∈ rs, r.ok l a rs.length
def at? (l : List (Option Int)) (i : Int) : Option Int := (atI l i).getD none
def Row.fol (r : Row) : Ev → Option Int
  | .over => r.over
  | .read i => at? r.reads i
  | .write i => at? r.writes i
def fol (rs : List Row) (s : Int) (e : Ev) : Option Int := match atI rs s with
  | some r => r.fol e
  | none => none
def evs (l a : Int) : List Ev := .over :: ((List.range l.toNat).map (fun (i : Nat) => Ev.read (0 + (i : Int))) ++ (List.range a.toNat).map (fun (i : Nat) => Ev.write (0 + (i : Int))))
theorem evs_ok {l a : Int} : ∀ e ∈ evs l a, e.ok l a := fun e he => by
  unfold evs at he
  rcases List.mem_cons.mp he with rfl | he
  · exact True.intro
  · rcases List.mem_append.mp he with he | he
    · obtain ⟨i, hi, rfl⟩ := List.mem_map.mp he
      rw [List.mem_range] at hi
      show 0 ≤ (0 : Int) + i ∧ (0 : Int) + i < l
      omega
    · obtain ⟨i, hi, rfl⟩ := List.mem_map.mp he
      rw [List.mem_range] at hi
      show 0 ≤ (0 : Int) + i ∧ (0 : Int) + i < a
      omega
def partD (l a : Int) (rs : List Row) : D := .tup [.int l, .int a, rowsD rs]
def S_Contract : DI := fun ds Q _ => ∃ l a rs d, ds = [.int l, .int a, d] ∧ (d = .tup (rs.map rowD) ∨ d = .lst (rs.map rowD)) ∧ CtrOk l a rs ∧ Q (conF l a rs)
def S_follow : DF := fun ds Q _ => ∃ l a rs s e, ds = [conD l a rs, .int s, evD e] ∧ CtrOk l a rs ∧ 0 ≤ s ∧ s < rs.length ∧ e.ok l a ∧ Q (tgD (fol rs s e))
def S__law_follow : DF := fun ds Q _ => ∃ l a rs s e, ds = [rowsD rs, .int s, evD e] ∧ CtrOk l a rs ∧ 0 ≤ s ∧ s < rs.length ∧ e.ok l a ∧ Q (tgD (fol rs s e))
def S__law_events : DF := fun ds Q _ => ∃ l a, ds = [.int l, .int a] ∧ 0 ≤ l ∧ l ≤ 3 ∧ 0 ≤ a ∧ a ≤ 4 ∧ Q (.lst ((evs l a).map evD))
def S__law_right : DF := fun ds Q _ => ∃ l a rs, ds = [conD l a rs, partD l a rs] ∧ CtrOk l a rs ∧ Q (.bl true)
def S__law_target : DF := fun ds Q _ => ∃ m : Int, ds = [.rd, .int m] ∧ 0 ≤ m ∧ m ≤ 100 ∧ ∀ t : Option Int, (∀ i, t = some i → 0 ≤ i ∧ i < m) → Q (tgD t)
def S__law_states : DF := fun ds Q _ => ∃ l a m : Int, ds = [.rd, .int l, .int a, .int m] ∧ 0 ≤ l ∧ l ≤ 3 ∧ 0 ≤ a ∧ a ≤ 4 ∧ 1 ≤ m ∧ m ≤ 8 ∧ ∀ rs : List Row, (rs.length : Int) = m → (∀ r ∈ rs, r.ok l a rs.length) → Q (rowsD rs)
theorem p__law_target (ds : List D) (Qd : D → Prop) (Xq : XQ) (h : S__law_target ds Qd Xq) : b__law_target S_next (kD Qd Xq) (startD 3 ds) := by
  obtain ⟨m, rfl, h0, h1, h⟩ := h
  show b__law_target S_next (kD Qd Xq) [.fz .rd, .fz (.int m), .un]
  unfold b__law_target
  walk_at "dl"
  refine ⟨m + 1, rfl, by omega, by omega, fun n n0 n1 => ?_⟩
  walk_at "dl"
  split
  · exact h none (fun i e => by cases e)
  · rename_i hn
    simp only [decide_eq_true_eq] at hn
    exact h (some n) (fun i e => by cases e; omega)
theorem p__law_events (ds : List D) (Qd : D → Prop) (Xq : XQ) (h : S__law_events ds Qd Xq) : b__law_events (kD Qd Xq) (startD 4 ds) := by
  obtain ⟨l, a, rfl, l0, l1, a0, a1, h⟩ := h
  show b__law_events (kD Qd Xq) [.fz (.int l), .fz (.int a), .un, .un]
  unfold b__law_events
  walk_at "dl"
  refine ⟨by omega, by omega, by rw [rng_len, sizeLine_eq]; omega, ?_⟩
  unfold rng
  refine lc_map (fun j : Nat => D.int (0 + (j : Int))) _ (fun j => evD (.read (0 + (j : Int)))) (fun j hj xq Q q => ?_) ?_
  · walk_at "dl"
    exact q
  · refine ⟨by simp [sizeLine_eq]; omega, by omega, by omega, by simp [sizeLine_eq]; omega, ?_⟩
    refine lc_map (fun j : Nat => D.int (0 + (j : Int))) _ (fun j => evD (.write (0 + (j : Int)))) (fun j hj xq Q q => ?_) ?_
    · walk_at "dl"
      exact q
    · refine ⟨by simp [sizeLine_eq]; omega, ?_⟩
      unfold evs at h
      simpa [evD, List.map_map, Function.comp_def] using h
theorem at_ok {ts : List (Option Int)} {i : Int} (h0 : 0 ≤ i) (h1 : i < ts.length) (Q : D → Prop) : gIx (tgs ts) (.int i) Q = Q (tgD (at? ts i)) := by
  obtain ⟨t, e, _⟩ := atI_in h0 h1
  unfold at?
  rw [e]
  exact gIx_tup (by rw [atI_map', e]; rfl) Q
theorem row_at {rs : List Row} {s : Int} (h0 : 0 ≤ s) (h1 : s < rs.length) : ∃ r, atI rs s = some r ∧ r ∈ rs ∧ ∀ Q, gIx (rowsD rs) (.int s) Q = Q (rowD r) := by
  obtain ⟨r, e, hm⟩ := atI_in h0 h1
  exact ⟨r, e, hm, fun Q => gIx_tup (by rw [atI_map', e]; rfl) Q⟩
theorem p__law_follow (ds : List D) (Qd : D → Prop) (Xq : XQ) (h : S__law_follow ds Qd Xq) : b__law_follow (kD Qd Xq) (startD 3 ds) := by
  obtain ⟨l, a, rs, s, e, rfl, ok, s0, s1, eo, h⟩ := h
  obtain ⟨r, er, hr, hix⟩ := row_at s0 s1
  obtain ⟨r1, r2, _⟩ := ok.rows r hr
  show b__law_follow (kD Qd Xq) [.fz (rowsD rs), .fz (.int s), .fz (evD e)]
  unfold fol at h
  rw [er] at h
  unfold b__law_follow
  cases e with
  | over =>
    unfold evD
    walk_at "dl"
    rw [hix]
    unfold rowD
    walk_at "dl"
    exact h
  | read i =>
    unfold evD
    walk_at "dl"
    rw [hix]
    unfold rowD
    walk_at "dl"
    rw [at_ok eo.1 (by have := eo.2; omega)]
    exact h
  | write i =>
    unfold evD
    walk_at "dl"
    rw [hix]
    unfold rowD
    walk_at "dl"
    rw [at_ok eo.1 (by have := eo.2; omega)]
    exact h
theorem p_follow (ds : List D) (Qd : D → Prop) (Xq : XQ) (h : S_follow ds Qd Xq) : b_Contract_follow (kD Qd Xq) (startD 6 ds) := by
  obtain ⟨l, a, rs, s, e, rfl, ok, s0, s1, eo, h⟩ := h
  obtain ⟨r, er, hr, hix⟩ := row_at s0 s1
  obtain ⟨r1, r2, _⟩ := ok.rows r hr
  show b_Contract_follow (kD Qd Xq) [.fz (conD l a rs), .fz (.int s), .fz (evD e), .un, .un, .un]
  unfold fol at h
  rw [er] at h
  unfold b_Contract_follow
  walk_at "dl"
  rw [con_states, hix]
  unfold rowD
  walk_at "dl"
  cases e with
  | over =>
    unfold evD
    walk_at "dl"
    exact ⟨rfl, h⟩
  | read i =>
    unfold evD
    walk_at "dl"
    rw [at_ok eo.1 (by have := eo.2; omega)]
    exact ⟨rfl, h⟩
  | write i =>
    unfold evD
    walk_at "dl"
    rw [at_ok eo.1 (by have := eo.2; omega)]
    exact ⟨rfl, h⟩
theorem row_ts {l a : Int} {n : Nat} {r : Row} (h : r.ok l a n) {t : Option Int} (ht : t ∈ r.reads ++ [r.over] ++ r.writes) {i : Int} (e : t = some i) : 0 ≤ i ∧ i < n := by
  refine h.2.2 t ?_ i e
  simp only [List.mem_append, List.mem_singleton] at ht
  simp only [List.mem_cons, List.mem_append]
  rcases ht with (h | h) | h
  · exact .inr (.inl h)
  · exact .inl h
  · exact .inr (.inr h)
theorem frz_tg (t : Option Int) : frzD (tgD t) = tgD t := by cases t <;> (unfold tgD frzD; rfl)
theorem frz_tgs (l : List (Option Int)) : frzD (tgs l) = tgs l := by
  unfold tgs frzD
  rw [frzL_map, List.map_map]
  congr 1
  exact List.map_congr_left fun t _ => frz_tg t
theorem frz_row (r : Row) : frzD (rowD r) = rowD r := by
  unfold rowD frzD
  rw [frzL_map]
  simp only [List.map_cons, List.map_nil, frz_tgs, frz_tg]
  simp only [frzD]
theorem frz_rows (rs : List Row) : frzL (rs.map rowD) = rs.map rowD := by
  rw [frzL_map, List.map_map]
  exact List.map_congr_left fun t _ => frz_row t
theorem plL_of {n : Nat} : ∀ {ds : List D}, (∀ d ∈ ds, pl n d = true) → plL n ds = true
  | [], _ => by unfold plL; rfl
  | d :: ds, h => by
    unfold plL
    rw [h d (List.mem_cons_self ..), plL_of fun e he => h e (List.mem_cons_of_mem _ he)]
    rfl
theorem pl_tg (n : Nat) (t : Option Int) : pl (n + 1) (tgD t) = true := by cases t <;> (unfold tgD pl; rfl)
theorem pl_tgs {n : Nat} {l : List (Option Int)} (h : l.length ≤ 1000) : pl (n + 2) (tgs l) = true := by
  unfold tgs pl
  rw [Bool.and_eq_true]
  refine ⟨decide_eq_true (by simpa using h), plL_of fun d hd => ?_⟩
  obtain ⟨t, _, rfl⟩ := List.mem_map.mp hd
  exact pl_tg n t
theorem pl_row {n : Nat} {r : Row} (h1 : r.reads.length ≤ 1000) (h2 : r.writes.length ≤ 1000) : pl (n + 3) (rowD r) = true := by
  unfold rowD pl
  rw [Bool.and_eq_true]
  refine ⟨by simp, plL_of fun d hd => ?_⟩
  simp only [List.mem_cons, List.not_mem_nil, or_false] at hd
  rcases hd with rfl | rfl | rfl | rfl | rfl
  · exact pl_tgs h1
  · exact pl_tg _ _
  · exact pl_tgs h2
  · unfold pl; rfl
  · unfold pl; rfl
theorem CtrOk.small {l a : Int} {rs : List Row} (ok : CtrOk l a rs) {r : Row} (hr : r ∈ rs) : r.reads.length ≤ 1000 ∧ r.writes.length ≤ 1000 := by
  obtain ⟨h1, h2, _⟩ := ok.rows r hr
  have := ok.hl
  have := ok.ha
  omega
theorem p__law_states (ds : List D) (Qd : D → Prop) (Xq : XQ) (h : S__law_states ds Qd Xq) : b__law_states S__law_target S_next (kD Qd Xq) (startD 11 ds) := by
  obtain ⟨l, a, m, rfl, l0, l3, a0, a4, m1, m8, h⟩ := h
  show b__law_states S__law_target S_next (kD Qd Xq) [.fz .rd, .fz (.int l), .fz (.int a), .fz (.int m), .un, .un, .un, .un, .un, .un, .un]
  unfold b__law_states
  walk_at "dl"
  refine ⟨by omega, by omega, ?_⟩
  obtain ⟨n, rfl⟩ : ∃ n : Nat, m = n := ⟨m.toNat, by omega⟩
  rw [Int.toNat_natCast]
  have some_tg : ∀ (ρ : En) (q : Int) (Q : List D → Prop), 0 ≤ q → q ≤ 10 → (∀ ρ', ρ'[0]? = ρ[0]? ∧ ρ'[3]? = ρ[3]? → ∀ Q', (∀ t : Option Int, (∀ i, t = some i → 0 ≤ i ∧ i < n) → Q' (tgD t)) → dCall S__law_target (dCons (dVar 0) (dCons (dVar 3) dNil)) (fun _ _ => False) ρ' Q') →
      (∀ ts : List (Option Int), (ts.length : Int) = q → (∀ t ∈ ts, ∀ i, t = some i → 0 ≤ i ∧ i < n) → Q (ts.map tgD)) → lcLoop dYes (dCall S__law_target (dCons (dVar 0) (dCons (dVar 3) dNil))) 7 ρ Q (rng 0 q.toNat) [] := fun ρ q Q q0 q1 hs hQ => by
    refine lc_some (rng 0 q.toNat) (fun y => ∃ t : Option Int, y = tgD t ∧ ∀ i, t = some i → 0 ≤ i ∧ i < n) (fun d hd Q' hQ' => ?_) (fun ys hl hy => ?_)
    · exact hs _ (by simp [List.getElem?_set]) Q' fun t ht => hQ' _ ⟨t, rfl, ht⟩
    · have : ∃ ts : List (Option Int), ys = ts.map tgD ∧ ∀ t ∈ ts, ∀ i, t = some i → 0 ≤ i ∧ i < n := by
        clear hl hQ
        induction ys with
        | nil => exact ⟨[], rfl, fun t ht => by cases ht⟩
        | cons y ys ih =>
          obtain ⟨ts, e, ht⟩ := ih fun z hz => hy z (List.mem_cons_of_mem _ hz)
          obtain ⟨t, e2, ht2⟩ := hy y (List.mem_cons_self ..)
          refine ⟨t :: ts, by rw [List.map_cons, e, e2], fun u hu => ?_⟩
          rcases List.mem_cons.mp hu with rfl | hu
          · exact ht2
          · exact ht u hu
      obtain ⟨ts, rfl, ht⟩ := this
      refine hQ ts ?_ ht
      rw [List.length_map, rng_len] at hl
      omega
  refine for_rng (fun j ρ => ∃ (rs : List Row) (s5 s6 s7 s8 s9 s10 : S), ρ = [.fz .rd, .fz (.int l), .fz (.int a), .fz (.int n), .op (rs.map rowD), s5, s6, s7, s8, s9, s10] ∧ rs.length = j ∧ ∀ r ∈ rs, r.ok l a n) ⟨[], _, _, _, _, _, _, rfl, rfl, fun r hr => by cases hr⟩ (fun j ρ N hj hi hN => ?_) (fun ρ hi => ?_)
  · obtain ⟨rs, s5, s6, s7, s8, s9, s10, rfl, hl, hrs⟩ := hi
    walk_at "dl"
    have one : ∀ (ρ' : En), ρ'[0]? = some (.fz .rd) ∧ ρ'[3]? = some (.fz (.int n)) → ∀ Q' : D → Prop, (∀ t : Option Int, (∀ i, t = some i → 0 ≤ i ∧ i < n) → Q' (tgD t)) → dCall S__law_target (dCons (dVar 0) (dCons (dVar 3) dNil)) (fun _ _ => False) ρ' Q' := fun ρ' hρ Q' hQ' => by
      simp only [dCall, dCons, dNil, dVar, hρ.1, hρ.2]
      exact ⟨n, rfl, by omega, by omega, hQ'⟩
    refine ⟨by omega, by omega, by rw [rng_len, sizeLine_eq]; omega, some_tg _ l _ l0 (by omega) (fun ρ' hρ Q' hQ' => one ρ' hρ Q' hQ') fun ts hts hto => ?_⟩
    refine ⟨n, rfl, by omega, by omega, fun ov hov => ?_⟩
    walk_at "dl"
    refine ⟨by omega, by omega, by rw [rng_len, sizeLine_eq]; omega, some_tg _ a _ a0 (by omega) (fun ρ' hρ Q' hQ' => one ρ' hρ Q' hQ') fun us hus huo => ?_⟩
    refine ⟨4, rfl, by omega, by omega, fun fl f0 f1 => ?_⟩
    walk_at "dl"
    refine ⟨⟨by decide, by decide⟩, by simp [sizeLine_eq]; omega, ?_⟩
    refine hN _ ⟨rs ++ [⟨ts, ov, us, decide (fl / 2 = 1), decide (fl % 2 = 1)⟩], _, _, _, _, _, _, by rw [List.map_append]; rfl, by simp [hl], fun r hr => ?_⟩
    rcases List.mem_append.mp hr with hr | hr
    · exact hrs r hr
    · rw [List.mem_singleton] at hr
      subst hr
      refine ⟨hts, hus, fun t ht => ?_⟩
      rcases List.mem_cons.mp ht with rfl | ht
      · exact hov
      · rcases List.mem_append.mp ht with ht | ht
        · exact hto t ht
        · exact huo t ht
  · obtain ⟨rs, s5, s6, s7, s8, s9, s10, rfl, hl, hrs⟩ := hi
    exact h rs (by omega) (by rw [hl]; exact hrs)
theorem sm_tg (n : Nat) (t : Option Int) : sm (n + 1) (tgD t) = true := by cases t <;> (unfold tgD sm; rfl)
theorem sm_tgs {n : Nat} {l : List (Option Int)} (h : l.length ≤ 1000) : sm (n + 2) (tgs l) = true := by
  unfold tgs sm
  rw [Bool.and_eq_true]
  refine ⟨decide_eq_true (by simpa using h), List.all_eq_true.mpr fun d hd => ?_⟩
  obtain ⟨t, _, rfl⟩ := List.mem_map.mp hd
  exact sm_tg n t
theorem sm_row {n : Nat} {r : Row} (h1 : r.reads.length ≤ 1000) (h2 : r.writes.length ≤ 1000) : sm (n + 3) (rowD r) = true := by
  unfold rowD sm
  rw [Bool.and_eq_true]
  refine ⟨by simp, List.all_eq_true.mpr fun d hd => ?_⟩
  simp only [List.mem_cons, List.not_mem_nil, or_false] at hd
  rcases hd with rfl | rfl | rfl | rfl | rfl
  · exact sm_tgs h1
  · exact sm_tg _ _
  · exact sm_tgs h2
  · unfold sm; rfl
  · unfold sm; rfl
theorem sm_rows {l a : Int} {rs : List Row} (ok : CtrOk l a rs) (n : Nat) : sm (n + 4) (rowsD rs) = true := by
  unfold rowsD sm
  rw [Bool.and_eq_true]
  have := ok.hn
  refine ⟨decide_eq_true (by rw [List.length_map]; omega), List.all_eq_true.mpr fun d hd => ?_⟩
  obtain ⟨r, hr, rfl⟩ := List.mem_map.mp hd
  exact sm_row (ok.small hr).1 (ok.small hr).2
theorem p__law_right (ds : List D) (Qd : D → Prop) (Xq : XQ) (h : S__law_right ds Qd Xq) : b__law_right (S__law_same 6) S__law_events S_follow S__law_follow (kD Qd Xq) (startD 4 ds) := by
  obtain ⟨l, a, rs, rfl, ok, h⟩ := h
  show b__law_right (S__law_same 6) S__law_events S_follow S__law_follow (kD Qd Xq) [.fz (conD l a rs), .fz (partD l a rs), .un, .un]
  obtain ⟨l1, l3⟩ := ok.hl
  obtain ⟨a2, a4⟩ := ok.ha
  obtain ⟨n1, n8⟩ := ok.hn
  have hm := fun m h => con_meth l a rs m h
  unfold b__law_right partD
  walk_at "dl"
  rw [con_isC]
  walk_at "dl"
  rw [con_letters, con_answers]
  refine ⟨_, rfl, ?_, ?_⟩
  · unfold sm
    rfl
  walk_at "dl"
  unfold rowsD
  walk_at "dl"
  rw [List.length_map, Int.toNat_natCast]
  refine ⟨by omega, by omega, ?_⟩
  refine for_rng (fun j ρ => ∃ x y, ρ = [.fz (conD l a rs), .fz (partD l a rs), x, y]) ⟨_, _, rfl⟩ (fun j ρ N hj hi hN => ?_) (fun ρ hi => ?_)
  · obtain ⟨x, y, rfl⟩ := hi
    unfold partD
    walk_at "dl"
    refine ⟨l, a, rfl, by omega, by omega, by omega, by omega, ?_⟩
    walk_at "dl"
    refine for_ind evD _ (fun _ _ ρ => ∃ y, ρ = [.fz (conD l a rs), .fz (partD l a rs), .fz (.int (0 + (j : Int))), y]) ⟨_, rfl⟩ (fun pre e post ρ N e' hi hN => ?_) (fun ρ hi => ?_)
    · obtain ⟨y, rfl⟩ := hi
      have he : e.ok l a := evs_ok e (by rw [e']; simp)
      unfold partD
      walk_at "dl"
      refine ⟨hm _ (by decide), l, a, rs, _, e, rfl, ok, by omega, by omega, he, ?_⟩
      refine ⟨l, a, rs, _, e, rfl, ok, by omega, by omega, he, ?_⟩
      refine ⟨_, rfl, sm_tg 5 _, ?_⟩
      walk_at "dl"
      exact hN _ ⟨_, rfl⟩
    · obtain ⟨y, rfl⟩ := hi
      exact hN _ ⟨_, _, rfl⟩
  · obtain ⟨x, y, rfl⟩ := hi
    unfold partD
    walk_at "dl"
    rw [con_states]
    exact ⟨_, rfl, sm_rows ok 2, h⟩
end Con
open PySem L2 Dl in
local macro_rules | `(tactic| walk_at "dl") => `(tactic| simp (decide := true) only [dSeq, dSet, dSetN, dIfS, dRet, dRetV, dRetN, dExpr, dBreak, dCont, dNext, dFrz, frz, dApp, dExt, dExtA, dSetIx, dFor, dForB, dAsg, dVar, dVarQ, dC, dImm, dLst, d1, d2, n1, n2, dNil, dCons, dTup, dCall, dCallQ, dMeth, dMake, dSetF, dFldI, dFldV, dRaise0, dRaise1, dTry, dB, dTru, dNot, dAnd, dOr, dAndV, dOrV, dNotV, dIf, dSl, nSl, oNo, oSome, iIt, iR1, iR2, iStrD, gItems_lst, gItems_tup, gItems_scr, dLc, dYes, dRd, kD, kI, kSu, DK.xq, gLen_lst, gLen_tup, gLen_scr, gListN_lst, gListN_tup, gTuple_lst, gTuple_tup, gRevN, gCat_lst, gSlN_lst, gSl_lst, gSl_tup, gSl_str, bTup_tup, setAll, gEq_bl, gNe_bl, cut_t1, cut_t2, cut_t3, cut_f1, gIx_rd0, gIx_rd1, gIx_rd2, gEq_int, gNe_int, dIndexL, dExIs, dExFld, putD, List.getElem?_cons_zero, List.getElem?_cons_succ, List.set_cons_zero, List.set_cons_succ, if_true, if_false, Bool.false_eq_true, ite_true, ite_false, decide_true, decide_false, Bool.not_true, Bool.not_false, true_and, and_true, gAdd_int, gAdd_str, gAdd_lst, gAdd_tup, gMns_int, gI2_int, gCmp_int, gNeg_int, gIsN_non, gNotN_non, gTru_non, gTru_bl, gTru_int, gTru_lst, gTru_tup, gInt_int, gInt_bl, gEq_strL, gNe_strL, gStr_int, gMin_int, gMax_int, gIsi_int_non, gIsi_int_bl, gIsi_int_int, gIsi_int_str, gIsi_int_tup, gIsi_int_lst, gIsi_bool_non, gIsi_bool_bl, gIsi_bool_int, gIsi_bool_str, gIsi_bool_tup, gIsi_bool_lst, gIsi_str_non, gIsi_str_bl, gIsi_str_int, gIsi_str_str, gIsi_str_tup, gIsi_str_lst, gIsi_tuple_non, gIsi_tuple_bl, gIsi_tuple_int, gIsi_tuple_str, gIsi_tuple_tup, gIsi_tuple_lst, gIsi_list_non, gIsi_list_bl, gIsi_list_int, gIsi_list_str, gIsi_list_tup, gIsi_list_lst, gIsi2_lt_non, gIsi2_lt_bl, gIsi2_lt_int, gIsi2_lt_str, gIsi2_lt_tup, gIsi2_lt_lst, isNon_non, isNon_bl, isNon_int, isNon_str, isNon_tup, isNon_lst, gIx_tup0, gIx_lst0, gIx_tup1, gIx_lst1, gIx_tup2, gIx_lst2, gIx_tup3, gIx_lst3, gIx_tup4, gIx_lst4, gIx_tup5, gIx_lst5, gIx_tup6, gIx_lst6, gIx_tup7, gIx_lst7, ex_is, ex_fl, lk_hd, gIn_t2, gIn_t3, or_true, or_false, true_or, false_or, Bool.or_true, Bool.or_false, Bool.true_or, Bool.false_or, lay_0, lay_1, lay_2, lay_3, lay_4, lay_5, lay_6, lay_7, lay_8, lay_9, lay_10, lay_11, lay_12, lay_13, lay_14, lay_15, lay_16, lay_17, lay_18, lay_19, lay_20, lay_21, lay_22, lay_23, lay_24, lay_25, lay_26, lay_27, lay_28, lay_29, lay_30, lay_31, lay_32, lay_33, lay_34, lay_35, lay_36, lay_37, lay_38, lay_39, lay_40, lay_41, lay_42, lay_43, lay_44, lay_45, lay_46, lay_47, lay_48, lay_49, lay_50, lay_51, lay_52, lay_53, lay_54, lay_55, lay_56, lay_57, lay_58, lay_59, lay_60, lay_61, lay_62, lay_63, lay_64, lay_65, lay_66, lay_67, lay_68, lay_69, lay_70, lay_71, lay_72, lay_73, lay_74, lay_75, lay_76, lay_77, lay_78, lay_79, lay_80, lay_81, lay_82, lay_83, lay_84, lay_85, lay_86, lay_87, lay_88, lay_89, lay_90, lay_91, lay_92, lay_93, lay_94, lay_95, lay_96, lay_97, lay_98, lay_99, lay_100, lay_101, lay_102, lay_103, lay_104, lay_105, lay_106, lay_107, lay_108, lay_109, lay_110, lay_111, lay_112, lay_113, lay_114, lay_115, lay_116, lay_117, lay_118, lay_119, lay_120, lay_121, lay_122, lay_123, lay_124, lay_125, lay_126, lay_127, lay_128, lay_129, lay_130, lay_131, lay_132, lay_133, lay_134, lay_135, lay_136, lay_137, lay_138, lay_139, lay_140, lay_141, lay_142, lay_143, lay_144, lay_145, lay_146, lay_147, lay_148, lay_149, lay_150, lay_151, lay_152, lay_153, lay_154, lay_155, lay_156, lay_157, lay_158, lay_159, lay_160, lay_161, lay_162, lay_163, lay_164, lay_165, lay_166, lay_167, lay_168, lay_169, lay_170, dSee, dSeeT, dSeeV, S.seen, List.map_cons, List.map_nil, dNewO, dLeaf, dOwn, dAppO, dClrO, dRevO, dInsO, dSetO, dMvO, dAppV, dRetO, dRetF, dForO, dCallF, dCallX, xHere, xSkip, dSetX, dExprX, dRetX, putS, dP0, dPIx, kO, startO, startA, List.cons_append, List.nil_append, List.length_cons, List.length_nil, List.replicate, dMakeS, dCallS, ixP_1, ixP_2, ixP_3])
namespace K11
open PySem L2 Dl Con
def badLen (l a : Int) (r : Row) : Bool := !decide ((r.reads.length : Int) = l) || !decide ((r.writes.length : Int) = a)
def badT (n : Nat) (t : Option Int) : Bool := match t with
  | none => false
  | some i => decide (i < 0) || decide ((n : Int) ≤ i)
def Row.ts (r : Row) : List (Option Int) := r.reads ++ [r.over] ++ r.writes
def badRow (n : Nat) (r : Row) : Bool := (Row.ts r).any (badT n)
def rsn (l a : Int) (rs : List Row) : Str :=
  if l < 1 ∨ 3 < l then "letters" else if a < 2 ∨ 4 < a then "answers" else if rs.length < 1 ∨ 8 < rs.length then "states" else
  if rs.any (badLen l a) = true then "rows" else if rs.any (badRow rs.length) = true then "target" else ""
theorem rsn_ok {l a : Int} {rs : List Row} : rsn l a rs = "" ↔ CtrOk l a rs := by
  unfold rsn
  constructor
  · intro h
    split at h
    · exact absurd h (by decide +kernel)
    split at h
    · exact absurd h (by decide +kernel)
    split at h
    · exact absurd h (by decide +kernel)
    split at h
    · exact absurd h (by decide +kernel)
    split at h
    · exact absurd h (by decide +kernel)
    rename_i h1 h2 h3 h4 h5
    refine ⟨by omega, by omega, by omega, fun r hr => ?_⟩
    have a1 : badLen l a r = false := by
      cases e : badLen l a r with
      | false => rfl
      | true => exact absurd (List.any_eq_true.mpr ⟨r, hr, e⟩) h4
    have a2 : badRow rs.length r = false := by
      cases e : badRow rs.length r with
      | false => rfl
      | true => exact absurd (List.any_eq_true.mpr ⟨r, hr, e⟩) h5
    unfold badLen at a1
    simp only [Bool.or_eq_false_iff, Bool.not_eq_false', decide_eq_true_eq] at a1
    refine ⟨a1.1, a1.2, fun t ht i e => ?_⟩
    unfold badRow at a2
    rw [List.any_eq_false] at a2
    have ht' : t ∈ Row.ts r := by
      unfold Row.ts
      simp only [List.mem_cons, List.mem_append, List.not_mem_nil, or_false] at ht ⊢
      rcases ht with h | h | h
      · exact .inl (.inr h)
      · exact .inl (.inl h)
      · exact .inr h
    have := a2 t ht'
    subst e
    unfold badT at this
    simp only [Bool.or_eq_true, decide_eq_true_eq, not_or] at this
    omega
  · intro ok
    have h4 : rs.any (badLen l a) = false := List.any_eq_false.mpr fun r hr => by
      obtain ⟨r1, r2, _⟩ := ok.rows r hr
      unfold badLen
      simp [r1, r2]
    have h5 : rs.any (badRow rs.length) = false := List.any_eq_false.mpr fun r hr => by
      have r3 := ok.rows r hr
      unfold badRow
      rw [Bool.not_eq_true, List.any_eq_false]
      intro t ht
      cases t with
      | none => exact Bool.false_ne_true
      | some i =>
        have := row_ts r3 ht rfl
        unfold badT
        simp only [Bool.or_eq_true, decide_eq_true_eq, not_or]
        omega
    obtain ⟨l1, l3⟩ := ok.hl
    obtain ⟨a2, a4⟩ := ok.ha
    obtain ⟨n1, n8⟩ := ok.hn
    rw [if_neg (by omega), if_neg (by omega), if_neg (by omega), if_neg (by rw [h4]; exact Bool.false_ne_true), if_neg (by rw [h5]; exact Bool.false_ne_true)]
theorem lays_rsn (l a : Int) (rs : List Row) : lays (rsn l a rs) = true := by
  unfold rsn
  split
  · decide +kernel
  split
  · decide +kernel
  split
  · decide +kernel
  split
  · decide +kernel
  split <;> decide +kernel
def Sz (rs : List Row) : Prop := rs.length ≤ 20 ∧ ∀ r ∈ rs, r.reads.length ≤ 10 ∧ r.writes.length ≤ 10
theorem Sz.of {l a : Int} {rs : List Row} (ok : CtrOk l a rs) : Sz rs := ⟨by have := ok.hn; omega, fun r hr => by
  obtain ⟨h1, h2, _⟩ := ok.rows r hr
  have := ok.hl
  have := ok.ha
  omega⟩
def S__law_reason : DF := fun ds Q _ => ∃ l a rs, ds = [.int l, .int a, rowsD rs] ∧ Sz rs ∧ Q (.str (rsn l a rs))
theorem p__law_reason (ds : List D) (Qd : D → Prop) (Xq : XQ) (h : S__law_reason ds Qd Xq) : b__law_reason (kD Qd Xq) (startD 5 ds) := by
  obtain ⟨l, a, rs, rfl, sz, h⟩ := h
  show b__law_reason (kD Qd Xq) [.fz (.int l), .fz (.int a), .fz (rowsD rs), .un, .un]
  unfold b__law_reason
  have i3 : ∀ (x p q r : Int) (Q : D → Prop), gIn true (.int x) (.lst [.int p, .int q, .int r]) Q = Q (.bl (!decide (x ∈ [p, q, r]))) := fun x p q r Q => gIn_lI true x [p, q, r] Q
  walk_at "dl"
  rw [i3]
  walk_at "dl"
  split
  · rename_i hl
    have : rsn l a rs = "letters" := by unfold rsn; rw [if_pos (by simp at hl; omega)]
    rw [← this]; exact h
  rename_i hl
  have hl : 1 ≤ l ∧ l ≤ 3 := by simp at hl; omega
  rw [i3]
  walk_at "dl"
  split
  · rename_i ha
    have : rsn l a rs = "answers" := by unfold rsn; rw [if_neg (by omega), if_pos (by simp at ha; omega)]
    rw [← this]; exact h
  rename_i ha
  have ha : 2 ≤ a ∧ a ≤ 4 := by simp at ha; omega
  unfold rowsD
  walk_at "dl"
  rw [List.length_map]
  have st : ∀ b : Prop, (rs.length < 1 ∨ 8 < rs.length) → Qd (.str "states") := fun _ hb => by
    have : rsn l a rs = "states" := by unfold rsn; rw [if_neg (by omega), if_neg (by omega), if_pos hb]
    rw [← this]; exact h
  split
  · rename_i h1
    exact st True (.inl (by simp at h1; omega))
  rename_i h1
  split
  · rename_i h2
    exact st True (.inr (by simp at h2; omega))
  rename_i h2
  have hn : ¬ (rs.length < 1 ∨ 8 < rs.length) := by simp at h1 h2; omega
  clear st h1 h2
  refine for_ind rowD rs (fun pre _ ρ => (∀ r ∈ pre, badLen l a r = false) ∧ ∃ x y, ρ = [.fz (.int l), .fz (.int a), .fz (.tup (rs.map rowD)), x, y]) ⟨by simp, _, _, rfl⟩ (fun pre r post ρ N e hi hN => ?_) (fun ρ hi => ?_)
  · obtain ⟨hp, x, y, rfl⟩ := hi
    have hr : r ∈ rs := by rw [e]; simp
    unfold rowD
    walk_at "dl"
    unfold tgs
    walk_at "dl"
    simp only [List.length_map]
    have bad : badLen l a r = true → Qd (.str "rows") := fun hb => by
      have : rsn l a rs = "rows" := by unfold rsn; rw [if_neg (by omega), if_neg (by omega), if_neg hn, if_pos (List.any_eq_true.mpr ⟨r, hr, hb⟩)]
      rw [← this]; exact h
    unfold badLen at bad hp hN
    split
    · rename_i h1
      exact bad (by rw [h1]; rfl)
    rename_i h1
    split
    · rename_i h2
      exact bad (by rw [h2, Bool.or_true])
    rename_i h2
    refine hN _ ⟨fun q hq => ?_, _, _, rfl⟩
    rcases List.mem_append.mp hq with hq | hq
    · exact hp q hq
    · rw [List.mem_singleton] at hq
      subst hq
      rw [Bool.not_eq_true] at h1 h2
      rw [h1, h2]; rfl
  · obtain ⟨hg, x, y, rfl⟩ := hi
    have hg : rs.any (badLen l a) = false := List.any_eq_false.mpr fun r hr => by rw [hg r hr]; exact Bool.false_ne_true
    walk_at "dl"
    refine for_ind rowD rs (fun pre _ ρ => (∀ r ∈ pre, badRow rs.length r = false) ∧ ∃ x y, ρ = [.fz (.int l), .fz (.int a), .fz (.tup (rs.map rowD)), x, y]) ⟨by simp, _, _, rfl⟩ (fun pre r post ρ N e hi hN => ?_) (fun ρ hi => ?_)
    · obtain ⟨hp, x, y, rfl⟩ := hi
      have hr : r ∈ rs := by rw [e]; simp
      have hz := sz.2 r hr
      have bad : badRow rs.length r = true → Qd (.str "target") := fun hb => by
        have : rsn l a rs = "target" := by
          unfold rsn
          rw [if_neg (by omega), if_neg (by omega), if_neg hn, if_neg (by rw [hg]; exact Bool.false_ne_true), if_pos (List.any_eq_true.mpr ⟨r, hr, hb⟩)]
        rw [← this]; exact h
      unfold rowD
      walk_at "dl"
      unfold tgs
      walk_at "dl"
      refine ⟨by simp [sizeLine_eq]; omega, by simp [sizeLine_eq]; omega, ?_⟩
      rw [show r.reads.map tgD ++ [tgD r.over] ++ r.writes.map tgD = (Row.ts r).map tgD by simp [Row.ts]]
      refine for_ind tgD (Row.ts r) (fun pr _ ρ => (∀ t ∈ pr, badT rs.length t = false) ∧ ∃ y z, ρ = [.fz (.int l), .fz (.int a), .fz (.tup (rs.map rowD)), y, z]) ⟨by simp, _, _, rfl⟩ (fun pr t po ρ N2 e2 hi hN2 => ?_) (fun ρ hi => ?_)
      · obtain ⟨hpr, y, z, rfl⟩ := hi
        have ht : t ∈ Row.ts r := by rw [e2]; simp
        have next : badT rs.length t = false → ∀ y z, N2 [.fz (.int l), .fz (.int a), .fz (.tup (rs.map rowD)), y, z] := fun hb y z => hN2 _ ⟨fun u hu => by
          rcases List.mem_append.mp hu with hu | hu
          · exact hpr u hu
          · rw [List.mem_singleton] at hu
            subst hu
            exact hb, _, _, rfl⟩
        cases t with
        | none =>
          unfold tgD
          walk_at "dl"
          exact next rfl _ _
        | some i =>
          unfold tgD
          walk_at "dl"
          by_cases hb : badT rs.length (some i) = true
          · have hb2 := hb
            unfold badT at hb2
            simp only [Bool.or_eq_true, decide_eq_true_eq] at hb2
            have q := bad (List.any_eq_true.mpr ⟨_, ht, hb⟩)
            unfold dChain
            walk_at "dl"
            simp only [List.length_map]
            by_cases h0 : 0 ≤ i
            · rw [decide_eq_true h0, decide_eq_false (show ¬ (i < (rs.length : Int)) by omega)]
              exact q
            · rw [decide_eq_false h0]
              exact q
          · rw [Bool.not_eq_true] at hb
            have hb2 := hb
            unfold badT at hb2
            simp only [Bool.or_eq_false_iff, decide_eq_false_iff_not] at hb2
            have q := next hb
            unfold dChain
            walk_at "dl"
            simp only [List.length_map]
            rw [decide_eq_true (show 0 ≤ i by omega), decide_eq_true (show i < (rs.length : Int) by omega)]
            exact q _ _
      · obtain ⟨hpr, y, z, rfl⟩ := hi
        refine hN _ ⟨fun q hq => ?_, _, _, rfl⟩
        rcases List.mem_append.mp hq with hq | hq
        · exact hp q hq
        · rw [List.mem_singleton] at hq
          subst hq
          exact List.any_eq_false.mpr fun t ht => by rw [hpr t ht]; exact Bool.false_ne_true
    · obtain ⟨hb, x, y, rfl⟩ := hi
      walk_at "dl"
      have : rsn l a rs = "" := by
        unfold rsn
        rw [if_neg (by omega), if_neg (by omega), if_neg hn, if_neg (by rw [hg]; exact Bool.false_ne_true), if_neg]
        rw [Bool.not_eq_true]
        exact List.any_eq_false.mpr fun r hr => by rw [hb r hr]; exact Bool.false_ne_true
      rw [← this]; exact h
abbrev CEx (z : Str) (Xq : XQ) : Prop := Xq "InvalidContract" [("reason", .str z)]
def S_chk : DF := fun ds Q Xq => ∃ l a rs, ds = [.int l, .int a, rowsD rs] ∧ Sz rs ∧ (CtrOk l a rs → Q .non) ∧ (¬ CtrOk l a rs → CEx (rsn l a rs) Xq)
theorem p_chk (ds : List D) (Qd : D → Prop) (Xq : XQ) (h : S_chk ds Qd Xq) : b_check_contract (kD Qd Xq) (startD 5 ds) := by
  obtain ⟨l, a, rs, rfl, sz, hq, hx⟩ := h
  show b_check_contract (kD Qd Xq) [.fz (.int l), .fz (.int a), .fz (rowsD rs), .un, .un]
  have hx : ∀ z : Str, rsn l a rs = z → z ≠ "" → CEx z Xq := fun z e n => by
    subst e
    exact hx fun ok => n (rsn_ok.mpr ok)
  have hq : rsn l a rs = "" → Qd .non := fun e => hq (rsn_ok.mp e)
  unfold b_check_contract
  unfold rowsD
  walk_at "dl"
  simp only [List.length_map]
  have h1 : (l < 1 ∨ 3 < l) → CEx "letters" Xq := fun h => hx _ (by unfold rsn; rw [if_pos h]) (by decide +kernel)
  have h2 : ¬ (l < 1 ∨ 3 < l) → (a < 2 ∨ 4 < a) → CEx "answers" Xq := fun h h' => hx _ (by unfold rsn; rw [if_neg h, if_pos h']) (by decide +kernel)
  have h3 : ¬ (l < 1 ∨ 3 < l) → ¬ (a < 2 ∨ 4 < a) → (rs.length < 1 ∨ 8 < rs.length) → CEx "states" Xq := fun h h' h'' => hx _ (by unfold rsn; rw [if_neg h, if_neg h', if_pos h'']) (by decide +kernel)
  split
  · rename_i e; exact h1 (.inl (by simpa using e))
  rename_i e1
  split
  · rename_i e; exact h1 (.inr (by simpa using e))
  rename_i e2
  have hl : ¬ (l < 1 ∨ 3 < l) := by simp at e1 e2; omega
  split
  · rename_i e; exact h2 hl (.inl (by simpa using e))
  rename_i e3
  split
  · rename_i e; exact h2 hl (.inr (by simpa using e))
  rename_i e4
  have ha : ¬ (a < 2 ∨ 4 < a) := by simp at e3 e4; omega
  split
  · rename_i e; exact h3 hl ha (.inl (by simp at e; omega))
  rename_i e5
  split
  · rename_i e; exact h3 hl ha (.inr (by simp at e; omega))
  rename_i e6
  have hn : ¬ (rs.length < 1 ∨ 8 < rs.length) := by simp at e5 e6; omega
  clear h1 h2 h3 e1 e2 e3 e4 e5 e6
  refine for_ind rowD rs (fun pre _ ρ => (∀ r ∈ pre, badLen l a r = false) ∧ ∃ x y, ρ = [.fz (.int l), .fz (.int a), .fz (.tup (rs.map rowD)), x, y]) ⟨by simp, _, _, rfl⟩ (fun pre r post ρ N e hi hN => ?_) (fun ρ hi => ?_)
  · obtain ⟨hp, x, y, rfl⟩ := hi
    have hr : r ∈ rs := by rw [e]; simp
    unfold rowD
    walk_at "dl"
    unfold tgs
    walk_at "dl"
    simp only [List.length_map]
    have bad : badLen l a r = true → CEx "rows" Xq := fun hb => hx _ (by unfold rsn; rw [if_neg hl, if_neg ha, if_neg hn, if_pos (List.any_eq_true.mpr ⟨r, hr, hb⟩)]) (by decide +kernel)
    unfold badLen at bad hp hN
    split
    · rename_i h1
      exact bad (by rw [h1]; rfl)
    rename_i h1
    split
    · rename_i h2
      exact bad (by rw [h2, Bool.or_true])
    rename_i h2
    refine hN _ ⟨fun q hq => ?_, _, _, rfl⟩
    rcases List.mem_append.mp hq with hq | hq
    · exact hp q hq
    · rw [List.mem_singleton] at hq
      subst hq
      rw [Bool.not_eq_true] at h1 h2
      rw [h1, h2]; rfl
  · obtain ⟨hg, x, y, rfl⟩ := hi
    have hg : rs.any (badLen l a) = false := List.any_eq_false.mpr fun r hr => by rw [hg r hr]; exact Bool.false_ne_true
    walk_at "dl"
    refine for_ind rowD rs (fun pre _ ρ => (∀ r ∈ pre, badRow rs.length r = false) ∧ ∃ x y, ρ = [.fz (.int l), .fz (.int a), .fz (.tup (rs.map rowD)), x, y]) ⟨by simp, _, _, rfl⟩ (fun pre r post ρ N e hi hN => ?_) (fun ρ hi => ?_)
    · obtain ⟨hp, x, y, rfl⟩ := hi
      have hr : r ∈ rs := by rw [e]; simp
      have hz := sz.2 r hr
      have bad : badRow rs.length r = true → CEx "target" Xq := fun hb => hx _ (by
          unfold rsn
          rw [if_neg hl, if_neg ha, if_neg hn, if_neg (by rw [hg]; exact Bool.false_ne_true), if_pos (List.any_eq_true.mpr ⟨r, hr, hb⟩)]) (by decide +kernel)
      unfold rowD
      walk_at "dl"
      unfold tgs
      walk_at "dl"
      refine ⟨by simp [sizeLine_eq]; omega, by simp [sizeLine_eq]; omega, ?_⟩
      rw [show r.reads.map tgD ++ [tgD r.over] ++ r.writes.map tgD = (Row.ts r).map tgD by simp [Row.ts]]
      refine for_ind tgD (Row.ts r) (fun pr _ ρ => (∀ t ∈ pr, badT rs.length t = false) ∧ ∃ y z, ρ = [.fz (.int l), .fz (.int a), .fz (.tup (rs.map rowD)), y, z]) ⟨by simp, _, _, rfl⟩ (fun pr t po ρ N2 e2 hi hN2 => ?_) (fun ρ hi => ?_)
      · obtain ⟨hpr, y, z, rfl⟩ := hi
        have ht : t ∈ Row.ts r := by rw [e2]; simp
        have next : badT rs.length t = false → ∀ y z, N2 [.fz (.int l), .fz (.int a), .fz (.tup (rs.map rowD)), y, z] := fun hb y z => hN2 _ ⟨fun u hu => by
          rcases List.mem_append.mp hu with hu | hu
          · exact hpr u hu
          · rw [List.mem_singleton] at hu
            subst hu
            exact hb, _, _, rfl⟩
        cases t with
        | none =>
          unfold tgD
          walk_at "dl"
          exact next rfl _ _
        | some i =>
          unfold tgD
          walk_at "dl"
          simp only [List.length_map]
          by_cases hb : badT rs.length (some i) = true
          · have hb2 := hb
            unfold badT at hb2
            simp only [Bool.or_eq_true, decide_eq_true_eq] at hb2
            have q := bad (List.any_eq_true.mpr ⟨_, ht, hb⟩)
            by_cases h0 : i < 0
            · rw [if_pos (decide_eq_true h0)]
              exact q
            · rw [if_neg (by simpa using h0), if_pos (decide_eq_true (by omega))]
              exact q
          · rw [Bool.not_eq_true] at hb
            have hb2 := hb
            unfold badT at hb2
            simp only [Bool.or_eq_false_iff, decide_eq_false_iff_not] at hb2
            have q := next hb
            rw [if_neg (by simpa using hb2.1), if_neg (by simpa using hb2.2)]
            exact q _ _
      · obtain ⟨hpr, y, z, rfl⟩ := hi
        refine hN _ ⟨fun q hq => ?_, _, _, rfl⟩
        rcases List.mem_append.mp hq with hq | hq
        · exact hp q hq
        · rw [List.mem_singleton] at hq
          subst hq
          exact List.any_eq_false.mpr fun t ht => by rw [hpr t ht]; exact Bool.false_ne_true
    · obtain ⟨hb, x, y, rfl⟩ := hi
      refine hq ?_
      unfold rsn
      rw [if_neg hl, if_neg ha, if_neg hn, if_neg (by rw [hg]; exact Bool.false_ne_true), if_neg]
      rw [Bool.not_eq_true]
      exact List.any_eq_false.mpr fun r hr => by rw [hb r hr]; exact Bool.false_ne_true
def S_Con : DI := fun ds Q Xq => ∃ l a rs d, ds = [.int l, .int a, d] ∧ (d = .tup (rs.map rowD) ∨ d = .lst (rs.map rowD)) ∧ Sz rs ∧ (CtrOk l a rs → Q (conF l a rs)) ∧ (¬ CtrOk l a rs → CEx (rsn l a rs) Xq)
theorem frzd {rs : List Row} {d : D} (hd : d = .tup (rs.map rowD) ∨ d = .lst (rs.map rowD)) : frzD d = rowsD rs := by
  rcases hd with rfl | rfl <;> (unfold frzD; rw [frz_rows]; rfl)
theorem pld {rs : List Row} {d : D} (sz : Sz rs) (hd : d = .tup (rs.map rowD) ∨ d = .lst (rs.map rowD)) : pl 6 d = true := by
  have hp : plL 5 (rs.map rowD) = true := plL_of fun d hd => by
    obtain ⟨r, hr, rfl⟩ := List.mem_map.mp hd
    have := sz.2 r hr
    exact pl_row (by omega) (by omega)
  have hl : decide ((rs.map rowD).length ≤ 1000) = true := decide_eq_true (by rw [List.length_map]; have := sz.1; omega)
  rcases hd with rfl | rfl <;> (unfold pl; rw [hl, hp]; rfl)
theorem imm_go : ∀ {ds : List D}, (∀ d ∈ ds, immB d = true) → immB.go ds = true
  | [], _ => by unfold immB.go; rfl
  | d :: ds, h => by
    unfold immB.go
    rw [h d (List.mem_cons_self ..), imm_go fun e he => h e (List.mem_cons_of_mem _ he)]
    rfl
theorem imm_tg (t : Option Int) : immB (tgD t) = true := by cases t <;> (unfold tgD immB; rfl)
theorem imm_tgs (l : List (Option Int)) : immB (tgs l) = true := by
  unfold tgs immB
  refine imm_go fun d hd => ?_
  obtain ⟨t, _, rfl⟩ := List.mem_map.mp hd
  exact imm_tg t
theorem imm_row (r : Row) : immB (rowD r) = true := by
  unfold rowD immB
  refine imm_go fun d hd => ?_
  simp only [List.mem_cons, List.not_mem_nil, or_false] at hd
  rcases hd with rfl | rfl | rfl | rfl | rfl
  · exact imm_tgs _
  · exact imm_tg _
  · exact imm_tgs _
  · unfold immB; rfl
  · unfold immB; rfl
theorem imm_rows (rs : List Row) : immB (rowsD rs) = true := by
  unfold rowsD immB
  refine imm_go fun d hd => ?_
  obtain ⟨t, _, rfl⟩ := List.mem_map.mp hd
  exact imm_row t
theorem p_Con0 (a' : Addr) (Qf : List (Str × D) → Prop) (Xq : XQ) (l a : Int) (rs : List Row) (d : D) (s1 s2 s3 : S) (hs : (s1 = .fz (.int l) ∧ s2 = .fz (.int a) ∧ s3 = .fz d) ∨ (s1 = .se (.int l) ∧ s2 = .se (.int a) ∧ s3 = .se d))
    (hd : d = .tup (rs.map rowD) ∨ d = .lst (rs.map rowD)) (sz : Sz rs) (hq : CtrOk l a rs → Qf (conF l a rs)) (hx : ¬ CtrOk l a rs → CEx (rsn l a rs) Xq) :
    b_Contract___init__ (S_frozen 6) S_chk (kI a' "Contract" Qf Xq) [.io a' "Contract" [], s1, s2, s3] := by
  have v1 := pld sz hd
  have v2 := frzd hd
  have v3 := imm_rows rs
  rcases hs with ⟨rfl, rfl, rfl⟩ | ⟨rfl, rfl, rfl⟩ <;> (
    unfold b_Contract___init__
    walk_at "dl"
    refine ⟨rfl, rfl, d, rfl, v1, ?_⟩
    rw [v2]
    refine ⟨v3, ⟨_, _, _, rfl, List.mem_singleton.mpr rfl⟩, _, rfl, ?_⟩
    refine ⟨l, a, rs, rfl, sz, fun ok => ⟨rfl, _, rfl, hq ok⟩, fun no => ⟨rfl, hx no⟩⟩)
theorem p_Con (a' : Addr) (ds : List D) (Qf : List (Str × D) → Prop) (Xq : XQ) (h : S_Con ds Qf Xq) : b_Contract___init__ (S_frozen 6) S_chk (kI a' "Contract" Qf Xq) (startI 4 a' "Contract" ds) := by
  obtain ⟨l, a, rs, d, rfl, hd, sz, hq, hx⟩ := h
  exact p_Con0 a' Qf Xq l a rs d _ _ _ (.inl ⟨rfl, rfl, rfl⟩) hd sz hq hx
theorem ps_Con (a' : Addr) (ds : List D) (Qf : List (Str × D) → Prop) (Xq : XQ) (h : S_Con ds Qf Xq) : b_Contract___init__ (S_frozen 6) S_chk (kI a' "Contract" Qf Xq) (startIS 4 a' "Contract" ds) := by
  obtain ⟨l, a, rs, d, rfl, hd, sz, hq, hx⟩ := h
  exact p_Con0 a' Qf Xq l a rs d _ _ _ (.inr ⟨rfl, rfl, rfl⟩) hd sz hq hx
def S_put : DF := fun ds Q _ => ∃ (es : List D) (k : Nat) (x : D), ds = [.tup es, .int (k : Int), x] ∧ k < es.length ∧ es.length ≤ 100 ∧ Q (.tup (es.set k x))
theorem p__law_put (ds : List D) (Qd : D → Prop) (Xq : XQ) (h : S_put ds Qd Xq) : b__law_put (kD Qd Xq) (startD 3 ds) := by
  obtain ⟨es, k, x, rfl, hk, hl, h⟩ := h
  show b__law_put (kD Qd Xq) [.fz (.tup es), .fz (.int (k : Int)), .fz x]
  unfold b__law_put
  walk_at "dl"
  have e1 : cutD es none (some (k : Int)) = es.take k := cutD_to es k
  have e2 : cutD es (some ((k : Int) + 1)) none = es.drop (k + 1) := cutD_from es (k + 1)
  rw [e1, e2]
  refine ⟨by rw [List.length_take, sizeLine_eq]; omega, by simp only [List.length_append, List.length_take, List.length_drop, sizeLine_eq, List.length_cons, List.length_nil]; omega, ?_⟩
  rw [List.set_eq_take_append_cons_drop, if_pos hk] at h
  simpa using h
theorem p_replaced (ds : List D) (Qd : D → Prop) (Xq : XQ) (h : S_put ds Qd Xq) : b_replaced (kD Qd Xq) (startD 3 ds) := p__law_put ds Qd Xq h
def Row.put (r : Row) (e : Ev) (t : Option Int) : Row := match e with
  | .over => { r with over := t }
  | .read i => { r with reads := r.reads.set i.toNat t }
  | .write i => { r with writes := r.writes.set i.toNat t }
def updR (rs : List Row) (s : Nat) (e : Ev) (t : Option Int) : List Row := match rs[s]? with
  | some r => rs.set s (Row.put r e t)
  | none => rs
theorem rows_set (rs : List Row) (s : Nat) (r : Row) : D.tup ((rs.map rowD).set s (rowD r)) = rowsD (rs.set s r) := by unfold rowsD; rw [List.map_set]
theorem tgs_set (ts : List (Option Int)) (k : Nat) (t : Option Int) : D.tup ((ts.map tgD).set k (tgD t)) = tgs (ts.set k t) := by unfold tgs; rw [List.map_set]
theorem Sz.set {rs : List Row} (sz : Sz rs) {s : Nat} {r : Row} (h : r.reads.length ≤ 10 ∧ r.writes.length ≤ 10) : Sz (rs.set s r) := ⟨by rw [List.length_set]; exact sz.1, fun q hq => by
  rcases List.mem_or_eq_of_mem_set hq with hq | hq
  · exact sz.2 q hq
  · subst hq; exact h⟩
theorem put_len (r : Row) (e : Ev) (t : Option Int) : (Row.put r e t).reads.length = r.reads.length ∧ (Row.put r e t).writes.length = r.writes.length := by
  cases e <;> simp [Row.put]
def S_with_state : DF := fun ds Q Xq => ∃ l a rs, ∃ (s : Nat) (r : Row), ds = [conD l a rs, .int (s : Int), rowD r] ∧ Sz rs ∧ s < rs.length ∧ Sz (rs.set s r) ∧ (CtrOk l a (rs.set s r) → Q (conD l a (rs.set s r))) ∧ (¬ CtrOk l a (rs.set s r) → CEx (rsn l a (rs.set s r)) Xq)
theorem p_Contract_with_state (ds : List D) (Qd : D → Prop) (Xq : XQ) (h : S_with_state ds Qd Xq) : b_Contract_with_state S_Con S_put (kD Qd Xq) (startD 3 ds) := by
  obtain ⟨l, a, rs, s, r, rfl, sz, hs, sz2, hq, hx⟩ := h
  show b_Contract_with_state S_Con S_put (kD Qd Xq) [.fz (conD l a rs), .fz (.int (s : Int)), .fz (rowD r)]
  unfold b_Contract_with_state
  walk_at "dl"
  rw [con_letters, con_answers, con_states]
  have := sz.1
  refine ⟨rs.map rowD, s, rowD r, rfl, by simpa using hs, by rw [List.length_map]; omega, ?_⟩
  rw [rows_set]
  exact ⟨l, a, _, _, rfl, .inl rfl, sz2, hq, hx⟩
theorem row_nth {rs : List Row} {s : Nat} (h : s < rs.length) : ∃ r, rs[s]? = some r ∧ r ∈ rs ∧ ∀ Q, gIx (rowsD rs) (.int (s : Int)) Q = Q (rowD r) := by
  obtain ⟨r, e, hm, hq⟩ := row_at (rs := rs) (s := (s : Int)) (by omega) (by omega)
  rw [atI_nth h] at e
  cases e
  exact ⟨_, List.getElem?_eq_getElem h, hm, hq⟩
def evIn (r : Row) : Ev → Prop
  | .over => True
  | .read i => 0 ≤ i ∧ i < r.reads.length
  | .write i => 0 ≤ i ∧ i < r.writes.length
theorem evIn_of {l a : Int} {n : Nat} {r : Row} {e : Ev} (ro : r.ok l a n) (eo : e.ok l a) : evIn r e := by
  obtain ⟨h1, h2, _⟩ := ro
  cases e with
  | over => exact True.intro
  | read i => exact ⟨eo.1, by rw [h1]; exact eo.2⟩
  | write i => exact ⟨eo.1, by rw [h2]; exact eo.2⟩
def S_with_row : DF := fun ds Q Xq => ∃ l a rs, ∃ (s : Nat) (e : Ev) (t : Option Int), ds = [conD l a rs, .int (s : Int), evD e, tgD t] ∧ CtrOk l a rs ∧ s < rs.length ∧ e.ok l a ∧
  (CtrOk l a (updR rs s e t) → Q (conD l a (updR rs s e t))) ∧ (¬ CtrOk l a (updR rs s e t) → CEx (rsn l a (updR rs s e t)) Xq)
theorem p_Contract_with_row (ds : List D) (Qd : D → Prop) (Xq : XQ) (h : S_with_row ds Qd Xq) : b_Contract_with_row S_put S_with_state (kD Qd Xq) (startD 9 ds) := by
  obtain ⟨l, a, rs, s, e, t, rfl, ok, hs, eo, hq, hx⟩ := h
  show b_Contract_with_row S_put S_with_state (kD Qd Xq) [.fz (conD l a rs), .fz (.int (s : Int)), .fz (evD e), .fz (tgD t), .un, .un, .un, .un, .un]
  obtain ⟨r, er, hr, hix⟩ := row_nth hs
  have hu : updR rs s e t = rs.set s (Row.put r e t) := by unfold updR; rw [er]
  rw [hu] at hq hx
  have sz := Sz.of ok
  have ro := ok.rows r hr
  have rz := sz.2 r hr
  have pz := put_len r e t
  have fin : S_with_state [conD l a rs, .int (s : Int), rowD (Row.put r e t)] Qd Xq := ⟨l, a, rs, s, _, rfl, sz, hs, Sz.set sz (by omega), hq, hx⟩
  unfold b_Contract_with_row b_Contract_with_row_r1
  walk_at "dl"
  rw [con_states, hix]
  unfold rowD
  walk_at "dl"
  have hm := con_meth l a rs ("with_state" : Str) (by decide +kernel)
  cases e with
  | over =>
    unfold evD
    walk_at "dl"
    exact ⟨hm, fin⟩
  | read i =>
    unfold evD
    walk_at "dl"
    obtain ⟨n, rfl⟩ : ∃ n : Nat, i = n := ⟨i.toNat, by have := eo.1; omega⟩
    have := eo.2
    have := ro.1
    refine ⟨r.reads.map tgD, n, tgD t, rfl, by simp; omega, by simp; omega, ?_⟩
    rw [tgs_set]
    walk_at "dl"
    exact ⟨hm, fin⟩
  | write i =>
    unfold evD
    walk_at "dl"
    obtain ⟨n, rfl⟩ : ∃ n : Nat, i = n := ⟨i.toNat, by have := eo.1; omega⟩
    have := eo.2
    have := ro.2.1
    refine ⟨r.writes.map tgD, n, tgD t, rfl, by simp; omega, by simp; omega, ?_⟩
    rw [tgs_set]
    walk_at "dl"
    exact ⟨hm, fin⟩
def obD : Option Bool → D
  | none => .non
  | some b => .bl b
def flagR (rs : List Row) (s : Nat) (f g : Option Bool) : List Row := match rs[s]? with
  | some r => rs.set s { r with fin := f.getD r.fin, sil := g.getD r.sil }
  | none => rs
theorem flag_ok {l a : Int} {rs : List Row} (ok : CtrOk l a rs) (s : Nat) (f g : Option Bool) : CtrOk l a (flagR rs s f g) := by
  unfold flagR
  split
  · rename_i r er
    refine ⟨ok.hl, ok.ha, by rw [List.length_set]; exact ok.hn, fun q hq => ?_⟩
    rw [List.length_set]
    rcases List.mem_or_eq_of_mem_set hq with hq | hq
    · exact ok.rows q hq
    · subst hq
      exact ok.rows r (List.mem_of_getElem? er)
  · exact ok
def S_with_flags : DF := fun ds Q Xq => ∃ l a rs, ∃ (s : Nat) (f g : Option Bool), ds = [conD l a rs, .int (s : Int), obD f, obD g] ∧ CtrOk l a rs ∧ s < rs.length ∧ Q (conD l a (flagR rs s f g))
theorem p_Contract_with_flags (ds : List D) (Qd : D → Prop) (Xq : XQ) (h : S_with_flags ds Qd Xq) : b_Contract_with_flags S_with_state (kD Qd Xq) (startD 9 ds) := by
  obtain ⟨l, a, rs, s, f, g, rfl, ok, hs, hq⟩ := h
  show b_Contract_with_flags S_with_state (kD Qd Xq) [.fz (conD l a rs), .fz (.int (s : Int)), .fz (obD f), .fz (obD g), .un, .un, .un, .un, .un]
  obtain ⟨r, er, hr, hix⟩ := row_nth hs
  have hu : flagR rs s f g = rs.set s { r with fin := f.getD r.fin, sil := g.getD r.sil } := by unfold flagR; rw [er]
  have ok2 := flag_ok ok s f g
  rw [hu] at hq ok2
  have fin : S_with_state [conD l a rs, .int (s : Int), rowD { r with fin := f.getD r.fin, sil := g.getD r.sil }] Qd Xq := ⟨l, a, rs, s, _, rfl, Sz.of ok, hs, Sz.of ok2, fun _ => hq, fun n => absurd ok2 n⟩
  unfold b_Contract_with_flags b_Contract_with_flags_r2 b_Contract_with_flags_r1
  walk_at "dl"
  rw [con_states, hix]
  unfold rowD
  walk_at "dl"
  have hm := con_meth l a rs ("with_state" : Str) (by decide +kernel)
  cases f <;> cases g <;> (unfold obD; walk_at "dl"; exact ⟨hm, fin⟩)
def S__law_flagged : DF := fun ds Q Xq => ∃ l a rs, ∃ (s : Nat) (f g : Option Bool) (form : Int), ds = [conD l a rs, .int (s : Int), .lst [obD f, obD g], .int form] ∧ CtrOk l a rs ∧ s < rs.length ∧ 0 ≤ form ∧ form ≤ 3 ∧
  Q (conD l a (flagR rs s (if form = 1 ∨ form = 3 then f else none) (if form = 2 ∨ form = 3 then g else none)))
theorem p__law_flagged (ds : List D) (Qd : D → Prop) (Xq : XQ) (h : S__law_flagged ds Qd Xq) : b__law_flagged S_with_flags (kD Qd Xq) (startD 4 ds) := by
  obtain ⟨l, a, rs, s, f, g, form, rfl, ok, hs, f0, f3, hq⟩ := h
  show b__law_flagged S_with_flags (kD Qd Xq) [.fz (conD l a rs), .fz (.int (s : Int)), .fz (.lst [obD f, obD g]), .fz (.int form)]
  have hm := con_meth l a rs ("with_flags" : Str) (by decide +kernel)
  have i0 : ∀ Q, gIx (.lst [obD f, obD g]) (.int 0) Q = Q (obD f) := fun Q => gIx_lst rfl Q
  have i1 : ∀ Q, gIx (.lst [obD f, obD g]) (.int 1) Q = Q (obD g) := fun Q => gIx_lst rfl Q
  unfold b__law_flagged
  rcases (show form = 0 ∨ form = 1 ∨ form = 2 ∨ form = 3 by omega) with rfl | rfl | rfl | rfl
  · walk_at "dl"
    unfold dMethN
    walk_at "dl"
    exact ⟨hm, l, a, rs, s, none, none, rfl, ok, hs, by simpa using hq⟩
  · walk_at "dl"
    unfold dMethN
    walk_at "dl"
    exact ⟨hm, l, a, rs, s, f, none, rfl, ok, hs, by simpa using hq⟩
  · walk_at "dl"
    unfold dMethN
    walk_at "dl"
    exact ⟨hm, l, a, rs, s, none, g, rfl, ok, hs, by simpa using hq⟩
  · walk_at "dl"
    unfold dMethN
    walk_at "dl"
    exact ⟨hm, l, a, rs, s, f, g, rfl, ok, hs, by simpa using hq⟩
def S__law_turned_row : DF := fun ds Q Xq => ∃ (rs : List Row) (s : Nat) (r : Row) (e : Ev) (t : Option Int), ds = [rowsD rs, .int (s : Int), evD e, tgD t] ∧ rs[s]? = some r ∧ Sz rs ∧ evIn r e ∧ Q (rowsD (updR rs s e t))
theorem p__law_turned_row (ds : List D) (Qd : D → Prop) (Xq : XQ) (h : S__law_turned_row ds Qd Xq) : b__law_turned_row S_put (kD Qd Xq) (startD 5 ds) := by
  obtain ⟨rs, s, r, e, t, rfl, er, sz, ei, hq⟩ := h
  show b__law_turned_row S_put (kD Qd Xq) [.fz (rowsD rs), .fz (.int (s : Int)), .fz (evD e), .fz (tgD t), .un]
  have hs := (List.getElem?_eq_some_iff.mp er).1
  obtain ⟨r', er', hr, hix⟩ := row_nth hs
  rw [er] at er'
  cases er'
  have hu : updR rs s e t = rs.set s (Row.put r e t) := by unfold updR; rw [er]
  rw [hu, ← rows_set] at hq
  have rz := sz.2 r hr
  have := sz.1
  have fin : S_put [rowsD rs, .int (s : Int), rowD (Row.put r e t)] Qd Xq := ⟨rs.map rowD, s, _, rfl, by simpa using hs, by simp; omega, hq⟩
  unfold b__law_turned_row b__law_turned_row_r1
  walk_at "dl"
  rw [hix]
  cases e with
  | over =>
    unfold evD
    walk_at "dl"
    exact ⟨[tgs r.reads, tgD r.over, tgs r.writes, .bl r.fin, .bl r.sil], 1, tgD t, rfl, by simp, by simp, fin⟩
  | read i =>
    obtain ⟨n, rfl⟩ : ∃ n : Nat, i = n := ⟨i.toNat, by have := ei.1; omega⟩
    have := ei.2
    unfold evD
    walk_at "dl"
    unfold rowD
    walk_at "dl"
    refine ⟨r.reads.map tgD, n, tgD t, rfl, by simp; omega, by simp; omega, ?_⟩
    rw [tgs_set]
    exact ⟨[tgs r.reads, tgD r.over, tgs r.writes, .bl r.fin, .bl r.sil], 0, _, rfl, by simp, by simp, fin⟩
  | write i =>
    obtain ⟨n, rfl⟩ : ∃ n : Nat, i = n := ⟨i.toNat, by have := ei.1; omega⟩
    have := ei.2
    unfold evD
    walk_at "dl"
    unfold rowD
    walk_at "dl"
    refine ⟨r.writes.map tgD, n, tgD t, rfl, by simp; omega, by simp; omega, ?_⟩
    rw [tgs_set]
    exact ⟨[tgs r.reads, tgD r.over, tgs r.writes, .bl r.fin, .bl r.sil], 2, _, rfl, by simp, by simp, fin⟩
def toldD (l a : Int) (rs : List Row) : D := .tup [.str (rsn l a rs), .lst (if rsn l a rs = "" then [conD l a rs] else [])]
theorem told_ok {l a : Int} {rs : List Row} (ok : CtrOk l a rs) : toldD l a rs = .tup [.str "", .lst [conD l a rs]] := by
  unfold toldD
  rw [rsn_ok.mpr ok, if_pos rfl]
theorem told_no {l a : Int} {rs : List Row} (no : ¬ CtrOk l a rs) : toldD l a rs = .tup [.str (rsn l a rs), .lst []] := by
  unfold toldD
  rw [if_neg fun e => no (rsn_ok.mp e)]
def S__law_told : DF := fun ds Q Xq => ∃ l a rs, ∃ (s : Nat) (e : Ev) (t : Option Int), ds = [conD l a rs, .tup [.str "row", .int (s : Int), evD e, tgD t]] ∧ CtrOk l a rs ∧ s < rs.length ∧ e.ok l a ∧ Q (toldD l a (updR rs s e t))
theorem p__law_told (ds : List D) (Qd : D → Prop) (Xq : XQ) (h : S__law_told ds Qd Xq) : b__law_told S_Con S_with_row (kD Qd Xq) (startD 5 ds) := by
  obtain ⟨l, a, rs, s, e, t, rfl, ok, hs, eo, hq⟩ := h
  show b__law_told S_Con S_with_row (kD Qd Xq) [.fz (conD l a rs), .fz (.tup [.str "row", .int (s : Int), evD e, tgD t]), .un, .un, .un]
  have hm := con_meth l a rs ("with_row" : Str) (by decide +kernel)
  unfold b__law_told
  walk_at "dl"
  refine ⟨hm, l, a, rs, s, e, t, rfl, ok, hs, eo, fun ok2 => ?_, fun no => ?_⟩
  · rw [told_ok ok2] at hq
    exact hq
  · rw [told_no no] at hq
    unfold b__law_told_r4 b__law_told_r3 b__law_told_r2 b__law_told_r1
    walk_at "dl"
    exact fun _ _ => hq
theorem ins_go : ∀ {ds : List D}, (∀ d ∈ ds, insF d = true) → insF.go ds = true
  | [], _ => by unfold insF.go; rfl
  | d :: ds, h => by
    unfold insF.go
    rw [h d (List.mem_cons_self ..), ins_go fun e he => h e (List.mem_cons_of_mem _ he)]
    rfl
theorem ins_tg (t : Option Int) : insF (tgD t) = true := by cases t <;> (unfold tgD insF; rfl)
theorem ins_tgs (l : List (Option Int)) : insF (tgs l) = true := by
  unfold tgs insF
  refine ins_go fun d hd => ?_
  obtain ⟨t, _, rfl⟩ := List.mem_map.mp hd
  exact ins_tg t
theorem ins_row (r : Row) : insF (rowD r) = true := by
  unfold rowD insF
  refine ins_go fun d hd => ?_
  simp only [List.mem_cons, List.not_mem_nil, or_false] at hd
  rcases hd with rfl | rfl | rfl | rfl | rfl
  · exact ins_tgs _
  · exact ins_tg _
  · exact ins_tgs _
  · unfold insF; rfl
  · unfold insF; rfl
theorem ins_d {rs : List Row} {d : D} (hd : d = .tup (rs.map rowD) ∨ d = .lst (rs.map rowD)) : insF d = true := by
  have : insF.go (rs.map rowD) = true := ins_go fun d hd => by
    obtain ⟨t, _, rfl⟩ := List.mem_map.mp hd
    exact ins_row t
  rcases hd with rfl | rfl <;> (unfold insF; exact this)
def Ss__law_told : DF := fun ds Q Xq => ∃ l a rs d, ds = [.non, .tup [.str "new", .int l, .int a, d]] ∧ (d = .tup (rs.map rowD) ∨ d = .lst (rs.map rowD)) ∧ Sz rs ∧ Q (toldD l a rs)
theorem ps__law_told (ds : List D) (Qd : D → Prop) (Xq : XQ) (h : Ss__law_told ds Qd Xq) : b__law_told_s S_Con S_with_row (kD Qd Xq) (startS 5 ds) := by
  obtain ⟨l, a, rs, d, rfl, hd, sz, hq⟩ := h
  show b__law_told_s S_Con S_with_row (kD Qd Xq) [.se .non, .se (.tup [.str "new", .int l, .int a, d]), .un, .un, .un]
  unfold b__law_told_s
  walk_at "dl"
  refine ⟨rfl, rfl, ins_d hd, l, a, rs, d, rfl, hd, sz, fun ok => ?_, fun no => ?_⟩
  · rw [told_ok ok] at hq
    exact hq
  · rw [told_no no] at hq
    unfold b__law_told_s_r4 b__law_told_s_r3 b__law_told_s_r2 b__law_told_s_r1
    walk_at "dl"
    exact fun _ _ => hq
theorem tgs_drop {ts : List (Option Int)} (h : ts.length ≤ 100) {Q : D → Prop} (q : Q (tgs (ts.drop 1))) : gSl (tgs ts) (some 1) none Q := by
  have e : cutD (ts.map tgD) (some 1) none = (ts.drop 1).map tgD := (cutD_from _ 1).trans (List.map_drop ..).symm
  show Q (.tup (cutD (ts.map tgD) (some 1) none))
  rw [e]
  exact q
theorem tgs_add {ts us : List (Option Int)} (h : ts.length + us.length ≤ 100) {Q : D → Prop} (q : Q (tgs (ts ++ us))) : gAdd (tgs ts) (.tup (us.map tgD)) Q := by
  unfold tgs gAdd
  refine ⟨by rw [List.length_map, List.length_map, sizeLine_eq]; omega, ?_⟩
  rw [← List.map_append]
  exact q
def St (f : Int) (l a : Int) (rs : List Row) : Prop := (6 ≤ f → CtrOk l a rs) ∧ (4 ≤ f → 1 ≤ rs.length ∧ rs.length ≤ 8) ∧ rs.length ≤ 20 ∧ (5 ≤ f → ∀ r ∈ rs, r.reads.length ≤ 5 ∧ r.writes.length ≤ 5) ∧ ∀ r ∈ rs, r.reads.length ≤ 10 ∧ r.writes.length ≤ 10
def S__law_faulty : DF := fun ds Q _ => ∃ l a rs, ∃ f F : Int, ds = [.rd, partD l a rs, .int f] ∧ 1 ≤ f ∧ f ≤ 5 ∧ f < F ∧ St F l a rs ∧ ∀ l' a' rs', St f l' a' rs' → Q (partD l' a' rs')
theorem p__law_faulty (ds : List D) (Qd : D → Prop) (Xq : XQ) (h : S__law_faulty ds Qd Xq) : b__law_faulty S_put S_next S__law_events S__law_turned_row (kD Qd Xq) (startD 10 ds) := by
  obtain ⟨l, a, rs, f, F, rfl, f1, f5, fF, st, hq⟩ := h
  show b__law_faulty S_put S_next S__law_events S__law_turned_row (kD Qd Xq) [.fz .rd, .fz (partD l a rs), .fz (.int f), .un, .un, .un, .un, .un, .un, .un]
  unfold b__law_faulty
  unfold partD
  walk_at "dl"
  have put3 : ∀ (v : List D) (k : Nat) (x : D), v = [.int l, .int a, rowsD rs] → k < 3 → Qd (.tup (v.set k x)) → S_put [.tup [.int l, .int a, rowsD rs], .int (k : Int), x] (fun d => Qd d) Xq := fun v k x e hk q => ⟨_, k, x, rfl, hk, by simp, by rw [← e]; exact q⟩
  split
  · rename_i h3
    have sm : ∀ l' a' : Int, Qd (partD l' a' rs) := fun l' a' => hq l' a' rs ⟨fun h => by simp at h3; omega, fun h => by simp at h3; omega, st.2.2.1, fun h => by simp at h3; omega, st.2.2.2.2⟩
    rcases (show f = 1 ∨ f = 2 by simp at h3; omega) with rfl | rfl
    · rw [show (1 : Int) - 1 = ((0 : Nat) : Int) by rfl, gIx_lst (show atI _ _ = some (D.lst [D.int 0, D.int 4, D.int (-1), D.int 5]) from rfl)]
      refine ⟨4, rfl, by decide, by decide, fun n n0 n1 => ?_⟩
      rcases (show n = 0 ∨ n = 1 ∨ n = 2 ∨ n = 3 by omega) with rfl | rfl | rfl | rfl
      · rw [gIx_lst (show atI _ _ = some (D.int 0) from rfl)]; exact put3 _ 0 _ rfl (by decide) (sm _ _)
      · rw [gIx_lst (show atI _ _ = some (D.int 4) from rfl)]; exact put3 _ 0 _ rfl (by decide) (sm _ _)
      · rw [gIx_lst (show atI _ _ = some (D.int (-1)) from rfl)]; exact put3 _ 0 _ rfl (by decide) (sm _ _)
      · rw [gIx_lst (show atI _ _ = some (D.int 5) from rfl)]; exact put3 _ 0 _ rfl (by decide) (sm _ _)
    · rw [show (2 : Int) - 1 = ((1 : Nat) : Int) by rfl, gIx_lst (show atI _ _ = some (D.lst [D.int 1, D.int 5, D.int 0, D.int 6]) from rfl)]
      refine ⟨4, rfl, by decide, by decide, fun n n0 n1 => ?_⟩
      rcases (show n = 0 ∨ n = 1 ∨ n = 2 ∨ n = 3 by omega) with rfl | rfl | rfl | rfl
      · rw [gIx_lst (show atI _ _ = some (D.int 1) from rfl)]; exact put3 _ 1 _ rfl (by decide) (sm _ _)
      · rw [gIx_lst (show atI _ _ = some (D.int 5) from rfl)]; exact put3 _ 1 _ rfl (by decide) (sm _ _)
      · rw [gIx_lst (show atI _ _ = some (D.int 0) from rfl)]; exact put3 _ 1 _ rfl (by decide) (sm _ _)
      · rw [gIx_lst (show atI _ _ = some (D.int 6) from rfl)]; exact put3 _ 1 _ rfl (by decide) (sm _ _)
  rename_i h3
  have f3 : 3 ≤ f := by simp at h3; omega
  obtain ⟨st1, st2, st3, st4, st5⟩ := st
  have hn := st2 (by omega)
  split
  · rename_i h
    have ef : f = 3 := by simpa using h
    subst ef
    unfold rowsD
    walk_at "dl"
    rw [show cutD (rs.map rowD) none (some 1) = (rs.take 1).map rowD from (cutD_to _ 1).trans (List.map_take ..).symm]
    unfold gRepT
    rw [List.length_map]
    obtain ⟨k, hk⟩ : ∃ k : Nat, (9 : Int) - rs.length = k := ⟨(9 - (rs.length : Int)).toNat, by omega⟩
    have ht : (rs.take 1).length = 1 := by rw [List.length_take]; omega
    refine ⟨fun e => ?_, by omega, by omega, by rw [List.length_map, ht]; decide, ?_⟩
    · have := congrArg List.length e
      rw [List.length_map, ht] at this
      cases this
    rw [hk, Int.toNat_natCast]
    have e2 : rs.map rowD ++ (List.replicate k ((rs.take 1).map rowD)).flatten = (rs ++ (List.replicate k (rs.take 1)).flatten).map rowD := by
      rw [List.map_append, List.map_flatten, List.map_replicate]
    have l2 : (rs ++ (List.replicate k (rs.take 1)).flatten).length = 9 := by
      rw [List.length_append, List.length_flatten, List.map_replicate, List.sum_replicate_nat, ht]
      omega
    have l3 := congrArg List.length e2
    rw [List.length_append, List.length_map, List.length_map, l2] at l3
    unfold gAdd
    refine ⟨by rw [List.length_map, l3, sizeLine_eq]; omega, 2, rfl, by decide, by decide, fun n n0 n1 => ?_⟩
    rw [e2]
    rcases (show n = 0 ∨ n = 1 by omega) with rfl | rfl
    · rw [gIx_lst0]
      exact put3 _ 2 _ rfl (by decide) (hq l a [] ⟨fun h => by omega, fun h => by omega, by simp, fun h => by omega, fun r hr => by cases hr⟩)
    · rw [gIx_lst1]
      refine put3 _ 2 _ rfl (by decide) (hq l a (rs ++ (List.replicate k (rs.take 1)).flatten) ⟨fun h => by omega, fun h => by omega, by omega, fun h => by omega, fun r hr => ?_⟩)
      rcases List.mem_append.mp hr with hr | hr
      · exact st5 r hr
      · obtain ⟨z, hz, hr⟩ := List.mem_flatten.mp hr
        rw [List.eq_of_mem_replicate hz] at hr
        exact st5 r (List.mem_of_mem_take hr)
  rename_i h4
  have f4 : 4 ≤ f := by simp at h4; omega
  clear h4
  have hs : ∀ (rs' : List Row), St f l a rs' → S_put [.tup [.int l, .int a, rowsD rs], .int 2, rowsD rs'] (fun d => Qd d) Xq := fun rs' h => put3 _ 2 _ rfl (by decide) (hq l a rs' h)
  unfold rowsD
  walk_at "dl"
  rw [List.length_map]
  refine ⟨_, rfl, by omega, by omega, fun m m0 m1 => ?_⟩
  refine ⟨2, rfl, by decide, by decide, fun q q0 q1 => ?_⟩
  obtain ⟨m, rfl⟩ : ∃ n : Nat, m = n := ⟨m.toNat, by omega⟩
  obtain ⟨r, er, hr, hix⟩ := row_nth (rs := rs) (s := m) (by omega)
  have hix : ∀ Q, gIx (.tup (rs.map rowD)) (.int (m : Int)) Q = Q (.tup [tgs r.reads, tgD r.over, tgs r.writes, .bl r.fin, .bl r.sil]) := hix
  have r5 := st4 (by omega) r hr
  simp only [hix]
  by_cases h4 : f = 4
  · subst h4
    have upd : ∀ r' : Row, r'.reads.length ≤ 10 → r'.writes.length ≤ 10 → ∀ d, d = rowD r' → S_put [.tup (rs.map rowD), .int (m : Int), d] (fun x => S_put [.tup [.int l, .int a, .tup (rs.map rowD)], .int 2, x] (fun d => Qd d) Xq) Xq := fun r' h1 h2 d e => by
      subst e
      refine ⟨rs.map rowD, m, _, rfl, by rw [List.length_map]; omega, by rw [List.length_map]; omega, ?_⟩
      rw [rows_set]
      refine hs _ ⟨fun h => by omega, fun _ => by rw [List.length_set]; exact hn, by rw [List.length_set]; omega, fun h => by omega, fun q hq => ?_⟩
      rcases List.mem_or_eq_of_mem_set hq with hq | hq
      · exact st5 q hq
      · subst hq; exact ⟨h1, h2⟩
    rcases (show q = 0 ∨ q = 1 by omega) with rfl | rfl
    · walk_at "dl"
      refine ⟨.inl ⟨by decide, by decide⟩, ?_⟩
      rw [show (2 : Int) * 0 = 0 from rfl, gIx_tup0]
      have fin : ∀ ts : List (Option Int), ts.length ≤ 10 → S_put [.tup [tgs r.reads, tgD r.over, tgs r.writes, .bl r.fin, .bl r.sil], .int 0, tgs ts] (fun x => S_put [.tup (rs.map rowD), .int (m : Int), x] (fun x => S_put [.tup [.int l, .int a, .tup (rs.map rowD)], .int 2, x] (fun d => Qd d) Xq) Xq) Xq := fun ts h =>
        ⟨_, 0, tgs ts, rfl, by simp, by simp, upd { r with reads := ts } h (st5 r hr).2 _ rfl⟩
      refine tgs_drop (by omega) (tgs_add (us := [none]) (by simp; omega) (tgs_add (us := [some 0]) (by simp; omega) ⟨3, rfl, by decide, by decide, fun n n0 n1 => ?_⟩))
      rcases (show n = 0 ∨ n = 1 ∨ n = 2 by omega) with rfl | rfl | rfl
      · rw [gIx_lst0]; exact fin _ (by rw [List.length_drop]; omega)
      · rw [gIx_lst1]; exact fin _ (by simp; omega)
      · rw [gIx_lst2]; exact fin _ (by simp; omega)
    · walk_at "dl"
      refine ⟨.inl ⟨by decide, by decide⟩, ?_⟩
      rw [show (2 : Int) * 1 = 2 from rfl, gIx_tup2]
      have fin : ∀ ts : List (Option Int), ts.length ≤ 10 → S_put [.tup [tgs r.reads, tgD r.over, tgs r.writes, .bl r.fin, .bl r.sil], .int 2, tgs ts] (fun x => S_put [.tup (rs.map rowD), .int (m : Int), x] (fun x => S_put [.tup [.int l, .int a, .tup (rs.map rowD)], .int 2, x] (fun d => Qd d) Xq) Xq) Xq := fun ts h =>
        ⟨_, 2, tgs ts, rfl, by simp, by simp, upd { r with writes := ts } (st5 r hr).1 h _ rfl⟩
      refine tgs_drop (by omega) (tgs_add (us := [none]) (by simp; omega) (tgs_add (us := [some 0]) (by simp; omega) ⟨3, rfl, by decide, by decide, fun n n0 n1 => ?_⟩))
      rcases (show n = 0 ∨ n = 1 ∨ n = 2 by omega) with rfl | rfl | rfl
      · rw [gIx_lst0]; exact fin _ (by rw [List.length_drop]; omega)
      · rw [gIx_lst1]; exact fin _ (by simp; omega)
      · rw [gIx_lst2]; exact fin _ (by simp; omega)
  · have f5 : f = 5 := by omega
    subst f5
    have ok := st1 (by omega)
    have ro := ok.rows r hr
    have upd : ∀ (e : Ev) (i : Int), e ∈ evs l a → S__law_turned_row [.tup (rs.map rowD), .int (m : Int), evD e, .int i] (fun x => S_put [.tup [.int l, .int a, .tup (rs.map rowD)], .int 2, x] (fun d => Qd d) Xq) Xq := fun e i he => by
      refine ⟨rs, m, r, e, some i, rfl, er, ⟨st3, st5⟩, evIn_of ro (evs_ok e he), ?_⟩
      have hu : updR rs m e (some i) = rs.set m (Row.put r e (some i)) := by unfold updR; rw [er]
      have pz := put_len r e (some i)
      rw [hu]
      refine hs _ ⟨fun h => by omega, fun _ => by rw [List.length_set]; exact hn, by rw [List.length_set]; omega, fun _ q hq => ?_, fun q hq => ?_⟩
      · rcases List.mem_or_eq_of_mem_set hq with hq | hq
        · exact st4 (by omega) q hq
        · subst hq; omega
      · rcases List.mem_or_eq_of_mem_set hq with hq | hq
        · exact st5 q hq
        · subst hq; omega
    have l1 := ok.hl
    have a1 := ok.ha
    have hlen : 1 ≤ (evs l a).length ∧ (evs l a).length ≤ 8 := by
      unfold evs
      simp
      omega
    have fin : S__law_events [.int l, .int a] (fun d => gLen d fun x => S_next [.rd, x] (fun y => gIx d y fun d2 => S_next [.rd, .int 3] (fun y => gIx (.lst [.int rs.length, .int (-1), .int (rs.length + 1)]) y fun d3 =>
        S__law_turned_row [.tup (rs.map rowD), .int (m : Int), d2, d3] (fun x => S_put [.tup [.int l, .int a, .tup (rs.map rowD)], .int 2, x] (fun d => Qd d) Xq) Xq) Xq) Xq) Xq := by
      refine ⟨l, a, rfl, by omega, by omega, by omega, by omega, ?_⟩
      walk_at "dl"
      rw [List.length_map]
      refine ⟨_, rfl, by omega, by omega, fun n n0 n1 => ?_⟩
      obtain ⟨n, rfl⟩ : ∃ k : Nat, n = k := ⟨n.toNat, by omega⟩
      have hn : n < (evs l a).length := by omega
      rw [gIx_lst (show atI ((evs l a).map evD) (n : Int) = some (evD (evs l a)[n]) by rw [atI_map', atI_nth hn]; rfl)]
      refine ⟨3, rfl, by decide, by decide, fun k k0 k1 => ?_⟩
      have he := List.getElem_mem hn
      rcases (show k = 0 ∨ k = 1 ∨ k = 2 by omega) with rfl | rfl | rfl
      · show gIx _ _ _
        rw [gIx_lst0]; exact upd _ _ he
      · show gIx _ _ _
        rw [gIx_lst1]; exact upd _ _ he
      · show gIx _ _ _
        rw [gIx_lst2]; exact upd _ _ he
    rcases (show q = 0 ∨ q = 1 by omega) with rfl | rfl
    · walk_at "dl"
      refine ⟨.inl ⟨by decide, by decide⟩, ?_⟩
      rw [show (2 : Int) * 0 = 0 from rfl, gIx_tup0]
      exact fin
    · walk_at "dl"
      refine ⟨.inl ⟨by decide, by decide⟩, ?_⟩
      rw [show (2 : Int) * 1 = 2 from rfl, gIx_tup2]
      exact fin
theorem ts_put {r : Row} {e : Ev} {t q : Option Int} (h : q ∈ Row.ts (Row.put r e t)) : q = t ∨ q ∈ Row.ts r := by
  cases e <;> simp only [Row.ts, Row.put, List.mem_append, List.mem_singleton] at h ⊢
  · rcases h with (h | h) | h
    · exact .inr (.inl (.inl h))
    · exact .inl h
    · exact .inr (.inr h)
  · rcases h with (h | h) | h
    · rcases List.mem_or_eq_of_mem_set h with h | h
      · exact .inr (.inl (.inl h))
      · exact .inl h
    · exact .inr (.inl (.inr h))
    · exact .inr (.inr h)
  · rcases h with (h | h) | h
    · exact .inr (.inl (.inl h))
    · exact .inr (.inl (.inr h))
    · rcases List.mem_or_eq_of_mem_set h with h | h
      · exact .inr (.inr h)
      · exact .inl h
theorem put_ts {r : Row} {e : Ev} (t : Option Int) (h : evIn r e) : t ∈ Row.ts (Row.put r e t) := by
  cases e with
  | over => simp [Row.ts, Row.put]
  | read i =>
    have h1 : i.toNat < r.reads.length := by have := h.1; have := h.2; omega
    simp only [Row.ts, Row.put, List.mem_append]
    exact .inl (.inl (List.mem_of_getElem? (i := i.toNat) (by rw [List.getElem?_set_self h1])))
  | write i =>
    have h1 : i.toNat < r.writes.length := by have := h.1; have := h.2; omega
    simp only [Row.ts, Row.put, List.mem_append]
    exact .inr (List.mem_of_getElem? (i := i.toNat) (by rw [List.getElem?_set_self h1]))
theorem upd_at {rs : List Row} {s : Nat} {r : Row} (er : rs[s]? = some r) (e : Ev) (t : Option Int) : updR rs s e t = rs.set s (Row.put r e t) := by unfold updR; rw [er]
theorem upd_ok {l a : Int} {rs : List Row} {s : Nat} {e : Ev} {t : Option Int} (ok : CtrOk l a rs) (hs : s < rs.length) (hb : badT rs.length t = false) : CtrOk l a (updR rs s e t) := by
  obtain ⟨r, er, hr, _⟩ := row_nth hs
  rw [upd_at er]
  refine ⟨ok.hl, ok.ha, by rw [List.length_set]; exact ok.hn, fun q hq => ?_⟩
  rw [List.length_set]
  rcases List.mem_or_eq_of_mem_set hq with hq | hq
  · exact ok.rows q hq
  · subst hq
    have ro := ok.rows r hr
    obtain ⟨r1, r2, r3⟩ := id ro
    obtain ⟨p1, p2⟩ := put_len r e t
    refine ⟨by rw [p1]; exact r1, by rw [p2]; exact r2, fun u hu i ei => ?_⟩
    have hu' : u ∈ Row.ts (Row.put r e t) := by
      unfold Row.ts
      simp only [List.mem_cons, List.mem_append, List.not_mem_nil, or_false] at hu ⊢
      rcases hu with h | h | h
      · exact .inl (.inr h)
      · exact .inl (.inl h)
      · exact .inr h
    rcases ts_put hu' with h | h
    · subst h
      subst ei
      unfold badT at hb
      simp only [Bool.or_eq_false_iff, decide_eq_false_iff_not] at hb
      omega
    · exact row_ts ro h ei
theorem upd_no {l a : Int} {rs : List Row} {s : Nat} {e : Ev} {t : Option Int} (ok : CtrOk l a rs) (hs : s < rs.length) (eo : e.ok l a) (hb : badT rs.length t = true) : rsn l a (updR rs s e t) = "target" := by
  obtain ⟨r, er, hr, _⟩ := row_nth hs
  rw [upd_at er]
  obtain ⟨l1, l3⟩ := ok.hl
  obtain ⟨a2, a4⟩ := ok.ha
  obtain ⟨n1, n8⟩ := ok.hn
  have h4 : (rs.set s (Row.put r e t)).any (badLen l a) = false := List.any_eq_false.mpr fun q hq => by
    rcases List.mem_or_eq_of_mem_set hq with hq | hq
    · obtain ⟨r1, r2, _⟩ := ok.rows q hq
      unfold badLen
      simp [r1, r2]
    · subst hq
      obtain ⟨r1, r2, _⟩ := ok.rows r hr
      obtain ⟨p1, p2⟩ := put_len r e t
      unfold badLen
      simp [p1, p2, r1, r2]
  have h5 : (rs.set s (Row.put r e t)).any (badRow (rs.set s (Row.put r e t)).length) = true := by
    rw [List.length_set]
    exact List.any_eq_true.mpr ⟨_, List.mem_of_getElem? (i := s) (by rw [List.getElem?_set_self hs]), List.any_eq_true.mpr ⟨t, put_ts t (evIn_of (ok.rows r hr) eo), hb⟩⟩
  unfold rsn
  rw [if_neg (by omega), if_neg (by omega), if_neg (by rw [List.length_set]; omega), if_neg (by rw [h4]; exact Bool.false_ne_true), if_pos h5]
theorem flag_len (rs : List Row) (s : Nat) (f g : Option Bool) : (flagR rs s f g).length = rs.length := by
  unfold flagR
  split
  · rw [List.length_set]
  · rfl
theorem flag_at {rs : List Row} {s : Nat} {r : Row} (er : rs[s]? = some r) (f g : Option Bool) : flagR rs s f g = rs.set s { r with fin := f.getD r.fin, sil := g.getD r.sil } := by unfold flagR; rw [er]
theorem flag_none (rs : List Row) (s : Nat) : flagR rs s none none = rs := by
  unfold flagR
  split
  · rename_i r er
    exact List.ext_getElem? fun i => by
      rw [List.getElem?_set]
      split
      · rename_i h
        subst h
        rw [er]
        have := (List.getElem?_eq_some_iff.mp er).1
        rw [if_pos this]
        rfl
      · rfl
  · rfl
theorem flag_two {rs : List Row} {s : Nat} (hs : s < rs.length) (f g : Option Bool) : flagR (flagR rs s f none) s none g = flagR rs s f g := by
  unfold flagR
  rw [List.getElem?_eq_getElem hs]
  simp only [List.getElem?_set_self hs, List.set_set, Option.getD_none]
def pP (l a : Int) (rs : List Row) : D := .tup [conD l a rs, partD l a rs]
def S__law_walked : DF := fun ds Q _ => ∃ l a rs, ds = [.rd, conD l a rs, partD l a rs] ∧ CtrOk l a rs ∧ ∀ ts : List (List Row), (∀ t ∈ ts, CtrOk l a t) → ts ≠ [] → ts.length ≤ 10 → Q (.lst (ts.map (pP l a)))
theorem pick4 {n m c : Int} {F : D → Prop} (h : ∀ t : Option Int, F (tgD t)) (c0 : 0 ≤ c) (c1 : c < 4) : gIx (.lst [.non, .int n, .int m, .int (-1)]) (.int c) F := by
  rcases (show c = 0 ∨ c = 1 ∨ c = 2 ∨ c = 3 by omega) with rfl | rfl | rfl | rfl
  · rw [gIx_lst0]; exact h none
  · rw [gIx_lst1]; exact h (some n)
  · rw [gIx_lst2]; exact h (some m)
  · rw [gIx_lst3]; exact h (some (-1))
theorem walked_rest {l a : Int} {rs : List Row} {ts : List (List Row)} {j : Nat} (K : DK) (s4 s6 s7 s8 s9 s10 s11 s12 s13 s14 : S) (ok : CtrOk l a rs) (tok : ∀ t ∈ ts, CtrOk l a t) (tl : ts.length ≤ 2 + 2 * j) (hj : j < 3) (many : Int) (hmany : many = rs.length)
    (hN : ∀ (rs : List Row) (ts : List (List Row)) (s4 s5 s6 s7 s8 s9 s10 s11 s12 s13 s14 : S), CtrOk l a rs → (∀ t ∈ ts, CtrOk l a t) → ts ≠ [] → ts.length ≤ 3 + 2 * j → K.nx [.fz .rd, .fz (conD l a rs), .fz (partD l a rs), .op (ts.map (pP l a)), s4, s5, s6, s7, s8, s9, s10, s11, s12, s13, s14]) :
    b__law_walked_r1 S_next S__law_events S__law_told S_put S__law_turned_row S__law_flagged K [.fz .rd, .fz (conD l a rs), .fz (partD l a rs), .op (ts.map (pP l a)), s4, .fz (.int many), s6, s7, s8, s9, s10, s11, s12, s13, s14] := by
  subst hmany
  obtain ⟨n1, n8⟩ := ok.hn
  unfold b__law_walked_r1
  walk_at "dl"
  refine ⟨_, rfl, by omega, by omega, fun s s0 s1 => ?_⟩
  obtain ⟨s, rfl⟩ : ∃ k : Nat, s = k := ⟨s.toNat, by omega⟩
  have hs : s < rs.length := by omega
  refine lc_some _ (fun y => ∃ o : Option Bool, y = obD o) (fun d hd Q' hQ' => ?_) (fun ys hl hy => ?_)
  · walk_at "dl"
    refine ⟨3, rfl, by decide, by decide, fun n n0 n1 => ?_⟩
    rcases (show n = 0 ∨ n = 1 ∨ n = 2 by omega) with rfl | rfl | rfl
    · show gIx _ _ _
      rw [gIx_lst0]; exact hQ' _ ⟨none, rfl⟩
    · show gIx _ _ _
      rw [gIx_lst1]; exact hQ' _ ⟨some true, rfl⟩
    · show gIx _ _ _
      rw [gIx_lst2]; exact hQ' _ ⟨some false, rfl⟩
  obtain ⟨f, g, rfl⟩ : ∃ f g : Option Bool, ys = [obD f, obD g] := by
    match ys, hl, hy with
    | [x, y], _, hy =>
      obtain ⟨f, rfl⟩ := hy _ (List.mem_cons_self ..)
      obtain ⟨g, rfl⟩ := hy _ (List.mem_cons_of_mem _ (List.mem_cons_self ..))
      exact ⟨f, g, rfl⟩
  refine ⟨4, rfl, by decide, by decide, fun form f0 f1 => ?_⟩
  refine ⟨l, a, rs, s, f, g, form, rfl, ok, hs, f0, by omega, ?_⟩
  generalize eF : (if form = 1 ∨ form = 3 then f else none) = F'
  generalize eG : (if form = 2 ∨ form = 3 then g else none) = G'
  let at_ (j : Nat) : List Row := if j = 0 then rs else if j = 1 then flagR rs s F' none else flagR rs s F' G'
  refine for_rng (fun j ρ => ∃ s4 s6 s7 s8 s9 s10 s12 s14, ρ = [.fz .rd, .fz (conD l a (flagR rs s F' G')), .fz (partD l a (at_ j)), .op (ts.map (pP l a)), s4, .fz (.int rs.length), .fz (.int s), s7, s8, s9, s10, .fz (.lst [obD f, obD g]), s12, .fz (.int form), s14]) ⟨_, s6, _, _, _, _, _, _, rfl⟩ (fun i ρ N hi hI hN => ?_) (fun ρ hI => ?_)
  · obtain ⟨s4, s6, s7, s8, s9, s10, s12, s14, rfl⟩ := hI
    obtain ⟨r, er, hr, hix⟩ := row_nth hs
    have i2 : ∀ (x p q : Int) (Q : D → Prop), gIn false (.int x) (.lst [.int p, .int q]) Q = Q (.bl (decide (x ∈ [p, q]))) := fun x p q Q => gIn_lI false x [p, q] Q
    have p2 : ∀ (rs1 : List Row) (Q : D → Prop), gIx (partD l a rs1) (.int 2) Q = Q (rowsD rs1) := fun _ Q => gIx_tup2 _ _ _ _ Q
    rcases (show i = 0 ∨ i = 1 by omega) with rfl | rfl
    · have ix : ∀ Q, gIx (.lst [obD f, obD g]) (.int (0 + ((0 : Nat) : Int))) Q = Q (obD f) := fun Q => gIx_lst0 _ _ Q
      have step : ∀ s14, N [.fz .rd, .fz (conD l a (flagR rs s F' G')), .fz (partD l a (flagR rs s F' none)), .op (ts.map (pP l a)), s4, .fz (.int rs.length), .fz (.int s), s7, s8, s9, s10, .fz (.lst [obD f, obD g]), .fz (.int (0 + ((0 : Nat) : Int))), .fz (.int form), s14] := fun s14 =>
        hN _ ⟨s4, s6, s7, s8, s9, s10, _, s14, rfl⟩
      have e0 : at_ 0 = rs := rfl
      walk_at "dl"
      simp only [ix, i2, e0, p2]
      by_cases c : form = 1 ∨ form = 3
      · have c2 : decide (form ∈ [1 + (0 + ((0 : Nat) : Int)), 3]) = true := decide_eq_true (by simpa using c)
        rw [if_pos c] at eF
        subst eF
        cases f with
        | none =>
          rw [if_neg (show ¬ (!Dl.isNon (obD none)) = true by decide)]
          have := step s14
          rw [flag_none] at this
          exact this
        | some b =>
          rw [if_pos (show (!Dl.isNon (obD (some b))) = true from rfl), if_pos c2, hix]
          refine ⟨[tgs r.reads, tgD r.over, tgs r.writes, .bl r.fin, .bl r.sil], 3, .bl b, rfl, by simp, by simp, ?_⟩
          refine ⟨rs.map rowD, s, rowD { r with fin := b }, rfl, by rw [List.length_map]; omega, by rw [List.length_map]; omega, ?_⟩
          have e : flagR rs s (some b) none = rs.set s { r with fin := b } := by unfold flagR; rw [er]; rfl
          rw [rows_set, ← e]
          exact ⟨[.int l, .int a, rowsD rs], 2, _, rfl, by simp, by simp, step _⟩
      · have c2 : ¬ decide (form ∈ [1 + (0 + ((0 : Nat) : Int)), 3]) = true := fun h => c (by simpa using of_decide_eq_true h)
        rw [if_neg c] at eF
        subst eF
        have := step s14
        rw [flag_none] at this
        cases f with
        | none =>
          rw [if_neg (show ¬ (!Dl.isNon (obD none)) = true by decide)]
          exact this
        | some b =>
          rw [if_pos (show (!Dl.isNon (obD (some b))) = true from rfl), if_neg c2]
          exact this
    · have ix : ∀ Q, gIx (.lst [obD f, obD g]) (.int (0 + ((1 : Nat) : Int))) Q = Q (obD g) := fun Q => gIx_lst1 _ _ _ Q
      have hs1 : s < (flagR rs s F' none).length := by rw [flag_len]; exact hs
      obtain ⟨r1, er1, hr1, hix1⟩ := row_nth hs1
      have two := flag_two hs F' G'
      have step : ∀ s14, N [.fz .rd, .fz (conD l a (flagR rs s F' G')), .fz (partD l a (flagR rs s F' G')), .op (ts.map (pP l a)), s4, .fz (.int rs.length), .fz (.int s), s7, s8, s9, s10, .fz (.lst [obD f, obD g]), .fz (.int (0 + ((1 : Nat) : Int))), .fz (.int form), s14] := fun s14 =>
        hN _ ⟨s4, s6, s7, s8, s9, s10, _, s14, rfl⟩
      have e0 : at_ 1 = flagR rs s F' none := rfl
      walk_at "dl"
      simp only [ix, i2, e0, p2]
      by_cases c : form = 2 ∨ form = 3
      · have c2 : decide (form ∈ [1 + (0 + ((1 : Nat) : Int)), 3]) = true := decide_eq_true (by simpa using c)
        rw [if_pos c] at eG
        subst eG
        cases g with
        | none =>
          rw [if_neg (show ¬ (!Dl.isNon (obD none)) = true by decide)]
          exact step s14
        | some b =>
          rw [if_pos (show (!Dl.isNon (obD (some b))) = true from rfl), if_pos c2, hix1]
          refine ⟨[tgs r1.reads, tgD r1.over, tgs r1.writes, .bl r1.fin, .bl r1.sil], 4, .bl b, rfl, by simp, by simp, ?_⟩
          refine ⟨(flagR rs s F' none).map rowD, s, rowD { r1 with sil := b }, rfl, by rw [List.length_map]; exact hs1, by rw [List.length_map, flag_len]; omega, ?_⟩
          have e : flagR (flagR rs s F' none) s none (some b) = (flagR rs s F' none).set s { r1 with sil := b } := flag_at er1 none (some b)
          rw [rows_set, ← e, two]
          exact ⟨[.int l, .int a, rowsD (flagR rs s F' none)], 2, _, rfl, by simp, by simp, step _⟩
      · have c2 : ¬ decide (form ∈ [1 + (0 + ((1 : Nat) : Int)), 3]) = true := fun h => c (by simpa using of_decide_eq_true h)
        rw [if_neg c] at eG
        subst eG
        have := step s14
        cases g with
        | none =>
          rw [if_neg (show ¬ (!Dl.isNon (obD none)) = true by decide)]
          exact this
        | some b =>
          rw [if_pos (show (!Dl.isNon (obD (some b))) = true from rfl), if_neg c2]
          exact this
  · obtain ⟨s4, s6, s7, s8, s9, s10, s12, s14, rfl⟩ := hI
    walk_at "dl"
    refine ⟨by rw [List.length_map, sizeLine_eq]; omega, ?_⟩
    have ok3 := flag_ok ok s F' G'
    have := hN (flagR rs s F' G') (ts ++ [flagR rs s F' G']) s4 (.fz (.int rs.length)) (.fz (.int s)) s7 s8 s9 s10 (.fz (.lst [obD f, obD g])) s12 (.fz (.int form)) s14 ok3 (fun q hq => by
      rcases List.mem_append.mp hq with hq | hq
      · exact tok q hq
      · rw [List.mem_singleton] at hq; subst hq; exact ok3) (by simp) (by rw [List.length_append]; simp; omega)
    rw [List.map_append] at this
    exact this
theorem p__law_walked (ds : List D) (Qd : D → Prop) (Xq : XQ) (h : S__law_walked ds Qd Xq) : b__law_walked S_next S__law_events S__law_told S_put S__law_turned_row S__law_flagged (kD Qd Xq) (startD 15 ds) := by
  obtain ⟨l, a, rs0, rfl, ok0, hq⟩ := h
  show b__law_walked S_next S__law_events S__law_told S_put S__law_turned_row S__law_flagged (kD Qd Xq) [.fz .rd, .fz (conD l a rs0), .fz (partD l a rs0), .un, .un, .un, .un, .un, .un, .un, .un, .un, .un, .un, .un]
  unfold b__law_walked
  walk_at "dl"
  refine for_rng (fun j ρ => ∃ (rs : List Row) (ts : List (List Row)) (s4 s5 s6 s7 s8 s9 s10 s11 s12 s13 s14 : S), ρ = [.fz .rd, .fz (conD l a rs), .fz (partD l a rs), .op (ts.map (pP l a)), s4, s5, s6, s7, s8, s9, s10, s11, s12, s13, s14] ∧ CtrOk l a rs ∧ (∀ t ∈ ts, CtrOk l a t) ∧ ts ≠ [] ∧ ts.length ≤ 1 + 2 * j)
    ⟨rs0, [rs0], _, _, _, _, _, _, _, _, _, _, _, rfl, ok0, by simpa using ok0, by simp, by simp⟩ (fun j ρ N hj hi hN => ?_) (fun ρ hi => ?_)
  · obtain ⟨rs, ts, s4, s5, s6, s7, s8, s9, s10, s11, s12, s13, s14, rfl, ok, tok, tne, tl⟩ := hi
    obtain ⟨n1, n8⟩ := ok.hn
    obtain ⟨l1, l3⟩ := ok.hl
    obtain ⟨a1, a4⟩ := ok.ha
    unfold partD
    walk_at "dl"
    unfold rowsD
    walk_at "dl"
    rw [List.length_map]
    refine ⟨_, rfl, by omega, by omega, fun s s0 s1 => ?_⟩
    obtain ⟨s, rfl⟩ : ∃ k : Nat, s = k := ⟨s.toNat, by omega⟩
    have hs : s < rs.length := by omega
    refine ⟨l, a, rfl, by omega, by omega, by omega, by omega, ?_⟩
    have hlen : 1 ≤ (evs l a).length ∧ (evs l a).length ≤ 8 := by
      unfold evs
      simp
      omega
    walk_at "dl"
    rw [List.length_map]
    refine ⟨_, rfl, by omega, by omega, fun n n0 n1 => ?_⟩
    obtain ⟨n, rfl⟩ : ∃ k : Nat, n = k := ⟨n.toNat, by omega⟩
    have hn : n < (evs l a).length := by omega
    rw [gIx_lst (show atI ((evs l a).map evD) (n : Int) = some (evD (evs l a)[n]) by rw [atI_map', atI_nth hn]; rfl)]
    have eo := evs_ok _ (List.getElem_mem hn)
    generalize (evs l a)[n] = e at eo
    refine ⟨_, rfl, by omega, by omega, fun m m0 m1 => ?_⟩
    refine ⟨4, rfl, by decide, by decide, fun c c0 c1 => ?_⟩
    refine pick4 (fun t => ?_) c0 c1
    refine ⟨l, a, rs, s, e, t, rfl, ok, hs, eo, ?_⟩
    have hN2 : ∀ (rs : List Row) (ts : List (List Row)) (s4 s5 s6 s7 s8 s9 s10 s11 s12 s13 s14 : S), CtrOk l a rs → (∀ t ∈ ts, CtrOk l a t) → ts ≠ [] → ts.length ≤ 3 + 2 * j → N [.fz .rd, .fz (conD l a rs), .fz (partD l a rs), .op (ts.map (pP l a)), s4, s5, s6, s7, s8, s9, s10, s11, s12, s13, s14] :=
      fun rs ts s4 s5 s6 s7 s8 s9 s10 s11 s12 s13 s14 h1 h2 h3 h4 => hN _ ⟨rs, ts, _, _, _, _, _, _, _, _, _, _, _, rfl, h1, h2, h3, by omega⟩
    have go1 : ∀ (K : DK) (s4 s6 s7 s8 s9 s10 s11 s12 s13 s14 : S), K.nx = N → b__law_walked_r1 S_next S__law_events S__law_told S_put S__law_turned_row S__law_flagged K [.fz .rd, .fz (conD l a rs), .fz (D.tup [D.int l, D.int a, D.tup (List.map rowD rs)]), .op (ts.map (pP l a)), s4, .fz (.int rs.length), s6, s7, s8, s9, s10, s11, s12, s13, s14] :=
      fun K s4 s6 s7 s8 s9 s10 s11 s12 s13 s14 hK => walked_rest (j := j) K s4 s6 s7 s8 s9 s10 s11 s12 s13 s14 ok tok (by omega) hj _ rfl (by rw [hK]; exact hN2)
    by_cases hb : badT rs.length t = true
    · have e1 := upd_no ok hs eo hb
      have no : ¬ CtrOk l a (updR rs s e t) := fun k => by
        have := rsn_ok.mpr k
        rw [e1] at this
        exact absurd this (by decide +kernel)
      rw [told_no no, e1]
      cases t with
      | none => cases hb
      | some i =>
        unfold badT at hb
        simp only [Bool.or_eq_true, decide_eq_true_eq] at hb
        unfold tgD
        walk_at "dl"
        unfold dChain
        walk_at "dl"
        by_cases h0 : 0 ≤ i
        · rw [decide_eq_true h0, decide_eq_false (show ¬ (i < (rs.length : Int)) by omega)]
          exact go1 _ _ _ _ _ _ _ _ _ _ _ rfl
        · rw [decide_eq_false h0]
          exact go1 _ _ _ _ _ _ _ _ _ _ _ rfl
    · rw [Bool.not_eq_true] at hb
      have ok2 := upd_ok (s := s) (e := e) ok hs hb
      obtain ⟨r, er, hr, _⟩ := row_nth hs
      have ul : (updR rs s e t).length = rs.length := by rw [upd_at er, List.length_set]
      have go2 : ∀ (K : DK) (s4 s6 s7 s8 s9 s10 s11 s12 s13 s14 : S), K.nx = N → b__law_walked_r1 S_next S__law_events S__law_told S_put S__law_turned_row S__law_flagged K [.fz .rd, .fz (conD l a (updR rs s e t)), .fz (partD l a (updR rs s e t)), .op (ts.map (pP l a) ++ [D.tup [conD l a (updR rs s e t), partD l a (updR rs s e t)]]), s4, .fz (.int rs.length), s6, s7, s8, s9, s10, s11, s12, s13, s14] :=
        fun K s4 s6 s7 s8 s9 s10 s11 s12 s13 s14 hK => by
          have := walked_rest (ts := ts ++ [updR rs s e t]) (j := j) K s4 s6 s7 s8 s9 s10 s11 s12 s13 s14 ok2 (fun q hq => by
          rcases List.mem_append.mp hq with hq | hq
          · exact tok q hq
          · rw [List.mem_singleton] at hq; subst hq; exact ok2) (by rw [List.length_append]; simp; omega) hj (rs.length : Int) (by rw [ul]) (by rw [hK]; exact hN2)
          rw [List.map_append] at this
          exact this
      rw [told_ok ok2]
      have turned : ∀ (F : D → Prop) (X : XQ) (X2 : XQ), F (partD l a (updR rs s e t)) → S__law_turned_row [.tup (rs.map rowD), .int (s : Int), evD e, tgD t] (fun x => S_put [.tup [.int l, .int a, .tup (rs.map rowD)], .int 2, x] F X) X2 := fun F X X2 h =>
        ⟨rs, s, r, e, t, rfl, er, Sz.of ok, evIn_of (ok.rows r hr) eo, ⟨_, 2, _, rfl, by simp, by simp, h⟩⟩
      cases t with
      | none =>
        unfold tgD at turned ⊢
        walk_at "dl"
        refine turned _ _ _ ?_
        exact ⟨by rw [List.length_map, sizeLine_eq]; omega, go2 _ _ _ _ _ _ _ _ _ _ _ rfl⟩
      | some i =>
        unfold badT at hb
        simp only [Bool.or_eq_false_iff, decide_eq_false_iff_not] at hb
        unfold tgD at turned ⊢
        walk_at "dl"
        unfold dChain
        walk_at "dl"
        rw [decide_eq_true (show 0 ≤ i by omega), decide_eq_true (show i < (rs.length : Int) by omega)]
        walk_at "dl"
        refine turned _ _ _ ?_
        exact ⟨by rw [List.length_map, sizeLine_eq]; omega, go2 _ _ _ _ _ _ _ _ _ _ _ rfl⟩
  · obtain ⟨rs, ts, s4, s5, s6, s7, s8, s9, s10, s11, s12, s13, s14, rfl, ok, tok, tne, tl⟩ := hi
    exact hq ts tok tne (by omega)
theorem leaf_go : ∀ {ds : List D}, (∀ d ∈ ds, leafB d = true) → leafB.go ds = true
  | [], _ => by unfold leafB.go; rfl
  | d :: ds, h => by
    unfold leafB.go
    rw [h d (List.mem_cons_self ..), leaf_go fun e he => h e (List.mem_cons_of_mem _ he)]
    rfl
theorem leaf_tg (t : Option Int) : leafB (tgD t) = true := by cases t <;> (unfold tgD leafB; rfl)
theorem leaf_tgs (l : List (Option Int)) : leafB (tgs l) = true := by
  unfold tgs leafB
  refine leaf_go fun d hd => ?_
  obtain ⟨t, _, rfl⟩ := List.mem_map.mp hd
  exact leaf_tg t
theorem leaf_row (r : Row) : leafB (rowD r) = true := by
  unfold rowD leafB
  refine leaf_go fun d hd => ?_
  simp only [List.mem_cons, List.not_mem_nil, or_false] at hd
  rcases hd with rfl | rfl | rfl | rfl | rfl
  · exact leaf_tgs _
  · exact leaf_tg _
  · exact leaf_tgs _
  · unfold leafB; rfl
  · unfold leafB; rfl
theorem leaf_rows (rs : List Row) : leafB.go (rs.map rowD) = true := leaf_go fun d hd => by
  obtain ⟨t, _, rfl⟩ := List.mem_map.mp hd
  exact leaf_row t
theorem eq_tgs (l : List (Option Int)) : eqB 1 (tgs l) = true := by
  unfold tgs eqB
  refine eqL_of fun d hd => ?_
  obtain ⟨t, _, rfl⟩ := List.mem_map.mp hd
  cases t <;> (unfold tgD eqB; rfl)
theorem eq_row (r : Row) : eqB 2 (rowD r) = true := by
  unfold rowD eqB
  refine eqL_of fun d hd => ?_
  simp only [List.mem_cons, List.not_mem_nil, or_false] at hd
  rcases hd with rfl | rfl | rfl | rfl | rfl
  · exact eq_tgs _
  · cases r.over <;> (unfold tgD eqB; rfl)
  · exact eq_tgs _
  · unfold eqB; rfl
  · unfold eqB; rfl
theorem eq_rows (rs : List Row) : eqB 3 (.lst (rs.map rowD)) = true := by
  unfold eqB
  refine eqL_of fun d hd => ?_
  obtain ⟨t, _, rfl⟩ := List.mem_map.mp hd
  exact eq_row t
theorem dleR_eq (x y : D) : dleR x y = !(PySem.W.dataLt (pyD x) (pyD y)) := rfl
theorem dleR_int (a b : Int) : dleR (.int a) (.int b) = decide (b ≤ a) := by
  rw [dleR_eq, pyD_int, pyD_int, PySem.W.dataLt_int, PySem.W.not_lt_int]
theorem sortR_int (l : List Int) : (l.map D.int).mergeSort dleR = (l.mergeSort fun a b => decide (b ≤ a)).map D.int := by
  rw [List.map_mergeSort (r := fun a b => decide (b ≤ a)) (s := dleR) (f := D.int) (l := l) fun a _ b _ => (dleR_int a b).symm]
def Down (l : List Int) : Prop := l.Pairwise (fun a b => b < a) ∧ ∀ x ∈ l, 1 ≤ x ∧ x ≤ 5
theorem down_sort {l : List Int} (hn : l.Nodup) (h : ∀ x ∈ l, 1 ≤ x ∧ x ≤ 5) : Down (l.mergeSort fun a b => decide (b ≤ a)) := by
  have hp := List.mergeSort_perm l (fun a b => decide (b ≤ a))
  refine ⟨?_, fun x hx => h x (hp.mem_iff.mp hx)⟩
  have h1 := List.pairwise_mergeSort (le := fun a b : Int => decide (b ≤ a)) (fun a b c h1 h2 => by simp at *; omega) (fun a b => by simp; omega) l
  have h2 : (l.mergeSort fun a b => decide (b ≤ a)).Pairwise (· ≠ ·) := hp.symm.nodup hn
  exact (h1.and h2).imp fun ⟨a, b⟩ => by
    have a := of_decide_eq_true a
    omega
theorem p_law (ds : List D) (Qd : D → Prop) (Xq : XQ) (h : S_law ds Qd Xq) : b_law S_reader S_cell S_next S__law_states S__law_faulty Ss__law_told S__law_reason S__law_walked S__law_right (kD Qd Xq) (startD 19 ds) := by
  obtain ⟨ns, rfl, _, h⟩ := h
  show b_law S_reader S_cell S_next S__law_states S__law_faulty Ss__law_told S__law_reason S__law_walked S__law_right (kD Qd Xq) [.fz (.scr ns), .un, .un, .un, .un, .un, .un, .un, .un, .un, .un, .un, .un, .un, .un, .un, .un, .un, .un]
  unfold b_law
  walk_at "dl"
  refine ⟨ns, _, rfl, by decide, fun c => ⟨c, rfl, ?_⟩⟩
  refine ⟨3, rfl, by decide, by decide, fun l l0 l1 => ?_⟩
  walk_at "dl"
  refine ⟨3, rfl, by decide, by decide, fun a a0 a1 => ?_⟩
  walk_at "dl"
  refine ⟨8, rfl, by decide, by decide, fun m m0 m1 => ?_⟩
  walk_at "dl"
  refine ⟨_, _, _, rfl, by omega, by omega, by omega, by omega, by omega, by omega, fun rs hl hr => ?_⟩
  walk_at "dl"
  refine ⟨ns, _, rfl, by decide, fun c2 => ⟨c2, rfl, ?_⟩⟩
  refine ⟨3, rfl, by decide, by decide, fun many k0 k1 => ?_⟩
  walk_at "dl"
  refine ⟨5, rfl, by decide, by decide, fun first f0 f1 => ?_⟩
  walk_at "dl"
  refine ⟨2, rfl, by decide, by decide, fun d d0 d1 => ?_⟩
  walk_at "dl"
  obtain ⟨k, rfl⟩ : ∃ k : Nat, many = k := ⟨many.toNat, by omega⟩
  have ok0 : CtrOk (1 + l) (2 + a) rs := ⟨by omega, by omega, by omega, hr⟩
  have ec : cutD [D.int (1 + first), D.int (1 + (1 + first + d) % 5)] none (some (k : Int)) = ([1 + first, 1 + (1 + first + d) % 5].take k).map D.int := (cutD_to _ k).trans (List.map_take (f := D.int) (l := [1 + first, 1 + (1 + first + d) % 5])).symm
  have nd : ([1 + first, 1 + (1 + first + d) % 5].take k).Nodup := (List.take_sublist _ _).nodup (by simp; omega)
  have bd : ∀ x ∈ [1 + first, 1 + (1 + first + d) % 5].take k, 1 ≤ x ∧ x ≤ 5 := fun x hx => by
    have := List.mem_of_mem_take hx
    simp only [List.mem_cons, List.not_mem_nil, or_false] at this
    rcases this with rfl | rfl <;> omega
  have dn := down_sort nd bd
  rw [ec]
  unfold gSortedR
  refine ⟨ord_int.sortOk full_int _, ?_⟩
  rw [sortR_int]
  generalize (([1 + first, 1 + (1 + first + d) % 5].take k).mergeSort fun a b => decide (b ≤ a)) = fs at dn
  refine for_ind D.int fs (fun pre post ρ => ∃ (l' a' : Int) (rs' : List Row) (F : Int) (s5 s6 s7 s9 : S), ρ = [.fz (.scr ns), .fz .rd, .fz (.int (1 + l)), .fz (.int (2 + a)), .fz (partD (1 + l) (2 + a) rs), s5, s6, s7, .fz (partD l' a' rs'), s9, .un, .un, .un, .un, .un, .un, .un, .un, .un] ∧ St F l' a' rs' ∧ ∀ x ∈ post, x < F)
    ⟨1 + l, 2 + a, rs, 6, _, _, _, _, rfl, ⟨fun _ => ok0, fun _ => ok0.hn, by omega, fun _ r hr => ?_, fun r hr => ?_⟩, fun x hx => ?_⟩ (fun pre x post ρ N e hi hN => ?_) (fun ρ hi => ?_)
  · have := (Sz.of ok0).2 r hr
    obtain ⟨h1, h2, _⟩ := ok0.rows r hr
    omega
  · exact (Sz.of ok0).2 r hr
  · have := dn.2 x hx; omega
  · obtain ⟨l', a', rs', F, s5, s6, s7, s9, rfl, st, hF⟩ := hi
    have hx := dn.2 x (by rw [e]; simp)
    walk_at "dl"
    refine ⟨l', a', rs', x, F, rfl, hx.1, hx.2, hF x (by simp), st, fun l2 a2 rs2 st2 => ?_⟩
    refine hN _ ⟨l2, a2, rs2, x, _, _, _, _, rfl, st2, fun y hy => ?_⟩
    have := dn.1
    rw [e] at this
    exact (List.pairwise_cons.mp (List.pairwise_append.mp this).2.1).1 y hy
  · obtain ⟨l', a', rs', F, s5, s6, s7, s9, rfl, st, hF⟩ := hi
    have sz : Sz rs' := ⟨st.2.2.1, st.2.2.2.2⟩
    clear hF
    walk_at "dl"
    refine ⟨2, rfl, by decide, by decide, fun form g0 g1 => ?_⟩
    walk_at "dl"
    let ptT (t : Int × Int × List Row) : D := partD t.1 t.2.1 t.2.2
    let ppT (t : Int × Int × List Row) : D := pP t.1 t.2.1 t.2.2
    show forLoop _ _ _ ([(l', a', rs'), (1 + l, 2 + a, rs), (l', a', rs')].map ptT) _
    refine for_ind ptT _ (fun pre _ ρ => ∃ (ts : List (Int × Int × List Row)) (s5 s6 s7 s9 s12 s13 s14 s15 : S), ρ = [.fz (.scr ns), .fz .rd, .fz (.int (1 + l)), .fz (.int (2 + a)), .fz (partD (1 + l) (2 + a) rs), s5, s6, s7, .fz (partD l' a' rs'), s9, .fz (.int form), .op (ts.map ppT), s12, s13, s14, s15, .un, .un, .un] ∧ (∀ t ∈ ts, CtrOk t.1 t.2.1 t.2.2) ∧ ts.length ≤ pre.length)
      ⟨[], _, _, _, _, _, _, _, _, rfl, by simp, by simp⟩ (fun pre t post ρ N e hi hN => ?_) (fun ρ hi => ?_)
    · obtain ⟨ts, s5, s6, s7, s9, s12, s13, s14, s15, rfl, tok, tl⟩ := hi
      have szt : Sz t.2.2 := by
        have : t ∈ [(l', a', rs'), (1 + l, 2 + a, rs), (l', a', rs')] := by rw [e]; simp
        simp only [List.mem_cons, List.not_mem_nil, or_false] at this
        rcases this with rfl | rfl | rfl
        · exact sz
        · exact Sz.of ok0
        · exact sz
      obtain ⟨tl', ta', trs⟩ := t
      show _
      dsimp only [ptT]
      unfold partD
      walk_at "dl"
      unfold dPick
      walk_at "dl"
      refine ⟨by unfold rowsD leafB; exact leaf_rows trs, ?_⟩
      show leafB.go (trs.map rowD) = true ∧ _
      refine ⟨leaf_rows trs, ?_⟩
      have rest : ∀ (K : DK) (t13 : S), K.nx = N → b_law_r1 S_reader S_cell S_next S__law_states S__law_faulty Ss__law_told S__law_reason S__law_walked S__law_right K
          [.fz (.scr ns), .fz .rd, .fz (.int (1 + l)), .fz (.int (2 + a)), .fz (partD (1 + l) (2 + a) rs), s5, s6, s7, .fz (partD l' a' rs'), s9, .fz (.int form), .op (ts.map ppT), .fz (partD tl' ta' trs), t13, .fz (toldD tl' ta' trs), s15, .un, .un, .un] := fun K t13 hK => by
        have lr := lays_rsn tl' ta' trs
        unfold b_law_r1
        unfold partD
        walk_at "dl"
        refine ⟨tl', ta', trs, rfl, szt, ?_⟩
        by_cases ok : CtrOk tl' ta' trs
        · rw [told_ok ok, rsn_ok.mpr ok]
          walk_at "dl"
          have tl3 : ts.length ≤ 3 := by
            have : pre.length ≤ 3 := by
              have := congrArg List.length e
              simp at this
              omega
            omega
          refine ⟨by rw [List.length_map, sizeLine_eq]; omega, ?_⟩
          rw [hK]
          refine hN _ ⟨ts ++ [(tl', ta', trs)], s5, s6, s7, s9, .fz (partD tl' ta' trs), t13, .fz (.tup [.str "", .lst [conD tl' ta' trs]]), .fz (.str ""), ?_, ?_, ?_⟩
          · show [_, _, _, _, _, _, _, _, _, _, _, _, _, _, _, _, _, _, _] = [_, _, _, _, _, _, _, _, _, _, _, _, _, _, _, _, _, _, _]
            rw [List.map_append]
            rfl
          · intro q hq
            rcases List.mem_append.mp hq with hq | hq
            · exact tok q hq
            · obtain rfl := List.mem_singleton.mp hq
              exact ok
          · simp only [List.length_append, List.length_cons, List.length_nil]
            omega
        · have ne : rsn tl' ta' trs ≠ "" := fun e => ok (rsn_ok.mp e)
          rw [told_no ok]
          walk_at "dl"
          rw [gNe_strL _ _ _ lr lr]
          simp only [decide_true, Bool.not_true, Bool.false_eq_true, if_false]
          rw [gEq_strL _ _ _ lr (by decide +kernel), decide_eq_false ne]
          walk_at "dl"
          rw [gEq_strL _ _ _ lr (by decide +kernel), decide_eq_false ne]
          walk_at "dl"
          rw [hK]
          refine hN _ ⟨ts, s5, s6, s7, s9, _, _, _, _, rfl, tok, ?_⟩
          simp only [List.length_append, List.length_cons, List.length_nil]
          omega
      rcases (show form = 0 ∨ form = 1 by omega) with rfl | rfl
      · refine ⟨rowsD trs, rfl, fun v as => ?_⟩
        refine ⟨?_, tl', ta', trs, _, rfl, .inl rfl, szt, ?_⟩
        · unfold insF
          exact ins_go fun d hd => by
            simp only [List.mem_cons, List.not_mem_nil, or_false] at hd
            rcases hd with rfl | rfl | rfl | rfl
            · unfold insF; rfl
            · unfold insF; rfl
            · unfold insF; rfl
            · exact ins_d (.inl rfl)
        · walk_at "dl"
          exact rest _ _ rfl
      · refine ⟨.lst (trs.map rowD), rfl, fun v as => ?_⟩
        refine ⟨?_, tl', ta', trs, _, rfl, .inr rfl, szt, ?_⟩
        · unfold insF
          exact ins_go fun d hd => by
            simp only [List.mem_cons, List.not_mem_nil, or_false] at hd
            rcases hd with rfl | rfl | rfl | rfl
            · unfold insF; rfl
            · unfold insF; rfl
            · unfold insF; rfl
            · exact ins_d (.inr rfl)
        · walk_at "dl"
          unfold rowsD
          rw [gListN_tup]
          refine gNe_self (eq_rows trs) (by decide) ?_
          walk_at "dl"
          intro as
          refine ⟨?_, fun as => rest _ _ rfl⟩
          rw [List.length_reverse, List.length_map, sizeLine_eq]
          have : trs.length ≤ 20 := szt.1
          omega
    · obtain ⟨ts, s5, s6, s7, s9, s12, s13, s14, s15, rfl, tok, tl⟩ := hi
      walk_at "dl"
      refine for_ind ppT ts (fun _ _ ρ => ∃ s16 s17 s18, ρ = [.fz (.scr ns), .fz .rd, .fz (.int (1 + l)), .fz (.int (2 + a)), .fz (partD (1 + l) (2 + a) rs), s5, s6, s7, .fz (partD l' a' rs'), s9, .fz (.int form), .fz (.lst (ts.map ppT)), s12, s13, s14, s15, s16, s17, s18]) ⟨_, _, _, rfl⟩ (fun pre t post ρ N e hi hN => ?_) (fun ρ hi => ?_)
      · obtain ⟨s16, s17, s18, rfl⟩ := hi
        have ot := tok t (by rw [e]; simp)
        obtain ⟨tl', ta', trs⟩ := t
        dsimp only [ppT]
        unfold pP
        walk_at "dl"
        refine ⟨tl', ta', trs, rfl, ot, fun us uok une ul => ?_⟩
        have hl : ¬ ((us.length : Int) = 0) := fun e => une (List.eq_nil_of_length_eq_zero (by omega))
        walk_at "dl"
        simp only [List.length_map]
        rw [decide_eq_false hl]
        simp only [Bool.false_eq_true, if_false]
        have tl3 : ts.length ≤ 3 := tl
        refine ⟨by rw [sizeLine_eq]; omega, by rw [List.length_append, List.length_map, List.length_map, sizeLine_eq]; omega, ?_⟩
        have ea : us.map (pP tl' ta') ++ ts.map ppT = (us.map (fun r => (tl', ta', r)) ++ ts).map ppT := by
          rw [List.map_append, List.map_map]
          rfl
        show lcLoop _ _ _ _ _ (us.map (pP tl' ta') ++ ts.map ppT) []
        rw [ea]
        refine lc_map ppT _ (fun _ => D.bl true) (fun q hq xq Q k => ?_) ?_
        · have oq : CtrOk q.1 q.2.1 q.2.2 := by
            rcases List.mem_append.mp hq with hq | hq
            · obtain ⟨r, hr, rfl⟩ := List.mem_map.mp hq
              exact uok r hr
            · exact tok q hq
          dsimp only [ppT]
          unfold pP
          walk_at "dl"
          exact ⟨_, _, _, rfl, oq, k⟩
        · rw [gAll_map (fun _ => true), List.all_eq_true.mpr (fun _ _ => rfl)]
          exact hN _ ⟨_, _, s18, rfl⟩
      · obtain ⟨s16, s17, s18, rfl⟩ := hi
        walk_at "dl"
        exact h
end K11
namespace K11
open PySem L2 Dl PyProof.Rows Rnd Con
section
variable {P : Program} {w : World} {K : PySem.W.Frag} {mg : Str → Option Value} {base : Heap} {C : Str → Addr}
abbrev N_frozen : List Str := ["thing", "part"]
theorem sc_frozen : FnScope ["thing", "part"] ["thing"] (defScope st_frozen) := ⟨rfl, rfl, rfl, by decide +kernel, rfl, by decide +kernel, by decide +kernel⟩
theorem c_frozen {f : Addr} {fd : FuncData} {k : Nat} {S : DF} {S_frozen : DF} (F : FunD K "frozen" "frozen" (defArgs st_frozen) (defBody st_frozen) (defScope st_frozen) [] [] f fd) (gf : mg "frozen" = some (.ref f)) (hbl : ∀ n, bl0 n = true → mg n = none) (kc : KC K mg C TB)
    (h_frozen : Cal P w K mg base C k "frozen" S_frozen)
    (len : ∀ ds Q Xq, S ds Q Xq → ds.length = 1) (spec : ∀ ds Qd Xq, S ds Qd Xq → b_frozen S_frozen (kD Qd Xq) (startD 2 ds)) : Cal P w K mg base C (k + 1) "frozen" S := by
  refine dfn F gf sc_frozen (FunD.bindsN F fun _ _ _ _ _ _ us hl => match us, hl with | [_], _ => rfl) hbl len (fun cdv A outer s H E g => ?_) spec
  exact (css_cons (cs_if (ct_b (CE.q (ce_isi2 ty_list ty_tuple boot_list boot_tuple g.toGE (CE.q (ce_var (pv 0))))))
    (css_one (cs_ret (ce_tuple g.toGE (CE.q (CN.own (cn_lc g.toGE sc_frozen.nd (ci_it (ce_var (pv 0))) (by show blkC N_frozen (defScope st_frozen) _ _ = true; decide +kernel) (fun _ _ _ _ _ => pg_name (i := 1) sc_frozen.nd rfl (Or.inl rfl)) (fun s1 H1 Cc1 cl1 fp1 => cts_nil) (fun s1 H1 Cc1 cl1 fp1 => ce_call h_frozen (GE.blk g.toGE s1 H1 _ _ fp1) (ca_cons (ce_var (pv 1)) ca_nil) (Nat.le_refl _))))))))
    css_nil)
  (css_one (cs_retv (pv 0))))
theorem sc_Contract___init__ : FnScope ["self", "letters", "answers", "states"] ["self", "letters", "answers", "states"] (defScope st_Contract___init__) := ⟨rfl, rfl, rfl, by decide +kernel, rfl, by decide +kernel, by decide +kernel⟩
theorem c_Contract___init__ {fd : FuncData} {k : Nat} {S : DI} {S_frozen : DF} {S_check_contract : DF} (F : FunD K "__init__" "Contract.__init__" (defArgs st_Contract___init__) (defBody st_Contract___init__) (defScope st_Contract___init__) [] [] (He.ma K (C "Contract") "__init__") fd) (hbl : ∀ n, bl0 n = true → mg n = none) (kc : KC K mg C TB)
    (h_frozen : Cal P w K mg base C k "frozen" S_frozen)
    (h_check_contract : Cal P w K mg base C k "check_contract" S_check_contract)
    (len : ∀ ds Q Xq, S ds Q Xq → ds.length = 3) (spec : ∀ a ds Qf Xq, S ds Qf Xq → b_Contract___init__ S_frozen S_check_contract (kI a "Contract" Qf Xq) (startI 4 a "Contract" ds)) : CalI P w K mg base C (k + 1) "Contract" S := by
  refine ⟨_, fd, ["self", "letters", "answers", "states"], dinit F sc_Contract___init__ hbl (fun ds Q Xq h => by rw [len ds Q Xq h]; rfl) (fun cdv A outer s H E g => ?_) spec, kc.mkr, kc.g, FunD.bindsN F fun _ _ _ _ _ _ us hl => match us, hl with | [_, _, _, _], _ => rfl⟩
  exact (css_cons (cs_setF (ks := ["Contract"]) 0 kc.fld (pv 0) (ce_see (ce_var (pv 1))))
  (css_cons (cs_setF (ks := ["Contract"]) 0 kc.fld (pv 0) (ce_see (ce_var (pv 2))))
  (css_cons (cs_setF (ks := ["Contract"]) 0 kc.fld (pv 0) (ce_see (ce_call h_frozen g.toGE (ca_cons (ce_var (pv 3)) ca_nil) (Nat.le_refl _))))
  (css_one (cs_expr (ce_see (ce_call h_check_contract g.toGE (ca_cons (ce_var (pv 1)) (ca_cons (ce_var (pv 2)) (ca_cons (ce_fldI (ks := ["Contract"]) kc.fld (pv 0)) ca_nil))) (Nat.le_refl _))))))))
theorem cs_Contract___init__ {fd : FuncData} {k : Nat} {S : DI} {S_frozen : DF} {S_check_contract : DF} (F : FunD K "__init__" "Contract.__init__" (defArgs st_Contract___init__) (defBody st_Contract___init__) (defScope st_Contract___init__) [] [] (He.ma K (C "Contract") "__init__") fd) (hbl : ∀ n, bl0 n = true → mg n = none) (kc : KC K mg C TB)
    (h_frozen : Cal P w K mg base C k "frozen" S_frozen)
    (h_check_contract : Cal P w K mg base C k "check_contract" S_check_contract)
    (len : ∀ ds Q Xq, S ds Q Xq → ds.length = 3) (spec : ∀ a ds Qf Xq, S ds Qf Xq → b_Contract___init__ S_frozen S_check_contract (kI a "Contract" Qf Xq) (startIS 4 a "Contract" ds)) : CalIS P w K mg base C (k + 1) "Contract" S := by
  refine ⟨_, fd, ["self", "letters", "answers", "states"], dinitS F sc_Contract___init__ hbl (fun ds Q Xq h => by rw [len ds Q Xq h]; rfl) (fun cdv A outer s H E g => ?_) spec, kc.mkr, kc.g, FunD.bindsN F fun _ _ _ _ _ _ us hl => match us, hl with | [_, _, _, _], _ => rfl⟩
  exact (css_cons (cs_setF (ks := ["Contract"]) 0 kc.fld (pv 0) (ce_see (ce_var (pv 1))))
  (css_cons (cs_setF (ks := ["Contract"]) 0 kc.fld (pv 0) (ce_see (ce_var (pv 2))))
  (css_cons (cs_setF (ks := ["Contract"]) 0 kc.fld (pv 0) (ce_see (ce_call h_frozen g.toGE (ca_cons (ce_var (pv 3)) ca_nil) (Nat.le_refl _))))
  (css_one (cs_expr (ce_see (ce_call h_check_contract g.toGE (ca_cons (ce_var (pv 1)) (ca_cons (ce_var (pv 2)) (ca_cons (ce_fldI (ks := ["Contract"]) kc.fld (pv 0)) ca_nil))) (Nat.le_refl _))))))))
theorem sc_Contract_follow : FnScope ["self", "state", "event", "reads", "over", "writes"] ["self", "state", "event"] (defScope st_Contract_follow) := ⟨rfl, rfl, rfl, by decide +kernel, rfl, by decide +kernel, by decide +kernel⟩
theorem c_Contract_follow {fd : FuncData} {k : Nat} {S : DF} (F : FunD K "follow" "Contract.follow" (defArgs st_Contract_follow) (defBody st_Contract_follow) (defScope st_Contract_follow) [] [] (He.ma K (C "Contract") "follow") fd) (hbl : ∀ n, bl0 n = true → mg n = none) (kc : KC K mg C TB)
    (len : ∀ ds Q Xq, S ds Q Xq → ds.length = 3) (spec : ∀ ds Qd Xq, S ds Qd Xq → b_Contract_follow (kD Qd Xq) (startD 6 ds)) : CalM P w K mg base C (k + 1) "Contract" "follow" S := by
  refine dmeth F kc.mt kc.cl sc_Contract_follow (FunD.bindsN F fun _ _ _ _ _ _ us hl => match us, hl with | [_, _, _], _ => rfl) hbl len (fun cdv A outer s H E g => ?_) spec
  exact (css_cons (cs_unp g.toGE (PNs.cons (pg_name (i := 3) sc_Contract_follow.nd rfl (by first | exact Or.inl rfl | exact Or.inr rfl)) (PNs.cons (pg_name (i := 4) sc_Contract_follow.nd rfl (by first | exact Or.inl rfl | exact Or.inr rfl)) (PNs.cons (pg_name (i := 5) sc_Contract_follow.nd rfl (by first | exact Or.inl rfl | exact Or.inr rfl)) PNs.nil rfl) rfl) rfl) (ce_sl (CE.q (ce_ix (CE.q (ce_fld (ks := ["Contract"]) kc.fld (CE.q (ce_var (pv 0))))) (CE.q (ce_var (pv 1))))) co_no (co_some (CE.q ce_int))))
  (css_cons (cs_if (ct_eq g.toGE (CE.q (ce_ix (CE.q (ce_var (pv 2))) (CE.q ce_int))) (CE.q ce_str))
    (css_one (cs_ret (ce_ix (CE.q (ce_var (pv 3))) (CE.q (ce_ix (CE.q (ce_var (pv 2))) (CE.q ce_int))))))
    css_nil)
  (css_cons (cs_if (ct_eq g.toGE (CE.q (ce_ix (CE.q (ce_var (pv 2))) (CE.q ce_int))) (CE.q ce_str))
    (css_one (cs_ret (ce_ix (CE.q (ce_var (pv 5))) (CE.q (ce_ix (CE.q (ce_var (pv 2))) (CE.q ce_int))))))
    css_nil)
  (css_one (cs_retv (pv 4))))))
theorem sc_Contract_with_row : FnScope ["self", "state", "event", "target", "reads", "over", "writes", "may_finish", "may_be_silent"] ["self", "state", "event", "target"] (defScope st_Contract_with_row) := ⟨rfl, rfl, rfl, by decide +kernel, rfl, by decide +kernel, by decide +kernel⟩
theorem c_Contract_with_row {fd : FuncData} {k : Nat} {S : DF} {S_replaced : DF} {S_Contract_with_state : DF} (F : FunD K "with_row" "Contract.with_row" (defArgs st_Contract_with_row) (defBody st_Contract_with_row) (defScope st_Contract_with_row) [] [] (He.ma K (C "Contract") "with_row") fd) (hbl : ∀ n, bl0 n = true → mg n = none) (kc : KC K mg C TB)
    (h_replaced : Cal P w K mg base C k "replaced" S_replaced)
    (hm_Contract_with_state : CalM P w K mg base C k "Contract" "with_state" S_Contract_with_state)
    (len : ∀ ds Q Xq, S ds Q Xq → ds.length = 4) (spec : ∀ ds Qd Xq, S ds Qd Xq → b_Contract_with_row S_replaced S_Contract_with_state (kD Qd Xq) (startD 9 ds)) : CalM P w K mg base C (k + 1) "Contract" "with_row" S := by
  refine dmeth F kc.mt kc.cl sc_Contract_with_row (FunD.bindsN F fun _ _ _ _ _ _ us hl => match us, hl with | [_, _, _, _], _ => rfl) hbl len (fun cdv A outer s H E g => ?_) spec
  exact (css_cons (cs_unp g.toGE (PNs.cons (pg_name (i := 4) sc_Contract_with_row.nd rfl (by first | exact Or.inl rfl | exact Or.inr rfl)) (PNs.cons (pg_name (i := 5) sc_Contract_with_row.nd rfl (by first | exact Or.inl rfl | exact Or.inr rfl)) (PNs.cons (pg_name (i := 6) sc_Contract_with_row.nd rfl (by first | exact Or.inl rfl | exact Or.inr rfl)) (PNs.cons (pg_name (i := 7) sc_Contract_with_row.nd rfl (by first | exact Or.inl rfl | exact Or.inr rfl)) (PNs.cons (pg_name (i := 8) sc_Contract_with_row.nd rfl (by first | exact Or.inl rfl | exact Or.inr rfl)) PNs.nil rfl) rfl) rfl) rfl) rfl) (ce_ix (CE.q (ce_fld (ks := ["Contract"]) kc.fld (CE.q (ce_var (pv 0))))) (CE.q (ce_var (pv 1)))))
  (css_cons (cs_if (ct_eq g.toGE (CE.q (ce_ix (CE.q (ce_var (pv 2))) (CE.q ce_int))) (CE.q ce_str))
    (css_one (cs_set 4 sc_Contract_with_row.nd (ce_call h_replaced g.toGE (ca_cons (ce_var (pv 4)) (ca_cons (ce_ix (CE.q (ce_var (pv 2))) (CE.q ce_int)) (ca_cons (ce_var (pv 3)) ca_nil))) (Nat.le_refl _))))
    (css_one (cs_if (ct_eq g.toGE (CE.q (ce_ix (CE.q (ce_var (pv 2))) (CE.q ce_int))) (CE.q ce_str))
      (css_one (cs_set 6 sc_Contract_with_row.nd (ce_call h_replaced g.toGE (ca_cons (ce_var (pv 6)) (ca_cons (ce_ix (CE.q (ce_var (pv 2))) (CE.q ce_int)) (ca_cons (ce_var (pv 3)) ca_nil))) (Nat.le_refl _))))
      (css_one (cs_set 5 sc_Contract_with_row.nd (ce_var (pv 3)))))))
  (css_one (cs_ret (ce_meth hm_Contract_with_state g.toGE (ce_var (pv 0)) (ca_cons (ce_var (pv 1)) (ca_cons (ce_tup (ca_cons (ce_var (pv 4)) (ca_cons (ce_var (pv 5)) (ca_cons (ce_var (pv 6)) (ca_cons (ce_var (pv 7)) (ca_cons (ce_var (pv 8)) ca_nil)))))) ca_nil)) (Nat.le_refl _))))))
theorem sc_Contract_with_flags : FnScope ["self", "state", "finish", "silence", "reads", "over", "writes", "may_finish", "may_be_silent"] ["self", "state", "finish", "silence"] (defScope st_Contract_with_flags) := ⟨rfl, rfl, rfl, by decide +kernel, rfl, by decide +kernel, by decide +kernel⟩
theorem sgs_Contract_with_flags {K : PySem.W.Frag} {C : Str → Addr} {mg : Str → Option Value} {f : Addr} {fd : FuncData} (kc : KC K mg C TB) (F : FunD K "with_flags" "Contract.with_flags" (defArgs st_Contract_with_flags) (defBody st_Contract_with_flags) (defScope st_Contract_with_flags) [] [("finish", V.non), ("silence", V.non)] f fd) : ∀ s ∈ SG_Contract_with_flags, SgOk ⟨K, C⟩ fd ["self", "state", "finish", "silence"] 1 s := fun s hs => by
  simp only [SG_Contract_with_flags, List.mem_cons, List.not_mem_nil, or_false] at hs
  rcases hs with rfl | rfl | rfl | rfl
  · exact sg0 F sg_Contract_with_flags_0 1 [] (by simp) (fun q hq => absurd hq List.not_mem_nil) (fun G R => RpL.nil) fun _ _ _ _ _ _ us mv ws h1 h2 h3 => match us, mv, ws, h1, h2, h3 with | [_, _], [], [_, _], _, _, _ => rfl
  · exact sg0 F sg_Contract_with_flags_1 1 [("finish", V.non), ("silence", V.non)] (by simp) (fun q hq => by simp only [List.mem_cons, List.not_mem_nil, or_false] at hq ⊢; first | exact hq | (rcases hq with rfl | rfl <;> simp) | (rcases hq with rfl; simp)) (fun G R => (RpL.cons rp_non (RpL.cons rp_non RpL.nil))) fun _ _ _ _ _ _ us mv ws h1 h2 h3 => match us, mv, ws, h1, h2, h3 with | [_, _], [_, _], [], _, _, _ => ⟨_, _, _, _, _, _, rfl, rfl, ⟨_, _, _, _, _, _, rfl, rfl, rfl⟩⟩
  · exact sg0 F sg_Contract_with_flags_2 1 [("silence", V.non)] (by simp) (fun q hq => by simp only [List.mem_cons, List.not_mem_nil, or_false] at hq ⊢; first | exact hq | (rcases hq with rfl | rfl <;> simp) | (rcases hq with rfl; simp)) (fun G R => (RpL.cons rp_non RpL.nil)) fun _ _ _ _ _ _ us mv ws h1 h2 h3 => match us, mv, ws, h1, h2, h3 with | [_, _], [_], [_], _, _, _ => ⟨_, _, _, _, _, _, rfl, rfl, rfl⟩
  · exact sg0 F sg_Contract_with_flags_3 1 [("finish", V.non)] (by simp) (fun q hq => by simp only [List.mem_cons, List.not_mem_nil, or_false] at hq ⊢; first | exact hq | (rcases hq with rfl | rfl <;> simp) | (rcases hq with rfl; simp)) (fun G R => (RpL.cons rp_non RpL.nil)) fun _ _ _ _ _ _ us mv ws h1 h2 h3 => match us, mv, ws, h1, h2, h3 with | [_, _], [_], [_], _, _, _ => ⟨_, _, _, _, _, _, rfl, rfl, rfl⟩
theorem c_Contract_with_flags {fd : FuncData} {k : Nat} {S : DF} {S_Contract_with_state : DF} (F : FunD K "with_flags" "Contract.with_flags" (defArgs st_Contract_with_flags) (defBody st_Contract_with_flags) (defScope st_Contract_with_flags) [] [("finish", V.non), ("silence", V.non)] (He.ma K (C "Contract") "with_flags") fd) (hbl : ∀ n, bl0 n = true → mg n = none) (kc : KC K mg C TB)
    (hm_Contract_with_state : CalM P w K mg base C k "Contract" "with_state" S_Contract_with_state)
    (len : ∀ ds Q Xq, S ds Q Xq → ds.length = 4) (spec : ∀ ds Qd Xq, S ds Qd Xq → b_Contract_with_flags S_Contract_with_state (kD Qd Xq) (startD 9 ds)) : CalMN P w K mg base C (k + 1) "Contract" "with_flags" SG_Contract_with_flags S := by
  refine dmethN F kc.mt kc.cl sc_Contract_with_flags (sgs_Contract_with_flags kc F) hbl len (fun cdv A outer s H E g => ?_) spec
  exact (css_cons (cs_unp g.toGE (PNs.cons (pg_name (i := 4) sc_Contract_with_flags.nd rfl (by first | exact Or.inl rfl | exact Or.inr rfl)) (PNs.cons (pg_name (i := 5) sc_Contract_with_flags.nd rfl (by first | exact Or.inl rfl | exact Or.inr rfl)) (PNs.cons (pg_name (i := 6) sc_Contract_with_flags.nd rfl (by first | exact Or.inl rfl | exact Or.inr rfl)) (PNs.cons (pg_name (i := 7) sc_Contract_with_flags.nd rfl (by first | exact Or.inl rfl | exact Or.inr rfl)) (PNs.cons (pg_name (i := 8) sc_Contract_with_flags.nd rfl (by first | exact Or.inl rfl | exact Or.inr rfl)) PNs.nil rfl) rfl) rfl) rfl) rfl) (ce_ix (CE.q (ce_fld (ks := ["Contract"]) kc.fld (CE.q (ce_var (pv 0))))) (CE.q (ce_var (pv 1)))))
  (css_cons (cs_if (ct_isnt (CE.q (ce_var (pv 2))) (CE.q ce_non))
    (css_one (cs_set 7 sc_Contract_with_flags.nd (ce_var (pv 2))))
    css_nil)
  (css_cons (cs_if (ct_isnt (CE.q (ce_var (pv 3))) (CE.q ce_non))
    (css_one (cs_set 8 sc_Contract_with_flags.nd (ce_var (pv 3))))
    css_nil)
  (css_one (cs_ret (ce_meth hm_Contract_with_state g.toGE (ce_var (pv 0)) (ca_cons (ce_var (pv 1)) (ca_cons (ce_tup (ca_cons (ce_var (pv 4)) (ca_cons (ce_var (pv 5)) (ca_cons (ce_var (pv 6)) (ca_cons (ce_var (pv 7)) (ca_cons (ce_var (pv 8)) ca_nil)))))) ca_nil)) (Nat.le_refl _)))))))
theorem sc_Contract_with_state : FnScope ["self", "state", "row"] ["self", "state", "row"] (defScope st_Contract_with_state) := ⟨rfl, rfl, rfl, by decide +kernel, rfl, by decide +kernel, by decide +kernel⟩
theorem c_Contract_with_state {fd : FuncData} {k : Nat} {S : DF} {S_Contract : DI} {S_replaced : DF} (F : FunD K "with_state" "Contract.with_state" (defArgs st_Contract_with_state) (defBody st_Contract_with_state) (defScope st_Contract_with_state) [] [] (He.ma K (C "Contract") "with_state") fd) (hbl : ∀ n, bl0 n = true → mg n = none) (kc : KC K mg C TB)
    (hi_Contract : CalI P w K mg base C k "Contract" S_Contract)
    (h_replaced : Cal P w K mg base C k "replaced" S_replaced)
    (len : ∀ ds Q Xq, S ds Q Xq → ds.length = 3) (spec : ∀ ds Qd Xq, S ds Qd Xq → b_Contract_with_state S_Contract S_replaced (kD Qd Xq) (startD 3 ds)) : CalM P w K mg base C (k + 2) "Contract" "with_state" S := by
  refine dmeth F kc.mt kc.cl sc_Contract_with_state (FunD.bindsN F fun _ _ _ _ _ _ us hl => match us, hl with | [_, _, _], _ => rfl) hbl len (fun cdv A outer s H E g => ?_) spec
  exact (css_one (cs_ret (ce_make hi_Contract g.toGE (ca_cons (ce_fld (ks := ["Contract"]) kc.fld (CE.q (ce_var (pv 0)))) (ca_cons (ce_fld (ks := ["Contract"]) kc.fld (CE.q (ce_var (pv 0)))) (ca_cons (ce_call h_replaced g.toGE (ca_cons (ce_fld (ks := ["Contract"]) kc.fld (CE.q (ce_var (pv 0)))) (ca_cons (ce_var (pv 1)) (ca_cons (ce_var (pv 2)) ca_nil))) (Nat.le_add_right _ _)) ca_nil))) (by omega))))
theorem sc_replaced : FnScope ["rows", "index", "row"] ["rows", "index", "row"] (defScope st_replaced) := ⟨rfl, rfl, rfl, by decide +kernel, rfl, by decide +kernel, by decide +kernel⟩
theorem c_replaced {f : Addr} {fd : FuncData} {k : Nat} {S : DF} (F : FunD K "replaced" "replaced" (defArgs st_replaced) (defBody st_replaced) (defScope st_replaced) [] [] f fd) (gf : mg "replaced" = some (.ref f)) (hbl : ∀ n, bl0 n = true → mg n = none) (kc : KC K mg C TB)
    (len : ∀ ds Q Xq, S ds Q Xq → ds.length = 3) (spec : ∀ ds Qd Xq, S ds Qd Xq → b_replaced (kD Qd Xq) (startD 3 ds)) : Cal P w K mg base C (k + 1) "replaced" S := by
  refine dfn F gf sc_replaced (FunD.bindsN F fun _ _ _ _ _ _ us hl => match us, hl with | [_, _, _], _ => rfl) hbl len (fun cdv A outer s H E g => ?_) spec
  exact (css_one (cs_ret (ce_add (CE.q (ce_add (CE.q (ce_sl (CE.q (ce_var (pv 0))) co_no (co_some (CE.q (ce_var (pv 1)))))) (CE.q (ce_tup (ca_cons (ce_var (pv 2)) ca_nil))))) (CE.q (ce_sl (CE.q (ce_var (pv 0))) (co_some (CE.q (ce_add (CE.q (ce_var (pv 1))) (CE.q ce_int)))) co_no)))))
theorem sc_check_contract : FnScope ["letters", "answers", "states", "row", "target"] ["letters", "answers", "states"] (defScope st_check_contract) := ⟨rfl, rfl, rfl, by decide +kernel, rfl, by decide +kernel, by decide +kernel⟩
theorem c_check_contract {f : Addr} {fd : FuncData} {k : Nat} {S : DF} (F : FunD K "check_contract" "check_contract" (defArgs st_check_contract) (defBody st_check_contract) (defScope st_check_contract) [] [] f fd) (gf : mg "check_contract" = some (.ref f)) (hbl : ∀ n, bl0 n = true → mg n = none) (kc : KC K mg C TB)
    (hx_InvalidContract : Ex1 P w K mg base C "InvalidContract" "reason")
    (len : ∀ ds Q Xq, S ds Q Xq → ds.length = 3) (spec : ∀ ds Qd Xq, S ds Qd Xq → b_check_contract (kD Qd Xq) (startD 5 ds)) : Cal P w K mg base C (k + 3) "check_contract" S := by
  refine dfn F gf sc_check_contract (FunD.bindsN F fun _ _ _ _ _ _ us hl => match us, hl with | [_, _, _], _ => rfl) hbl len (fun cdv A outer s H E g => ?_) spec
  exact (css_cons (cs_if (CW.t (cw_or (ct_lt (CE.q (ce_var (pv 0))) (CE.q ce_int)) (cw_or1 (ct_gt (CE.q (ce_var (pv 0))) (CE.q (ce_gInt kc.int))))))
    (css_one (cs_raise1 hx_InvalidContract g.toGE ce_str (by omega)))
    css_nil)
  (css_cons (cs_if (CW.t (cw_or (ct_lt (CE.q (ce_var (pv 1))) (CE.q (ce_gInt kc.int))) (cw_or1 (ct_gt (CE.q (ce_var (pv 1))) (CE.q (ce_gInt kc.int))))))
    (css_one (cs_raise1 hx_InvalidContract g.toGE ce_str (by omega)))
    css_nil)
  (css_cons (cs_if (CW.t (cw_or (ct_lt (CE.q (ce_len g.toGE (CE.q (ce_var (pv 2))))) (CE.q ce_int)) (cw_or1 (ct_gt (CE.q (ce_len g.toGE (CE.q (ce_var (pv 2))))) (CE.q (ce_gInt kc.int))))))
    (css_one (cs_raise1 hx_InvalidContract g.toGE ce_str (by omega)))
    css_nil)
  (css_cons (cs_for g (pg_name (i := 3) sc_check_contract.nd rfl (by first | exact Or.inl rfl | exact Or.inr rfl)) (ci_it (ce_var (pv 2)))
    (css_one (cs_if (CW.t (cw_or (ct_ne g.toGE (CE.q (ce_len g.toGE (CE.q (ce_ix (CE.q (ce_var (pv 3))) (CE.q ce_int))))) (CE.q (ce_var (pv 0)))) (cw_or1 (ct_ne g.toGE (CE.q (ce_len g.toGE (CE.q (ce_ix (CE.q (ce_var (pv 3))) (CE.q ce_int))))) (CE.q (ce_var (pv 1)))))))
      (css_one (cs_raise1 hx_InvalidContract g.toGE ce_str (by omega)))
      css_nil)))
  (css_one (cs_for g (pg_name (i := 3) sc_check_contract.nd rfl (by first | exact Or.inl rfl | exact Or.inr rfl)) (ci_it (ce_var (pv 2)))
    (css_one (cs_for g (pg_name (i := 4) sc_check_contract.nd rfl (by first | exact Or.inl rfl | exact Or.inr rfl)) (ci_it (ce_add (CE.q (ce_add (CE.q (ce_ix (CE.q (ce_var (pv 3))) (CE.q ce_int))) (CE.q (ce_tup (ca_cons (ce_ix (CE.q (ce_var (pv 3))) (CE.q ce_int)) ca_nil))))) (CE.q (ce_ix (CE.q (ce_var (pv 3))) (CE.q ce_int)))))
      (css_one (cs_if (CW.t (cw_and (ct_isnt (CE.q (ce_var (pv 4))) (CE.q ce_non)) (cw_and1 (CW.t (cw_or (ct_lt (CE.q (ce_var (pv 4))) (CE.q ce_int)) (cw_or1 (ct_ge (CE.q (ce_var (pv 4))) (CE.q (ce_len g.toGE (CE.q (ce_var (pv 2))))))))))))
        (css_one (cs_raise1 hx_InvalidContract g.toGE ce_str (by omega)))
        css_nil))))))))))
theorem sc__law_cell : FnScope ["script", "k"] ["script", "k"] (defScope st__law_cell) := ⟨rfl, rfl, rfl, by decide +kernel, rfl, by decide +kernel, by decide +kernel⟩
theorem c__law_cell {f : Addr} {fd : FuncData} {k : Nat} {S : DF} (F : FunD K "_law_cell" "_law_cell" (defArgs st__law_cell) (defBody st__law_cell) (defScope st__law_cell) [] [] f fd) (gf : mg "_law_cell" = some (.ref f)) (hbl : ∀ n, bl0 n = true → mg n = none) (kc : KC K mg C TB)
    (len : ∀ ds Q Xq, S ds Q Xq → ds.length = 2) (spec : ∀ ds Qd Xq, S ds Qd Xq → b__law_cell (kD Qd Xq) (startD 2 ds)) : Cal P w K mg base C (k + 1) "_law_cell" S := by
  refine dfn F gf sc__law_cell (FunD.bindsN F fun _ _ _ _ _ _ us hl => match us, hl with | [_, _], _ => rfl) hbl len (fun cdv A outer s H E g => ?_) spec
  exact (css_cons (cs_if (ct_lt (CE.q (ce_var (pv 1))) (CE.q (ce_len g.toGE (CE.q (ce_var (pv 0))))))
    (css_one (cs_ret (ce_ix (CE.q (ce_var (pv 0))) (CE.q (ce_var (pv 1))))))
    css_nil)
  (css_one (cs_ret ce_int)))
theorem sc__law_reader : FnScope ["cell"] ["cell"] (defScope st__law_reader) := ⟨rfl, rfl, rfl, by decide +kernel, rfl, by decide +kernel, by decide +kernel⟩
theorem c__law_reader {f : Addr} {fd : FuncData} {k : Nat} {S : DF} (F : FunD K "_law_reader" "_law_reader" (defArgs st__law_reader) (defBody st__law_reader) (defScope st__law_reader) [] [] f fd) (gf : mg "_law_reader" = some (.ref f)) (hbl : ∀ n, bl0 n = true → mg n = none) (kc : KC K mg C TB)
    (len : ∀ ds Q Xq, S ds Q Xq → ds.length = 1) (spec : ∀ ds Qd Xq, S ds Qd Xq → b__law_reader (kD Qd Xq) (startD 1 ds)) : Cal P w K mg base C (k + 1) "_law_reader" S := by
  refine dfn F gf sc__law_reader (FunD.bindsN F fun _ _ _ _ _ _ us hl => match us, hl with | [_], _ => rfl) hbl len (fun cdv A outer s H E g => ?_) spec
  exact (css_one (cs_ret (CN.rd (cn_lst (ca_cons (ce_var (pv 0)) (ca_cons ce_int (ca_cons (ce_sub (CE.q (ce_var (pv 0))) (CE.q (ce_pow (CE.q ce_int) (CE.q ce_int)))) ca_nil)))))))
theorem sc__law_next : FnScope ["reader", "size", "k", "rest", "mixed"] ["reader", "size"] (defScope st__law_next) := ⟨rfl, rfl, rfl, by decide +kernel, rfl, by decide +kernel, by decide +kernel⟩
theorem c__law_next {f : Addr} {fd : FuncData} {k : Nat} {S : DF} (F : FunD K "_law_next" "_law_next" (defArgs st__law_next) (defBody st__law_next) (defScope st__law_next) [] [] f fd) (gf : mg "_law_next" = some (.ref f)) (hbl : ∀ n, bl0 n = true → mg n = none) (kc : KC K mg C TB)
    (len : ∀ ds Q Xq, S ds Q Xq → ds.length = 2) (spec : ∀ ds Qd Xq, S ds Qd Xq → b__law_next (kD Qd Xq) (startD 5 ds)) : Cal P w K mg base C (k + 1) "_law_next" S := by
  refine dfn F gf sc__law_next (FunD.bindsN F fun _ _ _ _ _ _ us hl => match us, hl with | [_, _], _ => rfl) hbl len (fun cdv A outer s H E g => ?_) spec
  exact (css_cons (cs_set 2 sc__law_next.nd (ce_ix (CE.q (ce_var (pv 0))) (CE.q ce_int)))
  (css_cons (cs_setix 0 (pv 0) (ce_add (CE.q (ce_var (pv 2))) (CE.q ce_int)) (CE.q ce_int))
  (css_cons (cs_if (CW.t (cw_and (ct_ge (CE.q (ce_ix (CE.q (ce_var (pv 0))) (CE.q ce_int))) (CE.q (ce_pow (CE.q ce_int) (CE.q ce_int)))) (cw_and1 (ct_gt (CE.q (ce_ix (CE.q (ce_var (pv 0))) (CE.q ce_int))) (CE.q ce_int)))))
    (css_cons (cs_set 3 sc__law_next.nd (ce_ix (CE.q (ce_var (pv 0))) (CE.q ce_int)))
    (css_cons (cs_setix 0 (pv 0) (ce_fdiv (CE.q (ce_var (pv 3))) (CE.q (ce_var (pv 1)))) (CE.q ce_int))
    (css_one (cs_ret (ce_mod (CE.q (ce_int1 g.toGE (CE.q (ce_var (pv 3))))) (CE.q (ce_var (pv 1))))))))
    css_nil)
  (css_cons (cs_set 4 sc__law_next.nd (ce_mod (CE.q (ce_int1 g.toGE (CE.q (ce_add (CE.q (ce_add (CE.q (ce_ix (CE.q (ce_var (pv 0))) (CE.q ce_int))) (CE.q (ce_mul (CE.q ce_int) (CE.q (ce_var (pv 2))))))) (CE.q ce_int))))) (CE.q ce_int)))
  (css_cons (cs_set 4 sc__law_next.nd (ce_mod (CE.q (ce_int1 g.toGE (CE.q (ce_mul (CE.q (ce_var (pv 4))) (CE.q (ce_add (CE.q (ce_var (pv 4))) (CE.q ce_int))))))) (CE.q ce_int)))
  (css_cons (cs_set 4 sc__law_next.nd (ce_mod (CE.q (ce_int1 g.toGE (CE.q (ce_add (CE.q (ce_mul (CE.q (ce_var (pv 4))) (CE.q (ce_add (CE.q (ce_var (pv 4))) (CE.q ce_int))))) (CE.q (ce_mul (CE.q ce_int) (CE.q (ce_var (pv 2))))))))) (CE.q ce_int)))
  (css_one (cs_ret (ce_mod (CE.q (ce_int1 g.toGE (CE.q (ce_fdiv (CE.q (ce_var (pv 4))) (CE.q ce_int))))) (CE.q (ce_var (pv 1))))))))))))
abbrev N__law_same : List Str := ["told", "due", "k"]
theorem sc__law_same : FnScope ["told", "due", "k"] ["told", "due"] (defScope st__law_same) := ⟨rfl, rfl, rfl, by decide +kernel, rfl, by decide +kernel, by decide +kernel⟩
theorem c__law_same {f : Addr} {fd : FuncData} {k : Nat} {S : DF} {S__law_same : DF} (F : FunD K "_law_same" "_law_same" (defArgs st__law_same) (defBody st__law_same) (defScope st__law_same) [] [] f fd) (gf : mg "_law_same" = some (.ref f)) (hbl : ∀ n, bl0 n = true → mg n = none) (kc : KC K mg C TB)
    (h__law_same : Cal P w K mg base C k "_law_same" S__law_same)
    (len : ∀ ds Q Xq, S ds Q Xq → ds.length = 2) (spec : ∀ ds Qd Xq, S ds Qd Xq → b__law_same S__law_same (kD Qd Xq) (startD 3 ds)) : Cal P w K mg base C (k + 1) "_law_same" S := by
  refine dfn F gf sc__law_same (FunD.bindsN F fun _ _ _ _ _ _ us hl => match us, hl with | [_, _], _ => rfl) hbl len (fun cdv A outer s H E g => ?_) spec
  exact (css_cons (cs_if (ct_b (CE.q (ce_isi ty_tuple boot_tuple g.toGE (CE.q (ce_var (pv 1))))))
    (css_cons (cs_if (CW.t (cw_or (ct_not (ct_b (CE.q (ce_isi ty_tuple boot_tuple g.toGE (CE.q (ce_var (pv 0))))))) (cw_or1 (ct_ne g.toGE (CE.q (ce_len g.toGE (CE.q (ce_var (pv 0))))) (CE.q (ce_len g.toGE (CE.q (ce_var (pv 1)))))))))
      (css_one (cs_ret ce_bl))
      css_nil)
    (css_one (cs_ret (ce_all g.toGE (CE.q (CN.own (cn_lc g.toGE sc__law_same.nd (ci_r1 g.toGE (CE.q (ce_len g.toGE (CE.q (ce_var (pv 1)))))) (by show blkC N__law_same (defScope st__law_same) _ _ = true; decide +kernel) (fun _ _ _ _ _ => pg_name (i := 2) sc__law_same.nd rfl (Or.inl rfl)) (fun s1 H1 Cc1 cl1 fp1 => cts_nil) (fun s1 H1 Cc1 cl1 fp1 => ce_call h__law_same (GE.blk g.toGE s1 H1 _ _ fp1) (ca_cons (ce_ix (CE.q (ce_var (pv 0))) (CE.q (ce_var (pv 2)))) (ca_cons (ce_ix (CE.q (ce_var (pv 1))) (CE.q (ce_var (pv 2)))) ca_nil)) (Nat.le_refl _)))))))))
    css_nil)
  (css_cons (cs_if (ct_is (CE.q (ce_var (pv 1))) (CE.q ce_non))
    (css_one (cs_ret (ce_is (CE.q (ce_var (pv 0))) (CE.q ce_non))))
    css_nil)
  (css_cons (cs_if (ct_b (CE.q (ce_isi ty_str boot_str g.toGE (CE.q (ce_var (pv 1))))))
    (css_one (cs_ret (ce_and (CE.q (ce_isi ty_str boot_str g.toGE (CE.q (ce_var (pv 0))))) (ce_and1 (ce_eq g.toGE (CE.q (ce_var (pv 0))) (CE.q (ce_var (pv 1))))))))
    css_nil)
  (css_cons (cs_if (CW.t (cw_or (ct_b (CE.q (ce_isi ty_bool boot_bool g.toGE (CE.q (ce_var (pv 0)))))) (cw_or1 (ct_b (CE.q (ce_isi ty_bool boot_bool g.toGE (CE.q (ce_var (pv 1)))))))))
    (css_one (cs_ret (ce_and (CE.q (ce_isi ty_bool boot_bool g.toGE (CE.q (ce_var (pv 0))))) (ce_and (CE.q (ce_isi ty_bool boot_bool g.toGE (CE.q (ce_var (pv 1))))) (ce_and1 (ce_eq g.toGE (CE.q (ce_var (pv 0))) (CE.q (ce_var (pv 1)))))))))
    css_nil)
  (css_one (cs_ret (ce_and (CE.q (ce_isi ty_int boot_int g.toGE (CE.q (ce_var (pv 0))))) (ce_and1 (ce_eq g.toGE (CE.q (ce_var (pv 0))) (CE.q (ce_var (pv 1))))))))))))
theorem sc__law_put : FnScope ["row", "k", "part"] ["row", "k", "part"] (defScope st__law_put) := ⟨rfl, rfl, rfl, by decide +kernel, rfl, by decide +kernel, by decide +kernel⟩
theorem c__law_put {f : Addr} {fd : FuncData} {k : Nat} {S : DF} (F : FunD K "_law_put" "_law_put" (defArgs st__law_put) (defBody st__law_put) (defScope st__law_put) [] [] f fd) (gf : mg "_law_put" = some (.ref f)) (hbl : ∀ n, bl0 n = true → mg n = none) (kc : KC K mg C TB)
    (len : ∀ ds Q Xq, S ds Q Xq → ds.length = 3) (spec : ∀ ds Qd Xq, S ds Qd Xq → b__law_put (kD Qd Xq) (startD 3 ds)) : Cal P w K mg base C (k + 1) "_law_put" S := by
  refine dfn F gf sc__law_put (FunD.bindsN F fun _ _ _ _ _ _ us hl => match us, hl with | [_, _, _], _ => rfl) hbl len (fun cdv A outer s H E g => ?_) spec
  exact (css_one (cs_ret (ce_add (CE.q (ce_add (CE.q (ce_sl (CE.q (ce_var (pv 0))) co_no (co_some (CE.q (ce_var (pv 1)))))) (CE.q (ce_tup (ca_cons (ce_var (pv 2)) ca_nil))))) (CE.q (ce_sl (CE.q (ce_var (pv 0))) (co_some (CE.q (ce_add (CE.q (ce_var (pv 1))) (CE.q ce_int)))) co_no)))))
theorem sc__law_target : FnScope ["reader", "many", "number"] ["reader", "many"] (defScope st__law_target) := ⟨rfl, rfl, rfl, by decide +kernel, rfl, by decide +kernel, by decide +kernel⟩
theorem c__law_target {f : Addr} {fd : FuncData} {k : Nat} {S : DF} {S__law_next : DF} (F : FunD K "_law_target" "_law_target" (defArgs st__law_target) (defBody st__law_target) (defScope st__law_target) [] [] f fd) (gf : mg "_law_target" = some (.ref f)) (hbl : ∀ n, bl0 n = true → mg n = none) (kc : KC K mg C TB)
    (h__law_next : Cal P w K mg base C k "_law_next" S__law_next)
    (len : ∀ ds Q Xq, S ds Q Xq → ds.length = 2) (spec : ∀ ds Qd Xq, S ds Qd Xq → b__law_target S__law_next (kD Qd Xq) (startD 3 ds)) : Cal P w K mg base C (k + 1) "_law_target" S := by
  refine dfn F gf sc__law_target (FunD.bindsN F fun _ _ _ _ _ _ us hl => match us, hl with | [_, _], _ => rfl) hbl len (fun cdv A outer s H E g => ?_) spec
  exact (css_cons (cs_set 2 sc__law_target.nd (ce_call h__law_next g.toGE (ca_cons (ce_var (pv 0)) (ca_cons (ce_add (CE.q (ce_var (pv 1))) (CE.q ce_int)) ca_nil)) (Nat.le_refl _)))
  (css_cons (cs_if (ct_eq g.toGE (CE.q (ce_var (pv 2))) (CE.q (ce_var (pv 1))))
    (css_one (cs_ret ce_non))
    css_nil)
  (css_one (cs_retv (pv 2)))))
abbrev N__law_states : List Str := ["reader", "letters", "answers", "many", "states", "k", "reads", "letter", "over", "writes", "flags"]
theorem sc__law_states : FnScope ["reader", "letters", "answers", "many", "states", "k", "reads", "letter", "over", "writes", "flags"] ["reader", "letters", "answers", "many"] (defScope st__law_states) := ⟨rfl, rfl, rfl, by decide +kernel, rfl, by decide +kernel, by decide +kernel⟩
theorem c__law_states {f : Addr} {fd : FuncData} {k : Nat} {S : DF} {S__law_target : DF} {S__law_next : DF} (F : FunD K "_law_states" "_law_states" (defArgs st__law_states) (defBody st__law_states) (defScope st__law_states) [] [] f fd) (gf : mg "_law_states" = some (.ref f)) (hbl : ∀ n, bl0 n = true → mg n = none) (kc : KC K mg C TB)
    (h__law_target : Cal P w K mg base C k "_law_target" S__law_target)
    (h__law_next : Cal P w K mg base C k "_law_next" S__law_next)
    (len : ∀ ds Q Xq, S ds Q Xq → ds.length = 4) (spec : ∀ ds Qd Xq, S ds Qd Xq → b__law_states S__law_target S__law_next (kD Qd Xq) (startD 11 ds)) : Cal P w K mg base C (k + 1) "_law_states" S := by
  refine dfn F gf sc__law_states (FunD.bindsN F fun _ _ _ _ _ _ us hl => match us, hl with | [_, _, _, _], _ => rfl) hbl len (fun cdv A outer s H E g => ?_) spec
  exact (css_cons (cs_setN 4 sc__law_states.nd (cn_lst ca_nil))
  (css_cons (cs_for g (pg_name (i := 5) sc__law_states.nd rfl (by first | exact Or.inl rfl | exact Or.inr rfl)) (ci_r1 g.toGE (CE.q (ce_var (pv 3))))
    (css_cons (cs_set 6 sc__law_states.nd (ce_tuple g.toGE (CE.q (CN.own (cn_lc g.toGE sc__law_states.nd (ci_r1 g.toGE (CE.q (ce_var (pv 1)))) (by show blkC N__law_states (defScope st__law_states) _ _ = true; decide +kernel) (fun _ _ _ _ _ => pg_name (i := 7) sc__law_states.nd rfl (Or.inl rfl)) (fun s1 H1 Cc1 cl1 fp1 => cts_nil) (fun s1 H1 Cc1 cl1 fp1 => ce_call h__law_target (GE.blk g.toGE s1 H1 _ _ fp1) (ca_cons (ce_var (pv 0)) (ca_cons (ce_var (pv 3)) ca_nil)) (Nat.le_refl _)))))))
    (css_cons (cs_set 8 sc__law_states.nd (ce_call h__law_target g.toGE (ca_cons (ce_var (pv 0)) (ca_cons (ce_var (pv 3)) ca_nil)) (Nat.le_refl _)))
    (css_cons (cs_set 9 sc__law_states.nd (ce_tuple g.toGE (CE.q (CN.own (cn_lc g.toGE sc__law_states.nd (ci_r1 g.toGE (CE.q (ce_var (pv 2)))) (by show blkC N__law_states (defScope st__law_states) _ _ = true; decide +kernel) (fun _ _ _ _ _ => pg_name (i := 7) sc__law_states.nd rfl (Or.inl rfl)) (fun s1 H1 Cc1 cl1 fp1 => cts_nil) (fun s1 H1 Cc1 cl1 fp1 => ce_call h__law_target (GE.blk g.toGE s1 H1 _ _ fp1) (ca_cons (ce_var (pv 0)) (ca_cons (ce_var (pv 3)) ca_nil)) (Nat.le_refl _)))))))
    (css_cons (cs_set 10 sc__law_states.nd (ce_call h__law_next g.toGE (ca_cons (ce_var (pv 0)) (ca_cons ce_int ca_nil)) (Nat.le_refl _)))
    (css_one (cs_app 4 (pv 4) (ce_tup (ca_cons (ce_var (pv 6)) (ca_cons (ce_var (pv 8)) (ca_cons (ce_var (pv 9)) (ca_cons (ce_eq g.toGE (CE.q (ce_fdiv (CE.q (ce_var (pv 10))) (CE.q ce_int))) (CE.q ce_int)) (ca_cons (ce_eq g.toGE (CE.q (ce_mod (CE.q (ce_int1 g.toGE (CE.q (ce_var (pv 10))))) (CE.q ce_int))) (CE.q ce_int)) ca_nil)))))))))))))
  (css_one (cs_ret (ce_tuple g.toGE (cq_var (pv 4)))))))
abbrev N__law_events : List Str := ["letters", "answers", "reads", "letter"]
theorem sc__law_events : FnScope ["letters", "answers", "reads", "letter"] ["letters", "answers"] (defScope st__law_events) := ⟨rfl, rfl, rfl, by decide +kernel, rfl, by decide +kernel, by decide +kernel⟩
theorem c__law_events {f : Addr} {fd : FuncData} {k : Nat} {S : DF} (F : FunD K "_law_events" "_law_events" (defArgs st__law_events) (defBody st__law_events) (defScope st__law_events) [] [] f fd) (gf : mg "_law_events" = some (.ref f)) (hbl : ∀ n, bl0 n = true → mg n = none) (kc : KC K mg C TB)
    (len : ∀ ds Q Xq, S ds Q Xq → ds.length = 2) (spec : ∀ ds Qd Xq, S ds Qd Xq → b__law_events (kD Qd Xq) (startD 4 ds)) : Cal P w K mg base C (k + 1) "_law_events" S := by
  refine dfn F gf sc__law_events (FunD.bindsN F fun _ _ _ _ _ _ us hl => match us, hl with | [_, _], _ => rfl) hbl len (fun cdv A outer s H E g => ?_) spec
  exact (css_cons (cs_lc g.toGE 2 sc__law_events.nd (ci_r1 g.toGE (CE.q (ce_var (pv 0)))) (by show blkC N__law_events (defScope st__law_events) _ _ = true; decide +kernel) (fun _ _ _ _ _ => pg_name (i := 3) sc__law_events.nd rfl (Or.inl rfl)) (fun s1 H1 Cc1 cl1 fp1 => cts_nil) (fun s1 H1 Cc1 cl1 fp1 => ce_tup (ca_cons ce_str (ca_cons (ce_var (pv 3)) ca_nil))))
  (css_one (cs_ret (ce_add (CE.q (ce_add (CE.q (CN.own (cn_lst (ca_cons (ce_tup (ca_cons ce_str ca_nil)) ca_nil)))) (CE.q (ce_var (pv 2))))) (CE.q (CN.own (cn_lc g.toGE sc__law_events.nd (ci_r1 g.toGE (CE.q (ce_var (pv 1)))) (by show blkC N__law_events (defScope st__law_events) _ _ = true; decide +kernel) (fun _ _ _ _ _ => pg_name (i := 3) sc__law_events.nd rfl (Or.inl rfl)) (fun s1 H1 Cc1 cl1 fp1 => cts_nil) (fun s1 H1 Cc1 cl1 fp1 => ce_tup (ca_cons ce_str (ca_cons (ce_var (pv 3)) ca_nil))))))))))
theorem sc__law_follow : FnScope ["states", "state", "event"] ["states", "state", "event"] (defScope st__law_follow) := ⟨rfl, rfl, rfl, by decide +kernel, rfl, by decide +kernel, by decide +kernel⟩
theorem c__law_follow {f : Addr} {fd : FuncData} {k : Nat} {S : DF} (F : FunD K "_law_follow" "_law_follow" (defArgs st__law_follow) (defBody st__law_follow) (defScope st__law_follow) [] [] f fd) (gf : mg "_law_follow" = some (.ref f)) (hbl : ∀ n, bl0 n = true → mg n = none) (kc : KC K mg C TB)
    (len : ∀ ds Q Xq, S ds Q Xq → ds.length = 3) (spec : ∀ ds Qd Xq, S ds Qd Xq → b__law_follow (kD Qd Xq) (startD 3 ds)) : Cal P w K mg base C (k + 1) "_law_follow" S := by
  refine dfn F gf sc__law_follow (FunD.bindsN F fun _ _ _ _ _ _ us hl => match us, hl with | [_, _, _], _ => rfl) hbl len (fun cdv A outer s H E g => ?_) spec
  exact (css_cons (cs_if (ct_eq g.toGE (CE.q (ce_ix (CE.q (ce_var (pv 2))) (CE.q ce_int))) (CE.q ce_str))
    (css_one (cs_ret (ce_ix (CE.q (ce_ix (CE.q (ce_var (pv 0))) (CE.q (ce_var (pv 1))))) (CE.q ce_int))))
    css_nil)
  (css_cons (cs_if (ct_eq g.toGE (CE.q (ce_ix (CE.q (ce_var (pv 2))) (CE.q ce_int))) (CE.q ce_str))
    (css_one (cs_ret (ce_ix (CE.q (ce_ix (CE.q (ce_ix (CE.q (ce_var (pv 0))) (CE.q (ce_var (pv 1))))) (CE.q ce_int))) (CE.q (ce_ix (CE.q (ce_var (pv 2))) (CE.q ce_int))))))
    css_nil)
  (css_one (cs_ret (ce_ix (CE.q (ce_ix (CE.q (ce_ix (CE.q (ce_var (pv 0))) (CE.q (ce_var (pv 1))))) (CE.q ce_int))) (CE.q (ce_ix (CE.q (ce_var (pv 2))) (CE.q ce_int))))))))
theorem sc__law_right : FnScope ["contract", "parts", "state", "event"] ["contract", "parts"] (defScope st__law_right) := ⟨rfl, rfl, rfl, by decide +kernel, rfl, by decide +kernel, by decide +kernel⟩
theorem c__law_right {f : Addr} {fd : FuncData} {k : Nat} {S : DF} {S__law_same : DF} {S__law_events : DF} {S_Contract_follow : DF} {S__law_follow : DF} (F : FunD K "_law_right" "_law_right" (defArgs st__law_right) (defBody st__law_right) (defScope st__law_right) [] [] f fd) (gf : mg "_law_right" = some (.ref f)) (hbl : ∀ n, bl0 n = true → mg n = none) (kc : KC K mg C TB)
    (h__law_same : Cal P w K mg base C k "_law_same" S__law_same)
    (h__law_events : Cal P w K mg base C k "_law_events" S__law_events)
    (hm_Contract_follow : CalM P w K mg base C k "Contract" "follow" S_Contract_follow)
    (h__law_follow : Cal P w K mg base C k "_law_follow" S__law_follow)
    (len : ∀ ds Q Xq, S ds Q Xq → ds.length = 2) (spec : ∀ ds Qd Xq, S ds Qd Xq → b__law_right S__law_same S__law_events S_Contract_follow S__law_follow (kD Qd Xq) (startD 4 ds)) : Cal P w K mg base C (k + 1) "_law_right" S := by
  refine dfn F gf sc__law_right (FunD.bindsN F fun _ _ _ _ _ _ us hl => match us, hl with | [_, _], _ => rfl) hbl len (fun cdv A outer s H E g => ?_) spec
  exact (css_cons (cs_if (CW.t (cw_or (ct_not (ct_b (CE.q (ce_isC (cs := ["Contract"]) kc.isc kc.g g.toGE (CE.q (ce_var (pv 0))))))) (cw_or1 (ct_not (ct_tru (CE.q (ce_call h__law_same g.toGE (ca_cons (ce_tup (ca_cons (ce_fld (ks := ["Contract"]) kc.fld (CE.q (ce_var (pv 0)))) (ca_cons (ce_fld (ks := ["Contract"]) kc.fld (CE.q (ce_var (pv 0)))) ca_nil))) (ca_cons (ce_tup (ca_cons (ce_ix (CE.q (ce_var (pv 1))) (CE.q ce_int)) (ca_cons (ce_ix (CE.q (ce_var (pv 1))) (CE.q ce_int)) ca_nil))) ca_nil)) (Nat.le_refl _))))))))
    (css_one (cs_ret ce_bl))
    css_nil)
  (css_cons (cs_for g (pg_name (i := 2) sc__law_right.nd rfl (by first | exact Or.inl rfl | exact Or.inr rfl)) (ci_r1 g.toGE (CE.q (ce_len g.toGE (CE.q (ce_ix (CE.q (ce_var (pv 1))) (CE.q ce_int))))))
    (css_one (cs_for g (pg_name (i := 3) sc__law_right.nd rfl (by first | exact Or.inl rfl | exact Or.inr rfl)) (ci_it (ce_call h__law_events g.toGE (ca_cons (ce_ix (CE.q (ce_var (pv 1))) (CE.q ce_int)) (ca_cons (ce_ix (CE.q (ce_var (pv 1))) (CE.q ce_int)) ca_nil)) (Nat.le_refl _)))
      (css_one (cs_if (ct_not (ct_tru (CE.q (ce_call h__law_same g.toGE (ca_cons (ce_meth hm_Contract_follow g.toGE (ce_var (pv 0)) (ca_cons (ce_var (pv 2)) (ca_cons (ce_var (pv 3)) ca_nil)) (Nat.le_refl _)) (ca_cons (ce_call h__law_follow g.toGE (ca_cons (ce_ix (CE.q (ce_var (pv 1))) (CE.q ce_int)) (ca_cons (ce_var (pv 2)) (ca_cons (ce_var (pv 3)) ca_nil))) (Nat.le_refl _)) ca_nil)) (Nat.le_refl _)))))
        (css_one (cs_ret ce_bl))
        css_nil)))))
  (css_one (cs_ret (ce_call h__law_same g.toGE (ca_cons (ce_fld (ks := ["Contract"]) kc.fld (CE.q (ce_var (pv 0)))) (ca_cons (ce_ix (CE.q (ce_var (pv 1))) (CE.q ce_int)) ca_nil)) (Nat.le_refl _))))))
theorem sc__law_turned_row : FnScope ["states", "state", "event", "target", "row"] ["states", "state", "event", "target"] (defScope st__law_turned_row) := ⟨rfl, rfl, rfl, by decide +kernel, rfl, by decide +kernel, by decide +kernel⟩
theorem c__law_turned_row {f : Addr} {fd : FuncData} {k : Nat} {S : DF} {S__law_put : DF} (F : FunD K "_law_turned_row" "_law_turned_row" (defArgs st__law_turned_row) (defBody st__law_turned_row) (defScope st__law_turned_row) [] [] f fd) (gf : mg "_law_turned_row" = some (.ref f)) (hbl : ∀ n, bl0 n = true → mg n = none) (kc : KC K mg C TB)
    (h__law_put : Cal P w K mg base C k "_law_put" S__law_put)
    (len : ∀ ds Q Xq, S ds Q Xq → ds.length = 4) (spec : ∀ ds Qd Xq, S ds Qd Xq → b__law_turned_row S__law_put (kD Qd Xq) (startD 5 ds)) : Cal P w K mg base C (k + 1) "_law_turned_row" S := by
  refine dfn F gf sc__law_turned_row (FunD.bindsN F fun _ _ _ _ _ _ us hl => match us, hl with | [_, _, _, _], _ => rfl) hbl len (fun cdv A outer s H E g => ?_) spec
  exact (css_cons (cs_set 4 sc__law_turned_row.nd (ce_ix (CE.q (ce_var (pv 0))) (CE.q (ce_var (pv 1)))))
  (css_cons (cs_if (ct_eq g.toGE (CE.q (ce_ix (CE.q (ce_var (pv 2))) (CE.q ce_int))) (CE.q ce_str))
    (css_one (cs_set 4 sc__law_turned_row.nd (ce_call h__law_put g.toGE (ca_cons (ce_var (pv 4)) (ca_cons ce_int (ca_cons (ce_var (pv 3)) ca_nil))) (Nat.le_refl _))))
    (css_one (cs_if (ct_eq g.toGE (CE.q (ce_ix (CE.q (ce_var (pv 2))) (CE.q ce_int))) (CE.q ce_str))
      (css_one (cs_set 4 sc__law_turned_row.nd (ce_call h__law_put g.toGE (ca_cons (ce_var (pv 4)) (ca_cons ce_int (ca_cons (ce_call h__law_put g.toGE (ca_cons (ce_ix (CE.q (ce_var (pv 4))) (CE.q ce_int)) (ca_cons (ce_ix (CE.q (ce_var (pv 2))) (CE.q ce_int)) (ca_cons (ce_var (pv 3)) ca_nil))) (Nat.le_refl _)) ca_nil))) (Nat.le_refl _))))
      (css_one (cs_set 4 sc__law_turned_row.nd (ce_call h__law_put g.toGE (ca_cons (ce_var (pv 4)) (ca_cons ce_int (ca_cons (ce_call h__law_put g.toGE (ca_cons (ce_ix (CE.q (ce_var (pv 4))) (CE.q ce_int)) (ca_cons (ce_ix (CE.q (ce_var (pv 2))) (CE.q ce_int)) (ca_cons (ce_var (pv 3)) ca_nil))) (Nat.le_refl _)) ca_nil))) (Nat.le_refl _)))))))
  (css_one (cs_ret (ce_call h__law_put g.toGE (ca_cons (ce_var (pv 0)) (ca_cons (ce_var (pv 1)) (ca_cons (ce_var (pv 4)) ca_nil))) (Nat.le_refl _))))))
theorem sc__law_reason : FnScope ["letters", "answers", "states", "row", "target"] ["letters", "answers", "states"] (defScope st__law_reason) := ⟨rfl, rfl, rfl, by decide +kernel, rfl, by decide +kernel, by decide +kernel⟩
theorem c__law_reason {f : Addr} {fd : FuncData} {k : Nat} {S : DF} (F : FunD K "_law_reason" "_law_reason" (defArgs st__law_reason) (defBody st__law_reason) (defScope st__law_reason) [] [] f fd) (gf : mg "_law_reason" = some (.ref f)) (hbl : ∀ n, bl0 n = true → mg n = none) (kc : KC K mg C TB)
    (len : ∀ ds Q Xq, S ds Q Xq → ds.length = 3) (spec : ∀ ds Qd Xq, S ds Qd Xq → b__law_reason (kD Qd Xq) (startD 5 ds)) : Cal P w K mg base C (k + 1) "_law_reason" S := by
  refine dfn F gf sc__law_reason (FunD.bindsN F fun _ _ _ _ _ _ us hl => match us, hl with | [_, _, _], _ => rfl) hbl len (fun cdv A outer s H E g => ?_) spec
  exact (css_cons (cs_if (ct_nin g.toGE (CE.q (ce_var (pv 0))) (CE.q (CN.own (cn_lst (ca_cons ce_int (ca_cons ce_int (ca_cons ce_int ca_nil)))))))
    (css_one (cs_ret ce_str))
    css_nil)
  (css_cons (cs_if (ct_nin g.toGE (CE.q (ce_var (pv 1))) (CE.q (CN.own (cn_lst (ca_cons ce_int (ca_cons ce_int (ca_cons ce_int ca_nil)))))))
    (css_one (cs_ret ce_str))
    css_nil)
  (css_cons (cs_if (CW.t (cw_or (ct_lt (CE.q (ce_len g.toGE (CE.q (ce_var (pv 2))))) (CE.q ce_int)) (cw_or1 (ct_gt (CE.q (ce_len g.toGE (CE.q (ce_var (pv 2))))) (CE.q ce_int)))))
    (css_one (cs_ret ce_str))
    css_nil)
  (css_cons (cs_for g (pg_name (i := 3) sc__law_reason.nd rfl (by first | exact Or.inl rfl | exact Or.inr rfl)) (ci_it (ce_var (pv 2)))
    (css_one (cs_if (CW.t (cw_or (ct_ne g.toGE (CE.q (ce_len g.toGE (CE.q (ce_ix (CE.q (ce_var (pv 3))) (CE.q ce_int))))) (CE.q (ce_var (pv 0)))) (cw_or1 (ct_ne g.toGE (CE.q (ce_len g.toGE (CE.q (ce_ix (CE.q (ce_var (pv 3))) (CE.q ce_int))))) (CE.q (ce_var (pv 1)))))))
      (css_one (cs_ret ce_str))
      css_nil)))
  (css_cons (cs_for g (pg_name (i := 3) sc__law_reason.nd rfl (by first | exact Or.inl rfl | exact Or.inr rfl)) (ci_it (ce_var (pv 2)))
    (css_one (cs_for g (pg_name (i := 4) sc__law_reason.nd rfl (by first | exact Or.inl rfl | exact Or.inr rfl)) (ci_it (ce_add (CE.q (ce_add (CE.q (ce_ix (CE.q (ce_var (pv 3))) (CE.q ce_int))) (CE.q (ce_tup (ca_cons (ce_ix (CE.q (ce_var (pv 3))) (CE.q ce_int)) ca_nil))))) (CE.q (ce_ix (CE.q (ce_var (pv 3))) (CE.q ce_int)))))
      (css_one (cs_if (CW.t (cw_and (ct_isnt (CE.q (ce_var (pv 4))) (CE.q ce_non)) (cw_and1 (ct_not (ct_chain op_le op_lt u2_cmp u2_cmp (CE.q ce_int) (CE.q (ce_var (pv 4))) (CE.q (ce_len g.toGE (CE.q (ce_var (pv 2))))))))))
        (css_one (cs_ret ce_str))
        css_nil)))))
  (css_one (cs_ret ce_str)))))))
theorem sc__law_faulty : FnScope ["reader", "parts", "fault", "states", "state", "side", "targets", "events", "event", "beyond"] ["reader", "parts", "fault"] (defScope st__law_faulty) := ⟨rfl, rfl, rfl, by decide +kernel, rfl, by decide +kernel, by decide +kernel⟩
theorem c__law_faulty {f : Addr} {fd : FuncData} {k : Nat} {S : DF} {S__law_put : DF} {S__law_next : DF} {S__law_events : DF} {S__law_turned_row : DF} (F : FunD K "_law_faulty" "_law_faulty" (defArgs st__law_faulty) (defBody st__law_faulty) (defScope st__law_faulty) [] [] f fd) (gf : mg "_law_faulty" = some (.ref f)) (hbl : ∀ n, bl0 n = true → mg n = none) (kc : KC K mg C TB)
    (h__law_put : Cal P w K mg base C k "_law_put" S__law_put)
    (h__law_next : Cal P w K mg base C k "_law_next" S__law_next)
    (h__law_events : Cal P w K mg base C k "_law_events" S__law_events)
    (h__law_turned_row : Cal P w K mg base C k "_law_turned_row" S__law_turned_row)
    (len : ∀ ds Q Xq, S ds Q Xq → ds.length = 3) (spec : ∀ ds Qd Xq, S ds Qd Xq → b__law_faulty S__law_put S__law_next S__law_events S__law_turned_row (kD Qd Xq) (startD 10 ds)) : Cal P w K mg base C (k + 1) "_law_faulty" S := by
  refine dfn F gf sc__law_faulty (FunD.bindsN F fun _ _ _ _ _ _ us hl => match us, hl with | [_, _, _], _ => rfl) hbl len (fun cdv A outer s H E g => ?_) spec
  exact (css_cons (cs_set 3 sc__law_faulty.nd (ce_ix (CE.q (ce_var (pv 1))) (CE.q ce_int)))
  (css_cons (cs_if (ct_lt (CE.q (ce_var (pv 2))) (CE.q ce_int))
    (css_one (cs_ret (ce_call h__law_put g.toGE (ca_cons (ce_var (pv 1)) (ca_cons (ce_sub (CE.q (ce_var (pv 2))) (CE.q ce_int)) (ca_cons (ce_ix (CE.q (ce_ix (CE.q (CN.own (cn_lst (ca_cons (CN.own (cn_lst (ca_cons ce_int (ca_cons ce_int (ca_cons (ce_neg (CE.q ce_int)) (ca_cons ce_int ca_nil)))))) (ca_cons (CN.own (cn_lst (ca_cons ce_int (ca_cons ce_int (ca_cons ce_int (ca_cons ce_int ca_nil)))))) ca_nil))))) (CE.q (ce_sub (CE.q (ce_var (pv 2))) (CE.q ce_int))))) (CE.q (ce_call h__law_next g.toGE (ca_cons (ce_var (pv 0)) (ca_cons ce_int ca_nil)) (Nat.le_refl _)))) ca_nil))) (Nat.le_refl _))))
    css_nil)
  (css_cons (cs_if (ct_eq g.toGE (CE.q (ce_var (pv 2))) (CE.q ce_int))
    (css_one (cs_ret (ce_call h__law_put g.toGE (ca_cons (ce_var (pv 1)) (ca_cons ce_int (ca_cons (ce_ix (CE.q (CN.own (cn_lst (ca_cons (ce_tup ca_nil) (ca_cons (ce_add (CE.q (ce_var (pv 3))) (CE.q (ce_repT (CE.q (ce_sl (CE.q (ce_var (pv 3))) co_no (co_some (CE.q ce_int)))) (CE.q (ce_sub (CE.q ce_int) (CE.q (ce_len g.toGE (CE.q (ce_var (pv 3)))))))))) ca_nil))))) (CE.q (ce_call h__law_next g.toGE (ca_cons (ce_var (pv 0)) (ca_cons ce_int ca_nil)) (Nat.le_refl _)))) ca_nil))) (Nat.le_refl _))))
    css_nil)
  (css_cons (cs_set 4 sc__law_faulty.nd (ce_call h__law_next g.toGE (ca_cons (ce_var (pv 0)) (ca_cons (ce_len g.toGE (CE.q (ce_var (pv 3)))) ca_nil)) (Nat.le_refl _)))
  (css_cons (cs_set 5 sc__law_faulty.nd (ce_mul (CE.q ce_int) (CE.q (ce_call h__law_next g.toGE (ca_cons (ce_var (pv 0)) (ca_cons ce_int ca_nil)) (Nat.le_refl _)))))
  (css_cons (cs_set 6 sc__law_faulty.nd (ce_ix (CE.q (ce_ix (CE.q (ce_var (pv 3))) (CE.q (ce_var (pv 4))))) (CE.q (ce_var (pv 5)))))
  (css_cons (cs_if (ct_eq g.toGE (CE.q (ce_var (pv 2))) (CE.q ce_int))
    (css_cons (cs_set 6 sc__law_faulty.nd (ce_ix (CE.q (CN.own (cn_lst (ca_cons (ce_sl (CE.q (ce_var (pv 6))) (co_some (CE.q ce_int)) co_no) (ca_cons (ce_add (CE.q (ce_var (pv 6))) (CE.q (ce_tup (ca_cons ce_non ca_nil)))) (ca_cons (ce_add (CE.q (ce_var (pv 6))) (CE.q (ce_tup (ca_cons ce_int ca_nil)))) ca_nil)))))) (CE.q (ce_call h__law_next g.toGE (ca_cons (ce_var (pv 0)) (ca_cons ce_int ca_nil)) (Nat.le_refl _)))))
    (css_one (cs_ret (ce_call h__law_put g.toGE (ca_cons (ce_var (pv 1)) (ca_cons ce_int (ca_cons (ce_call h__law_put g.toGE (ca_cons (ce_var (pv 3)) (ca_cons (ce_var (pv 4)) (ca_cons (ce_call h__law_put g.toGE (ca_cons (ce_ix (CE.q (ce_var (pv 3))) (CE.q (ce_var (pv 4)))) (ca_cons (ce_var (pv 5)) (ca_cons (ce_var (pv 6)) ca_nil))) (Nat.le_refl _)) ca_nil))) (Nat.le_refl _)) ca_nil))) (Nat.le_refl _)))))
    css_nil)
  (css_cons (cs_set 7 sc__law_faulty.nd (ce_call h__law_events g.toGE (ca_cons (ce_ix (CE.q (ce_var (pv 1))) (CE.q ce_int)) (ca_cons (ce_ix (CE.q (ce_var (pv 1))) (CE.q ce_int)) ca_nil)) (Nat.le_refl _)))
  (css_cons (cs_set 8 sc__law_faulty.nd (ce_ix (CE.q (ce_var (pv 7))) (CE.q (ce_call h__law_next g.toGE (ca_cons (ce_var (pv 0)) (ca_cons (ce_len g.toGE (CE.q (ce_var (pv 7)))) ca_nil)) (Nat.le_refl _)))))
  (css_cons (cs_set 9 sc__law_faulty.nd (ce_ix (CE.q (CN.own (cn_lst (ca_cons (ce_len g.toGE (CE.q (ce_var (pv 3)))) (ca_cons (ce_neg (CE.q ce_int)) (ca_cons (ce_add (CE.q (ce_len g.toGE (CE.q (ce_var (pv 3))))) (CE.q ce_int)) ca_nil)))))) (CE.q (ce_call h__law_next g.toGE (ca_cons (ce_var (pv 0)) (ca_cons ce_int ca_nil)) (Nat.le_refl _)))))
  (css_one (cs_ret (ce_call h__law_put g.toGE (ca_cons (ce_var (pv 1)) (ca_cons ce_int (ca_cons (ce_call h__law_turned_row g.toGE (ca_cons (ce_var (pv 3)) (ca_cons (ce_var (pv 4)) (ca_cons (ce_var (pv 8)) (ca_cons (ce_var (pv 9)) ca_nil)))) (Nat.le_refl _)) ca_nil))) (Nat.le_refl _))))))))))))))
theorem sc__law_told : FnScope ["contract", "deed", "kept", "reason", "e"] ["contract", "deed"] (defScope st__law_told) := ⟨rfl, rfl, rfl, by decide +kernel, rfl, by decide +kernel, by decide +kernel⟩
theorem c__law_told {f : Addr} {fd : FuncData} {k : Nat} {S : DF} {S_Contract : DI} {S_Contract_with_row : DF} (F : FunD K "_law_told" "_law_told" (defArgs st__law_told) (defBody st__law_told) (defScope st__law_told) [] [] f fd) (gf : mg "_law_told" = some (.ref f)) (hbl : ∀ n, bl0 n = true → mg n = none) (kc : KC K mg C TB)
    (hi_Contract : CalI P w K mg base C k "Contract" S_Contract)
    (hm_Contract_with_row : CalM P w K mg base C k "Contract" "with_row" S_Contract_with_row)
    (len : ∀ ds Q Xq, S ds Q Xq → ds.length = 2) (spec : ∀ ds Qd Xq, S ds Qd Xq → b__law_told S_Contract S_Contract_with_row (kD Qd Xq) (startD 5 ds)) : Cal P w K mg base C (k + 2) "_law_told" S := by
  refine dfn F gf sc__law_told (FunD.bindsN F fun _ _ _ _ _ _ us hl => match us, hl with | [_, _], _ => rfl) hbl len (fun cdv A outer s H E g => ?_) spec
  exact (css_cons (cs_setN 2 sc__law_told.nd (cn_lst ca_nil))
  (css_cons (cs_set 3 sc__law_told.nd ce_str)
  (css_cons (cs_try (exs := ["InvalidContract"]) rfl rfl sc__law_told.nd (i := 4) rfl rfl ⟨rfl, by decide, .inl kc.g⟩ g.tk kc.ext (fun W1 pn1 xe1 tk1 po1 => by
      have g := GS.tr g tk1 po1
      exact css_one (cs_if (ct_eq g.toGE (CE.q (ce_ix (CE.q (ce_var (pv 1))) (CE.q ce_int))) (CE.q ce_str))
            (css_one (cs_app 2 (pv 2) (ce_make hi_Contract g.toGE (ca_cons (ce_ix (CE.q (ce_var (pv 1))) (CE.q ce_int)) (ca_cons (ce_ix (CE.q (ce_var (pv 1))) (CE.q ce_int)) (ca_cons (ce_ix (CE.q (ce_var (pv 1))) (CE.q ce_int)) ca_nil))) (by omega))))
            (css_one (cs_app 2 (pv 2) (ce_meth hm_Contract_with_row g.toGE (ce_var (pv 0)) (ca_cons (ce_ix (CE.q (ce_var (pv 1))) (CE.q ce_int)) (ca_cons (ce_ix (CE.q (ce_var (pv 1))) (CE.q ce_int)) (ca_cons (ce_ix (CE.q (ce_var (pv 1))) (CE.q ce_int)) ca_nil))) (Nat.le_add_right _ _))))))
    (fun ea1 eo1 ec1 ed1 ef1 pn1 hc1 hz1 hf1 => by
      have hx1 := kc.xsub (exs := ["InvalidContract"]) (by decide +kernel) hc1
      exact css_cons (cs_set 3 sc__law_told.nd ce_str)
          (css_cons (cs_if (CW.t (cw_and (ct_b (CE.q (ce_exIs (kc.xc _ hx1) hz1 hf1 (kc.xisa hx1) kc.g (hbl _ (by decide +kernel)) (pv 4)))) (cw_and (ct_b (CE.q (ce_exIs (kc.xc _ hx1) hz1 hf1 (kc.xisa hx1) kc.g (hbl _ (by decide +kernel)) (pv 4)))) (cw_and1 (ct_b (CE.q (ce_exIsB (kc.xc _ hx1) hz1 hf1 (kc.ve _ hx1) (hbl _ (by decide +kernel)) Boot.«ValueError» (hbl _ (by decide +kernel)) (pv 4))))))))
            (css_one (cs_if (ct_b (CE.q (ce_isiB ty_str boot_str hbl (CE.q (ce_exFld (kc.xf _ hx1) (kc.xno hx1) hz1 hf1 (pv 4))))))
              (css_one (cs_set 3 sc__law_told.nd (ce_exFld (kc.xf _ hx1) (kc.xno hx1) hz1 hf1 (pv 4))))
              css_nil))
            css_nil)
          (css_cons (cs_if (CW.t (cw_or (ct_b (CE.q (ce_exIs (kc.xc _ hx1) hz1 hf1 (kc.xisa hx1) kc.g (hbl _ (by decide +kernel)) (pv 4)))) (cw_or (ct_b (CE.q (ce_exIs (kc.xc _ hx1) hz1 hf1 (kc.xisa hx1) kc.g (hbl _ (by decide +kernel)) (pv 4)))) (cw_or1 (ct_b (CE.q (ce_exIs (kc.xc _ hx1) hz1 hf1 (kc.xisa hx1) kc.g (hbl _ (by decide +kernel)) (pv 4))))))))
            (css_one (cs_set 3 sc__law_told.nd ce_str))
            css_nil)
          (css_cons (cs_if (CW.t (cw_or (ct_b (CE.q (ce_exIs (kc.xc _ hx1) hz1 hf1 (kc.xisa hx1) kc.g (hbl _ (by decide +kernel)) (pv 4)))) (cw_or (ct_b (CE.q (ce_exIs (kc.xc _ hx1) hz1 hf1 (kc.xisa hx1) kc.g (hbl _ (by decide +kernel)) (pv 4)))) (cw_or1 (ct_b (CE.q (ce_exIs (kc.xc _ hx1) hz1 hf1 (kc.xisa hx1) kc.g (hbl _ (by decide +kernel)) (pv 4))))))))
            (css_one (cs_set 3 sc__law_told.nd ce_str))
            css_nil)
          (css_cons (cs_if (CW.t (cw_or (ct_b (CE.q (ce_exIs (kc.xc _ hx1) hz1 hf1 (kc.xisa hx1) kc.g (hbl _ (by decide +kernel)) (pv 4)))) (cw_or (ct_b (CE.q (ce_exIs (kc.xc _ hx1) hz1 hf1 (kc.xisa hx1) kc.g (hbl _ (by decide +kernel)) (pv 4)))) (cw_or1 (ct_b (CE.q (ce_exIs (kc.xc _ hx1) hz1 hf1 (kc.xisa hx1) kc.g (hbl _ (by decide +kernel)) (pv 4))))))))
            (css_one (cs_set 3 sc__law_told.nd ce_str))
            css_nil)
          (css_one (cs_if (CW.t (cw_or (ct_b (CE.q (ce_exIs (kc.xc _ hx1) hz1 hf1 (kc.xisa hx1) kc.g (hbl _ (by decide +kernel)) (pv 4)))) (cw_or1 (ct_b (CE.q (ce_exIs (kc.xc _ hx1) hz1 hf1 (kc.xisa hx1) kc.g (hbl _ (by decide +kernel)) (pv 4)))))))
            (css_one (cs_set 3 sc__law_told.nd ce_str))
            css_nil))))))))
  (css_frz 2 (css_one (cs_ret (ce_tup (ca_cons (ce_var (pv 3)) (ca_cons (ce_var (pv 2)) ca_nil)))))))))
theorem cs__law_told {f : Addr} {fd : FuncData} {k : Nat} {S : DF} {Ss_Contract : DI} {S_Contract_with_row : DF} (F : FunD K "_law_told" "_law_told" (defArgs st__law_told) (defBody st__law_told) (defScope st__law_told) [] [] f fd) (gf : mg "_law_told" = some (.ref f)) (hbl : ∀ n, bl0 n = true → mg n = none) (kc : KC K mg C TB)
    (his_Contract : CalIS P w K mg base C k "Contract" Ss_Contract)
    (hm_Contract_with_row : CalM P w K mg base C k "Contract" "with_row" S_Contract_with_row)
    (len : ∀ ds Q Xq, S ds Q Xq → ds.length = 2) (spec : ∀ ds Qd Xq, S ds Qd Xq → b__law_told_s Ss_Contract S_Contract_with_row (kD Qd Xq) (startS 5 ds)) : CalS P w K mg base C (k + 2) "_law_told" S := by
  refine dfnS1 F gf sc__law_told (FunD.bindsN F fun _ _ _ _ _ _ us hl => match us, hl with | [_, _], _ => rfl) hbl len (fun cdv A outer s H E g => ?_) spec
  exact (css_cons (cs_setN 2 sc__law_told.nd (cn_lst ca_nil))
  (css_cons (cs_set 3 sc__law_told.nd ce_str)
  (css_cons (cs_try (exs := ["InvalidContract"]) rfl rfl sc__law_told.nd (i := 4) rfl rfl ⟨rfl, by decide, .inl kc.g⟩ g.tk kc.ext (fun W1 pn1 xe1 tk1 po1 => by
      have g := GS.tr g tk1 po1
      exact css_one (cs_if (ct_see (ct_eq g.toGE (CE.q (ce_ix (CE.q (ce_var (pv 1))) (CE.q ce_int))) (CE.q ce_str)))
            (css_one (cs_app 2 (pv 2) (ce_makeS his_Contract g.toGE (cva_s (ce_ix (CE.q (ce_var (pv 1))) (CE.q ce_int)) (cva_s (ce_ix (CE.q (ce_var (pv 1))) (CE.q ce_int)) (cva_s (ce_ix (CE.q (ce_var (pv 1))) (CE.q ce_int)) cva_nil))) (by omega))))
            (css_one (cs_app 2 (pv 2) (ce_see (ce_meth hm_Contract_with_row g.toGE (ce_var (pv 0)) (ca_cons (ce_ix (CE.q (ce_var (pv 1))) (CE.q ce_int)) (ca_cons (ce_ix (CE.q (ce_var (pv 1))) (CE.q ce_int)) (ca_cons (ce_ix (CE.q (ce_var (pv 1))) (CE.q ce_int)) ca_nil))) (Nat.le_add_right _ _)))))))
    (fun ea1 eo1 ec1 ed1 ef1 pn1 hc1 hz1 hf1 => by
      have hx1 := kc.xsub (exs := ["InvalidContract"]) (by decide +kernel) hc1
      exact css_cons (cs_set 3 sc__law_told.nd ce_str)
          (css_cons (cs_if (CW.t (cw_and (ct_b (CE.q (ce_exIs (kc.xc _ hx1) hz1 hf1 (kc.xisa hx1) kc.g (hbl _ (by decide +kernel)) (pv 4)))) (cw_and (ct_b (CE.q (ce_exIs (kc.xc _ hx1) hz1 hf1 (kc.xisa hx1) kc.g (hbl _ (by decide +kernel)) (pv 4)))) (cw_and1 (ct_b (CE.q (ce_exIsB (kc.xc _ hx1) hz1 hf1 (kc.ve _ hx1) (hbl _ (by decide +kernel)) Boot.«ValueError» (hbl _ (by decide +kernel)) (pv 4))))))))
            (css_one (cs_if (ct_b (CE.q (ce_isiB ty_str boot_str hbl (CE.q (ce_exFld (kc.xf _ hx1) (kc.xno hx1) hz1 hf1 (pv 4))))))
              (css_one (cs_set 3 sc__law_told.nd (ce_exFld (kc.xf _ hx1) (kc.xno hx1) hz1 hf1 (pv 4))))
              css_nil))
            css_nil)
          (css_cons (cs_if (CW.t (cw_or (ct_b (CE.q (ce_exIs (kc.xc _ hx1) hz1 hf1 (kc.xisa hx1) kc.g (hbl _ (by decide +kernel)) (pv 4)))) (cw_or (ct_b (CE.q (ce_exIs (kc.xc _ hx1) hz1 hf1 (kc.xisa hx1) kc.g (hbl _ (by decide +kernel)) (pv 4)))) (cw_or1 (ct_b (CE.q (ce_exIs (kc.xc _ hx1) hz1 hf1 (kc.xisa hx1) kc.g (hbl _ (by decide +kernel)) (pv 4))))))))
            (css_one (cs_set 3 sc__law_told.nd ce_str))
            css_nil)
          (css_cons (cs_if (CW.t (cw_or (ct_b (CE.q (ce_exIs (kc.xc _ hx1) hz1 hf1 (kc.xisa hx1) kc.g (hbl _ (by decide +kernel)) (pv 4)))) (cw_or (ct_b (CE.q (ce_exIs (kc.xc _ hx1) hz1 hf1 (kc.xisa hx1) kc.g (hbl _ (by decide +kernel)) (pv 4)))) (cw_or1 (ct_b (CE.q (ce_exIs (kc.xc _ hx1) hz1 hf1 (kc.xisa hx1) kc.g (hbl _ (by decide +kernel)) (pv 4))))))))
            (css_one (cs_set 3 sc__law_told.nd ce_str))
            css_nil)
          (css_cons (cs_if (CW.t (cw_or (ct_b (CE.q (ce_exIs (kc.xc _ hx1) hz1 hf1 (kc.xisa hx1) kc.g (hbl _ (by decide +kernel)) (pv 4)))) (cw_or (ct_b (CE.q (ce_exIs (kc.xc _ hx1) hz1 hf1 (kc.xisa hx1) kc.g (hbl _ (by decide +kernel)) (pv 4)))) (cw_or1 (ct_b (CE.q (ce_exIs (kc.xc _ hx1) hz1 hf1 (kc.xisa hx1) kc.g (hbl _ (by decide +kernel)) (pv 4))))))))
            (css_one (cs_set 3 sc__law_told.nd ce_str))
            css_nil)
          (css_one (cs_if (CW.t (cw_or (ct_b (CE.q (ce_exIs (kc.xc _ hx1) hz1 hf1 (kc.xisa hx1) kc.g (hbl _ (by decide +kernel)) (pv 4)))) (cw_or1 (ct_b (CE.q (ce_exIs (kc.xc _ hx1) hz1 hf1 (kc.xisa hx1) kc.g (hbl _ (by decide +kernel)) (pv 4)))))))
            (css_one (cs_set 3 sc__law_told.nd ce_str))
            css_nil))))))))
  (css_frz 2 (css_one (cs_ret (ce_tup (ca_cons (ce_var (pv 3)) (ca_cons (ce_var (pv 2)) ca_nil)))))))))
theorem sc__law_flagged : FnScope ["contract", "state", "flags", "form"] ["contract", "state", "flags", "form"] (defScope st__law_flagged) := ⟨rfl, rfl, rfl, by decide +kernel, rfl, by decide +kernel, by decide +kernel⟩
theorem c__law_flagged {f : Addr} {fd : FuncData} {k : Nat} {S : DF} {S_Contract_with_flags : DF} (F : FunD K "_law_flagged" "_law_flagged" (defArgs st__law_flagged) (defBody st__law_flagged) (defScope st__law_flagged) [] [] f fd) (gf : mg "_law_flagged" = some (.ref f)) (hbl : ∀ n, bl0 n = true → mg n = none) (kc : KC K mg C TB)
    (hm_Contract_with_flags : CalMN P w K mg base C k "Contract" "with_flags" SG_Contract_with_flags S_Contract_with_flags)
    (len : ∀ ds Q Xq, S ds Q Xq → ds.length = 4) (spec : ∀ ds Qd Xq, S ds Qd Xq → b__law_flagged S_Contract_with_flags (kD Qd Xq) (startD 4 ds)) : Cal P w K mg base C (k + 1) "_law_flagged" S := by
  refine dfn F gf sc__law_flagged (FunD.bindsN F fun _ _ _ _ _ _ us hl => match us, hl with | [_, _, _, _], _ => rfl) hbl len (fun cdv A outer s H E g => ?_) spec
  exact (css_cons (cs_if (ct_eq g.toGE (CE.q (ce_var (pv 3))) (CE.q ce_int))
    (css_one (cs_ret (ce_methN 1 hm_Contract_with_flags g.toGE (ce_var (pv 0)) (ca_cons (ce_var (pv 1)) ca_nil) ck_nil rfl (Nat.le_refl _))))
    css_nil)
  (css_cons (cs_if (ct_eq g.toGE (CE.q (ce_var (pv 3))) (CE.q ce_int))
    (css_one (cs_ret (ce_methN 2 hm_Contract_with_flags g.toGE (ce_var (pv 0)) (ca_cons (ce_var (pv 1)) ca_nil) (ck_cons (ce_ix (CE.q (ce_var (pv 2))) (CE.q ce_int)) ck_nil) rfl (Nat.le_refl _))))
    css_nil)
  (css_cons (cs_if (ct_eq g.toGE (CE.q (ce_var (pv 3))) (CE.q ce_int))
    (css_one (cs_ret (ce_methN 3 hm_Contract_with_flags g.toGE (ce_var (pv 0)) (ca_cons (ce_var (pv 1)) ca_nil) (ck_cons (ce_ix (CE.q (ce_var (pv 2))) (CE.q ce_int)) ck_nil) rfl (Nat.le_refl _))))
    css_nil)
  (css_one (cs_ret (ce_methN 0 hm_Contract_with_flags g.toGE (ce_var (pv 0)) (ca_cons (ce_var (pv 1)) ca_nil) (ck_cons (ce_ix (CE.q (ce_var (pv 2))) (CE.q ce_int)) (ck_cons (ce_ix (CE.q (ce_var (pv 2))) (CE.q ce_int)) ck_nil)) rfl (Nat.le_refl _)))))))
abbrev N__law_walked : List Str := ["reader", "contract", "parts", "shown", "k", "many", "state", "events", "event", "target", "told", "flags", "side", "form", "row"]
theorem sc__law_walked : FnScope ["reader", "contract", "parts", "shown", "k", "many", "state", "events", "event", "target", "told", "flags", "side", "form", "row"] ["reader", "contract", "parts"] (defScope st__law_walked) := ⟨rfl, rfl, rfl, by decide +kernel, rfl, by decide +kernel, by decide +kernel⟩
theorem c__law_walked {f : Addr} {fd : FuncData} {k : Nat} {S : DF} {S__law_next : DF} {S__law_events : DF} {S__law_told : DF} {S__law_put : DF} {S__law_turned_row : DF} {S__law_flagged : DF} (F : FunD K "_law_walked" "_law_walked" (defArgs st__law_walked) (defBody st__law_walked) (defScope st__law_walked) [] [] f fd) (gf : mg "_law_walked" = some (.ref f)) (hbl : ∀ n, bl0 n = true → mg n = none) (kc : KC K mg C TB)
    (h__law_next : Cal P w K mg base C k "_law_next" S__law_next)
    (h__law_events : Cal P w K mg base C k "_law_events" S__law_events)
    (h__law_told : Cal P w K mg base C k "_law_told" S__law_told)
    (h__law_put : Cal P w K mg base C k "_law_put" S__law_put)
    (h__law_turned_row : Cal P w K mg base C k "_law_turned_row" S__law_turned_row)
    (h__law_flagged : Cal P w K mg base C k "_law_flagged" S__law_flagged)
    (len : ∀ ds Q Xq, S ds Q Xq → ds.length = 3) (spec : ∀ ds Qd Xq, S ds Qd Xq → b__law_walked S__law_next S__law_events S__law_told S__law_put S__law_turned_row S__law_flagged (kD Qd Xq) (startD 15 ds)) : Cal P w K mg base C (k + 1) "_law_walked" S := by
  refine dfn F gf sc__law_walked (FunD.bindsN F fun _ _ _ _ _ _ us hl => match us, hl with | [_, _, _], _ => rfl) hbl len (fun cdv A outer s H E g => ?_) spec
  exact (css_cons (cs_setN 3 sc__law_walked.nd (cn_lst (ca_cons (ce_tup (ca_cons (ce_var (pv 1)) (ca_cons (ce_var (pv 2)) ca_nil))) ca_nil)))
  (css_cons (cs_for g (pg_name (i := 4) sc__law_walked.nd rfl (by first | exact Or.inl rfl | exact Or.inr rfl)) (ci_r1 g.toGE (CE.q ce_int))
    (css_cons (cs_set 5 sc__law_walked.nd (ce_len g.toGE (CE.q (ce_ix (CE.q (ce_var (pv 2))) (CE.q ce_int)))))
    (css_cons (cs_set 6 sc__law_walked.nd (ce_call h__law_next g.toGE (ca_cons (ce_var (pv 0)) (ca_cons (ce_var (pv 5)) ca_nil)) (Nat.le_refl _)))
    (css_cons (cs_set 7 sc__law_walked.nd (ce_call h__law_events g.toGE (ca_cons (ce_ix (CE.q (ce_var (pv 2))) (CE.q ce_int)) (ca_cons (ce_ix (CE.q (ce_var (pv 2))) (CE.q ce_int)) ca_nil)) (Nat.le_refl _)))
    (css_cons (cs_set 8 sc__law_walked.nd (ce_ix (CE.q (ce_var (pv 7))) (CE.q (ce_call h__law_next g.toGE (ca_cons (ce_var (pv 0)) (ca_cons (ce_len g.toGE (CE.q (ce_var (pv 7)))) ca_nil)) (Nat.le_refl _)))))
    (css_cons (cs_set 9 sc__law_walked.nd (ce_ix (CE.q (CN.own (cn_lst (ca_cons ce_non (ca_cons (ce_call h__law_next g.toGE (ca_cons (ce_var (pv 0)) (ca_cons (ce_var (pv 5)) ca_nil)) (Nat.le_refl _)) (ca_cons (ce_var (pv 5)) (ca_cons (ce_neg (CE.q ce_int)) ca_nil))))))) (CE.q (ce_call h__law_next g.toGE (ca_cons (ce_var (pv 0)) (ca_cons ce_int ca_nil)) (Nat.le_refl _)))))
    (css_cons (cs_set 10 sc__law_walked.nd (ce_call h__law_told g.toGE (ca_cons (ce_var (pv 1)) (ca_cons (ce_tup (ca_cons ce_str (ca_cons (ce_var (pv 6)) (ca_cons (ce_var (pv 8)) (ca_cons (ce_var (pv 9)) ca_nil))))) ca_nil)) (Nat.le_refl _)))
    (css_cons (cs_if (CW.t (cw_and (ct_isnt (CE.q (ce_var (pv 9))) (CE.q ce_non)) (cw_and1 (ct_not (ct_chain op_le op_lt u2_cmp u2_cmp (CE.q ce_int) (CE.q (ce_var (pv 9))) (CE.q (ce_var (pv 5))))))))
      (css_one (cs_if (CW.t (cw_or (ct_ne g.toGE (CE.q (ce_ix (CE.q (ce_var (pv 10))) (CE.q ce_int))) (CE.q ce_str)) (cw_or1 (ct_ne g.toGE (CE.q (ce_len g.toGE (CE.q (ce_ix (CE.q (ce_var (pv 10))) (CE.q ce_int))))) (CE.q ce_int)))))
        (css_one (cs_ret (CN.own (cn_lst ca_nil))))
        css_nil))
      (css_cons (cs_if (CW.t (cw_or (ct_ne g.toGE (CE.q (ce_ix (CE.q (ce_var (pv 10))) (CE.q ce_int))) (CE.q ce_str)) (cw_or1 (ct_ne g.toGE (CE.q (ce_len g.toGE (CE.q (ce_ix (CE.q (ce_var (pv 10))) (CE.q ce_int))))) (CE.q ce_int)))))
        (css_one (cs_ret (CN.own (cn_lst ca_nil))))
        css_nil)
      (css_cons (cs_set 1 sc__law_walked.nd (ce_ix (CE.q (ce_ix (CE.q (ce_var (pv 10))) (CE.q ce_int))) (CE.q ce_int)))
      (css_cons (cs_set 2 sc__law_walked.nd (ce_call h__law_put g.toGE (ca_cons (ce_var (pv 2)) (ca_cons ce_int (ca_cons (ce_call h__law_turned_row g.toGE (ca_cons (ce_ix (CE.q (ce_var (pv 2))) (CE.q ce_int)) (ca_cons (ce_var (pv 6)) (ca_cons (ce_var (pv 8)) (ca_cons (ce_var (pv 9)) ca_nil)))) (Nat.le_refl _)) ca_nil))) (Nat.le_refl _)))
      (css_one (cs_app 3 (pv 3) (ce_tup (ca_cons (ce_var (pv 1)) (ca_cons (ce_var (pv 2)) ca_nil)))))))))
    (css_cons (cs_set 6 sc__law_walked.nd (ce_call h__law_next g.toGE (ca_cons (ce_var (pv 0)) (ca_cons (ce_var (pv 5)) ca_nil)) (Nat.le_refl _)))
    (css_cons (cs_lc g.toGE 11 sc__law_walked.nd (ci_r1 g.toGE (CE.q ce_int)) (by show blkC N__law_walked (defScope st__law_walked) _ _ = true; decide +kernel) (fun _ _ _ _ _ => pg_name (i := 12) sc__law_walked.nd rfl (Or.inl rfl)) (fun s1 H1 Cc1 cl1 fp1 => cts_nil) (fun s1 H1 Cc1 cl1 fp1 => ce_ix (CE.q (CN.own (cn_lst (ca_cons ce_non (ca_cons ce_bl (ca_cons ce_bl ca_nil)))))) (CE.q (ce_call h__law_next (GE.blk g.toGE s1 H1 _ _ fp1) (ca_cons (ce_var (pv 0)) (ca_cons ce_int ca_nil)) (Nat.le_refl _)))))
    (css_cons (cs_set 13 sc__law_walked.nd (ce_call h__law_next g.toGE (ca_cons (ce_var (pv 0)) (ca_cons ce_int ca_nil)) (Nat.le_refl _)))
    (css_cons (cs_set 1 sc__law_walked.nd (ce_call h__law_flagged g.toGE (ca_cons (ce_var (pv 1)) (ca_cons (ce_var (pv 6)) (ca_cons (ce_var (pv 11)) (ca_cons (ce_var (pv 13)) ca_nil)))) (Nat.le_refl _)))
    (css_cons (cs_for g (pg_name (i := 12) sc__law_walked.nd rfl (by first | exact Or.inl rfl | exact Or.inr rfl)) (ci_r1 g.toGE (CE.q ce_int))
      (css_one (cs_if (CW.t (cw_and (ct_isnt (CE.q (ce_ix (CE.q (ce_var (pv 11))) (CE.q (ce_var (pv 12))))) (CE.q ce_non)) (cw_and1 (ct_in g.toGE (CE.q (ce_var (pv 13))) (CE.q (CN.own (cn_lst (ca_cons (ce_add (CE.q ce_int) (CE.q (ce_var (pv 12)))) (ca_cons ce_int ca_nil)))))))))
        (css_cons (cs_set 14 sc__law_walked.nd (ce_call h__law_put g.toGE (ca_cons (ce_ix (CE.q (ce_ix (CE.q (ce_var (pv 2))) (CE.q ce_int))) (CE.q (ce_var (pv 6)))) (ca_cons (ce_add (CE.q ce_int) (CE.q (ce_var (pv 12)))) (ca_cons (ce_ix (CE.q (ce_var (pv 11))) (CE.q (ce_var (pv 12)))) ca_nil))) (Nat.le_refl _)))
        (css_one (cs_set 2 sc__law_walked.nd (ce_call h__law_put g.toGE (ca_cons (ce_var (pv 2)) (ca_cons ce_int (ca_cons (ce_call h__law_put g.toGE (ca_cons (ce_ix (CE.q (ce_var (pv 2))) (CE.q ce_int)) (ca_cons (ce_var (pv 6)) (ca_cons (ce_var (pv 14)) ca_nil))) (Nat.le_refl _)) ca_nil))) (Nat.le_refl _)))))
        css_nil)))
    (css_one (cs_app 3 (pv 3) (ce_tup (ca_cons (ce_var (pv 1)) (ca_cons (ce_var (pv 2)) ca_nil))))))))))))))))))
  (css_one (cs_retv (pv 3)))))
abbrev N_law : List Str := ["script", "reader", "letters", "answers", "good", "many", "first", "faults", "parts", "fault", "form", "contracts", "asked", "passed", "told", "due", "pair", "shown", "kept"]
theorem sc_law : FnScope ["script", "reader", "letters", "answers", "good", "many", "first", "faults", "parts", "fault", "form", "contracts", "asked", "passed", "told", "due", "pair", "shown", "kept"] ["script"] (defScope st_law) := ⟨rfl, rfl, rfl, by decide +kernel, rfl, by decide +kernel, by decide +kernel⟩
theorem c_law {f : Addr} {fd : FuncData} {k : Nat} {S : DF} {S__law_reader : DF} {S__law_cell : DF} {S__law_next : DF} {S__law_states : DF} {S__law_faulty : DF} {Ss__law_told : DF} {S__law_reason : DF} {S__law_walked : DF} {S__law_right : DF} (F : FunD K "law" "law" (defArgs st_law) (defBody st_law) (defScope st_law) [] [] f fd) (hbl : ∀ n, bl0 n = true → mg n = none) (kc : KC K mg C TB)
    (h__law_reader : Cal P w K mg base C k "_law_reader" S__law_reader)
    (h__law_cell : Cal P w K mg base C k "_law_cell" S__law_cell)
    (h__law_next : Cal P w K mg base C k "_law_next" S__law_next)
    (h__law_states : Cal P w K mg base C k "_law_states" S__law_states)
    (h__law_faulty : Cal P w K mg base C k "_law_faulty" S__law_faulty)
    (hs__law_told : CalS P w K mg base C k "_law_told" Ss__law_told)
    (h__law_reason : Cal P w K mg base C k "_law_reason" S__law_reason)
    (h__law_walked : Cal P w K mg base C k "_law_walked" S__law_walked)
    (h__law_right : Cal P w K mg base C k "_law_right" S__law_right)
    (len : ∀ ds Q Xq, S ds Q Xq → ds.length = 1) (spec : ∀ ds Qd Xq, S ds Qd Xq → b_law S__law_reader S__law_cell S__law_next S__law_states S__law_faulty Ss__law_told S__law_reason S__law_walked S__law_right (kD Qd Xq) (startD 19 ds)) : FnOk P w K mg base (L2.CX P w) (k + 1) f fd ["script"] (spD ⟨K, C⟩ S) := by
  refine dfnF F sc_law hbl len (fun cdv A outer s H E g => ?_) spec
  exact (css_cons (cs_set 1 sc_law.nd (ce_call h__law_reader g.toGE (ca_cons (ce_call h__law_cell g.toGE (ca_cons (ce_var (pv 0)) (ca_cons ce_int ca_nil)) (Nat.le_refl _)) ca_nil) (Nat.le_refl _)))
  (css_cons (cs_set 2 sc_law.nd (ce_add (CE.q ce_int) (CE.q (ce_call h__law_next g.toGE (ca_cons (ce_var (pv 1)) (ca_cons ce_int ca_nil)) (Nat.le_refl _)))))
  (css_cons (cs_set 3 sc_law.nd (ce_add (CE.q ce_int) (CE.q (ce_call h__law_next g.toGE (ca_cons (ce_var (pv 1)) (ca_cons ce_int ca_nil)) (Nat.le_refl _)))))
  (css_cons (cs_set 4 sc_law.nd (ce_tup (ca_cons (ce_var (pv 2)) (ca_cons (ce_var (pv 3)) (ca_cons (ce_call h__law_states g.toGE (ca_cons (ce_var (pv 1)) (ca_cons (ce_var (pv 2)) (ca_cons (ce_var (pv 3)) (ca_cons (ce_add (CE.q ce_int) (CE.q (ce_call h__law_next g.toGE (ca_cons (ce_var (pv 1)) (ca_cons ce_int ca_nil)) (Nat.le_refl _)))) ca_nil)))) (Nat.le_refl _)) ca_nil)))))
  (css_cons (cs_set 1 sc_law.nd (ce_call h__law_reader g.toGE (ca_cons (ce_call h__law_cell g.toGE (ca_cons (ce_var (pv 0)) (ca_cons ce_int ca_nil)) (Nat.le_refl _)) ca_nil) (Nat.le_refl _)))
  (css_cons (cs_set 5 sc_law.nd (ce_call h__law_next g.toGE (ca_cons (ce_var (pv 1)) (ca_cons ce_int ca_nil)) (Nat.le_refl _)))
  (css_cons (cs_set 6 sc_law.nd (ce_add (CE.q ce_int) (CE.q (ce_call h__law_next g.toGE (ca_cons (ce_var (pv 1)) (ca_cons ce_int ca_nil)) (Nat.le_refl _)))))
  (css_cons (cs_set 7 sc_law.nd (CN.own (cn_sortedR g.toGE (CE.q (ce_sl (CE.q (CN.own (cn_lst (ca_cons (ce_var (pv 6)) (ca_cons (ce_add (CE.q ce_int) (CE.q (ce_mod (CE.q (ce_int1 g.toGE (CE.q (ce_add (CE.q (ce_var (pv 6))) (CE.q (ce_call h__law_next g.toGE (ca_cons (ce_var (pv 1)) (ca_cons ce_int ca_nil)) (Nat.le_refl _))))))) (CE.q ce_int)))) ca_nil))))) co_no (co_some (CE.q (ce_var (pv 5)))))))))
  (css_cons (cs_set 8 sc_law.nd (ce_var (pv 4)))
  (css_cons (cs_for g (pg_name (i := 9) sc_law.nd rfl (by first | exact Or.inl rfl | exact Or.inr rfl)) (ci_it (ce_var (pv 7)))
    (css_one (cs_set 8 sc_law.nd (ce_call h__law_faulty g.toGE (ca_cons (ce_var (pv 1)) (ca_cons (ce_var (pv 8)) (ca_cons (ce_var (pv 9)) ca_nil))) (Nat.le_refl _)))))
  (css_cons (cs_set 10 sc_law.nd (ce_call h__law_next g.toGE (ca_cons (ce_var (pv 1)) (ca_cons ce_int ca_nil)) (Nat.le_refl _)))
  (css_cons (cs_setN 11 sc_law.nd (cn_lst ca_nil))
  (css_cons (cs_for g (pg_name (i := 12) sc_law.nd rfl (by first | exact Or.inl rfl | exact Or.inr rfl)) (ci_it (CN.own (cn_lst (ca_cons (ce_var (pv 8)) (ca_cons (ce_var (pv 4)) (ca_cons (ce_var (pv 8)) ca_nil))))))
    (css_cons (cs_newO 13 sc_law.nd (cf_pick (cfa_cons (cf_leaf (ce_ix (CE.q (ce_var (pv 12))) (CE.q ce_int))) (cfa_cons (cf_own (cn_list g.toGE (CE.q (ce_ix (CE.q (ce_var (pv 12))) (CE.q ce_int))))) cfa_nil)) (ce_var (pv 10))))
    (css_cons (cs_set 14 sc_law.nd (ce_callS hs__law_told g.toGE (cva_e ce_non (cva_s (ce_tup (ca_cons ce_str (ca_cons (ce_ix (CE.q (ce_var (pv 12))) (CE.q ce_int)) (ca_cons (ce_ix (CE.q (ce_var (pv 12))) (CE.q ce_int)) (ca_cons (ce_var (pv 13)) ca_nil))))) cva_nil)) (Nat.le_refl _)))
    (css_cons (cs_if (ct_eq g.toGE (CE.q (ce_var (pv 10))) (CE.q ce_int))
      (css_cons (cs_if (ct_see (ct_ne g.toGE (CE.q (ce_var (pv 13))) (CE.q (CN.own (cn_list g.toGE (CE.q (ce_ix (CE.q (ce_var (pv 12))) (CE.q ce_int))))))))
        (css_one (cs_ret ce_bl))
        css_nil)
      (css_cons (cs_revO (cp_var (pv 13)))
      (css_one (cs_appO (cp_var (pv 13)) (cf_leaf (ce_tup (ca_cons (ce_tup ca_nil) (ca_cons ce_non (ca_cons (ce_tup ca_nil) (ca_cons ce_bl (ca_cons ce_bl ca_nil)))))))))))
      css_nil)
    (css_cons (cs_set 15 sc_law.nd (ce_call h__law_reason g.toGE (ca_cons (ce_ix (CE.q (ce_var (pv 12))) (CE.q ce_int)) (ca_cons (ce_ix (CE.q (ce_var (pv 12))) (CE.q ce_int)) (ca_cons (ce_ix (CE.q (ce_var (pv 12))) (CE.q ce_int)) ca_nil))) (Nat.le_refl _)))
    (css_cons (cs_if (CW.t (cw_or (ct_ne g.toGE (CE.q (ce_ix (CE.q (ce_var (pv 14))) (CE.q ce_int))) (CE.q (ce_var (pv 15)))) (cw_or1 (ct_ne g.toGE (CE.q (ce_len g.toGE (CE.q (ce_ix (CE.q (ce_var (pv 14))) (CE.q ce_int))))) (CE.q (ce_int1 g.toGE (CE.q (ce_eq g.toGE (CE.q (ce_var (pv 15))) (CE.q ce_str)))))))))
      (css_one (cs_ret ce_bl))
      css_nil)
    (css_one (cs_if (ct_eq g.toGE (CE.q (ce_var (pv 15))) (CE.q ce_str))
      (css_one (cs_app 11 (pv 11) (ce_tup (ca_cons (ce_ix (CE.q (ce_ix (CE.q (ce_var (pv 14))) (CE.q ce_int))) (CE.q ce_int)) (ca_cons (ce_var (pv 12)) ca_nil)))))
      css_nil))))))))
  (css_frz 11 (css_cons (cs_for g (pg_name (i := 16) sc_law.nd rfl (by first | exact Or.inl rfl | exact Or.inr rfl)) (ci_it (ce_var (pv 11)))
    (css_cons (cs_set 17 sc_law.nd (ce_call h__law_walked g.toGE (ca_cons (ce_var (pv 1)) (ca_cons (ce_ix (CE.q (ce_var (pv 16))) (CE.q ce_int)) (ca_cons (ce_ix (CE.q (ce_var (pv 16))) (CE.q ce_int)) ca_nil))) (Nat.le_refl _)))
    (css_one (cs_if (CW.t (cw_or (ct_eq g.toGE (CE.q (ce_len g.toGE (CE.q (ce_var (pv 17))))) (CE.q ce_int)) (cw_or1 (ct_not (ct_b (CE.q (ce_all g.toGE (CE.q (CN.own (cn_lc g.toGE sc_law.nd (ci_it (ce_add (CE.q (ce_var (pv 17))) (cq_var (pv 11)))) (by show blkC N_law (defScope st_law) _ _ = true; decide +kernel) (fun _ _ _ _ _ => pg_name (i := 18) sc_law.nd rfl (Or.inl rfl)) (fun s1 H1 Cc1 cl1 fp1 => cts_nil) (fun s1 H1 Cc1 cl1 fp1 => ce_call h__law_right (GE.blk g.toGE s1 H1 _ _ fp1) (ca_cons (ce_ix (CE.q (ce_var (pv 18))) (CE.q ce_int)) (ca_cons (ce_ix (CE.q (ce_var (pv 18))) (CE.q ce_int)) ca_nil)) (Nat.le_refl _))))))))))))
      (css_one (cs_ret ce_bl))
      css_nil))))
  (css_one (cs_ret ce_bl)))))))))))))))))
end
end K11
namespace K11
open PySem PySem.Spec PyProof.Rows L2 Dl Rnd Con
abbrev P : Program := PySem.Challenge.rw_allmends_k11_contract_rows.prog
section
variable {w : World} {K : PySem.W.Frag} {h : Heap} {mg : Str → Option Value} {f : Addr}
theorem free_all (X : K.In h) (G : h.Ns mainGlobals mg) (c : He.SaysD fa fn K) (n : Str) (hn : bl0 n = true) : mg n = none := by
  have hm := of_decide_eq_true hn
  simp only [List.mem_cons, List.not_mem_nil, or_false] at hm
  rcases hm with rfl | rfl | rfl | rfl | rfl | rfl | rfl | rfl | rfl | rfl | rfl | rfl
  · exact He.free_ok X G (c.fact 20 (f := .free "ValueError") rfl)
  · exact He.free_ok X G (c.fact 21 (f := .free "all") rfl)
  · exact He.free_ok X G (c.fact 22 (f := .free "bool") rfl)
  · exact He.free_ok X G (c.fact 23 (f := .free "int") rfl)
  · exact He.free_ok X G (c.fact 24 (f := .free "isinstance") rfl)
  · exact He.free_ok X G (c.fact 25 (f := .free "len") rfl)
  · exact He.free_ok X G (c.fact 26 (f := .free "list") rfl)
  · exact He.free_ok X G (c.fact 27 (f := .free "range") rfl)
  · exact He.free_ok X G (c.fact 28 (f := .free "sorted") rfl)
  · exact He.free_ok X G (c.fact 29 (f := .free "str") rfl)
  · exact He.free_ok X G (c.fact 30 (f := .free "super") rfl)
  · exact He.free_ok X G (c.fact 31 (f := .free "tuple") rfl)
set_option hygiene false in
open PySem L2 Dl in
local macro_rules | `(tactic| walk_at "len") => `(tactic| first | (rintro ⟨rfl, _⟩; rfl; done) | (rintro ⟨_, rfl, _⟩; rfl; done) | (rintro ⟨_, _, rfl, _⟩; rfl; done) | (rintro ⟨_, _, _, rfl, _⟩; rfl; done) | (rintro ⟨_, _, _, _, rfl, _⟩; rfl; done) | (rintro ⟨_, _, _, _, _, rfl, _⟩; rfl; done) | (rintro ⟨_, _, _, _, _, _, rfl, _⟩; rfl; done) | (rintro ⟨_, _, _, _, _, _, _, rfl, _⟩; rfl; done) | (rintro ⟨_, _, _, _, _, _, _, _, rfl, _⟩; rfl; done) | (rintro ⟨_, _, _, _, _, _, _, _, _, rfl, _⟩; rfl; done) | (rintro ⟨_, _, _, _, _, _, _, _, _, _, rfl, _⟩; rfl; done) | (rintro ⟨_, _, _, _, _, _, _, _, _, _, _, rfl, _⟩; rfl; done) | (rintro ⟨_, _, _, _, _, _, _, _, _, _, _, _, rfl, _⟩; rfl; done) | (rintro ⟨_, _, _, _, _, _, _, _, _, _, _, _, _, rfl, _⟩; rfl; done) | (rintro ⟨_, _, _, _, _, _, _, _, _, _, _, _, _, _, rfl, _⟩; rfl; done) | (rintro ⟨_, _, _, _, _, _, _, _, _, _, _, _, _, _, _, rfl, _⟩; rfl; done) | (rintro ⟨_, _, _, _, _, _, _, _, _, _, _, _, _, _, _, _, rfl, _⟩; rfl; done))
theorem facts (X : K.In h) (G : h.Ns mainGlobals mg) (hfa : mg ("law" : Str) = some (.ref f)) (c : SaysY fa fn TB xds PySem.Challenge.rw_allmends_k11_contract_rows.prog K) :
    ∃ fd : FuncData, (∀ (s : Shared) (v : Value), BindsTo s fd ⟨[v], []⟩ [("script", v)]) ∧ ∀ base : Heap, K.In base → base.Ns mainGlobals mg → FnOk P w K mg base CX0 15 f fd ["script"] (spLaw K 63) := by
  have hbl := free_all X G c.d
  have kc := kc_of X G c.ct
  have hx_InvalidContract : ∀ base : Heap, Ex1 P w K mg base (He.ga K) "InvalidContract" "reason" := fun base => exIn_of X G xs_InvalidContract (c.xw 0 rfl) (c.xb (List.mem_of_getElem? (i := 0) rfl)) (by rfl) (hbl _ (by decide +kernel))
  obtain ⟨fd_Contract_follow, F_Contract_follow⟩ := c.d.def_ 2 (d := d_Contract_follow) rfl
  have hm_Contract_follow : ∀ base : Heap, CalM P w K mg base (He.ga K) 1 "Contract" "follow" S_follow := fun base => c_Contract_follow (k := 0) F_Contract_follow hbl kc  (fun ds Q Xq h => by first | (revert h; walk_at "len") | exact len_Contract_follow h) p_follow
  obtain ⟨fd_replaced, F_replaced⟩ := c.d.def_ 6 (d := d_replaced) rfl
  have h_replaced : ∀ base : Heap, Cal P w K mg base (He.ga K) 1 "replaced" S_put := fun base => c_replaced (k := 0) F_replaced (He.glo_ok X G (c.d.fact 1 (f := .glo "replaced") rfl)) hbl kc  (fun ds Q Xq h => by first | (revert h; walk_at "len") | exact len_replaced h) p_replaced
  obtain ⟨fd__law_cell, F__law_cell⟩ := c.d.def_ 8 (d := d__law_cell) rfl
  have h__law_cell : ∀ base : Heap, Cal P w K mg base (He.ga K) 1 "_law_cell" S_cell := fun base => c__law_cell (k := 0) F__law_cell (He.glo_ok X G (c.d.fact 3 (f := .glo "_law_cell") rfl)) hbl kc  (fun ds Q Xq h => by first | (revert h; walk_at "len") | exact len__law_cell h) p_cell
  obtain ⟨fd__law_reader, F__law_reader⟩ := c.d.def_ 9 (d := d__law_reader) rfl
  have h__law_reader : ∀ base : Heap, Cal P w K mg base (He.ga K) 1 "_law_reader" S_reader := fun base => c__law_reader (k := 0) F__law_reader (He.glo_ok X G (c.d.fact 4 (f := .glo "_law_reader") rfl)) hbl kc  (fun ds Q Xq h => by first | (revert h; walk_at "len") | exact len__law_reader h) p_reader
  obtain ⟨fd__law_next, F__law_next⟩ := c.d.def_ 10 (d := d__law_next) rfl
  have h__law_next : ∀ base : Heap, Cal P w K mg base (He.ga K) 1 "_law_next" S_next := fun base => c__law_next (k := 0) F__law_next (He.glo_ok X G (c.d.fact 5 (f := .glo "_law_next") rfl)) hbl kc  (fun ds Q Xq h => by first | (revert h; walk_at "len") | exact len__law_next h) p_next
  obtain ⟨fd__law_put, F__law_put⟩ := c.d.def_ 12 (d := d__law_put) rfl
  have h__law_put : ∀ base : Heap, Cal P w K mg base (He.ga K) 1 "_law_put" S_put := fun base => c__law_put (k := 0) F__law_put (He.glo_ok X G (c.d.fact 7 (f := .glo "_law_put") rfl)) hbl kc  (fun ds Q Xq h => by first | (revert h; walk_at "len") | exact len__law_put h) p__law_put
  obtain ⟨fd__law_events, F__law_events⟩ := c.d.def_ 15 (d := d__law_events) rfl
  have h__law_events : ∀ base : Heap, Cal P w K mg base (He.ga K) 1 "_law_events" S__law_events := fun base => c__law_events (k := 0) F__law_events (He.glo_ok X G (c.d.fact 10 (f := .glo "_law_events") rfl)) hbl kc  (fun ds Q Xq h => by first | (revert h; walk_at "len") | exact len__law_events h) p__law_events
  obtain ⟨fd__law_follow, F__law_follow⟩ := c.d.def_ 16 (d := d__law_follow) rfl
  have h__law_follow : ∀ base : Heap, Cal P w K mg base (He.ga K) 1 "_law_follow" S__law_follow := fun base => c__law_follow (k := 0) F__law_follow (He.glo_ok X G (c.d.fact 11 (f := .glo "_law_follow") rfl)) hbl kc  (fun ds Q Xq h => by first | (revert h; walk_at "len") | exact len__law_follow h) p__law_follow
  obtain ⟨fd__law_reason, F__law_reason⟩ := c.d.def_ 19 (d := d__law_reason) rfl
  have h__law_reason : ∀ base : Heap, Cal P w K mg base (He.ga K) 1 "_law_reason" S__law_reason := fun base => c__law_reason (k := 0) F__law_reason (He.glo_ok X G (c.d.fact 14 (f := .glo "_law_reason") rfl)) hbl kc  (fun ds Q Xq h => by first | (revert h; walk_at "len") | exact len__law_reason h) p__law_reason
  obtain ⟨fd__law_target, F__law_target⟩ := c.d.def_ 13 (d := d__law_target) rfl
  have h__law_target : ∀ base : Heap, Cal P w K mg base (He.ga K) 2 "_law_target" S__law_target := fun base => c__law_target (k := 1) F__law_target (He.glo_ok X G (c.d.fact 8 (f := .glo "_law_target") rfl)) hbl kc ((h__law_next base).mono (by decide)) (fun ds Q Xq h => by first | (revert h; walk_at "len") | exact len__law_target h) p__law_target
  obtain ⟨fd__law_turned_row, F__law_turned_row⟩ := c.d.def_ 18 (d := d__law_turned_row) rfl
  have h__law_turned_row : ∀ base : Heap, Cal P w K mg base (He.ga K) 2 "_law_turned_row" S__law_turned_row := fun base => c__law_turned_row (k := 1) F__law_turned_row (He.glo_ok X G (c.d.fact 13 (f := .glo "_law_turned_row") rfl)) hbl kc ((h__law_put base).mono (by decide)) (fun ds Q Xq h => by first | (revert h; walk_at "len") | exact len__law_turned_row h) p__law_turned_row
  obtain ⟨fd_check_contract, F_check_contract⟩ := c.d.def_ 7 (d := d_check_contract) rfl
  have h_check_contract : ∀ base : Heap, Cal P w K mg base (He.ga K) 3 "check_contract" S_chk := fun base => c_check_contract (k := 0) F_check_contract (He.glo_ok X G (c.d.fact 2 (f := .glo "check_contract") rfl)) hbl kc (hx_InvalidContract base) (fun ds Q Xq h => by first | (revert h; walk_at "len") | exact len_check_contract h) p_chk
  obtain ⟨fd__law_states, F__law_states⟩ := c.d.def_ 14 (d := d__law_states) rfl
  have h__law_states : ∀ base : Heap, Cal P w K mg base (He.ga K) 3 "_law_states" S__law_states := fun base => c__law_states (k := 2) F__law_states (He.glo_ok X G (c.d.fact 9 (f := .glo "_law_states") rfl)) hbl kc ((h__law_target base).mono (by decide)) ((h__law_next base).mono (by decide)) (fun ds Q Xq h => by first | (revert h; walk_at "len") | exact len__law_states h) p__law_states
  obtain ⟨fd__law_faulty, F__law_faulty⟩ := c.d.def_ 20 (d := d__law_faulty) rfl
  have h__law_faulty : ∀ base : Heap, Cal P w K mg base (He.ga K) 3 "_law_faulty" S__law_faulty := fun base => c__law_faulty (k := 2) F__law_faulty (He.glo_ok X G (c.d.fact 15 (f := .glo "_law_faulty") rfl)) hbl kc ((h__law_put base).mono (by decide)) ((h__law_next base).mono (by decide)) ((h__law_events base).mono (by decide)) ((h__law_turned_row base).mono (by decide)) (fun ds Q Xq h => by first | (revert h; walk_at "len") | exact len__law_faulty h) p__law_faulty
  obtain ⟨fd_frozen, F_frozen⟩ := c.d.def_ 0 (d := d_frozen) rfl
  have h_frozen_0 : ∀ base : Heap, Cal P w K mg base (He.ga K) 1 "frozen" (S_frozen 0) := fun base => Cal.imp (Cal.none F_frozen (He.glo_ok X G (c.d.fact 0 (f := .glo "frozen") rfl)) (FunD.bindsN (ps := ["thing"]) F_frozen fun _ _ _ _ _ _ us hl => match us, hl with | [_], _ => rfl)) z_frozen
  have h_frozen_1 : ∀ base : Heap, Cal P w K mg base (He.ga K) 2 "frozen" (S_frozen 1) := fun base => c_frozen (k := 1) F_frozen (He.glo_ok X G (c.d.fact 0 (f := .glo "frozen") rfl)) hbl kc ((h_frozen_0 base).mono (by decide)) (fun ds Q Xq h => by first | (revert h; walk_at "len") | exact len_frozen h) (p_frozen 0)
  have h_frozen_2 : ∀ base : Heap, Cal P w K mg base (He.ga K) 3 "frozen" (S_frozen 2) := fun base => c_frozen (k := 2) F_frozen (He.glo_ok X G (c.d.fact 0 (f := .glo "frozen") rfl)) hbl kc ((h_frozen_1 base).mono (by decide)) (fun ds Q Xq h => by first | (revert h; walk_at "len") | exact len_frozen h) (p_frozen 1)
  have h_frozen_3 : ∀ base : Heap, Cal P w K mg base (He.ga K) 4 "frozen" (S_frozen 3) := fun base => c_frozen (k := 3) F_frozen (He.glo_ok X G (c.d.fact 0 (f := .glo "frozen") rfl)) hbl kc ((h_frozen_2 base).mono (by decide)) (fun ds Q Xq h => by first | (revert h; walk_at "len") | exact len_frozen h) (p_frozen 2)
  have h_frozen_4 : ∀ base : Heap, Cal P w K mg base (He.ga K) 5 "frozen" (S_frozen 4) := fun base => c_frozen (k := 4) F_frozen (He.glo_ok X G (c.d.fact 0 (f := .glo "frozen") rfl)) hbl kc ((h_frozen_3 base).mono (by decide)) (fun ds Q Xq h => by first | (revert h; walk_at "len") | exact len_frozen h) (p_frozen 3)
  have h_frozen_5 : ∀ base : Heap, Cal P w K mg base (He.ga K) 6 "frozen" (S_frozen 5) := fun base => c_frozen (k := 5) F_frozen (He.glo_ok X G (c.d.fact 0 (f := .glo "frozen") rfl)) hbl kc ((h_frozen_4 base).mono (by decide)) (fun ds Q Xq h => by first | (revert h; walk_at "len") | exact len_frozen h) (p_frozen 4)
  have h_frozen : ∀ base : Heap, Cal P w K mg base (He.ga K) 7 "frozen" (S_frozen 6) := fun base => c_frozen (k := 6) F_frozen (He.glo_ok X G (c.d.fact 0 (f := .glo "frozen") rfl)) hbl kc ((h_frozen_5 base).mono (by decide)) (fun ds Q Xq h => by first | (revert h; walk_at "len") | exact len_frozen h) (p_frozen 5)
  obtain ⟨fd__law_same, F__law_same⟩ := c.d.def_ 11 (d := d__law_same) rfl
  have h__law_same_0 : ∀ base : Heap, Cal P w K mg base (He.ga K) 1 "_law_same" (S__law_same 0) := fun base => Cal.imp (Cal.none F__law_same (He.glo_ok X G (c.d.fact 6 (f := .glo "_law_same") rfl)) (FunD.bindsN (ps := ["told", "due"]) F__law_same fun _ _ _ _ _ _ us hl => match us, hl with | [_, _], _ => rfl)) z__law_same
  have h__law_same_1 : ∀ base : Heap, Cal P w K mg base (He.ga K) 2 "_law_same" (S__law_same 1) := fun base => c__law_same (k := 1) F__law_same (He.glo_ok X G (c.d.fact 6 (f := .glo "_law_same") rfl)) hbl kc ((h__law_same_0 base).mono (by decide)) (fun ds Q Xq h => by first | (revert h; walk_at "len") | exact len__law_same h) (p__law_same 0)
  have h__law_same_2 : ∀ base : Heap, Cal P w K mg base (He.ga K) 3 "_law_same" (S__law_same 2) := fun base => c__law_same (k := 2) F__law_same (He.glo_ok X G (c.d.fact 6 (f := .glo "_law_same") rfl)) hbl kc ((h__law_same_1 base).mono (by decide)) (fun ds Q Xq h => by first | (revert h; walk_at "len") | exact len__law_same h) (p__law_same 1)
  have h__law_same_3 : ∀ base : Heap, Cal P w K mg base (He.ga K) 4 "_law_same" (S__law_same 3) := fun base => c__law_same (k := 3) F__law_same (He.glo_ok X G (c.d.fact 6 (f := .glo "_law_same") rfl)) hbl kc ((h__law_same_2 base).mono (by decide)) (fun ds Q Xq h => by first | (revert h; walk_at "len") | exact len__law_same h) (p__law_same 2)
  have h__law_same_4 : ∀ base : Heap, Cal P w K mg base (He.ga K) 5 "_law_same" (S__law_same 4) := fun base => c__law_same (k := 4) F__law_same (He.glo_ok X G (c.d.fact 6 (f := .glo "_law_same") rfl)) hbl kc ((h__law_same_3 base).mono (by decide)) (fun ds Q Xq h => by first | (revert h; walk_at "len") | exact len__law_same h) (p__law_same 3)
  have h__law_same_5 : ∀ base : Heap, Cal P w K mg base (He.ga K) 6 "_law_same" (S__law_same 5) := fun base => c__law_same (k := 5) F__law_same (He.glo_ok X G (c.d.fact 6 (f := .glo "_law_same") rfl)) hbl kc ((h__law_same_4 base).mono (by decide)) (fun ds Q Xq h => by first | (revert h; walk_at "len") | exact len__law_same h) (p__law_same 4)
  have h__law_same : ∀ base : Heap, Cal P w K mg base (He.ga K) 7 "_law_same" (S__law_same 6) := fun base => c__law_same (k := 6) F__law_same (He.glo_ok X G (c.d.fact 6 (f := .glo "_law_same") rfl)) hbl kc ((h__law_same_5 base).mono (by decide)) (fun ds Q Xq h => by first | (revert h; walk_at "len") | exact len__law_same h) (p__law_same 5)
  obtain ⟨fd_Contract___init__, F_Contract___init__⟩ := c.d.def_ 1 (d := d_Contract___init__) rfl
  have his_Contract : ∀ base : Heap, CalIS P w K mg base (He.ga K) 8 "Contract" S_Con := fun base => cs_Contract___init__ (k := 7) F_Contract___init__ hbl kc ((h_frozen base).mono (by decide)) ((h_check_contract base).mono (by decide)) (fun ds Q Xq h => by first | (revert h; walk_at "len") | exact len_Contract___init__ h) ps_Con
  have hi_Contract : ∀ base : Heap, CalI P w K mg base (He.ga K) 8 "Contract" S_Con := fun base => c_Contract___init__ (k := 7) F_Contract___init__ hbl kc ((h_frozen base).mono (by decide)) ((h_check_contract base).mono (by decide)) (fun ds Q Xq h => by first | (revert h; walk_at "len") | exact len_Contract___init__ h) p_Con
  obtain ⟨fd__law_right, F__law_right⟩ := c.d.def_ 17 (d := d__law_right) rfl
  have h__law_right : ∀ base : Heap, Cal P w K mg base (He.ga K) 8 "_law_right" S__law_right := fun base => c__law_right (k := 7) F__law_right (He.glo_ok X G (c.d.fact 12 (f := .glo "_law_right") rfl)) hbl kc ((h__law_same base).mono (by decide)) ((h__law_events base).mono (by decide)) ((hm_Contract_follow base).mono (by decide)) ((h__law_follow base).mono (by decide)) (fun ds Q Xq h => by first | (revert h; walk_at "len") | exact len__law_right h) p__law_right
  obtain ⟨fd_Contract_with_state, F_Contract_with_state⟩ := c.d.def_ 5 (d := d_Contract_with_state) rfl
  have hm_Contract_with_state : ∀ base : Heap, CalM P w K mg base (He.ga K) 10 "Contract" "with_state" S_with_state := fun base => c_Contract_with_state (k := 8) F_Contract_with_state hbl kc ((hi_Contract base).mono (by decide)) ((h_replaced base).mono (by decide)) (fun ds Q Xq h => by first | (revert h; walk_at "len") | exact len_Contract_with_state h) p_Contract_with_state
  obtain ⟨fd_Contract_with_row, F_Contract_with_row⟩ := c.d.def_ 3 (d := d_Contract_with_row) rfl
  have hm_Contract_with_row : ∀ base : Heap, CalM P w K mg base (He.ga K) 11 "Contract" "with_row" S_with_row := fun base => c_Contract_with_row (k := 10) F_Contract_with_row hbl kc ((h_replaced base).mono (by decide)) ((hm_Contract_with_state base).mono (by decide)) (fun ds Q Xq h => by first | (revert h; walk_at "len") | exact len_Contract_with_row h) p_Contract_with_row
  obtain ⟨fd_Contract_with_flags, F_Contract_with_flags⟩ := c.d.def_ 4 (d := d_Contract_with_flags) rfl
  have hm_Contract_with_flags : ∀ base : Heap, CalMN P w K mg base (He.ga K) 11 "Contract" "with_flags" SG_Contract_with_flags S_with_flags := fun base => c_Contract_with_flags (k := 10) F_Contract_with_flags hbl kc ((hm_Contract_with_state base).mono (by decide)) (fun ds Q Xq h => by first | (revert h; walk_at "len") | exact len_Contract_with_flags h) p_Contract_with_flags
  obtain ⟨fd__law_flagged, F__law_flagged⟩ := c.d.def_ 22 (d := d__law_flagged) rfl
  have h__law_flagged : ∀ base : Heap, Cal P w K mg base (He.ga K) 12 "_law_flagged" S__law_flagged := fun base => c__law_flagged (k := 11) F__law_flagged (He.glo_ok X G (c.d.fact 17 (f := .glo "_law_flagged") rfl)) hbl kc ((hm_Contract_with_flags base).mono (by decide)) (fun ds Q Xq h => by first | (revert h; walk_at "len") | exact len__law_flagged h) p__law_flagged
  obtain ⟨fd__law_told, F__law_told⟩ := c.d.def_ 21 (d := d__law_told) rfl
  have h__law_told : ∀ base : Heap, Cal P w K mg base (He.ga K) 13 "_law_told" S__law_told := fun base => c__law_told (k := 11) F__law_told (He.glo_ok X G (c.d.fact 16 (f := .glo "_law_told") rfl)) hbl kc ((hi_Contract base).mono (by decide)) ((hm_Contract_with_row base).mono (by decide)) (fun ds Q Xq h => by first | (revert h; walk_at "len") | exact len__law_told h) p__law_told
  have hs__law_told : ∀ base : Heap, CalS P w K mg base (He.ga K) 13 "_law_told" Ss__law_told := fun base => cs__law_told (k := 11) F__law_told (He.glo_ok X G (c.d.fact 16 (f := .glo "_law_told") rfl)) hbl kc ((his_Contract base).mono (by decide)) ((hm_Contract_with_row base).mono (by decide)) (fun ds Q Xq h => by first | (revert h; walk_at "len") | exact len__law_told h) ps__law_told
  obtain ⟨fd__law_walked, F__law_walked⟩ := c.d.def_ 23 (d := d__law_walked) rfl
  have h__law_walked : ∀ base : Heap, Cal P w K mg base (He.ga K) 14 "_law_walked" S__law_walked := fun base => c__law_walked (k := 13) F__law_walked (He.glo_ok X G (c.d.fact 18 (f := .glo "_law_walked") rfl)) hbl kc ((h__law_next base).mono (by decide)) ((h__law_events base).mono (by decide)) ((h__law_told base).mono (by decide)) ((h__law_put base).mono (by decide)) ((h__law_turned_row base).mono (by decide)) ((h__law_flagged base).mono (by decide)) (fun ds Q Xq h => by first | (revert h; walk_at "len") | exact len__law_walked h) p__law_walked
  obtain ⟨fd, F⟩ := c.d.def_ 24 (d := d_law) rfl
  have e := hfa.symm.trans (He.glo_ok X G (c.d.fact 19 (f := .glo "law") rfl))
  cases e
  have b := FunD.bindsA (ps := ["script"]) F fun _ _ _ _ _ _ us hl => match us, hl with | [_], _ => rfl
  exact ⟨fd, fun s v => b s [v] rfl, fun base _ _ => law_fn (c_law (k := 14) (C := (He.ga K)) (S := S_law) F hbl kc ((h__law_reader base).mono (by decide)) ((h__law_cell base).mono (by decide)) ((h__law_next base).mono (by decide)) ((h__law_states base).mono (by decide)) ((h__law_faulty base).mono (by decide)) ((hs__law_told base).mono (by decide)) ((h__law_reason base).mono (by decide)) ((h__law_walked base).mono (by decide)) ((h__law_right base).mono (by decide)) (fun ds Q Xq h => by first | (revert h; walk_at "len") | exact len_law h) p_law) fun ns Qd hn q => ⟨ns, rfl, hn, q⟩⟩
end
end K11
open PySem PySem.W PySem.Calls PyProof.Rows
theorem PySem.Challenge.cw_allmends_k11_contract_rows_holds : PySem.Challenge.rw_allmends_k11_contract_rows.Holds := by
  w_on; o_law
  refine HandSHeadRun.head_any (r := OpenLaw.row PySem.Challenge.rw_allmends_k11_contract_rows) (q := view (OpenLaw.row PySem.Challenge.rw_allmends_k11_contract_rows).prog [42]) (H := K11.hk) (ob := K11.ob) (M := 6000) (loose := K11.loose) (d := HandSHeadRun.topDef (OpenLaw.row PySem.Challenge.rw_allmends_k11_contract_rows).prog 42) (kwd := []) K11.ob_eq
    (by kernel_rfl) (fun s => by kernel_rfl) K11.run (by kernel_rfl) (by kernel_rfl) (by kernel_rfl) (by rfl) (by first | assumption | decide +kernel) (by decide +kernel) ⟨rfl, rfl, rfl, rfl, rfl, by decide +kernel⟩ ?hw ?hc
  case hw => w_witness2
  case hc =>
    refine L2.walk_ofE (l := PySem.Challenge.rw_allmends_k11_contract_rows) (n := 63) (k := 15) (x := "script") (CX := L2.CX0) rfl (by decide) (by kernel_rfl) ⟨rfl, by decide, by decide⟩ ?F (fun _ _ _ _ z => z)
    intro w mg fa h Y G hmg0
    obtain ⟨K, KX, c⟩ := Y
    have hmg : mg ("law" : PySem.Str) = some (.ref fa) := by
      have e : (HandSHeadRun.topDef (OpenLaw.row PySem.Challenge.rw_allmends_k11_contract_rows).prog 42).name = ("law" : PySem.Str) := by kernel_rfl
      rw [← e]
      exact hmg0
    obtain ⟨fd, hb, hF⟩ := K11.facts (w := w) KX G hmg c
    exact ⟨K, fd, Dl.spLaw K 63, KX, hb, fun H a ns hl _ hS => ⟨a, ns, rfl, hl, hS, fun _ _ e => e⟩, hF⟩
