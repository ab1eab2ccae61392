import PyProof.Rows.All
import Wide.All
import OpenK.AllK
import Wide.FinOn
import HandS.ForMost
import HandS.ForExc
import HandS.Deep
import HandS.IsInst
import HandS.Steps
import HandS.More
import HandS.ExcInit
import HandS.ExcValue
import HandS.TupAny
import HandS.Text
import HandS.Wide
import HandS.TryOnly
import HandS.ExcOwn
import HandS.Rev
import HandS.Defaults
import KE.SortData
import KE.KStateDown
import Lean
import HandS.Base
import HandS.Call
import HandS.Ends
import HandS.Words
import HandS.WordsExc
import HandS.Head0
import HandS.Head1
import HandS.Head2
import HandS.HeadEnd
import HandS.HeadHook1
import HandS.HeadHook2
import KE.KExcSuper
import HandS.ExcIs
import HandS.ExcField
import HandS.Strs
import HandS.Conv
import PyProof.AutoSeq1
import PySem.Challenge.RW_allmends_k75_errors_by_position
set_option Elab.async false
set_option linter.all false
set_option maxRecDepth 100000
set_option maxHeartbeats 4000000
set_option autoImplicit false
namespace Dl
open PySem PySem.Spec PyProof.Rows L2
inductive D where
  | non | bl (b : Bool) | int (i : Int) | str (s : Str) | tup (ds : List D) | lst (ds : List D) | scr (ns : List Int) | rd | ins (c : Str) (fs : List (Str × D)) | nms (ys : List Str) | any | dic (kvs : List (Key × D)) | fr (d : D) | raw (u : V) | exc (c : Str) (fs : List (Str × D))
def tupObj (its : List Value) : Obj := { cls := .type "tuple", data := .seq its.toArray }
abbrev St := L2.St
structure Kx where
  K : PySem.W.Frag
  C : Str → Addr
def ExAt (Γ : Kx) (G : Hp) (a : Addr) (c : Str) (vs : List (Str × V)) : Prop := (∃ dx, G a = some (exo a (Γ.C c) (some dx)) ∧ G dx = some (exd dx vs)) ∨ vs = [] ∧ G a = some (ExO (.ref (Γ.C c)) a)
theorem ExAt.mono {Γ : Kx} {G G' : Hp} {a : Addr} {c : Str} {vs : List (Str × V)} (g : Same G G') (h : ExAt Γ G a c vs) : ExAt Γ G' a c vs := by
  rcases h with ⟨dx, h1, h2⟩ | ⟨h1, h2⟩
  · exact .inl ⟨dx, g _ _ h1, g _ _ h2⟩
  · exact .inr ⟨h1, g _ _ h2⟩
section
variable (Γ : Kx) (G : Hp) (R : Addr → Prop)
mutual
def Rp : D → V → Prop
  | .non, v => v = .non
  | .bl b, v => v = .bl b
  | .int i, v => v = .int i
  | .str s, v => v = .str s
  | .tup ds, v => ∃ a vs, v = .ref a ∧ SqT Γ.K G a vs ∧ RpL ds vs
  | .lst ds, v => ∃ a vs, v = .ref a ∧ G a = some (.lst vs) ∧ RpL ds vs
  | .scr ns, v => ∃ a, v = .ref a ∧ SqL Γ.K G a (ns.map V.int)
  | .rd, v => ∃ a, v = .ref a ∧ R a
  | .ins c fs, v => ∃ a dx vs, v = .ref a ∧ G a = some (.ins (Γ.C c) dx vs) ∧ RpF fs vs
  | .nms ys, v => ∃ a its, v = .ref a ∧ G a = some (.frz (tupObj its) (.tup (ys.map V.str)))
  | .any, v => v ≠ .non
  | .dic kvs, v => ∃ a us, v = .ref a ∧ G a = some (.dK us) ∧ RpK kvs us
  | .fr d, v => v ≠ .non ∧ Rp d v
  | .raw u, v => v = u
  | .exc c fs, v => ∃ a vs, v = .ref a ∧ ExAt Γ G a c vs ∧ RpF fs vs
def RpL : List D → List V → Prop
  | [], vs => vs = []
  | d :: ds, vs => ∃ v r, vs = v :: r ∧ Rp d v ∧ RpL ds r
def RpF : List (Str × D) → List (Str × V) → Prop
  | [], vs => vs = []
  | (x, d) :: ds, vs => ∃ v r, vs = (x, v) :: r ∧ Rp d v ∧ RpF ds r
def RpK : List (Key × D) → List (Key × V) → Prop
  | [], vs => vs = []
  | (x, d) :: ds, vs => ∃ v r, vs = (x, v) :: r ∧ Rp d v ∧ RpK ds r
end
end
def immB : D → Bool
  | .tup ds => go ds
  | .lst _ => false
  | .scr _ => false
  | .ins _ _ => false
  | .exc _ _ => false
  | .dic _ => false
  | .fr _ => false
  | .raw _ => false
  | _ => true
where go : List D → Bool
  | [] => true
  | d :: ds => immB d && go ds
theorem Same.seqT {K : PySem.W.Frag} {H H' : Hp} {a : Addr} {xs : List V} (e : Same H H') (h : SqT K H a xs) : SqT K H' a xs := by
  rcases h with (h | ⟨o, h⟩) | h
  · exact .inl (.inl (e _ _ h))
  · exact .inl (.inr ⟨o, e _ _ h⟩)
  · exact .inr h
section
variable {Γ : Kx} {G G' : Hp} {R R' : Addr → Prop}
mutual
theorem Rp.mono (g : Same G G') (r : ∀ a, R a → R' a) : ∀ (d : D) (v : V), Rp Γ G R d v → Rp Γ G' R' d v
  | .non, _, h => by unfold Rp at *; exact h
  | .bl _, _, h => by unfold Rp at *; exact h
  | .int _, _, h => by unfold Rp at *; exact h
  | .str _, _, h => by unfold Rp at *; exact h
  | .tup ds, v, h => by
    unfold Rp at *
    obtain ⟨a, vs, e, s, l⟩ := h
    exact ⟨a, vs, e, Same.seqT g s, RpL.mono g r ds vs l⟩
  | .lst ds, v, h => by
    unfold Rp at *
    obtain ⟨a, vs, e, s, l⟩ := h
    exact ⟨a, vs, e, g _ _ s, RpL.mono g r ds vs l⟩
  | .scr ns, v, h => by
    unfold Rp at *
    obtain ⟨a, e, s⟩ := h
    exact ⟨a, e, g.seq s⟩
  | .rd, v, h => by
    unfold Rp at *
    obtain ⟨a, e, h⟩ := h
    exact ⟨a, e, r a h⟩
  | .ins c fs, v, h => by
    unfold Rp at *
    obtain ⟨a, dx, vs, e, s, l⟩ := h
    exact ⟨a, dx, vs, e, g _ _ s, RpF.mono g r fs vs l⟩
  | .nms ys, v, h => by
    unfold Rp at *
    obtain ⟨a, its, e, s⟩ := h
    exact ⟨a, its, e, g _ _ s⟩
  | .any, v, h => by unfold Rp at *; exact h
  | .fr d, v, h => by unfold Rp at *; exact ⟨h.1, Rp.mono g r d v h.2⟩
  | .raw _, v, h => by unfold Rp at *; exact h
  | .exc c fs, v, h => by
    unfold Rp at *
    obtain ⟨a, vs, e, s, l⟩ := h
    exact ⟨a, vs, e, s.mono g, RpF.mono g r fs vs l⟩
  | .dic kvs, v, h => by
    unfold Rp at *
    obtain ⟨a, us, e, s, l⟩ := h
    exact ⟨a, us, e, g _ _ s, RpK.mono g r kvs us l⟩
theorem RpL.mono (g : Same G G') (r : ∀ a, R a → R' a) : ∀ (ds : List D) (vs : List V), RpL Γ G R ds vs → RpL Γ G' R' ds vs
  | [], _, h => by unfold RpL at *; exact h
  | d :: ds, vs, h => by
    unfold RpL at *
    obtain ⟨v, q, e, h1, h2⟩ := h
    exact ⟨v, q, e, Rp.mono g r d v h1, RpL.mono g r ds q h2⟩
theorem RpF.mono (g : Same G G') (r : ∀ a, R a → R' a) : ∀ (ds : List (Str × D)) (vs : List (Str × V)), RpF Γ G R ds vs → RpF Γ G' R' ds vs
  | [], _, h => by unfold RpF at *; exact h
  | (x, d) :: ds, vs, h => by
    unfold RpF at *
    obtain ⟨v, q, e, h1, h2⟩ := h
    exact ⟨v, q, e, Rp.mono g r d v h1, RpF.mono g r ds q h2⟩
theorem RpK.mono (g : Same G G') (r : ∀ a, R a → R' a) : ∀ (ds : List (Key × D)) (vs : List (Key × V)), RpK Γ G R ds vs → RpK Γ G' R' ds vs
  | [], _, h => by unfold RpK at *; exact h
  | (x, d) :: ds, vs, h => by
    unfold RpK at *
    obtain ⟨v, q, e, h1, h2⟩ := h
    exact ⟨v, q, e, Rp.mono g r d v h1, RpK.mono g r ds q h2⟩
end
def Tups (G G' : Hp) : Prop := (∀ b xs, G b = some (.tup xs) → G' b = some (.tup xs)) ∧ ∀ b o u, G b = some (.frz o u) → G' b = some (.frz o u)
theorem Tups.seqT {K : PySem.W.Frag} {a : Addr} {xs : List V} (e : Tups G G') (h : SqT K G a xs) : SqT K G' a xs := by
  rcases h with (h | ⟨o, h⟩) | h
  · exact .inl (.inl (e.1 _ _ h))
  · exact .inl (.inr ⟨o, e.2 _ _ _ h⟩)
  · exact .inr h
mutual
theorem Rp.imm (g : Tups G G') (r : ∀ a, R a → R' a) : ∀ (d : D) (v : V), immB d = true → Rp Γ G R d v → Rp Γ G' R' d v
  | .non, _, _, h => by unfold Rp at *; exact h
  | .bl _, _, _, h => by unfold Rp at *; exact h
  | .int _, _, _, h => by unfold Rp at *; exact h
  | .str _, _, _, h => by unfold Rp at *; exact h
  | .tup ds, v, m, h => by
    unfold Rp at *
    obtain ⟨a, vs, e, s, l⟩ := h
    exact ⟨a, vs, e, g.seqT s, RpL.imm g r ds vs (by unfold immB at m; exact m) l⟩
  | .lst ds, v, m, h => by unfold immB at m; cases m
  | .rd, v, _, h => by
    unfold Rp at *
    obtain ⟨a, e, h⟩ := h
    exact ⟨a, e, r a h⟩
  | .scr _, v, m, h => by unfold immB at m; cases m
  | .ins c fs, v, m, h => by unfold immB at m; cases m
  | .exc c fs, v, m, h => by unfold immB at m; cases m
  | .nms ys, v, _, h => by
    unfold Rp at *
    obtain ⟨a, its, e, s⟩ := h
    exact ⟨a, its, e, g.2 _ _ _ s⟩
  | .any, v, _, h => by unfold Rp at *; exact h
  | .dic _, v, m, h => by unfold immB at m; cases m
  | .fr _, v, m, h => by unfold immB at m; cases m
  | .raw _, v, m, h => by unfold immB at m; cases m
theorem RpL.imm (g : Tups G G') (r : ∀ a, R a → R' a) : ∀ (ds : List D) (vs : List V), immB.go ds = true → RpL Γ G R ds vs → RpL Γ G' R' ds vs
  | [], _, _, h => by unfold RpL at *; exact h
  | d :: ds, vs, m, h => by
    unfold RpL at *
    unfold immB.go at m
    rw [Bool.and_eq_true] at m
    obtain ⟨v, q, e, h1, h2⟩ := h
    exact ⟨v, q, e, Rp.imm g r d v m.1 h1, RpL.imm g r ds q m.2 h2⟩
end
theorem RpL.len : ∀ {ds : List D} {vs : List V}, RpL Γ G R ds vs → ds.length = vs.length
  | [], _, h => by unfold RpL at h; subst h; rfl
  | d :: ds, vs, h => by
    unfold RpL at h
    obtain ⟨v, q, e, h1, h2⟩ := h
    subst e
    rw [List.length_cons, List.length_cons, RpL.len h2]
theorem RpL.get : ∀ {ds : List D} {vs : List V} {i : Nat} {d : D}, RpL Γ G R ds vs → ds[i]? = some d → ∃ v, vs[i]? = some v ∧ Rp Γ G R d v
  | [], _, _, _, h, e => by simp at e
  | d :: ds, vs, 0, d', h, e => by
    unfold RpL at h
    obtain ⟨v, q, e2, h1, h2⟩ := h
    subst e2
    simp at e
    subst e
    exact ⟨v, by simp, h1⟩
  | d :: ds, vs, i + 1, d', h, e => by
    unfold RpL at h
    obtain ⟨v, q, e2, h1, h2⟩ := h
    subst e2
    simp at e
    obtain ⟨v', a, b⟩ := RpL.get h2 e
    exact ⟨v', by simpa using a, b⟩
theorem RpL.cons {d : D} {v : V} {ds : List D} {vs : List V} (h : Rp Γ G R d v) (t : RpL Γ G R ds vs) : RpL Γ G R (d :: ds) (v :: vs) := by
  unfold RpL
  exact ⟨v, vs, rfl, h, t⟩
theorem RpL.nil : RpL Γ G R [] [] := by unfold RpL; rfl
theorem RpL.append : ∀ {ds es : List D} {vs us : List V}, RpL Γ G R ds vs → RpL Γ G R es us → RpL Γ G R (ds ++ es) (vs ++ us)
  | [], _, _, _, h, k => by unfold RpL at h; subst h; exact k
  | d :: ds, es, vs, us, h, k => by
    unfold RpL at h
    obtain ⟨v, q, e2, h1, h2⟩ := h
    subst e2
    exact RpL.cons h1 (RpL.append h2 k)
theorem RpL.of_get : ∀ {ds : List D} {vs : List V}, ds.length = vs.length → (∀ (i : Nat) d v, ds[i]? = some d → vs[i]? = some v → Rp Γ G R d v) → RpL Γ G R ds vs
  | [], vs, hl, _ => by
    have : vs = [] := List.eq_nil_of_length_eq_zero (by simpa using hl.symm)
    subst this
    exact RpL.nil
  | d :: ds, [], hl, _ => by simp at hl
  | d :: ds, v :: vs, hl, h => RpL.cons (h 0 d v (by simp) (by simp)) (RpL.of_get (by simpa using hl) fun i d' v' a b => h (i + 1) d' v' (by simpa using a) (by simpa using b))
end
def IsRd (H : Hp) (a : Addr) : Prop := ∃ c k r : Int, H a = some (.lst [.int c, .int k, .int r])
structure Gd (G : Hp) (R : Addr → Prop) (H : Hp) : Prop where
  sub : Same G H
  rd : ∀ a, R a → IsRd H a
  dis : ∀ a, R a → G a = none
def Stiff : HO → Prop
  | .tup _ => True
  | .frz _ _ => True
  | _ => False
structure Nx (G : Hp) (R : Addr → Prop) (H G' : Hp) (R' : Addr → Prop) (H' : Hp) : Prop where
  gg : Same G G'
  rr : ∀ a, R a → R' a
  gd : Gd G' R' H'
  ev : ∀ b o, H b = some o → ¬ R b → H' b = some o
  ex : ∀ b o, H b = some o → ∃ o', H' b = some o'
  fg : ∀ b o, G' b = some o → G b = some o ∨ H b = none ∨ Stiff o
  fr : ∀ b, R' b → R b ∨ H b = none
section
variable {G G1 G2 : Hp} {R R1 R2 : Addr → Prop} {H H1 H2 : Hp}
theorem Nx.refl (g : Gd G R H) : Nx G R H G R H := ⟨fun _ _ h => h, fun _ h => h, g, fun _ _ h _ => h, fun _ o h => ⟨o, h⟩, fun _ _ h => .inl h, fun _ h => .inl h⟩
theorem Nx.trans (a : Nx G R H G1 R1 H1) (b : Nx G1 R1 H1 G2 R2 H2) : Nx G R H G2 R2 H2 where
  gg := fun x o h => b.gg x o (a.gg x o h)
  rr := fun x h => b.rr x (a.rr x h)
  gd := b.gd
  ev := fun x o h n => b.ev x o (a.ev x o h n) fun r => (a.fr x r).elim n fun z => by rw [z] at h; cases h
  ex := fun x o h => by
    obtain ⟨o', h'⟩ := a.ex x o h
    exact b.ex x o' h'
  fg := fun x o h => by
    rcases b.fg x o h with z | z | z
    · exact a.fg x o z
    · refine .inr (.inl ?_)
      cases q : H x with
      | none => rfl
      | some u =>
        obtain ⟨u', q'⟩ := a.ex x u q
        rw [q'] at z; cases z
    · exact .inr (.inr z)
  fr := fun x h => by
    rcases b.fr x h with z | z
    · exact a.fr x z
    · refine .inr ?_
      cases q : H x with
      | none => rfl
      | some u =>
        obtain ⟨u', q'⟩ := a.ex x u q
        rw [q'] at z; cases z
theorem Gd.fresh (g : Gd G R H) {p : Addr} (h : H p = none) : G p = none ∧ ¬ R p :=
  ⟨g.sub.free h, fun r => by obtain ⟨c, k, q, e⟩ := g.rd p r; rw [h] at e; cases e⟩
theorem Nx.new (g : Gd G R H) {p : Addr} (o : HO) (h : H p = none) : Nx G R H G R (upd H p o) where
  gg := fun _ _ h => h
  rr := fun _ h => h
  gd := ⟨fun b u e => by rw [upd_ne (ne_of_none (g.sub b u e) h)]; exact g.sub b u e, fun a r => by
    obtain ⟨c, k, q, e⟩ := g.rd a r
    exact ⟨c, k, q, by rw [upd_ne (ne_of_none e h)]; exact e⟩, g.dis⟩
  ev := fun b u e _ => by rw [upd_ne (ne_of_none e h)]; exact e
  ex := fun b u e => ⟨u, by rw [upd_ne (ne_of_none e h)]; exact e⟩
  fg := fun _ _ h => .inl h
  fr := fun _ h => .inl h
theorem Nx.newG (g : Gd G R H) {p : Addr} (o : HO) (h : H p = none) : Nx G R H (upd G p o) R (upd H p o) where
  gg := fun b u e => by rw [upd_ne (ne_of_none e (g.fresh h).1)]; exact e
  rr := fun _ h => h
  gd := ⟨fun b u e => by
    by_cases hb : b = p
    · subst hb; rw [upd_same] at e ⊢; exact e
    · rw [upd_ne hb] at e ⊢; exact g.sub b u e, fun a r => by
    obtain ⟨c, k, q, e⟩ := g.rd a r
    exact ⟨c, k, q, by rw [upd_ne (ne_of_none e h)]; exact e⟩, fun a r => by
    have ne : a ≠ p := fun z => (g.fresh h).2 (by subst z; exact r)
    rw [upd_ne ne]; exact g.dis a r⟩
  ev := fun b u e _ => by rw [upd_ne (ne_of_none e h)]; exact e
  ex := fun b u e => ⟨u, by rw [upd_ne (ne_of_none e h)]; exact e⟩
  fg := fun b u e => by
    by_cases hb : b = p
    · subst hb; exact .inr (.inl h)
    · rw [upd_ne hb] at e; exact .inl e
  fr := fun _ h => .inl h
theorem Nx.freeze (n : Nx G R H G1 R1 H1) {p : Addr} {o : HO} (e : H1 p = some o) (g0 : G1 p = none) (r0 : ¬ R1 p) (h0 : H p = none) : Nx G R H (upd G1 p o) R1 H1 where
  gg := fun b u q => by rw [upd_ne (fun z => by subst z; have := n.gg _ _ q; rw [g0] at this; cases this)]; exact n.gg b u q
  rr := n.rr
  gd := ⟨fun b u q => by
    by_cases hb : b = p
    · subst hb; rw [upd_same] at q; cases q; exact e
    · rw [upd_ne hb] at q; exact n.gd.sub b u q, n.gd.rd, fun a r => by
    have ne : a ≠ p := fun z => r0 (by subst z; exact r)
    rw [upd_ne ne]; exact n.gd.dis a r⟩
  ev := n.ev
  ex := n.ex
  fg := fun b u q => by
    by_cases hb : b = p
    · subst hb; exact .inr (.inl h0)
    · rw [upd_ne hb] at q; exact n.fg b u q
  fr := n.fr
def stiffB : HO → Bool
  | .tup _ => true
  | .frz _ _ => true
  | _ => false
theorem stiff_of {o : HO} (h : stiffB o = true) : Stiff o := by
  cases o <;> first | exact True.intro | cases h
def satur (G H : Hp) : Hp := fun b => match G b with
  | some o => some o
  | none => match H b with
    | some o => if stiffB o = true then some o else none
    | none => none
theorem satur_same : Same G (satur G H) := fun b o e => by unfold satur; rw [e]
theorem satur_cases {b : Addr} {o : HO} (e : satur G H b = some o) : G b = some o ∨ (H b = some o ∧ stiffB o = true) := by
  unfold satur at e
  cases q : G b with
  | some u => rw [q] at e; cases e; exact .inl rfl
  | none =>
    rw [q] at e
    cases q2 : H b with
    | none => rw [q2] at e; cases e
    | some u =>
      rw [q2] at e
      simp only at e
      split at e
      · rename_i h
        cases e
        exact .inr ⟨rfl, h⟩
      · cases e
theorem satur_sub (h : Same G H) : Same (satur G H) H := fun b o e => (satur_cases e).elim (h b o) And.left
theorem satur_keep {b : Addr} {o : HO} (h : Same G H) (e : H b = some o) (t : stiffB o = true) : satur G H b = some o := by
  unfold satur
  cases q : G b with
  | some u => have := h b u q; rw [e] at this; cases this; rfl
  | none => rw [e]; simp only [t, if_true]
theorem satur_tups (h : Same G H) : Tups H (satur G H) := ⟨fun _ _ e => satur_keep h e rfl, fun _ _ _ e => satur_keep h e rfl⟩
theorem Gd.satur (g : Gd G R H) : Gd (satur G H) R H := ⟨satur_sub g.sub, g.rd, fun a r => by
  obtain ⟨c, k, q, e⟩ := g.rd a r
  cases z : Dl.satur G H a with
  | none => rfl
  | some u =>
    rcases satur_cases z with y | ⟨y, t⟩
    · rw [g.dis a r] at y; cases y
    · rw [e] at y; cases y; cases t⟩
theorem Nx.satur (n : Nx G R H G1 R1 H1) : Nx G R H (satur G1 H1) R1 H1 where
  gg := fun b u q => satur_same b u (n.gg b u q)
  rr := n.rr
  gd := n.gd.satur
  ev := n.ev
  ex := n.ex
  fg := fun b u q => by
    rcases satur_cases q with z | ⟨_, z⟩
    · exact n.fg b u z
    · exact .inr (.inr (stiff_of z))
  fr := n.fr
end
section
variable (Γ : Kx) (H0 G : Hp) (R : Addr → Prop) (H : Hp)
mutual
def Ow : D → V → List Addr → Prop
  | .lst ds, v, as => ∃ a vs bs, v = .ref a ∧ as = a :: bs ∧ H0 a = none ∧ G a = none ∧ ¬ R a ∧ H a = some (.lst vs) ∧ OwL ds vs bs
  | .dic ds, v, as => ∃ a vs bs, v = .ref a ∧ as = a :: bs ∧ H0 a = none ∧ G a = none ∧ ¬ R a ∧ H a = some (.dK vs) ∧ OwK ds vs bs
  | .tup ds, v, as => ∃ a vs, v = .ref a ∧ SqT Γ.K H a vs ∧ OwL ds vs as
  | .non, v, as => as = [] ∧ Rp Γ G R .non v
  | .bl b, v, as => as = [] ∧ Rp Γ G R (.bl b) v
  | .int b, v, as => as = [] ∧ Rp Γ G R (.int b) v
  | .str b, v, as => as = [] ∧ Rp Γ G R (.str b) v
  | .scr b, v, as => as = [] ∧ Rp Γ G R (.scr b) v
  | .rd, v, as => as = [] ∧ Rp Γ G R .rd v
  | .ins b c, v, as => as = [] ∧ Rp Γ G R (.ins b c) v
  | .exc b c, v, as => as = [] ∧ Rp Γ G R (.exc b c) v
  | .nms b, v, as => as = [] ∧ Rp Γ G R (.nms b) v
  | .any, v, as => as = [] ∧ Rp Γ G R .any v
  | .fr d, v, as => as = [] ∧ Rp Γ G R (.fr d) v
  | .raw u, v, as => as = [] ∧ Rp Γ G R (.raw u) v
def OwL : List D → List V → List Addr → Prop
  | [], vs, as => vs = [] ∧ as = []
  | d :: ds, vs, as => ∃ v r bs cs, vs = v :: r ∧ as = bs ++ cs ∧ Ow d v bs ∧ OwL ds r cs
def OwK : List (Key × D) → List (Key × V) → List Addr → Prop
  | [], vs, as => vs = [] ∧ as = []
  | (x, d) :: ds, vs, as => ∃ v r bs cs, vs = (x, v) :: r ∧ as = bs ++ cs ∧ Ow d v bs ∧ OwK ds r cs
end
end
def Open : HO → Prop
  | .lst _ => True
  | .dK _ => True
  | _ => False
theorem Open.stiff {o : HO} (h : Open o) : ¬ Stiff o := by cases o <;> first | exact fun z => z | exact h.elim
section
variable {Γ : Kx} {H0 G G' : Hp} {R R' : Addr → Prop} {H H' : Hp}
structure Stays (G : Hp) (R : Addr → Prop) (H G' : Hp) (R' : Addr → Prop) (H' : Hp) (as : List Addr) : Prop where
  sl : ∀ a o, a ∈ as → H a = some o → Open o → G a = none → ¬ R a → H' a = some o ∧ G' a = none ∧ ¬ R' a
  st : ∀ a o, H a = some o → Stiff o → H' a = some o
  rd : ∀ a, R a → R' a
  gg : Same G G'
theorem Stays.sub {as bs : List Addr} (s : Stays G R H G' R' H' as) (h : ∀ a ∈ bs, a ∈ as) : Stays G R H G' R' H' bs := ⟨fun a vs m => s.sl a vs (h a m), s.st, s.rd, s.gg⟩
theorem seqT_stiff {K : PySem.W.Frag} {a : Addr} {vs : List V} (s : ∀ a o, H a = some o → Stiff o → H' a = some o) (h : SqT K H a vs) : SqT K H' a vs := by
  rcases h with (h | ⟨o, h⟩) | h
  · exact .inl (.inl (s _ _ h trivial))
  · exact .inl (.inr ⟨o, s _ _ h trivial⟩)
  · exact .inr h
mutual
theorem Ow.mono : ∀ (d : D) (v : V) (as : List Addr), Stays G R H G' R' H' as → Ow Γ H0 G R H d v as → Ow Γ H0 G' R' H' d v as
  | .lst ds, v, as, s, h => by
    unfold Ow at *
    obtain ⟨a, vs, bs, e, rfl, h0, g, r, hl, l⟩ := h
    obtain ⟨x, y, z⟩ := s.sl a _ (List.mem_cons_self ..) hl trivial g r
    exact ⟨a, vs, bs, e, rfl, h0, y, z, x, OwL.mono ds vs bs (s.sub fun b hb => List.mem_cons_of_mem _ hb) l⟩
  | .dic ds, v, as, s, h => by
    unfold Ow at *
    obtain ⟨a, vs, bs, e, rfl, h0, g, r, hl, l⟩ := h
    obtain ⟨x, y, z⟩ := s.sl a _ (List.mem_cons_self ..) hl trivial g r
    exact ⟨a, vs, bs, e, rfl, h0, y, z, x, OwK.mono ds vs bs (s.sub fun b hb => List.mem_cons_of_mem _ hb) l⟩
  | .tup ds, v, as, s, h => by
    unfold Ow at *
    obtain ⟨a, vs, e, q, l⟩ := h
    exact ⟨a, vs, e, seqT_stiff s.st q, OwL.mono ds vs as s l⟩
  | .non, v, as, s, h => by unfold Ow at *; exact ⟨h.1, Rp.mono s.gg s.rd _ _ h.2⟩
  | .bl b, v, as, s, h => by unfold Ow at *; exact ⟨h.1, Rp.mono s.gg s.rd _ _ h.2⟩
  | .int b, v, as, s, h => by unfold Ow at *; exact ⟨h.1, Rp.mono s.gg s.rd _ _ h.2⟩
  | .str b, v, as, s, h => by unfold Ow at *; exact ⟨h.1, Rp.mono s.gg s.rd _ _ h.2⟩
  | .scr b, v, as, s, h => by unfold Ow at *; exact ⟨h.1, Rp.mono s.gg s.rd _ _ h.2⟩
  | .rd, v, as, s, h => by unfold Ow at *; exact ⟨h.1, Rp.mono s.gg s.rd _ _ h.2⟩
  | .ins b c, v, as, s, h => by unfold Ow at *; exact ⟨h.1, Rp.mono s.gg s.rd _ _ h.2⟩
  | .exc b c, v, as, s, h => by unfold Ow at *; exact ⟨h.1, Rp.mono s.gg s.rd _ _ h.2⟩
  | .nms b, v, as, s, h => by unfold Ow at *; exact ⟨h.1, Rp.mono s.gg s.rd _ _ h.2⟩
  | .any, v, as, s, h => by unfold Ow at *; exact ⟨h.1, Rp.mono s.gg s.rd _ _ h.2⟩
  | .fr d, v, as, s, h => by unfold Ow at *; exact ⟨h.1, Rp.mono s.gg s.rd _ _ h.2⟩
  | .raw d, v, as, s, h => by unfold Ow at *; exact ⟨h.1, Rp.mono s.gg s.rd _ _ h.2⟩
theorem OwL.mono : ∀ (ds : List D) (vs : List V) (as : List Addr), Stays G R H G' R' H' as → OwL Γ H0 G R H ds vs as → OwL Γ H0 G' R' H' ds vs as
  | [], vs, as, s, h => by unfold OwL at *; exact h
  | d :: ds, vs, as, s, h => by
    unfold OwL at *
    obtain ⟨v, r, bs, cs, e, rfl, h1, h2⟩ := h
    exact ⟨v, r, bs, cs, e, rfl, Ow.mono d v bs (s.sub fun a m => List.mem_append_left _ m) h1, OwL.mono ds r cs (s.sub fun a m => List.mem_append_right _ m) h2⟩
theorem OwK.mono : ∀ (ds : List (Key × D)) (vs : List (Key × V)) (as : List Addr), Stays G R H G' R' H' as → OwK Γ H0 G R H ds vs as → OwK Γ H0 G' R' H' ds vs as
  | [], vs, as, s, h => by unfold OwK at *; exact h
  | (x, d) :: ds, vs, as, s, h => by
    unfold OwK at *
    obtain ⟨v, r, bs, cs, e, rfl, h1, h2⟩ := h
    exact ⟨v, r, bs, cs, e, rfl, Ow.mono d v bs (s.sub fun a m => List.mem_append_left _ m) h1, OwK.mono ds r cs (s.sub fun a m => List.mem_append_right _ m) h2⟩
end
mutual
theorem Ow.fresh : ∀ (d : D) (v : V) (as : List Addr), Ow Γ H0 G R H d v as → ∀ a ∈ as, H0 a = none ∧ G a = none ∧ ¬ R a ∧ ∃ o, H a = some o ∧ Open o
  | .lst ds, v, as, h, b, hb => by
    unfold Ow at h
    obtain ⟨a, vs, bs, e, rfl, h0, g, r, hl, l⟩ := h
    rcases List.mem_cons.mp hb with rfl | hb
    · exact ⟨h0, g, r, _, hl, trivial⟩
    · exact OwL.fresh ds vs bs l b hb
  | .dic ds, v, as, h, b, hb => by
    unfold Ow at h
    obtain ⟨a, vs, bs, e, rfl, h0, g, r, hl, l⟩ := h
    rcases List.mem_cons.mp hb with rfl | hb
    · exact ⟨h0, g, r, _, hl, trivial⟩
    · exact OwK.fresh ds vs bs l b hb
  | .tup ds, v, as, h, b, hb => by
    unfold Ow at h
    obtain ⟨a, vs, e, q, l⟩ := h
    exact OwL.fresh ds vs as l b hb
  | .non, v, as, h, x, hb => by unfold Ow at h; rw [h.1] at hb; exact absurd hb List.not_mem_nil
  | .bl b, v, as, h, x, hb => by unfold Ow at h; rw [h.1] at hb; exact absurd hb List.not_mem_nil
  | .int b, v, as, h, x, hb => by unfold Ow at h; rw [h.1] at hb; exact absurd hb List.not_mem_nil
  | .str b, v, as, h, x, hb => by unfold Ow at h; rw [h.1] at hb; exact absurd hb List.not_mem_nil
  | .scr b, v, as, h, x, hb => by unfold Ow at h; rw [h.1] at hb; exact absurd hb List.not_mem_nil
  | .rd, v, as, h, x, hb => by unfold Ow at h; rw [h.1] at hb; exact absurd hb List.not_mem_nil
  | .ins b c, v, as, h, x, hb => by unfold Ow at h; rw [h.1] at hb; exact absurd hb List.not_mem_nil
  | .exc b c, v, as, h, x, hb => by unfold Ow at h; rw [h.1] at hb; exact absurd hb List.not_mem_nil
  | .nms b, v, as, h, x, hb => by unfold Ow at h; rw [h.1] at hb; exact absurd hb List.not_mem_nil
  | .any, v, as, h, x, hb => by unfold Ow at h; rw [h.1] at hb; exact absurd hb List.not_mem_nil
  | .fr d, v, as, h, x, hb => by unfold Ow at h; rw [h.1] at hb; exact absurd hb List.not_mem_nil
  | .raw d, v, as, h, x, hb => by unfold Ow at h; rw [h.1] at hb; exact absurd hb List.not_mem_nil
theorem OwL.fresh : ∀ (ds : List D) (vs : List V) (as : List Addr), OwL Γ H0 G R H ds vs as → ∀ a ∈ as, H0 a = none ∧ G a = none ∧ ¬ R a ∧ ∃ o, H a = some o ∧ Open o
  | [], vs, as, h, b, hb => by unfold OwL at h; rw [h.2] at hb; exact absurd hb List.not_mem_nil
  | d :: ds, vs, as, h, b, hb => by
    unfold OwL at h
    obtain ⟨v, r, bs, cs, e, rfl, h1, h2⟩ := h
    rcases List.mem_append.mp hb with hb | hb
    · exact Ow.fresh d v bs h1 b hb
    · exact OwL.fresh ds r cs h2 b hb
theorem OwK.fresh : ∀ (ds : List (Key × D)) (vs : List (Key × V)) (as : List Addr), OwK Γ H0 G R H ds vs as → ∀ a ∈ as, H0 a = none ∧ G a = none ∧ ¬ R a ∧ ∃ o, H a = some o ∧ Open o
  | [], vs, as, h, b, hb => by unfold OwK at h; rw [h.2] at hb; exact absurd hb List.not_mem_nil
  | (x, d) :: ds, vs, as, h, b, hb => by
    unfold OwK at h
    obtain ⟨v, r, bs, cs, e, rfl, h1, h2⟩ := h
    rcases List.mem_append.mp hb with hb | hb
    · exact Ow.fresh d v bs h1 b hb
    · exact OwK.fresh ds r cs h2 b hb
end
end
inductive S where | un | fz (d : D) | op (ds : List D) | io (a : Addr) (c : Str) (fs : List (Str × D)) | ex (a : Addr) (d : Option Addr) (c : Str) (fs : List (Str × D)) | ow (v : V) (as : List Addr) (d : D) | se (d : D)
open Classical in
noncomputable def viewO (H0 G : Hp) (R : Addr → Prop) (H : Hp) : Hp := fun b => match H b with
  | some o => if G b = some o ∨ Stiff o ∨ (¬ R b ∧ H0 b ≠ none ∧ Open o) then some o else none
  | none => none
theorem viewO_iff {H0 G : Hp} {R : Addr → Prop} {H : Hp} {b : Addr} {o : HO} : viewO H0 G R H b = some o ↔ H b = some o ∧ (G b = some o ∨ Stiff o ∨ (¬ R b ∧ H0 b ≠ none ∧ Open o)) := by
  unfold viewO
  cases q : H b with
  | none => simp
  | some u =>
    simp only
    split
    · rename_i h
      refine ⟨fun e => ?_, fun e => e.1⟩
      cases e
      exact ⟨rfl, h⟩
    · rename_i h
      refine ⟨(fun e => nomatch e), fun ⟨e, z⟩ => ?_⟩
      cases e
      exact absurd z h
theorem viewO_same {H0 G : Hp} {R : Addr → Prop} {H : Hp} (g : Same G H) : Same G (viewO H0 G R H) := fun b o e => viewO_iff.mpr ⟨g b o e, .inl e⟩
def S.fpt : S → Option V → List Addr
  | .op _, some (.ref l) => [l]
  | .io a _ _, _ => [a]
  | .ow _ as _, _ => as
  | _, _ => []
abbrev En := List S
abbrev XQ := Str → List (Str × D) → Prop
abbrev DE := XQ → En → (D → Prop) → Prop
abbrev DT := XQ → En → (Bool → Prop) → Prop
abbrev DA := XQ → En → (List D → Prop) → Prop
structure DK where
  nx : En → Prop
  rt : D → En → Prop
  bk : En → Prop
  ct : En → Prop
  ex : Str → List (Str × D) → En → Prop
  ro : V → List Addr → D → En → Prop
abbrev DS := DK → En → Prop
def SlotOk (Γ : Kx) (H0 G : Hp) (R : Addr → Prop) (H : Hp) : S → Option V → Prop
  | .un, _ => True
  | .fz d, v => ∃ x, v = some x ∧ Rp Γ G R d x
  | .op ds, v => ∃ l vs, v = some (.ref l) ∧ H l = some (.lst vs) ∧ G l = none ∧ ¬ R l ∧ H0 l = none ∧ RpL Γ G R ds vs
  | .io a c fs, v => ∃ dx vs, v = some (.ref a) ∧ H a = some (.ins (Γ.C c) dx vs) ∧ G a = none ∧ ¬ R a ∧ H0 a = none ∧ RpF Γ G R fs vs
  | .ex a d _ fs, v => v = some (.ref a) ∧ ((fs = [] ∧ d = none) ∨ ∃ dd vs, d = some dd ∧ H dd = some (.xd vs) ∧ ¬ R dd ∧ RpF Γ G R fs vs)
  | .ow x as d, v => v = some x ∧ Ow Γ H0 G R H d x as ∧ as.Nodup
  | .se d, v => ∃ x, v = some x ∧ Rp Γ (viewO H0 G R H) R d x
structure Wd (Γ : Kx) (H0 G : Hp) (R : Addr → Prop) (H : Hp) (σ : St) (ρ : En) : Prop where
  gd : Gd G R H
  len : σ.length = ρ.length
  sl : ∀ (i : Nat) s, ρ[i]? = some s → ∃ v, σ[i]? = some v ∧ SlotOk Γ H0 G R H s v
  dj : ∀ (i j : Nat) (s t : S) v w a, i ≠ j → ρ[i]? = some s → ρ[j]? = some t → σ[i]? = some v → σ[j]? = some w → a ∈ s.fpt v → a ∈ t.fpt w → False
def cut (H : Hp) (as : List Addr) : Hp := fun b => if b ∈ as then none else H b
theorem cut_in {H : Hp} {as : List Addr} {a : Addr} (h : a ∈ as) : cut H as a = none := by unfold cut; rw [if_pos h]
theorem cut_out {H : Hp} {as : List Addr} {a : Addr} (h : a ∉ as) : cut H as a = H a := by unfold cut; rw [if_neg h]
theorem cut_some {H : Hp} {as : List Addr} {a : Addr} {o : HO} (h : cut H as a = some o) : a ∉ as ∧ H a = some o := by
  unfold cut at h
  split at h
  · cases h
  · rename_i n
    exact ⟨n, h⟩
def ExRep (Γ : Kx) (G : Hp) (R : Addr → Prop) (H : Hp) (c : Str) (fs : List (Str × D)) (cls : Value) (dx : Option Addr) : Prop :=
  cls = .ref (Γ.C c) ∧ ((fs = [] ∧ dx = none) ∨ (fs ≠ [] ∧ ∃ a vs, dx = some a ∧ H a = some (.xd vs) ∧ RpF Γ G R fs vs))
def Lk (Γ : Kx) (W : WX) (xq : XQ) (σ : St) (G : Hp) (R : Addr → Prop) (H : Hp) : Prop :=
  ∀ c fs G' R' H' cls dx, Nx G R H G' R' H' → xq c fs → ExRep Γ G' R' H' c fs cls dx → W cls dx σ H'
section
variable {Γ : Kx} {H0 G G1 : Hp} {R R1 : Addr → Prop} {H H1 : Hp} {σ : St} {ρ : En} {W : WX} {xq : XQ}
theorem Nx.openO (n : Nx G R H G1 R1 H1) {l : Addr} {o : HO} (h : H l = some o) (hs : ¬ Stiff o) (g : G l = none) (r : ¬ R l) : H1 l = some o ∧ G1 l = none ∧ ¬ R1 l := by
  have e := n.ev l _ h r
  refine ⟨e, ?_, fun z => (n.fr l z).elim r fun y => by rw [h] at y; cases y⟩
  cases q : G1 l with
  | none => rfl
  | some u =>
    rcases n.fg l u q with z | z | z
    · rw [g] at z; cases z
    · rw [h] at z; cases z
    · have := n.gd.sub l u q
      rw [e] at this
      cases this
      exact absurd z hs
theorem Nx.st {o : HO} {a : Addr} (n : Nx G R H G1 R1 H1) (h : H a = some o) (s : Stiff o) (g : Gd G R H) : H1 a = some o := n.ev a o h fun r => by
  obtain ⟨_, _, _, e⟩ := g.rd a r
  rw [h] at e
  cases e
  exact s.elim
theorem Nx.open_ (n : Nx G R H G1 R1 H1) {l : Addr} {vs : List V} (h : H l = some (.lst vs)) (g : G l = none) (r : ¬ R l) : H1 l = some (.lst vs) ∧ G1 l = none ∧ ¬ R1 l := by
  have e := n.ev l _ h r
  refine ⟨e, ?_, fun z => (n.fr l z).elim r fun y => by rw [h] at y; cases y⟩
  cases q : G1 l with
  | none => rfl
  | some o =>
    rcases n.fg l o q with z | z | z
    · rw [g] at z; cases z
    · rw [h] at z; cases z
    · have := n.gd.sub l o q
      rw [e] at this
      cases this
      exact z.elim
theorem viewO_nx (gd : Gd G R H) (n : Nx G R H G1 R1 H1) : Same (viewO H0 G R H) (viewO H0 G1 R1 H1) := fun b o e => by
  obtain ⟨h, z⟩ := viewO_iff.mp e
  rcases z with z | z | ⟨z1, z2, z3⟩
  · have := n.gg b o z
    exact viewO_iff.mpr ⟨n.gd.sub b o this, .inl this⟩
  · exact viewO_iff.mpr ⟨n.st h z gd, .inr (.inl z)⟩
  · exact viewO_iff.mpr ⟨n.ev b o h z1, .inr (.inr ⟨(fun y => (n.fr b y).elim z1 fun y => by rw [h] at y; cases y), z2, z3⟩)⟩
theorem viewO_upd {l : Addr} {o : HO} (h0 : H0 l = none) (g : G l = none) (hs : ∀ u, H l = some u → ¬ Stiff u) : Same (viewO H0 G R H) (viewO H0 G R (upd H l o)) := fun b u e => by
  obtain ⟨h, z⟩ := viewO_iff.mp e
  have ne : b ≠ l := fun q => by
    subst q
    rcases z with z | z | z
    · rw [g] at z; cases z
    · exact hs u h z
    · exact z.2.1 h0
  exact viewO_iff.mpr ⟨by rw [upd_ne ne]; exact h, z⟩
theorem SlotOk.nx (gd : Gd G R H) (n : Nx G R H G1 R1 H1) : ∀ {s : S} {v : Option V}, SlotOk Γ H0 G R H s v → SlotOk Γ H0 G1 R1 H1 s v
  | .un, _, _ => True.intro
  | .fz d, _, ⟨x, e, h⟩ => ⟨x, e, Rp.mono n.gg n.rr d x h⟩
  | .op ds, _, ⟨l, vs, e, h, g, r, h0, q⟩ => by
    obtain ⟨a, b, c⟩ := n.open_ h g r
    exact ⟨l, vs, e, a, b, c, h0, RpL.mono n.gg n.rr ds vs q⟩
  | .io a _ fs, _, ⟨dx, vs, e, h, g, r, h0, q⟩ => by
    obtain ⟨x, y, z⟩ := n.openO h (fun t => t) g r
    exact ⟨dx, vs, e, x, y, z, h0, RpF.mono n.gg n.rr fs vs q⟩
  | .ex _ _ _ fs, _, ⟨e, h⟩ => by
    refine ⟨e, h.imp id fun ⟨dd, vs, e1, e2, r, q⟩ => ⟨dd, vs, e1, n.ev dd _ e2 r, fun z => (n.fr dd z).elim r (fun y => by rw [e2] at y; cases y), RpF.mono n.gg n.rr fs vs q⟩⟩
  | .ow _ as d, _, ⟨e, h, nd⟩ => ⟨e, Ow.mono d _ as ⟨fun a o _ h s g r => n.openO h s.stiff g r, fun a o h s => n.st h s gd, n.rr, n.gg⟩ h, nd⟩
  | .se d, _, ⟨x, e, h⟩ => ⟨x, e, Rp.mono (viewO_nx gd n) n.rr d x h⟩
theorem Wd.nx (w : Wd Γ H0 G R H σ ρ) (n : Nx G R H G1 R1 H1) : Wd Γ H0 G1 R1 H1 σ ρ :=
  ⟨n.gd, w.len, fun i s e => by
    obtain ⟨v, e2, h⟩ := w.sl i s e
    exact ⟨v, e2, h.nx w.gd n⟩, w.dj⟩
theorem Lk.nx (k : Lk Γ W xq σ G R H) (n : Nx G R H G1 R1 H1) : Lk Γ W xq σ G1 R1 H1 := fun c fs G' R' H' cls dx m => k c fs G' R' H' cls dx (n.trans m)
end
def RpQ (Γ : Kx) (G : Hp) (R : Addr → Prop) (H : Hp) : D → V → Prop
  | .lst ds, v => ∃ a vs, v = .ref a ∧ (G a = some (.lst vs) ∨ (H a = some (.lst vs) ∧ G a = none ∧ ¬ R a)) ∧ RpL Γ G R ds vs
  | d, v => Rp Γ G R d v
section
variable {Γ : Kx} {G G1 : Hp} {R R1 : Addr → Prop} {H H1 : Hp}
theorem Rp.q {d : D} {v : V} (h : Rp Γ G R d v) : RpQ Γ G R H d v := by
  cases d <;> first | exact h | skip
  unfold Rp at h
  obtain ⟨a, vs, e, s, l⟩ := h
  exact ⟨a, vs, e, .inl s, l⟩
theorem RpQ.nx (n : Nx G R H G1 R1 H1) {d : D} {v : V} (h : RpQ Γ G R H d v) : RpQ Γ G1 R1 H1 d v := by
  cases d with
  | lst ds =>
    obtain ⟨a, vs, e, s, l⟩ := h
    refine ⟨a, vs, e, ?_, RpL.mono n.gg n.rr ds vs l⟩
    rcases s with s | ⟨a1, a2, a3⟩
    · exact .inl (n.gg _ _ s)
    · exact .inr (n.open_ a1 a2 a3)
  | _ => exact Rp.mono n.gg n.rr _ _ h
theorem RpQ.lst (g : Gd G R H) {ds : List D} {v : V} (h : RpQ Γ G R H (.lst ds) v) : ∃ a vs, v = .ref a ∧ H a = some (.lst vs) ∧ RpL Γ G R ds vs := by
  obtain ⟨a, vs, e, s, l⟩ := h
  rcases s with s | ⟨a1, a2, a3⟩
  · exact ⟨a, vs, e, g.sub _ _ s, l⟩
  · exact ⟨a, vs, e, a1, l⟩
theorem RpQ.scr (g : Gd G R H) {ns : List Int} {v : V} (h : RpQ Γ G R H (.scr ns) v) : ∃ a, v = .ref a ∧ SqL Γ.K H a (ns.map V.int) := by
  have h' : Rp Γ G R (.scr ns) v := h
  unfold Rp at h'
  obtain ⟨a, e, s⟩ := h'
  exact ⟨a, e, g.sub.seq s⟩
theorem RpQ.tup (g : Gd G R H) {ds : List D} {v : V} (h : RpQ Γ G R H (.tup ds) v) : ∃ a vs, v = .ref a ∧ SqT Γ.K H a vs ∧ RpL Γ G R ds vs := by
  have h' : Rp Γ G R (.tup ds) v := h
  unfold Rp at h'
  obtain ⟨a, vs, e, s, l⟩ := h'
  exact ⟨a, vs, e, Same.seqT g.sub s, l⟩
theorem RpQ.all (g : Gd G R H) {d : D} {v : V} (h : RpQ Γ G R H d v) : Rp Γ H R d v := by
  cases d with
  | lst ds =>
    obtain ⟨a, vs, e, s, l⟩ := h.lst g
    unfold Rp
    exact ⟨a, vs, e, s, RpL.mono g.sub (fun _ h => h) ds vs l⟩
  | _ => exact Rp.mono g.sub (fun _ h => h) _ _ h
theorem Rp.own (g : Gd G R H) {d : D} {v : V} (m : immB d = true) (h : Rp Γ H R d v) : Rp Γ (satur G H) R d v := Rp.imm (satur_tups g.sub) (fun _ h => h) d v m h
end
section
variable (Γ : Kx) (W : WX)
def JE (te : TE) (fe : DE) : Prop := ∀ (H0 G : Hp) (R : Addr → Prop) (H : Hp) (σ : St) (ρ : En) (xq : XQ) (Qd : D → Prop) (Q : VK), Wd Γ H0 G R H σ ρ → Lk Γ W xq σ G R H → fe xq ρ Qd →
  (∀ v G' R' H' d, Nx G R H G' R' H' → Rp Γ G' R' d v → Qd d → Q v H') → te σ H Q
def JQ (te : TE) (fe : DE) : Prop := ∀ (H0 G : Hp) (R : Addr → Prop) (H : Hp) (σ : St) (ρ : En) (xq : XQ) (Qd : D → Prop) (Q : VK), Wd Γ H0 G R H σ ρ → Lk Γ W xq σ G R H → fe xq ρ Qd →
  (∀ v G' R' H' d, Nx G R H G' R' H' → RpQ Γ G' R' H' d v → Qd d → Q v H') → te σ H Q
def JN (te : TE) (fe : DA) : Prop := ∀ (H0 G : Hp) (R : Addr → Prop) (H : Hp) (σ : St) (ρ : En) (xq : XQ) (Qd : List D → Prop) (Q : VK), Wd Γ H0 G R H σ ρ → Lk Γ W xq σ G R H → fe xq ρ Qd →
  (∀ l vs G' R' H' ds, Nx G R H G' R' H' → H' l = some (.lst vs) → G' l = none → ¬ R' l → H l = none → RpL Γ G' R' ds vs → Qd ds → Q (.ref l) H') → te σ H Q
def JT (tt : TT) (ft : DT) : Prop := ∀ (H0 G : Hp) (R : Addr → Prop) (H : Hp) (σ : St) (ρ : En) (xq : XQ) (Qd : Bool → Prop) (Q : Bool → Hp → Prop), Wd Γ H0 G R H σ ρ → Lk Γ W xq σ G R H → ft xq ρ Qd →
  (∀ b G' R' H', Nx G R H G' R' H' → Qd b → Q b H') → tt σ H Q
def JA (ta : TA) (fa : DA) : Prop := ∀ (H0 G : Hp) (R : Addr → Prop) (H : Hp) (σ : St) (ρ : En) (xq : XQ) (Qd : List D → Prop) (Q : List V → Hp → Prop), Wd Γ H0 G R H σ ρ → Lk Γ W xq σ G R H → fa xq ρ Qd →
  (∀ vs G' R' H' ds, Nx G R H G' R' H' → RpL Γ G' R' ds vs → Qd ds → Q vs H') → ta σ H Q
end
structure EndsOk (Γ : Kx) (W : WX) (G0 : Hp) (R0 : Addr → Prop) (H0 : Hp) (k : DK) (D : Ends) : Prop where
  nx : ∀ G R H σ ρ, Nx G0 R0 H0 G R H → Wd Γ H0 G R H σ ρ → k.nx ρ → D.nx σ H
  rt : ∀ v d G R H σ ρ, Nx G0 R0 H0 G R H → Wd Γ H0 G R H σ ρ → Rp Γ G R d v → k.rt d ρ → D.rt v H
  bk : ∀ G R H σ ρ, Nx G0 R0 H0 G R H → Wd Γ H0 G R H σ ρ → k.bk ρ → D.bk σ H
  ct : ∀ G R H σ ρ, Nx G0 R0 H0 G R H → Wd Γ H0 G R H σ ρ → k.ct ρ → D.ct σ H
  ex : ∀ c fs cls dx G R H σ ρ, Nx G0 R0 H0 G R H → Wd Γ H0 G R H σ ρ → k.ex c fs ρ → ExRep Γ G R H c fs cls dx → W cls dx σ H
  ro : ∀ v as d G R H σ ρ, Nx G0 R0 H0 G R (cut H as) → Wd Γ H0 G R (cut H as) σ ρ → Ow Γ H0 G R H d v as → as.Nodup → k.ro v as d ρ → D.rt v H
def JS (Γ : Kx) (W : WX) (ts : TS) (fs : DS) : Prop := ∀ (G0 : Hp) (R0 : Addr → Prop) (H0 G : Hp) (R : Addr → Prop) (H : Hp) (σ : St) (ρ : En) (k : DK) (D : Ends),
  Nx G0 R0 H0 G R H → Wd Γ H0 G R H σ ρ → EndsOk Γ W G0 R0 H0 k D → fs k ρ → ts D σ H
section
variable {Γ : Kx} {W : WX} {G0 G : Hp} {R0 R : Addr → Prop} {H0 H : Hp} {k : DK} {D : Ends} {σ : St} {ρ : En}
theorem EndsOk.lk (e : EndsOk Γ W G0 R0 H0 k D) (n : Nx G0 R0 H0 G R H) (w : Wd Γ H0 G R H σ ρ) : Lk Γ W (fun c fs => k.ex c fs ρ) σ G R H :=
  fun c fs G' R' H' cls dx m x r => e.ex c fs cls dx G' R' H' σ ρ (n.trans m) (w.nx m) x r
end
def dVar (i : Nat) : DE := fun _ ρ Q => match ρ[i]? with
  | some (.fz d) => Q d
  | _ => False
def dVarQ (i : Nat) : DE := fun _ ρ Q => match ρ[i]? with
  | some (.fz d) => Q d
  | some (.op ds) => Q (.lst ds)
  | _ => False
def dC (d : D) : DE := fun _ _ Q => Q d
section
variable {Γ : Kx} {W : WX} {te : TE} {fe : DE}
theorem JE.q (h : JE Γ W te fe) : JQ Γ W te fe := fun H0 G R H σ ρ xq Qd Q w x f k => h H0 G R H σ ρ xq Qd Q w x f fun v G' R' H' d n r q => k v G' R' H' d n r.q q
def dImm (fe : DE) : DE := fun xq ρ Q => fe xq ρ fun d => immB d = true ∧ Q d
theorem JQ.own (h : JQ Γ W te fe) : JE Γ W te (dImm fe) := fun H0 G R H σ ρ xq Qd Q w x f k =>
  h H0 G R H σ ρ xq _ Q w x f fun v G' R' H' d n r q => k v _ R' H' d n.satur (Rp.own n.gd q.1 (r.all n.gd)) q.2
def dLst (fa : DA) : DE := fun xq ρ Q => fa xq ρ fun ds => Q (.lst ds)
theorem JN.e {fa : DA} (h : JN Γ W te fa) : JE Γ W te (dLst fa) := fun H0 G R H σ ρ xq Qd Q w x f k =>
  h H0 G R H σ ρ xq _ Q w x f fun l vs G' R' H' ds n e g r h0 rl q => by
    have n2 : Nx G R H (upd G' l (.lst vs)) R' H' := n.freeze e g r h0
    refine k (.ref l) _ R' H' (.lst ds) n2 ?_ q
    unfold Rp
    have g2 : Same G' (upd G' l (.lst vs)) := fun b u z => by rw [upd_ne (ne_of_none z g)]; exact z
    exact ⟨l, vs, rfl, upd_same, RpL.mono g2 (fun _ h => h) ds vs rl⟩
theorem je_var {i : Nat} : JE Γ W (tVar i) (dVar i) := fun H0 G R H σ ρ xq Qd Q w x f k => by
  unfold dVar at f
  split at f
  · rename_i d e
    obtain ⟨v, e2, y, rfl, r⟩ := w.sl i _ e
    exact ⟨y, e2, k y G R H d (Nx.refl w.gd) r f⟩
  · exact f.elim
theorem je_int {i : Int} : JE Γ W (tC (.int i)) (dC (.int i)) := fun H0 G R H σ ρ xq Qd Q w x f k => k _ G R H _ (Nx.refl w.gd) (by unfold Rp; rfl) f
theorem je_str {s : Str} : JE Γ W (tC (.str s)) (dC (.str s)) := fun H0 G R H σ ρ xq Qd Q w x f k => k _ G R H _ (Nx.refl w.gd) (by unfold Rp; rfl) f
theorem je_bl {b : Bool} : JE Γ W (tC (.bl b)) (dC (.bl b)) := fun H0 G R H σ ρ xq Qd Q w x f k => k _ G R H _ (Nx.refl w.gd) (by unfold Rp; rfl) f
end
end Dl
namespace Dl
open PySem PySem.Spec PyProof.Rows L2
section
variable (Γ : Kx)
def U1 (r : V → Hp → VK → Prop) (g : D → (D → Prop) → Prop) : Prop := ∀ (G : Hp) (R : Addr → Prop) (H : Hp) (d : D) (v : V) (Qd : D → Prop) (Q : VK), Gd G R H → RpQ Γ G R H d v → g d Qd →
  (∀ w G' R' H' c, Nx G R H G' R' H' → Rp Γ G' R' c w → Qd c → Q w H') → r v H Q
def U2 (r : R2) (g : D → D → (D → Prop) → Prop) : Prop := ∀ (G : Hp) (R : Addr → Prop) (H : Hp) (d e : D) (v u : V) (Qd : D → Prop) (Q : VK), Gd G R H → RpQ Γ G R H d v → RpQ Γ G R H e u → g d e Qd →
  (∀ w G' R' H' c, Nx G R H G' R' H' → Rp Γ G' R' c w → Qd c → Q w H') → r v u H Q
end
def d1 (g : D → (D → Prop) → Prop) (fa : DE) : DE := fun xq ρ Q => fa xq ρ fun x => g x Q
def d2 (g : D → D → (D → Prop) → Prop) (fa fb : DE) : DE := fun xq ρ Q => fa xq ρ fun x => fb xq ρ fun y => g x y Q
def n1 (g : D → (List D → Prop) → Prop) (fa : DE) : DA := fun xq ρ Q => fa xq ρ fun x => g x Q
def n2 (g : D → D → (List D → Prop) → Prop) (fa fb : DE) : DA := fun xq ρ Q => fa xq ρ fun x => fb xq ρ fun y => g x y Q
section
variable {Γ : Kx} {W : WX} {ta tb : TE} {fa fb : DE}
theorem je_op {r : R2} {g : D → D → (D → Prop) → Prop} (u : U2 Γ r g) (a : JQ Γ W ta fa) (b : JQ Γ W tb fb) : JE Γ W (tOp r ta tb) (d2 g fa fb) := fun H0 G R H σ ρ xq Qd Q w x f k =>
  a H0 G R H σ ρ xq _ _ w x f fun v1 G1 R1 H1 d1 n1 r1 q1 => b H0 G1 R1 H1 σ ρ xq _ _ (w.nx n1) (x.nx n1) q1 fun v2 G2 R2 H2 d2 n2 r2 q2 =>
    u G2 R2 H2 d1 d2 v1 v2 Qd Q n2.gd (r1.nx n2) r2 q2 fun w' G' R' H' c n r q => k w' G' R' H' c ((n1.trans n2).trans n) r q
theorem je_cb1 {r : List V → Hp → VK → Prop} {g : D → (D → Prop) → Prop} (u : U1 Γ (fun v H Q => r [v] H Q) g) (a : JQ Γ W ta fa) : JE Γ W (tCB r (tCons ta tNil)) (d1 g fa) := fun H0 G R H σ ρ xq Qd Q w x f k =>
  a H0 G R H σ ρ xq _ _ w x f fun v1 G1 R1 H1 d1 n1 r1 q1 => u G1 R1 H1 d1 v1 Qd Q n1.gd r1 q1 fun w' G' R' H' c n r q => k w' G' R' H' c (n1.trans n) r q
end
theorem JQ.imp {Γ : Kx} {W : WX} {te : TE} {fe fe' : DE} (h : JQ Γ W te fe) (i : ∀ xq ρ Q, fe' xq ρ Q → fe xq ρ Q) : JQ Γ W te fe' := fun H0 G R H σ ρ xq Qd Q w x f k => h H0 G R H σ ρ xq Qd Q w x (i _ _ _ f) k
theorem JE.imp {Γ : Kx} {W : WX} {te : TE} {fe fe' : DE} (h : JE Γ W te fe) (i : ∀ xq ρ Q, fe' xq ρ Q → fe xq ρ Q) : JE Γ W te fe' := fun H0 G R H σ ρ xq Qd Q w x f k => h H0 G R H σ ρ xq Qd Q w x (i _ _ _ f) k
section
variable {Γ : Kx} {G : Hp} {R : Addr → Prop} {H : Hp} {v : V}
theorem RpQ.int {i : Int} (h : RpQ Γ G R H (.int i) v) : v = .int i := by
  have h' : Rp Γ G R (.int i) v := h
  unfold Rp at h'; exact h'
theorem RpQ.bl {i : Bool} (h : RpQ Γ G R H (.bl i) v) : v = .bl i := by
  have h' : Rp Γ G R (.bl i) v := h
  unfold Rp at h'; exact h'
theorem RpQ.str {i : Str} (h : RpQ Γ G R H (.str i) v) : v = .str i := by
  have h' : Rp Γ G R (.str i) v := h
  unfold Rp at h'; exact h'
theorem RpQ.non (h : RpQ Γ G R H .non v) : v = .non := by
  have h' : Rp Γ G R .non v := h
  unfold Rp at h'; exact h'
theorem rp_int {i : Int} : Rp Γ G R (.int i) (.int i) := by unfold Rp; rfl
theorem rp_bl {i : Bool} : Rp Γ G R (.bl i) (.bl i) := by unfold Rp; rfl
theorem rp_str {i : Str} : Rp Γ G R (.str i) (.str i) := by unfold Rp; rfl
theorem rp_non : Rp Γ G R .non .non := by unfold Rp; rfl
theorem new_tup (g : Gd G R H) {ds : List D} {vs : List V} (r : RpL Γ G R ds vs) {Qd : D → Prop} {Q : VK} (q : Qd (.tup ds)) (k : ∀ w G' R' H' c, Nx G R H G' R' H' → Rp Γ G' R' c w → Qd c → Q w H') :
    ∀ p, H p = none → Q (.ref p) (upd H p (.tup vs)) := fun p hp => by
  refine k (.ref p) (upd G p (.tup vs)) R _ (.tup ds) (Nx.newG g _ hp) ?_ q
  unfold Rp
  exact ⟨p, vs, rfl, SqT.of upd_same, RpL.mono (Nx.newG g _ hp).gg (fun _ h => h) ds vs r⟩
theorem new_lst (g : Gd G R H) {ds : List D} {vs : List V} (r : RpL Γ G R ds vs) {Qd : D → Prop} {Q : VK} (q : Qd (.lst ds)) (k : ∀ w G' R' H' c, Nx G R H G' R' H' → Rp Γ G' R' c w → Qd c → Q w H') :
    ∀ p, H p = none → Q (.ref p) (upd H p (.lst vs)) := fun p hp => by
  refine k (.ref p) (upd G p (.lst vs)) R _ (.lst ds) (Nx.newG g _ hp) ?_ q
  unfold Rp
  exact ⟨p, vs, rfl, upd_same, RpL.mono (Nx.newG g _ hp).gg (fun _ h => h) ds vs r⟩
theorem new_open (g : Gd G R H) {ds : List D} {vs : List V} (r : RpL Γ G R ds vs) {Qd : List D → Prop} {Q : VK} (q : Qd ds)
    (k : ∀ l vs G' R' H' ds, Nx G R H G' R' H' → H' l = some (.lst vs) → G' l = none → ¬ R' l → H l = none → RpL Γ G' R' ds vs → Qd ds → Q (.ref l) H') :
    ∀ p, H p = none → Q (.ref p) (upd H p (.lst vs)) := fun p hp => k p vs G R _ ds (Nx.new g _ hp) upd_same (g.fresh hp).1 (g.fresh hp).2 hp r q
end
def gI2 (C : Int → Int → Prop) (o : Int → Int → D) (x y : D) (Q : D → Prop) : Prop := match x, y with
  | .int i, .int j => C i j ∧ Q (o i j)
  | _, _ => False
theorem u2_int {Γ : Kx} {C : Int → Int → Prop} {o : Int → Int → Int} : U2 Γ (rI C fun i j => .int (o i j)) (gI2 C fun i j => .int (o i j)) := fun G R H d e v u Qd Q gd r1 r2 g k => by
  unfold gI2 at g
  split at g
  · exact ⟨_, _, r1.int, r2.int, g.1, k _ G R H _ (Nx.refl gd) rp_int g.2⟩
  · exact g.elim
def gMns (x y : D) (Q : D → Prop) : Prop := match x, y with
  | .int i, .int j => Q (.int (i - j))
  | _, _ => False
theorem u2_sub {Γ : Kx} : U2 Γ (rI0 fun i j => .int (i - j)) gMns := fun G R H d e v u Qd Q gd r1 r2 g k => by
  unfold gMns at g
  split at g
  · exact ⟨_, _, r1.int, r2.int, k _ G R H _ (Nx.refl gd) rp_int g⟩
  · exact g.elim
def gAdd (x y : D) (Q : D → Prop) : Prop := match x, y with
  | .int i, .int j => Q (.int (i + j))
  | .str s, .str t => s.length + t.length ≤ sizeLine ∧ Q (.str (s ++ t))
  | .lst a, .lst b => a.length + b.length ≤ sizeLine ∧ Q (.lst (a ++ b))
  | .tup a, .tup b => a.length + b.length ≤ sizeLine ∧ Q (.tup (a ++ b))
  | _, _ => False
def rAddAll (K : PySem.W.Frag) : R2 := fun x y H Q => ((rI0 fun i j => .int (i + j)) x y H Q ∨ (∃ i j, x = .str i ∧ y = .str j ∧ i.length + j.length ≤ sizeLine ∧ Q (.str (i ++ j)) H)) ∨ (rCat x y H Q ∨ rCatA K x y H Q)
theorem opR_or {X : Cx} {f : Value → Value → Sem Value} {r r' : R2} (h : OpR X f r) (h' : OpR X f r') : OpR X f (fun x y H Q => r x y H Q ∨ r' x y H Q) := fun pins s σ H x y v u Q I rx ry q =>
  q.elim (h pins s σ H x y v u Q I rx ry) (h' pins s σ H x y v u Q I rx ry)
theorem op_addAll {X : Cx} : OpR X (binaryOp .Add) (rAddAll X.K) := opR_or (opR_or op_add op_add_str) (opR_or op_cat op_catA)
theorem u2_add {Γ : Kx} : U2 Γ (rAddAll Γ.K) gAdd := fun G R H d e v u Qd Q gd r1 r2 g k => by
  unfold gAdd at g
  split at g
  · exact .inl (.inl ⟨_, _, r1.int, r2.int, k _ G R H _ (Nx.refl gd) rp_int g⟩)
  · exact .inl (.inr ⟨_, _, r1.str, r2.str, g.1, k _ G R H _ (Nx.refl gd) rp_str g.2⟩)
  · obtain ⟨a, vs, e1, h1, l1⟩ := r1.lst gd
    obtain ⟨b, us, e2, h2, l2⟩ := r2.lst gd
    exact .inr (.inl ⟨a, b, vs, us, e1, e2, h1, h2, by rw [← l1.len, ← l2.len]; exact g.1, new_lst gd (l1.append l2) g.2 k⟩)
  · obtain ⟨a, vs, e1, h1, l1⟩ := r1.tup gd
    obtain ⟨b, us, e2, h2, l2⟩ := r2.tup gd
    refine .inr (.inr ⟨a, b, vs, us, e1, e2, h1, h2, by rw [← l1.len, ← l2.len]; exact g.1, fun z => ?_, fun _ z => ?_, fun _ _ => new_tup gd (l1.append l2) g.2 k⟩)
    · subst z
      have r2' : Rp Γ G R (.tup _) u := r2
      have z2 := l1.len
      rw [List.length_nil] at z2
      have z3 := List.eq_nil_of_length_eq_zero z2
      subst z3
      rw [← e2]
      exact k u G R H _ (Nx.refl gd) r2' (by simpa using g.2)
    · subst z
      have r1' : Rp Γ G R (.tup _) v := r1
      have z2 := l2.len
      rw [List.length_nil] at z2
      have z3 := List.eq_nil_of_length_eq_zero z2
      subst z3
      rw [← e1]
      exact k v G R H _ (Nx.refl gd) r1' (by simpa using g.2)
  · exact g.elim
def gCat (x y : D) (Q : List D → Prop) : Prop := match x, y with
  | .lst a, .lst b => a.length + b.length ≤ sizeLine ∧ Q (a ++ b)
  | _, _ => False
def gCmp (p : Int → Int → Bool) (x y : D) (Q : D → Prop) : Prop := match x, y with
  | .int i, .int j => Q (.bl (p i j))
  | _, _ => False
theorem u2_cmp {Γ : Kx} {p : Int → Int → Bool} : U2 Γ (rI0 fun i j => .bl (p i j)) (gCmp p) := fun G R H d e v u Qd Q gd r1 r2 g k => by
  unfold gCmp at g
  split at g
  · exact ⟨_, _, r1.int, r2.int, k _ G R H _ (Nx.refl gd) rp_bl g⟩
  · exact g.elim
def gNeg (x : D) (Q : D → Prop) : Prop := match x with
  | .int i => Q (.int (-i))
  | _ => False
mutual
def py : D → Option PyData
  | .non => some .none
  | .bl b => some (.bool b)
  | .int i => some (.int i)
  | .str s => some (.str s)
  | .tup ds => (pyL ds).map .tuple
  | .lst ds => (pyL ds).map .list
  | _ => none
def pyL : List D → Option (List PyData)
  | [] => some []
  | d :: ds => match py d, pyL ds with
    | some p, some ps => some (p :: ps)
    | _, _ => none
end
section
variable {Γ : Kx} {G : Hp} {R : Addr → Prop}
mutual
theorem Rp.dp : ∀ (d : D) (v : V) (p : PyData), Rp Γ G R d v → py d = some p → Dp Γ.K G v p
  | .non, v, p, h, e => by unfold Rp at h; unfold py at e; cases e; subst h; exact .non
  | .bl b, v, p, h, e => by unfold Rp at h; unfold py at e; cases e; subst h; exact .bl b
  | .int b, v, p, h, e => by unfold Rp at h; unfold py at e; cases e; subst h; exact .int b
  | .str b, v, p, h, e => by unfold Rp at h; unfold py at e; cases e; subst h; exact .str b
  | .tup ds, v, p, h, e => by
    unfold Rp at h
    unfold py at e
    obtain ⟨a, vs, rfl, s, l⟩ := h
    cases q : pyL ds with
    | none => rw [q] at e; cases e
    | some ps => rw [q] at e; cases e; exact .tup s (RpL.dp ds vs ps l q)
  | .lst ds, v, p, h, e => by
    unfold Rp at h
    unfold py at e
    obtain ⟨a, vs, rfl, s, l⟩ := h
    cases q : pyL ds with
    | none => rw [q] at e; cases e
    | some ps => rw [q] at e; cases e; exact .lst (SqL.of s) (RpL.dp ds vs ps l q)
  | .scr _, _, _, _, e => by unfold py at e; cases e
  | .rd, _, _, _, e => by unfold py at e; cases e
  | .ins _ _, _, _, _, e => by unfold py at e; cases e
  | .exc _ _, _, _, _, e => by unfold py at e; cases e
  | .nms _, _, _, _, e => by unfold py at e; cases e
theorem RpL.dp : ∀ (ds : List D) (vs : List V) (ps : List PyData), RpL Γ G R ds vs → pyL ds = some ps → DpAll Γ.K G vs ps
  | [], vs, ps, h, e => by unfold RpL at h; unfold pyL at e; cases e; subst h; exact .nil
  | d :: ds, vs, ps, h, e => by
    unfold RpL at h
    unfold pyL at e
    obtain ⟨v, r, rfl, h1, h2⟩ := h
    cases q1 : py d with
    | none => rw [q1] at e; cases e
    | some p =>
      cases q2 : pyL ds with
      | none => rw [q1, q2] at e; cases e
      | some ps' => rw [q1, q2] at e; cases e; exact .cons (Rp.dp d v p h1 q1) (RpL.dp ds r ps' h2 q2)
end
end
def eqOk (d : D) : Bool := match py d with
  | some p => SeqAt.shaped p
  | none => false
def deq (d e : D) : Bool := match py d, py e with
  | some p, some q => PyData.eqv p q
  | _, _ => false
def gEq (x y : D) (Q : D → Prop) : Prop := eqOk x = true ∧ eqOk y = true ∧ Q (.bl (deq x y))
def gNe (x y : D) (Q : D → Prop) : Prop := eqOk x = true ∧ eqOk y = true ∧ Q (.bl (!deq x y))
theorem eqOk_py {d : D} (h : eqOk d = true) : ∃ p, py d = some p ∧ SeqAt.shaped p = true := by
  unfold eqOk at h
  split at h
  · exact ⟨_, by assumption, h⟩
  · cases h
theorem u2_eq {Γ : Kx} : U2 Γ (rEqD Γ.K) gEq := fun G R H d e v u Qd Q gd r1 r2 g k => by
  obtain ⟨g1, g2, g3⟩ := g
  obtain ⟨p, e1, s1⟩ := eqOk_py g1
  obtain ⟨q, e2, s2⟩ := eqOk_py g2
  refine ⟨p, q, Rp.dp d v p (r1.all gd) e1, Rp.dp e u q (r2.all gd) e2, s1, s2, ?_⟩
  unfold deq at g3
  rw [e1, e2] at g3
  exact k _ G R H _ (Nx.refl gd) rp_bl g3
theorem u2_ne {Γ : Kx} : U2 Γ (rNeD Γ.K) gNe := fun G R H d e v u Qd Q gd r1 r2 g k => by
  obtain ⟨g1, g2, g3⟩ := g
  obtain ⟨p, e1, s1⟩ := eqOk_py g1
  obtain ⟨q, e2, s2⟩ := eqOk_py g2
  refine ⟨p, q, Rp.dp d v p (r1.all gd) e1, Rp.dp e u q (r2.all gd) e2, s1, s2, ?_⟩
  unfold deq at g3
  rw [e1, e2] at g3
  exact k _ G R H _ (Nx.refl gd) rp_bl g3
end Dl
namespace Dl
open PySem PySem.Spec PyProof.Rows L2
def strIn (s t : Str) : Bool := !(Builtin.Str.occurrences t s 0 t.length 1).isEmpty
def gIn (neg : Bool) (x y : D) (Q : D → Prop) : Prop := match x, y with
  | .str s, .str t => Q (.bl (if neg then !strIn s t else strIn s t))
  | x, .lst ds => eqOk x = true ∧ eqOk (.lst ds) = true ∧ Q (.bl (if neg then !(ds.any fun z => deq z x) else ds.any fun z => deq z x))
  | x, .tup ds => eqOk x = true ∧ eqOk (.tup ds) = true ∧ Q (.bl (if neg then !(ds.any fun z => deq z x) else ds.any fun z => deq z x))
  | _, _ => False
def isNon : D → Bool
  | .non => true
  | .raw u => decide (u = V.non)
  | _ => false
def gIsN (x y : D) (Q : D → Prop) : Prop := isNon y = true ∧ Q (.bl (isNon x))
def gNotN (x y : D) (Q : D → Prop) : Prop := isNon y = true ∧ Q (.bl (!isNon x))
section
variable {Γ : Kx} {G : Hp} {R : Addr → Prop}
theorem atI_map {α β : Type} {xs : List α} {ys : List β} {i : Int} {x : α} (hl : xs.length = ys.length) (h : atI xs i = some x) : ∃ j : Nat, xs[j]? = some x ∧ ∀ y, ys[j]? = some y → atI ys i = some y := by
  unfold atI at h
  cases q : ixN xs.length i with
  | none => rw [q] at h; cases h
  | some j =>
    rw [q] at h
    refine ⟨j, h, fun y hy => ?_⟩
    unfold atI
    rw [← hl, q]
    exact hy
theorem RpL.atI {ds : List D} {vs : List V} {i : Int} {d : D} (r : RpL Γ G R ds vs) (h : atI ds i = some d) : ∃ v, L2.atI vs i = some v ∧ Rp Γ G R d v := by
  obtain ⟨j, e, f⟩ := atI_map r.len h
  obtain ⟨v, e2, q⟩ := r.get e
  exact ⟨v, f v e2, q⟩
theorem RpL.take : ∀ {ds : List D} {vs : List V} (n : Nat), RpL Γ G R ds vs → RpL Γ G R (ds.take n) (vs.take n)
  | [], _, n, h => by unfold RpL at h; subst h; simp only [List.take_nil]; exact RpL.nil
  | d :: ds, vs, 0, _ => by simp only [List.take_zero]; exact RpL.nil
  | d :: ds, vs, n + 1, h => by
    unfold RpL at h
    obtain ⟨v, r, rfl, h1, h2⟩ := h
    exact RpL.cons h1 (RpL.take n h2)
theorem RpL.drop : ∀ {ds : List D} {vs : List V} (n : Nat), RpL Γ G R ds vs → RpL Γ G R (ds.drop n) (vs.drop n)
  | [], _, n, h => by unfold RpL at h; subst h; simp only [List.drop_nil]; exact RpL.nil
  | d :: ds, vs, 0, h => h
  | d :: ds, vs, n + 1, h => by
    unfold RpL at h
    obtain ⟨v, r, rfl, h1, h2⟩ := h
    exact RpL.drop n h2
end
def gIx (x y : D) (Q : D → Prop) : Prop := match x, y with
  | .lst ds, .int i => match atI ds i with
    | some d => Q d
    | none => False
  | .tup ds, .int i => match atI ds i with
    | some d => Q d
    | none => False
  | .str s, .int i => s.length ≤ sizeLine ∧ match atI s.cps.toList i with
    | some c => Q (.str ⟨#[c]⟩)
    | none => False
  | .scr ns, .int i => match atI ns i with
    | some n => Q (.int n)
    | none => False
  | .nms ys, .int i => match atI ys i with
    | some y => Q (.str y)
    | none => False
  | .rd, .int i => 0 ≤ i ∧ i < 3 ∧ ∀ n : Int, Q (.int n)
  | _, _ => False
theorem u2_ix {Γ : Kx} : U2 Γ (rIx Γ.K) gIx := fun G R H d e v u Qd Q gd r1 r2 g k => by
  unfold gIx at g
  split at g
  · obtain ⟨a, vs, e1, h1, l1⟩ := r1.lst gd
    split at g
    · rename_i q
      obtain ⟨w, e2, rw'⟩ := l1.atI q
      exact .inl ⟨a, vs, _, w, e1, r2.int, SqL.of h1, e2, k w G R H _ (Nx.refl gd) rw' g⟩
    · exact g.elim
  · obtain ⟨a, vs, e1, h1, l1⟩ := r1.tup gd
    split at g
    · rename_i q
      obtain ⟨w, e2, rw'⟩ := l1.atI q
      exact .inr (.inl ⟨a, vs, _, w, e1, r2.int, h1, e2, k w G R H _ (Nx.refl gd) rw' g⟩)
    · exact g.elim
  · obtain ⟨g1, g⟩ := g
    split at g
    · rename_i q
      exact .inr (.inr ⟨_, _, _, r1.str, r2.int, g1, q, k _ G R H _ (Nx.refl gd) rp_str g⟩)
    · exact g.elim
  · obtain ⟨a, e1, h1⟩ := r1.scr gd
    split at g
    · rename_i ns i _ n q
      obtain ⟨j, e2, f⟩ := atI_map (ys := ns.map V.int) (by simp) q
      exact .inl ⟨a, _, _, .int n, e1, r2.int, h1, f (.int n) (by rw [List.getElem?_map, e2]; rfl), k _ G R H _ (Nx.refl gd) rp_int g⟩
    · exact g.elim
  · split at g
    · rename_i ys i _ n q
      obtain ⟨j, e2, f⟩ := atI_map (ys := ys.map V.str) (by simp) q
      have r1' : Rp Γ G R (.nms ys) v := r1
      unfold Rp at r1'
      obtain ⟨a, its, e1, h1⟩ := r1'
      exact .inr (.inl ⟨a, _, _, .str n, e1, r2.int, .inl (.inr ⟨_, gd.sub _ _ h1⟩), f (.str n) (by rw [List.getElem?_map, e2]; rfl), k _ G R H _ (Nx.refl gd) rp_str g⟩)
    · exact g.elim
  · rename_i i
    have r1' : Rp Γ G R .rd v := r1
    unfold Rp at r1'
    obtain ⟨a, e1, ra⟩ := r1'
    obtain ⟨x0, x1, x2, e⟩ := gd.rd a ra
    obtain ⟨g1, g2, g3⟩ := g
    have hz : ∃ n : Int, atI [V.int x0, V.int x1, V.int x2] i = some (.int n) := by
      have : i = 0 ∨ i = 1 ∨ i = 2 := by omega
      rcases this with rfl | rfl | rfl
      · exact ⟨x0, rfl⟩
      · exact ⟨x1, rfl⟩
      · exact ⟨x2, rfl⟩
    obtain ⟨n, hn⟩ := hz
    exact .inl ⟨a, _, _, .int n, e1, r2.int, SqL.of e, hn, k _ G R H _ (Nx.refl gd) rp_int (g3 n)⟩
  · exact g.elim
def cutD {α : Type} (xs : List α) (lo hi : Option Int) : List α := (xs.drop (HT.sIx xs.length 0 lo)).take (HT.sIx xs.length xs.length hi - HT.sIx xs.length 0 lo)
theorem RpL.cut {Γ : Kx} {G : Hp} {R : Addr → Prop} {ds : List D} {vs : List V} (lo hi : Option Int) (r : RpL Γ G R ds vs) : RpL Γ G R (cutD ds lo hi) (cutV vs lo hi) := by
  unfold cutD cutV
  rw [r.len]
  exact (r.drop _).take _
def gSl (x : D) (lo hi : Option Int) (Q : D → Prop) : Prop := match x with
  | .lst ds => Q (.lst (cutD ds lo hi))
  | .tup ds => Q (.tup (cutD ds lo hi))
  | .str s => s.length ≤ sizeLine ∧ Q (.str (cutS s lo hi))
  | _ => False
def gSlN (x : D) (lo hi : Option Int) (Q : List D → Prop) : Prop := match x with
  | .lst ds => Q (cutD ds lo hi)
  | _ => False
abbrev DO := XQ → En → (Option Int → Prop) → Prop
def oNo : DO := fun _ _ Q => Q none
def oSome (fe : DE) : DO := fun xq ρ Q => fe xq ρ fun d => match d with
  | .int i => Q (some i)
  | _ => False
section
variable {Γ : Kx} {W : WX} {te : TE} {fe : DE} {tl th : TO} {fl fh : DO}
end
def gLen (x : D) (Q : D → Prop) : Prop := match x with
  | .lst ds => Q (.int ds.length)
  | .tup ds => Q (.int ds.length)
  | .scr ns => Q (.int ns.length)
  | .str s => s.length ≤ sizeLine ∧ Q (.int s.length)
  | .nms ys => Q (.int ys.length)
  | _ => False
theorem u1_len {Γ : Kx} : U1 Γ (fun v H Q => ∃ x n, [v] = [x] ∧ LenV Γ.K x H n ∧ Q (.int n) H) gLen := fun G R H d v Qd Q gd r1 g k => by
  unfold gLen at g
  split at g
  · obtain ⟨a, vs, e1, h1, l1⟩ := r1.lst gd
    exact ⟨v, _, rfl, by rw [e1]; exact .inl ⟨vs, SqL.of h1, l1.len⟩, k _ G R H _ (Nx.refl gd) rp_int g⟩
  · obtain ⟨a, vs, e1, h1, l1⟩ := r1.tup gd
    exact ⟨v, _, rfl, by rw [e1]; exact .inr ⟨vs, h1, l1.len⟩, k _ G R H _ (Nx.refl gd) rp_int g⟩
  · obtain ⟨a, e1, h1⟩ := r1.scr gd
    exact ⟨v, _, rfl, by rw [e1]; exact .inl ⟨_, h1, by rw [List.length_map]⟩, k _ G R H _ (Nx.refl gd) rp_int g⟩
  · exact ⟨v, _, rfl, by rw [r1.str]; exact ⟨g.1, rfl⟩, k _ G R H _ (Nx.refl gd) rp_int g.2⟩
  · rename_i ys
    have r1' : Rp Γ G R (.nms ys) v := r1
    unfold Rp at r1'
    obtain ⟨a, its, e1, h1⟩ := r1'
    exact ⟨v, _, rfl, by rw [e1]; exact .inr ⟨ys.map V.str, .inl (.inr ⟨_, gd.sub _ _ h1⟩), (List.length_map ..).symm⟩, k _ G R H _ (Nx.refl gd) rp_int g⟩
  · exact g.elim
def gInt (x : D) (Q : D → Prop) : Prop := match x with
  | .int i => Q (.int i)
  | .bl b => Q (.int (if b then 1 else 0))
  | _ => False
theorem u1_int {Γ : Kx} : U1 Γ (fun v H Q => (∃ i, [v] = [V.int i] ∧ Q (.int i) H) ∨ ∃ k, [v] = [V.bl k] ∧ Q (.int (if k then 1 else 0)) H) gInt := fun G R H d v Qd Q gd r1 g k => by
  unfold gInt at g
  split at g
  · exact .inl ⟨_, by rw [r1.int], k _ G R H _ (Nx.refl gd) rp_int g⟩
  · exact .inr ⟨_, by rw [r1.bl], k _ G R H _ (Nx.refl gd) rp_int g⟩
  · exact g.elim
def gStr (x : D) (Q : D → Prop) : Prop := match x with
  | .int i => i.natAbs.log2 < 1920 ∧ Q (.str (toString i))
  | _ => False
def gMin (x y : D) (Q : D → Prop) : Prop := match x, y with
  | .int i, .int j => Q (.int (if j < i then j else i))
  | _, _ => False
def gMax (x y : D) (Q : D → Prop) : Prop := match x, y with
  | .int i, .int j => Q (.int (if j > i then j else i))
  | _, _ => False
def gListN (x : D) (Q : List D → Prop) : Prop := match x with
  | .lst ds => Q ds
  | .tup ds => Q ds
  | _ => False
def gTuple (x : D) (Q : D → Prop) : Prop := match x with
  | .lst ds => Q (.tup ds)
  | .tup ds => Q (.tup ds)
  | _ => False
def bls : List D → Option (List Bool)
  | [] => some []
  | .bl b :: ds => (bls ds).map (b :: ·)
  | _ :: _ => none
theorem bls_of {Γ : Kx} {G : Hp} {R : Addr → Prop} : ∀ {ds : List D} {vs : List V} {bs : List Bool}, RpL Γ G R ds vs → bls ds = some bs → vs = bs.map V.bl
  | [], vs, bs, h, e => by unfold RpL at h; unfold bls at e; cases e; subst h; rfl
  | .bl b :: ds, vs, bs, h, e => by
    unfold RpL at h
    obtain ⟨v, r, rfl, h1, h2⟩ := h
    unfold bls at e
    cases q : bls ds with
    | none => rw [q] at e; cases e
    | some bs' =>
      rw [q] at e
      cases e
      unfold Rp at h1
      rw [h1, bls_of h2 q]
      rfl
  | .non :: _, _, _, _, e => by unfold bls at e; cases e
  | .int _ :: _, _, _, _, e => by unfold bls at e; cases e
  | .str _ :: _, _, _, _, e => by unfold bls at e; cases e
  | .tup _ :: _, _, _, _, e => by unfold bls at e; cases e
  | .lst _ :: _, _, _, _, e => by unfold bls at e; cases e
  | .scr _ :: _, _, _, _, e => by unfold bls at e; cases e
  | .rd :: _, _, _, _, e => by unfold bls at e; cases e
  | .ins _ _ :: _, _, _, _, e => by unfold bls at e; cases e
  | .exc _ _ :: _, _, _, _, e => by unfold bls at e; cases e
  | .nms _ :: _, _, _, _, e => by unfold bls at e; cases e
def gAll (x : D) (Q : D → Prop) : Prop := match x with
  | .lst ds => match bls ds with
    | some bs => Q (.bl (bs.all id))
    | none => False
  | _ => False
theorem u1_all {Γ : Kx} : U1 Γ (fun v H Q => rAll Γ.K [v] H Q) gAll := fun G R H d v Qd Q gd r1 g k => by
  unfold gAll at g
  split at g
  · obtain ⟨a, vs, e1, h1, l1⟩ := r1.lst gd
    split at g
    · rename_i bs e
      exact ⟨a, bs, by rw [e1], by rw [← bls_of l1 e]; exact SqL.of h1, k _ G R H _ (Nx.refl gd) rp_bl g⟩
    · exact g.elim
  · exact g.elim
end Dl
namespace Dl
open PySem PySem.Spec PyProof.Rows L2
def dNil : DA := fun _ _ Q => Q []
def dCons (fa : DE) (fr : DA) : DA := fun xq ρ Q => fa xq ρ fun x => fr xq ρ fun xs => Q (x :: xs)
def dTup (fa : DA) : DE := fun xq ρ Q => fa xq ρ fun ds => Q (.tup ds)
section
variable {Γ : Kx} {W : WX} {te : TE} {fe : DE} {ta : TA} {fa : DA}
inductive Cnt : TA → Nat → Prop
  | nil : Cnt tNil 0
  | cons {te : TE} {ta : TA} {n : Nat} : Cnt ta n → Cnt (tCons te ta) (n + 1)
def JAn (Γ : Kx) (W : WX) (ta : TA) (fa : DA) (n : Nat) : Prop := ∀ (H0 G : Hp) (R : Addr → Prop) (H : Hp) (σ : St) (ρ : En) (xq : XQ) (Qd : List D → Prop) (Q : List V → Hp → Prop), Wd Γ H0 G R H σ ρ → Lk Γ W xq σ G R H → fa xq ρ Qd →
  (∀ vs G' R' H' ds, Nx G R H G' R' H' → RpL Γ G' R' ds vs → vs.length = n → Qd ds → Q vs H') → ta σ H Q
theorem jan_nil : JAn Γ W tNil dNil 0 := fun H0 G R H σ ρ xq Qd Q w x f k => k [] G R H [] (Nx.refl w.gd) RpL.nil rfl f
theorem jan_cons {n : Nat} (a : JE Γ W te fe) (b : JAn Γ W ta fa n) : JAn Γ W (tCons te ta) (dCons fe fa) (n + 1) := fun H0 G R H σ ρ xq Qd Q w x f k =>
  a H0 G R H σ ρ xq _ _ w x f fun v1 G1 R1 H1 d1 n1 r1 q1 => b H0 G1 R1 H1 σ ρ xq _ _ (w.nx n1) (x.nx n1) q1 fun vs G2 R2 H2 ds n2 r2 l q2 =>
    k (v1 :: vs) G2 R2 H2 (d1 :: ds) (n1.trans n2) (RpL.cons (Rp.mono n2.gg n2.rr d1 v1 r1) r2) (by rw [List.length_cons, l]) q2
theorem JAn.a {n : Nat} (h : JAn Γ W ta fa n) : JA Γ W ta fa := fun H0 G R H σ ρ xq Qd Q w x f k => h H0 G R H σ ρ xq Qd Q w x f fun vs G' R' H' ds n r _ q => k vs G' R' H' ds n r q
theorem jn_lst {n : Nat} (a : JAn Γ W ta fa n) (hn : n ≤ sizeLine) : JN Γ W (tLst ta) fa := fun H0 G R H σ ρ xq Qd Q w x f k =>
  a H0 G R H σ ρ xq _ _ w x f fun vs G1 R1 H1 ds n1 r1 l q => ⟨by rw [l]; exact hn, new_open n1.gd r1 q fun l us G' R' H' es n2 e g z h r2 q2 => k l us G' R' H' es (n1.trans n2) e g z (by
      cases y : H l with
      | none => rfl
      | some o =>
        obtain ⟨o', e'⟩ := n1.ex l o y
        rw [h] at e'; cases e') r2 q2⟩
end
abbrev DF := List D → (D → Prop) → XQ → Prop
def spD (Γ : Kx) (S : DF) : Sp := fun vs H Q E => ∃ (G : Hp) (R : Addr → Prop) (ds : List D) (Qd : D → Prop) (Xq : XQ), Gd G R H ∧ RpL Γ G R ds vs ∧ S ds Qd Xq ∧
  (∀ v G' R' H' d, Nx G R H G' R' H' → Rp Γ G' R' d v → Qd d → Q v H') ∧ ∀ c fs G' R' H' cls dx, Nx G R H G' R' H' → Xq c fs → ExRep Γ G' R' H' c fs cls dx → E cls dx H'
def dCall (S : DF) (fa : DA) : DE := fun xq ρ Q => fa xq ρ fun ds => S ds Q xq
section
variable {Γ : Kx} {W : WX} {ta : TA} {fa : DA}
theorem je_call {S : DF} (a : JA Γ W ta fa) : JE Γ W (tCallS (spD Γ S) (WE W) ta) (dCall S fa) := fun H0 G R H σ ρ xq Qd Q w x f k =>
  a H0 G R H σ ρ xq _ _ w x f fun vs G1 R1 H1 ds n1 r1 q1 => ⟨G1, R1, ds, Qd, xq, n1.gd, r1, q1, fun v G' R' H' d n r q => k v G' R' H' d (n1.trans n) r q,
    fun c fs G' R' H' cls dx n => x.nx n1 c fs G' R' H' cls dx n⟩
def immF : List (Str × D) → Bool
  | [] => true
  | (_, d) :: fs => immB d && immF fs
theorem RpF.imm {G G' : Hp} {R R' : Addr → Prop} (g : Tups G G') (r : ∀ a, R a → R' a) : ∀ (fs : List (Str × D)) (vs : List (Str × V)), immF fs = true → RpF Γ G R fs vs → RpF Γ G' R' fs vs
  | [], _, _, h => by unfold RpF at *; exact h
  | (x, d) :: fs, vs, m, h => by
    unfold RpF at *
    unfold immF at m
    rw [Bool.and_eq_true] at m
    obtain ⟨v, q, e, h1, h2⟩ := h
    exact ⟨v, q, e, Rp.imm g r d v m.1 h1, RpF.imm g r fs q m.2 h2⟩
def dCallQ (S : DF) (fa : DA) : DE := fun xq ρ Q => fa xq ρ fun ds => S ds (fun d => immB d = true ∧ Q d) fun c fs => immF fs = true ∧ xq c fs
end
def dB (fe : DE) : DT := fun xq ρ Q => fe xq ρ fun d => match d with
  | .bl b => Q b
  | _ => False
def gTru (d : D) (Q : Bool → Prop) : Prop := match d with
  | .non => Q false
  | .bl b => Q b
  | .int i => Q (i != 0)
  | .str s => s.length ≤ sizeLine ∧ Q ((s.length : Int) != 0)
  | .lst ds => Q (!ds.isEmpty)
  | .tup ds => Q (!ds.isEmpty)
  | _ => False
def dTru (fe : DE) : DT := fun xq ρ Q => fe xq ρ fun d => gTru d Q
def dNot (ft : DT) : DT := fun xq ρ Q => ft xq ρ fun b => Q (!b)
def dAnd (fa fb : DT) : DT := fun xq ρ Q => fa xq ρ fun b => if b = true then fb xq ρ Q else Q false
def dOr (fa fb : DT) : DT := fun xq ρ Q => fa xq ρ fun b => if b = true then Q true else fb xq ρ Q
def dAndV (fa : DT) (fb : DE) : DE := fun xq ρ Q => fa xq ρ fun b => if b = true then fb xq ρ Q else Q (.bl false)
def dOrV (fa : DT) (fb : DE) : DE := fun xq ρ Q => fa xq ρ fun b => if b = true then Q (.bl true) else fb xq ρ Q
def dNotV (fa : DT) : DE := fun xq ρ Q => fa xq ρ fun b => Q (.bl (!b))
def dIf (ft : DT) (fa fb : DE) : DE := fun xq ρ Q => ft xq ρ fun b => if b = true then fa xq ρ Q else fb xq ρ Q
section
variable {Γ : Kx} {W : WX} {ta tb : TE} {fa fb : DE} {t1 t2 : TT} {f1 f2 : DT}
theorem jt_b (a : JQ Γ W ta fa) : JT Γ W (tB ta) (dB fa) := fun H0 G R H σ ρ xq Qd Q w x f k =>
  a H0 G R H σ ρ xq _ _ w x f fun v G' R' H' d n r q => by
    cases d <;> first | exact q.elim | skip
    exact ⟨_, r.bl, k _ G' R' H' n q⟩
theorem tru_of {G : Hp} {R : Addr → Prop} {H : Hp} {d : D} {v : V} {Qd : Bool → Prop} (g : Gd G R H) (r : RpQ Γ G R H d v) (q : gTru d Qd) : ∃ k, TruV Γ.K v H k ∧ Qd k := by
  unfold gTru at q
  split at q
  · exact ⟨false, by rw [r.non]; exact rfl, q⟩
  · exact ⟨_, by rw [r.bl]; exact rfl, q⟩
  · exact ⟨_, by rw [r.int]; exact rfl, q⟩
  · exact ⟨_, by rw [r.str]; exact ⟨q.1, rfl⟩, q.2⟩
  · obtain ⟨a, vs, e1, h1, l1⟩ := r.lst g
    refine ⟨_, by rw [e1]; exact .inl ⟨vs, SqL.of h1, rfl⟩, ?_⟩
    have z := l1.len
    rename_i ds
    have : vs.isEmpty = ds.isEmpty := by cases ds <;> cases vs <;> first | rfl | (simp at z)
    rw [this]; exact q
  · obtain ⟨a, vs, e1, h1, l1⟩ := r.tup g
    refine ⟨_, by rw [e1]; exact .inr (.inl ⟨vs, h1, rfl⟩), ?_⟩
    have z := l1.len
    rename_i ds
    have : vs.isEmpty = ds.isEmpty := by cases ds <;> cases vs <;> first | rfl | (simp at z)
    rw [this]; exact q
  · exact q.elim
theorem jt_tru (a : JQ Γ W ta fa) : JT Γ W (fun σ H Q => ta σ H fun x H' => ∃ k, TruV Γ.K x H' k ∧ Q k H') (dTru fa) := fun H0 G R H σ ρ xq Qd Q w x f k =>
  a H0 G R H σ ρ xq _ _ w x f fun v G' R' H' d n r q => by
    obtain ⟨b, h1, h2⟩ := tru_of n.gd r q
    exact ⟨b, h1, k b G' R' H' n h2⟩
theorem jt_not (a : JT Γ W t1 f1) : JT Γ W (tNot t1) (dNot f1) := fun H0 G R H σ ρ xq Qd Q w x f k =>
  a H0 G R H σ ρ xq _ _ w x f fun b G' R' H' n q => k (!b) G' R' H' n q
theorem jt_and (a : JT Γ W t1 f1) (b : JT Γ W t2 f2) : JT Γ W (tAnd t1 t2) (dAnd f1 f2) := fun H0 G R H σ ρ xq Qd Q w x f k =>
  a H0 G R H σ ρ xq _ _ w x f fun c G' R' H' n q => by
    cases c with
    | true => exact b H0 G' R' H' σ ρ xq _ _ (w.nx n) (x.nx n) q fun c' G2 R2 H2 n2 q2 => k c' G2 R2 H2 (n.trans n2) q2
    | false => exact k false G' R' H' n q
theorem jt_or (a : JT Γ W t1 f1) (b : JT Γ W t2 f2) : JT Γ W (tOr t1 t2) (dOr f1 f2) := fun H0 G R H σ ρ xq Qd Q w x f k =>
  a H0 G R H σ ρ xq _ _ w x f fun c G' R' H' n q => by
    cases c with
    | true => exact k true G' R' H' n q
    | false => exact b H0 G' R' H' σ ρ xq _ _ (w.nx n) (x.nx n) q fun c' G2 R2 H2 n2 q2 => k c' G2 R2 H2 (n.trans n2) q2
theorem je_andV (a : JQ Γ W ta fa) (b : JE Γ W tb fb) : JE Γ W (tAndV ta tb) (dAndV (dB fa) fb) := fun H0 G R H σ ρ xq Qd Q w x f k =>
  a H0 G R H σ ρ xq _ _ w x f fun v G' R' H' d n r q => by
    cases d <;> first | exact q.elim | skip
    rename_i c
    refine ⟨c, r.bl, ?_⟩
    cases c with
    | true => exact b H0 G' R' H' σ ρ xq _ _ (w.nx n) (x.nx n) q fun v2 G2 R2 H2 d2 n2 r2 q2 => k v2 G2 R2 H2 d2 (n.trans n2) r2 q2
    | false => exact k _ G' R' H' _ n rp_bl q
theorem je_notV (a : JQ Γ W ta fa) : JE Γ W (tNotV ta) (dNotV (dB fa)) := fun H0 G R H σ ρ xq Qd Q w x f k =>
  a H0 G R H σ ρ xq _ _ w x f fun v G' R' H' d n r q => by
    cases d <;> first | exact q.elim | skip
    exact ⟨_, r.bl, k _ G' R' H' _ n rp_bl q⟩
theorem je_if (c : JT Γ W t1 f1) (a : JE Γ W ta fa) (b : JE Γ W tb fb) : JE Γ W (tIf t1 ta tb) (dIf f1 fa fb) := fun H0 G R H σ ρ xq Qd Q w x f k =>
  c H0 G R H σ ρ xq _ _ w x f fun d G' R' H' n q => by
    cases d with
    | true => exact a H0 G' R' H' σ ρ xq _ _ (w.nx n) (x.nx n) q fun v2 G2 R2 H2 d2 n2 r2 q2 => k v2 G2 R2 H2 d2 (n.trans n2) r2 q2
    | false => exact b H0 G' R' H' σ ρ xq _ _ (w.nx n) (x.nx n) q fun v2 G2 R2 H2 d2 n2 r2 q2 => k v2 G2 R2 H2 d2 (n.trans n2) r2 q2
end
def ItOk (Γ : Kx) (G : Hp) (R : Addr → Prop) (J : It) (ds : List D) : Prop := ∀ (i : Nat) (G' : Hp) (R' : Addr → Prop) (H' : Hp), Same G G' → (∀ a, R a → R' a) → Gd G' R' H' →
  (i < ds.length → J.go i H') ∧ (∀ d, ds[i]? = some d → ∀ x H'', J.yld i H' x H'' → ∃ G'', Nx G' R' H' G'' R' H'' ∧ Rp Γ G'' R' d x) ∧ (ds.length ≤ i → J.stop i H')
def JI (Γ : Kx) (W : WX) (wi : TI) (fi : DA) : Prop := ∀ (H0 G : Hp) (R : Addr → Prop) (H : Hp) (σ : St) (ρ : En) (xq : XQ) (Qd : List D → Prop) (Q : It → Hp → Prop), Wd Γ H0 G R H σ ρ → Lk Γ W xq σ G R H → fi xq ρ Qd →
  (∀ J G' R' H' ds, Nx G R H G' R' H' → ItOk Γ G' R' J ds → Qd ds → Q J H') → wi σ H Q
end Dl
namespace Dl
open PySem PySem.Spec PyProof.Rows L2
section
variable {X : Cx} {tg : Expr}
theorem it_list {pins : List (Addr × Obj)} {σ : St} {H : Hp} {s : Shared} {R : It → Hp → Prop} {a : Addr} {xs : List V} (I : Inv X pins σ H s) (hq : SqL X.K H a xs) (q : R (Itl X.K a) H) :
    wpAny (model X.prog X.w) X.A (pyIter (.ref a)) (PIE X pins σ tg R) X.xe s := by
  obtain ⟨its, rv, p, hz⟩ := I.list hq
  refine wpAny_pyIter_list p.isList ?_
  have J := I.kept (t' := s.toks) (fun b o e => Heap.get?_push_of_some { cls := .type "list_iterator", data := .fields #[.ref a, .int 0 0] } e)
  exact ⟨_, [s.heap.objs.size], _, _, H, rfl, J, turn_list a _,
    ⟨_, Heap.get?_push_size _ rfl, rfl, rfl⟩,
    fun b hb => (List.mem_singleton.mp hb) ▸ I.fpOk (Nat.le_refl _) (I.hok.fresh (Nat.le_refl _)), q⟩
theorem it_tup {pins : List (Addr × Obj)} {σ : St} {H : Hp} {s : Shared} {R : It → Hp → Prop} {a : Addr} {xs : List V} (I : Inv X pins σ H s) (hq : SqT X.K H a xs) (q : R (Itt X.K a) H) :
    wpAny (model X.prog X.w) X.A (pyIter (.ref a)) (PIE X pins σ tg R) X.xe s := by
  obtain ⟨its, rv, p, hz⟩ := I.tuple hq
  refine wpAny_pyIter_tuple (show s.heap.IsTuple a its.toArray from p) ?_
  have J := I.kept (t' := s.toks) (fun b o e => Heap.get?_push_of_some { cls := .type "tuple_iterator", data := .fields #[.ref a, .int 0 0] } e)
  exact ⟨_, [s.heap.objs.size], _, _, H, rfl, J, turn_tuple a _,
    ⟨_, Heap.get?_push_size _ rfl, rfl, rfl⟩,
    fun b hb => (List.mem_singleton.mp hb) ▸ I.fpOk (Nat.le_refl _) (I.hok.fresh (Nat.le_refl _)), q⟩
def iSeq (K : PySem.W.Frag) (te : TE) : TI := fun σ H R => te σ H fun x H1 =>
  (∃ a, x = .ref a ∧ (∃ xs, SqL K H1 a xs) ∧ R (Itl K a) H1) ∨ ∃ a, x = .ref a ∧ (∃ xs, SqT K H1 a xs) ∧ R (Itt K a) H1
theorem pi_seq {l : Expr} {tl : TE} (hl : PE X l tl) : PI X tg l (iSeq X.K tl) := by
  refine ⟨fun pins s σ H R I h => ?_⟩
  refine thn (hl.run pins s σ H _ I h) fun v s1 ⟨x, H1, I1, r1, q1⟩ => ?_
  rcases q1 with ⟨a, e, ⟨xs, hq⟩, q⟩ | ⟨a, e, ⟨xs, hq⟩, q⟩
  · subst e; cases r1
    exact it_list I1 hq q
  · subst e; cases r1
    exact it_tup I1 hq q
end
def gItems (d : D) (Q : List D → Prop) : Prop := match d with
  | .lst ds => Q ds
  | .tup ds => Q ds
  | .scr ns => Q (ns.map D.int)
  | _ => False
def iIt (fe : DE) : DA := fun xq ρ Q => fe xq ρ fun d => gItems d Q
def rng (lo : Int) (n : Nat) : List D := (List.range n).map fun (i : Nat) => D.int (lo + (i : Int))
def iR1 (fe : DE) : DA := fun xq ρ Q => fe xq ρ fun d => match d with
  | .int j => -(2 ^ 62) ≤ j ∧ j < 2 ^ 62 ∧ Q (rng 0 j.toNat)
  | _ => False
def iR2 (fe fe' : DE) : DA := fun xq ρ Q => fe xq ρ fun d => fe' xq ρ fun d' => match d, d' with
  | .int i, .int j => (-(2 ^ 62) ≤ i ∧ i < 2 ^ 62 ∧ -(2 ^ 62) ≤ j ∧ j < 2 ^ 62) ∧ Q (rng i (j - i).toNat)
  | _, _ => False
def iStrD (fe : DE) : DA := fun xq ρ Q => fe xq ρ fun d => match d with
  | .str s => Q (s.cps.toList.map fun c => D.str ⟨#[c]⟩)
  | _ => False
section
variable {Γ : Kx} {W : WX} {te te' : TE} {fe fe' : DE} {G : Hp} {R : Addr → Prop}
theorem it_l {a : Addr} {vs : List V} {ds : List D} (h : ∀ (G' : Hp) (R' : Addr → Prop) (H' : Hp), Same G G' → (∀ a, R a → R' a) → Gd G' R' H' → SqL Γ.K H' a vs) (r : RpL Γ G R ds vs) : ItOk Γ G R (Itl Γ.K a) ds := fun i G' R' H' g rr gd => by
  have s := h G' R' H' g rr gd
  refine ⟨fun hi => ?_, fun d e x H'' y => ?_, fun hi => ⟨vs, s, by rw [← r.len]; exact hi⟩⟩
  · have hi' : i < vs.length := by rw [← r.len]; exact hi
    exact ⟨vs, vs[i], s, List.getElem?_eq_getElem hi'⟩
  · obtain ⟨eH, y⟩ := y
    subst eH
    obtain ⟨v, e1, q⟩ := r.get e
    have e2 := y vs s
    rw [e1] at e2
    cases e2
    exact ⟨G', Nx.refl gd, Rp.mono g rr d _ q⟩
theorem it_t {a : Addr} {vs : List V} {ds : List D} (h : SqT Γ.K G a vs) (r : RpL Γ G R ds vs) : ItOk Γ G R (Itt Γ.K a) ds := fun i G' R' H' g rr gd => by
  have s := Same.seqT gd.sub (Same.seqT g h)
  refine ⟨fun hi => ?_, fun d e x H'' y => ?_, fun hi => ⟨vs, s, by rw [← r.len]; exact hi⟩⟩
  · have hi' : i < vs.length := by rw [← r.len]; exact hi
    exact ⟨vs, vs[i], s, List.getElem?_eq_getElem hi'⟩
  · obtain ⟨eH, y⟩ := y
    subst eH
    obtain ⟨v, e1, q⟩ := r.get e
    have e2 := y vs s
    rw [e1] at e2
    cases e2
    exact ⟨G', Nx.refl gd, Rp.mono g rr d _ q⟩
theorem rng_get {lo : Int} {n i : Nat} {d : D} (h : (rng lo n)[i]? = some d) : i < n ∧ d = .int (lo + i) := by
  have hi : i < n := by
    have := (List.getElem?_eq_some_iff.mp h).1
    unfold rng at this
    simpa using this
  unfold rng at h
  rw [List.getElem?_map, List.getElem?_range hi] at h
  exact ⟨hi, (Option.some.inj h).symm⟩
theorem rng_len {lo : Int} {n : Nat} : (rng lo n).length = n := by unfold rng; simp
theorem it_r {lo : Int} {n : Nat} : ItOk Γ G R (Itr lo n) (rng lo n) := fun i G' R' H' g rr gd => by
  refine ⟨fun hi => ?_, fun d e x H'' y => ?_, fun hi => ?_⟩
  · rw [rng_len] at hi; exact hi
  · obtain ⟨eH, y⟩ := y
    subst eH
    obtain ⟨_, e2⟩ := rng_get e
    rw [e2, y]
    exact ⟨G', Nx.refl gd, rp_int⟩
  · rw [rng_len] at hi; exact hi
theorem ji_it (a : JE Γ W te fe) : JI Γ W (iSeq Γ.K te) (iIt fe) := fun H0 G R H σ ρ xq Qd Q w x f k =>
  a H0 G R H σ ρ xq _ _ w x f fun v G' R' H' d n r q => by
    unfold gItems at q
    split at q
    · unfold Rp at r
      obtain ⟨a, vs, e1, h1, l1⟩ := r
      exact .inl ⟨a, e1, ⟨vs, SqL.of (n.gd.sub _ _ h1)⟩, k _ G' R' H' _ n (it_l (fun G2 R2 H2 g rr gd => SqL.of (gd.sub _ _ (g _ _ h1))) l1) q⟩
    · unfold Rp at r
      obtain ⟨a, vs, e1, h1, l1⟩ := r
      exact .inr ⟨a, e1, ⟨vs, Same.seqT n.gd.sub h1⟩, k _ G' R' H' _ n (it_t h1 l1) q⟩
    · unfold Rp at r
      obtain ⟨a, e1, h1⟩ := r
      rename_i ns
      refine .inl ⟨a, e1, ⟨_, n.gd.sub.seq h1⟩, k _ G' R' H' _ n (it_l (vs := ns.map V.int) (fun G2 R2 H2 g rr gd => gd.sub.seq (g.seq h1)) ?_) q⟩
      refine RpL.of_get (by simp) fun i d v e1 e2 => ?_
      rw [List.getElem?_map] at e1 e2
      cases z : ns[i]? with
      | none => rw [z] at e1; cases e1
      | some m => rw [z] at e1 e2; cases e1; cases e2; exact rp_int
    · exact q.elim
theorem ji_r1 (a : JQ Γ W te fe) : JI Γ W (iRng1 (tCons te tNil)) (iR1 fe) := fun H0 G R H σ ρ xq Qd Q w x f k =>
  a H0 G R H σ ρ xq _ _ w x f fun v G' R' H' d n r q => by
    cases d <;> first | exact q.elim | skip
    rename_i j
    obtain ⟨q1, q2, q3⟩ := q
    exact ⟨j, by rw [r.int], q1, q2, k _ G' R' H' _ n it_r q3⟩
end
section
variable {Γ : Kx} {H0 G : Hp} {R : Addr → Prop} {H : Hp} {σ : St} {ρ : En}
theorem Wd.set (w : Wd Γ H0 G R H σ ρ) (i : Nat) {v : Option V} {s : S} (h : SlotOk Γ H0 G R H s v)
    (hd : ∀ a, a ∈ s.fpt v → ∀ (j : Nat) t u, j ≠ i → ρ[j]? = some t → σ[j]? = some u → a ∈ t.fpt u → False) : Wd Γ H0 G R H (σ.set i v) (ρ.set i s) := by
  refine ⟨w.gd, by rw [List.length_set, List.length_set]; exact w.len, fun j t e => ?_, fun j m s1 s2 v1 v2 a hjm e1 e2 e3 e4 o1 o2 => ?_⟩
  · by_cases hj : i = j
    · subst hj
      have hl : i < ρ.length := by
        have := (List.getElem?_eq_some_iff.mp e).1
        rwa [List.length_set] at this
      rw [List.getElem?_set_self hl] at e
      cases e
      exact ⟨v, List.getElem?_set_self (by rw [w.len]; exact hl), h⟩
    · rw [List.getElem?_set_ne hj] at e
      obtain ⟨u, e2, q⟩ := w.sl j t e
      exact ⟨u, by rw [List.getElem?_set_ne hj]; exact e2, q⟩
  · by_cases hj : i = j
    · subst hj
      have hl : i < ρ.length := by
        have := (List.getElem?_eq_some_iff.mp e1).1
        rwa [List.length_set] at this
      rw [List.getElem?_set_self hl] at e1
      rw [List.getElem?_set_self (by rw [w.len]; exact hl)] at e3
      rw [List.getElem?_set_ne hjm] at e2 e4
      cases Option.some.inj e1
      cases Option.some.inj e3
      exact hd a o1 m s2 v2 (Ne.symm hjm) e2 e4 o2
    · by_cases hm : i = m
      · subst hm
        have hl : i < ρ.length := by
          have := (List.getElem?_eq_some_iff.mp e2).1
          rwa [List.length_set] at this
        rw [List.getElem?_set_self hl] at e2
        rw [List.getElem?_set_self (by rw [w.len]; exact hl)] at e4
        rw [List.getElem?_set_ne hj] at e1 e3
        cases Option.some.inj e2
        cases Option.some.inj e4
        exact hd a o2 j s1 v1 hjm e1 e3 o1
      · rw [List.getElem?_set_ne hj] at e1 e3
        rw [List.getElem?_set_ne hm] at e2 e4
        exact w.dj j m s1 s2 v1 v2 a hjm e1 e2 e3 e4 o1 o2
theorem Wd.fz (w : Wd Γ H0 G R H σ ρ) (i : Nat) {v : V} {d : D} (h : Rp Γ G R d v) : Wd Γ H0 G R H (σ.set i (some v)) (ρ.set i (.fz d)) :=
  w.set i ⟨v, rfl, h⟩ fun _ e => absurd e List.not_mem_nil
theorem Wd.un (w : Wd Γ H0 G R H σ ρ) (i : Nat) (v : Option V) : Wd Γ H0 G R H (σ.set i v) (ρ.set i .un) := w.set i True.intro fun _ e => absurd e List.not_mem_nil
theorem Wd.mutO (w : Wd Γ H0 G R H σ ρ) {i : Nat} {s s' : S} {l : Addr} {o : HO} (e : ρ[i]? = some s) (so : s.fpt (some (.ref l)) = [l]) (so' : s'.fpt (some (.ref l)) = [l]) (eσ : σ[i]? = some (some (.ref l))) (hx : ∀ u, H l = some u → ¬ Stiff u ∧ ∀ vs, u ≠ .xd vs) (g : G l = none) (r : ¬ R l) (h0 : H0 l = none)
    (new : SlotOk Γ H0 G R (upd H l o) s' (some (.ref l))) : Wd Γ H0 G R (upd H l o) σ (ρ.set i s') := by
  have gd : Gd G R (upd H l o) := ⟨fun b u q => by rw [upd_ne (ne_of_none q g)]; exact w.gd.sub b u q, fun a q => by
    have ne : a ≠ l := fun z => r (by subst z; exact q)
    obtain ⟨c, k, m, y⟩ := w.gd.rd a q
    exact ⟨c, k, m, by rw [upd_ne ne]; exact y⟩, w.gd.dis⟩
  have hi : i < ρ.length := (List.getElem?_eq_some_iff.mp e).1
  have ml : l ∈ s.fpt (some (.ref l)) := by rw [so]; exact List.mem_singleton.mpr rfl
  refine ⟨gd, by rw [List.length_set]; exact w.len, fun j t q => ?_, fun j m s1 s2 v1 v2 a hjm e1 e2 e3 e4 o1 o2 => ?_⟩
  · by_cases hj : i = j
    · subst hj
      rw [List.getElem?_set_self hi] at q
      cases q
      exact ⟨_, eσ, new⟩
    · rw [List.getElem?_set_ne hj] at q
      obtain ⟨u, e2, y⟩ := w.sl j t q
      refine ⟨u, e2, ?_⟩
      have far : ∀ a, a ∈ t.fpt u → a ≠ l := fun a m z => by subst z; exact w.dj i j s t _ u a hj e q eσ e2 ml m
      cases t with
      | un => exact True.intro
      | fz d => exact y
      | op es =>
        obtain ⟨a, us, rfl, y1, y2, y3, y4, y5⟩ := y
        have ne : a ≠ l := far a (List.mem_singleton.mpr rfl)
        exact ⟨a, us, rfl, by rw [upd_ne ne]; exact y1, y2, y3, y4, y5⟩
      | io a c fs =>
        obtain ⟨dx, us, rfl, y1, y2, y3, y4, y5⟩ := y
        have ne : a ≠ l := far a (List.mem_singleton.mpr rfl)
        exact ⟨dx, us, rfl, by rw [upd_ne ne]; exact y1, y2, y3, y4, y5⟩
      | ex a d c fs =>
        obtain ⟨y1, y2⟩ := y
        refine ⟨y1, y2.imp id fun ⟨dd, vs, z1, z2, z3⟩ => ⟨dd, vs, z1, ?_, z3⟩⟩
        rw [upd_ne (fun z => (hx _ (by rw [← z]; exact z2)).2 vs rfl)]
        exact z2
      | ow v as d =>
        obtain ⟨y1, y2, y3⟩ := y
        refine ⟨y1, Ow.mono d v as ⟨fun a o m h _ g r => ⟨by rw [upd_ne (far a m)]; exact h, g, r⟩, fun a o h s => ?_, fun _ h => h, fun _ _ h => h⟩ y2, y3⟩
        rw [upd_ne (fun z => (hx _ (by rw [← z]; exact h)).1 s)]
        exact h
      | se d =>
        obtain ⟨x, y1, y2⟩ := y
        exact ⟨x, y1, Rp.mono (viewO_upd h0 g fun u e => (hx u e).1) (fun _ h => h) d x y2⟩
  · by_cases hj : i = j
    · subst hj
      rw [List.getElem?_set_self hi] at e1
      rw [List.getElem?_set_ne hjm] at e2
      cases Option.some.inj e1
      rw [eσ] at e3
      cases Option.some.inj e3
      rw [so'] at o1
      rw [List.mem_singleton] at o1
      subst o1
      exact w.dj i m s s2 _ v2 a hjm e e2 eσ e4 ml o2
    · rw [List.getElem?_set_ne hj] at e1
      by_cases hm : i = m
      · subst hm
        rw [List.getElem?_set_self hi] at e2
        cases Option.some.inj e2
        rw [eσ] at e4
        cases Option.some.inj e4
        rw [so'] at o2
        rw [List.mem_singleton] at o2
        subst o2
        exact w.dj i j s s1 _ v1 a (Ne.symm hjm) e e1 eσ e3 ml o1
      · rw [List.getElem?_set_ne hm] at e2
        exact w.dj j m s1 s2 v1 v2 a hjm e1 e2 e3 e4 o1 o2
theorem Wd.mut (w : Wd Γ H0 G R H σ ρ) {i : Nat} {ds ds' : List D} {l : Addr} {vs vs' : List V} (e : ρ[i]? = some (.op ds)) (eσ : σ[i]? = some (some (.ref l))) (hl : H l = some (.lst vs)) (g : G l = none) (r : ¬ R l) (h0 : H0 l = none)
    (h : RpL Γ G R ds' vs') : Wd Γ H0 G R (upd H l (.lst vs')) σ (ρ.set i (.op ds')) :=
  w.mutO e rfl rfl eσ (fun u z => by rw [hl] at z; cases z; exact ⟨fun t => t, fun _ t => nomatch t⟩) g r h0 ⟨l, vs', rfl, upd_same, g, r, h0, h⟩
end
section
variable {G0 G G1 : Hp} {R0 R R1 : Addr → Prop} {H0 H H1 : Hp}
theorem Nx.mutO (n : Nx G0 R0 H0 G R H) {l : Addr} {o : HO} (g : G l = none) (r : ¬ R l) (h0 : H0 l = none) : Nx G0 R0 H0 G R (upd H l o) where
  gg := n.gg
  rr := n.rr
  gd := ⟨fun b o q => by rw [upd_ne (ne_of_none q g)]; exact n.gd.sub b o q, fun a q => by
    have ne : a ≠ l := fun z => r (by subst z; exact q)
    obtain ⟨c, k, m, y⟩ := n.gd.rd a q
    exact ⟨c, k, m, by rw [upd_ne ne]; exact y⟩, n.gd.dis⟩
  ev := fun b o q z => by rw [upd_ne (ne_of_none q h0)]; exact n.ev b o q z
  ex := fun b o q => by rw [upd_ne (ne_of_none q h0)]; exact n.ex b o q
  fg := n.fg
  fr := n.fr
theorem Nx.mut (n : Nx G0 R0 H0 G R H) {l : Addr} {vs' : List V} (g : G l = none) (r : ¬ R l) (h0 : H0 l = none) : Nx G0 R0 H0 G R (upd H l (.lst vs')) := n.mutO g r h0
theorem Nx.base (n : Nx G0 R0 H0 G R H) : Nx G R H0 G R H := ⟨fun _ _ h => h, fun _ h => h, n.gd, fun b o e r => n.ev b o e fun z => r (n.rr b z), n.ex, fun _ _ h => .inl h, fun _ h => .inl h⟩
theorem Nx.rebase (n : Nx G0 R0 H0 G R H) (m : Nx G R H0 G1 R1 H1) : Nx G0 R0 H0 G1 R1 H1 where
  gg := fun b o h => m.gg b o (n.gg b o h)
  rr := fun b h => m.rr b (n.rr b h)
  gd := m.gd
  ev := fun b o e r => m.ev b o e fun z => (n.fr b z).elim r fun y => by rw [y] at e; cases e
  ex := m.ex
  fg := fun b o h => by
    rcases m.fg b o h with z | z | z
    · exact n.fg b o z
    · exact .inr (.inl z)
    · exact .inr (.inr z)
  fr := fun b h => by
    rcases m.fr b h with z | z
    · exact n.fr b z
    · exact .inr z
end
def lcLoop (ft : DT) (fe : DE) (i : Nat) (ρ : En) (Q : List D → Prop) : List D → List D → Prop
  | [], acc => Q acc
  | d :: ds, acc => ft (fun _ _ => False) (ρ.set i (.fz d)) fun b => if b = true then fe (fun _ _ => False) (ρ.set i (.fz d)) fun y => lcLoop ft fe i ρ Q ds (acc ++ [y]) else lcLoop ft fe i ρ Q ds acc
def dLc (fi : DA) (i : Nat) (ft : DT) (fe : DE) : DA := fun xq ρ Q => fi xq ρ fun ds => ds.length ≤ sizeLine ∧ lcLoop ft fe i (ρ.set i .un) Q ds []
def dYes : DT := fun _ _ Q => Q true
section
variable {Γ : Kx} {W : WX} {wi : TI} {fi : DA} {tt : TT} {ft : DT} {te : TE} {fe : DE} {i : Nat}
theorem jt_yes : JT Γ W tYes dYes := fun H0 G R H σ ρ xq Qd Q w x f k => k true G R H (Nx.refl w.gd) f
theorem Lk.no {σ : St} {G : Hp} {R : Addr → Prop} {H : Hp} : Lk Γ (fun _ _ _ _ => False) (fun _ _ => False) σ G R H := fun _ _ _ _ _ _ _ _ z _ => z
theorem jn_lc (a : JI Γ W wi fi) (b : JT Γ (fun _ _ _ _ => False) tt ft) (c : JE Γ (fun _ _ _ _ => False) te fe) : JN Γ W (tLc wi (gName i) tt te [i]) (dLc fi i ft fe) := fun H0 G R H σ ρ xq Qd Q w x f k =>
  a H0 G R H σ ρ xq _ _ w x f fun J G1 R1 H1 ds n1 io q A0 hD => by
    obtain ⟨hz, q⟩ := q
    have hn : H A0 = none := by
      cases y : H A0 with
      | none => rfl
      | some o =>
        obtain ⟨o', e'⟩ := n1.ex A0 o y
        rw [hD] at e'; cases e'
    refine ⟨fun j m H2 => m = ds.length - j ∧ j ≤ ds.length ∧ ∃ (G2 : Hp) (R2 : Addr → Prop) (acc : List D) (vs : List V), Nx G1 R1 H1 G2 R2 H2 ∧ H2 A0 = some (.lst vs) ∧ G2 A0 = none ∧ ¬ R2 A0 ∧ RpL Γ G2 R2 acc vs ∧ acc.length ≤ j ∧ lcLoop ft fe i (ρ.set i .un) Qd (ds.drop j) acc,
      ⟨ds.length, by simp, Nat.zero_le _, G1, R1, [], [], Nx.new n1.gd _ hD, upd_same, (n1.gd.fresh hD).1, (n1.gd.fresh hD).2, RpL.nil, Nat.le_refl _, q⟩, ?_⟩
    rintro j m H2 ⟨rfl, hj, G2, R2, acc, vs, n2, e2, g2, r2, l2, z2, q2⟩
    obtain ⟨i1, i2, i3⟩ := io j G2 R2 H2 n2.gg n2.rr n2.gd
    by_cases hlt : j < ds.length
    · refine .inr ⟨i1 hlt, fun H3 => j + 1 ≤ ds.length ∧ ∃ (G2 : Hp) (R2 : Addr → Prop) (acc : List D) (vs : List V), Nx G1 R1 H1 G2 R2 H3 ∧ H3 A0 = some (.lst vs) ∧ G2 A0 = none ∧ ¬ R2 A0 ∧ RpL Γ G2 R2 acc vs ∧ acc.length ≤ j + 1 ∧ lcLoop ft fe i (ρ.set i .un) Qd (ds.drop (j + 1)) acc,
        fun H3 p => ⟨ds.length - (j + 1), by omega, rfl, p.1, p.2⟩, fun xv H3 y => ?_⟩
      obtain ⟨G3, n3, r3⟩ := i2 ds[j] (List.getElem?_eq_getElem hlt) xv H3 y
      rw [List.drop_eq_getElem_cons hlt] at q2
      have w3 : Wd Γ H0 G3 R2 H3 (wipe σ [i]) (ρ.set i .un) := ((((w.nx n1).nx n2).nx n3).un i none)
      have w4 : Wd Γ H0 G3 R2 H3 ((wipe σ [i]).set i (some xv)) ((ρ.set i .un).set i (.fz ds[j])) := w3.fz i r3
      refine ⟨?_, ?_⟩
      · show ((wipe σ [i]).set i (some xv)).set i none = (σ.set i none)
        unfold wipe wipe
        rw [List.set_set, List.set_set]
      · have q2' : ft (fun _ _ => False) ((ρ.set i .un).set i (.fz ds[j])) fun b => if b = true then fe (fun _ _ => False) ((ρ.set i .un).set i (.fz ds[j])) fun y => lcLoop ft fe i (ρ.set i .un) Qd (ds.drop (j + 1)) (acc ++ [y]) else lcLoop ft fe i (ρ.set i .un) Qd (ds.drop (j + 1)) acc := q2
        obtain ⟨o3, p3, s3⟩ := n3.open_ e2 g2 r2
        refine b H0 G3 R2 H3 _ _ _ _ _ w4 Lk.no q2' fun bb G4 R4 H4 n4 q4 => ?_
        obtain ⟨o4, p4, s4⟩ := n4.open_ o3 p3 s3
        cases bb with
        | true =>
          refine c H0 G4 R4 H4 _ _ _ _ _ (w4.nx n4) Lk.no q4 fun yv G5 R5 H5 d5 n5 r5 q5 => ?_
          obtain ⟨o5, p5, s5⟩ := n5.open_ o4 p4 s4
          have nn := (((n2.trans n3).trans n4).trans n5)
          have gg := (n3.gg.trans n4.gg).trans n5.gg
          have ll := RpL.mono gg (fun a h => n5.rr a (n4.rr a (n3.rr a h))) acc vs l2
          have hlen := ll.len
          refine ⟨vs, o5, by omega, by omega, G5, R5, acc ++ [d5], vs ++ [yv], nn.mut p5 s5 hD, upd_same, p5, s5, ll.append (RpL.cons r5 RpL.nil), by rw [List.length_append]; simp; omega, q5⟩
        | false =>
          have nn := ((n2.trans n3).trans n4)
          exact ⟨by omega, G4, R4, acc, vs, nn, o4, p4, s4, RpL.mono (n3.gg.trans n4.gg) (fun a h => n4.rr a (n3.rr a h)) acc vs l2, by omega, q4⟩
    · have e : j = ds.length := by omega
      subst e
      rw [List.drop_length] at q2
      exact .inl ⟨i3 (Nat.le_refl _), k A0 vs G2 R2 H2 acc (n1.trans n2) e2 g2 r2 hn l2 q2⟩
end
end Dl
namespace Dl
open PySem PySem.Spec PyProof.Rows L2
def DK.xq (k : DK) (ρ : En) : XQ := fun c fs => k.ex c fs ρ
def dNext : DS := fun k ρ => k.nx ρ
def dSeq (f1 f2 : DS) : DS := fun k ρ => f1 { k with nx := f2 k } ρ
def dSet (i : Nat) (fe : DE) : DS := fun k ρ => fe (k.xq ρ) ρ fun d => k.nx (ρ.set i (.fz d))
def dSetN (i : Nat) (fa : DA) : DS := fun k ρ => fa (k.xq ρ) ρ fun ds => k.nx (ρ.set i (.op ds))
def dIfS (ft : DT) (f1 f2 : DS) : DS := fun k ρ => ft (k.xq ρ) ρ fun b => if b = true then f1 k ρ else f2 k ρ
def dRet (fe : DE) : DS := fun k ρ => fe (k.xq ρ) ρ fun d => k.rt d ρ
def dRetV (i : Nat) : DS := fun k ρ => match ρ[i]? with
  | some (.fz d) => k.rt d ρ
  | some (.op ds) => k.rt (.lst ds) (ρ.set i (.fz (.lst ds)))
  | _ => False
def dRetN : DS := fun k ρ => k.rt .non ρ
def dExpr (fe : DE) : DS := fun k ρ => fe (k.xq ρ) ρ fun _ => k.nx ρ
def dBreak : DS := fun k ρ => k.bk ρ
def dCont : DS := fun k ρ => k.ct ρ
def frz (i : Nat) (ρ : En) : En := match ρ[i]? with
  | some (.op ds) => ρ.set i (.fz (.lst ds))
  | _ => ρ
def dFrz (i : Nat) (f : DS) : DS := fun k ρ => f k (frz i ρ)
def dApp (i : Nat) (fe : DE) : DS := fun k ρ => match ρ[i]? with
  | some (.op ds) => fe (k.xq ρ) ρ fun d => ds.length < sizeLine ∧ k.nx (ρ.set i (.op (ds ++ [d])))
  | _ => False
def dExt (i : Nat) (fe : DE) : DS := fun k ρ => match ρ[i]? with
  | some (.op ds) => fe (k.xq ρ) ρ fun d => match d with
    | .lst es => ds.length + es.length ≤ sizeLine ∧ k.nx (ρ.set i (.op (ds ++ es)))
    | _ => False
  | _ => False
def forLoop (fb : DS) (i : Nat) (k : DK) : List D → En → Prop
  | [], ρ => k.nx ρ
  | d :: ds, ρ => fb { k with nx := forLoop fb i k ds, ct := forLoop fb i k ds, bk := k.nx } (ρ.set i (.fz d))
def dFor (fi : DA) (i : Nat) (fb : DS) : DS := fun k ρ => fi (k.xq ρ) ρ fun ds => forLoop fb i k ds ρ
theorem Wd.ownThere {Γ : Kx} {H0 G : Hp} {R : Addr → Prop} {H : Hp} {σ : St} {ρ : En} {j : Nat} {t : S} {v : Option V} {l : Addr} (w : Wd Γ H0 G R H σ ρ) (e : ρ[j]? = some t) (eσ : σ[j]? = some v) (m : l ∈ t.fpt v) : (∃ o, H l = some o ∧ ¬ Stiff o) ∧ G l = none ∧ ¬ R l ∧ H0 l = none := by
  obtain ⟨v', e5, y⟩ := w.sl j _ e
  rw [eσ] at e5
  cases e5
  cases t with
  | un => exact absurd m List.not_mem_nil
  | fz _ => exact absurd m List.not_mem_nil
  | ex _ _ _ _ => exact absurd m List.not_mem_nil
  | se _ => exact absurd m List.not_mem_nil
  | op es =>
    obtain ⟨b, us, rfl, y1, y2, y3, y4, _⟩ := y
    rw [List.mem_singleton.mp m]
    exact ⟨⟨_, y1, fun t => t⟩, y2, y3, y4⟩
  | io b c fs =>
    obtain ⟨dx, us, rfl, y1, y2, y3, y4, _⟩ := y
    rw [List.mem_singleton.mp m]
    exact ⟨⟨_, y1, fun t => t⟩, y2, y3, y4⟩
  | ow x as d =>
    obtain ⟨h0, g, r, o, ho, op⟩ := Ow.fresh d x as y.2.1 l m
    exact ⟨⟨o, ho, op.stiff⟩, g, r, h0⟩
section
variable {Γ : Kx} {W : WX} {te : TE} {fe : DE} {fa : DA} {ts t1 t2 : TS} {fs f1 f2 : DS} {tt : TT} {ft : DT} {i : Nat}
theorem js_next : JS Γ W tNext dNext := fun G0 R0 H0 G R H σ ρ k D n w e f => e.nx G R H σ ρ n w f
theorem js_seq (a : JS Γ W t1 f1) (b : JS Γ W t2 f2) : JS Γ W (tSeq t1 t2) (dSeq f1 f2) := fun G0 R0 H0 G R H σ ρ k D n w e f =>
  a G0 R0 H0 G R H σ ρ { k with nx := f2 k } _ n w ⟨fun G1 R1 H1 σ1 ρ1 n1 w1 q => b G0 R0 H0 G1 R1 H1 σ1 ρ1 k D n1 w1 e q, e.rt, e.bk, e.ct, e.ex, e.ro⟩ f
theorem js_set (a : JE Γ W te fe) : JS Γ W (tAsg te (gName i)) (dSet i fe) := fun G0 R0 H0 G R H σ ρ k D n w e f =>
  a H0 G R H σ ρ _ _ _ w (e.lk n w) f fun v G' R' H' d m r q => e.nx G' R' H' _ _ (n.trans m) ((w.nx m).fz i r) q
theorem js_if (c : JT Γ W tt ft) (a : JS Γ W t1 f1) (b : JS Γ W t2 f2) : JS Γ W (tIfS tt t1 t2) (dIfS ft f1 f2) := fun G0 R0 H0 G R H σ ρ k D n w e f =>
  c H0 G R H σ ρ _ _ _ w (e.lk n w) f fun d G' R' H' m q => by
    cases d with
    | true => exact a G0 R0 H0 G' R' H' σ ρ k D (n.trans m) (w.nx m) e q
    | false => exact b G0 R0 H0 G' R' H' σ ρ k D (n.trans m) (w.nx m) e q
theorem js_ret (a : JE Γ W te fe) : JS Γ W (tRet te) (dRet fe) := fun G0 R0 H0 G R H σ ρ k D n w e f =>
  a H0 G R H σ ρ _ _ _ w (e.lk n w) f fun v G' R' H' d m r q => e.rt v d G' R' H' σ ρ (n.trans m) (w.nx m) r q
theorem Wd.frzO {H0 G : Hp} {R : Addr → Prop} {H : Hp} {σ : St} {ρ : En} {s : S} {d : D} {l : Addr} {o : HO} (w : Wd Γ H0 G R H σ ρ) (e : ρ[i]? = some s) (so : l ∈ s.fpt (some (.ref l))) (eσ : σ[i]? = some (some (.ref l))) (h : H l = some o) (g : G l = none) (z : ¬ R l)
    (new : Rp Γ (upd G l o) R d (.ref l)) : Wd Γ H0 (upd G l o) R H σ (ρ.set i (.fz d)) := by
  have gg : Same G (upd G l o) := fun b u z => by rw [upd_ne (ne_of_none z g)]; exact z
  have hi : i < ρ.length := (List.getElem?_eq_some_iff.mp e).1
  refine ⟨⟨fun b u q => ?_, w.gd.rd, fun a q => ?_⟩, by rw [List.length_set]; exact w.len, fun j t q => ?_, fun j m s1 s2 v1 v2 a hjm e1 e2 e3 e4 o1 o2 => ?_⟩
  · by_cases hb : b = l
    · subst hb; rw [upd_same] at q; cases q; exact h
    · rw [upd_ne hb] at q; exact w.gd.sub b u q
  · have ne : a ≠ l := fun y => z (by subst y; exact q)
    rw [upd_ne ne]; exact w.gd.dis a q
  · by_cases hj : i = j
    · subst hj
      rw [List.getElem?_set_self hi] at q
      cases q
      exact ⟨_, eσ, .ref l, rfl, new⟩
    · rw [List.getElem?_set_ne hj] at q
      obtain ⟨u, e2, y⟩ := w.sl j t q
      refine ⟨u, e2, ?_⟩
      have far : ∀ a, a ∈ t.fpt u → a ≠ l := fun a m z => by subst z; exact w.dj i j s t _ u a hj e q eσ e2 so m
      cases t with
      | un => exact True.intro
      | fz d => obtain ⟨x, y1, y2⟩ := y; exact ⟨x, y1, Rp.mono gg (fun _ h => h) d x y2⟩
      | op es =>
        obtain ⟨a, us, rfl, y1, y2, y3, y4, y5⟩ := y
        have ne : a ≠ l := far a (List.mem_singleton.mpr rfl)
        exact ⟨a, us, rfl, y1, by rw [upd_ne ne]; exact y2, y3, y4, RpL.mono gg (fun _ h => h) es us y5⟩
      | io a c fs =>
        obtain ⟨dx, us, rfl, y1, y2, y3, y4, y5⟩ := y
        have ne : a ≠ l := far a (List.mem_singleton.mpr rfl)
        exact ⟨dx, us, rfl, y1, by rw [upd_ne ne]; exact y2, y3, y4, RpF.mono gg (fun _ h => h) fs us y5⟩
      | ex a d c fs =>
        obtain ⟨y1, y2⟩ := y
        exact ⟨y1, y2.imp id fun ⟨dd, vs, z1, z2, z3, z5⟩ => ⟨dd, vs, z1, z2, z3, RpF.mono gg (fun _ h => h) fs vs z5⟩⟩
      | ow v as d =>
        obtain ⟨y1, y2, y3⟩ := y
        exact ⟨y1, Ow.mono d v as ⟨fun a o m h _ g r => ⟨h, by rw [upd_ne (far a m)]; exact g, r⟩, fun a o h s => h, fun _ h => h, gg⟩ y2, y3⟩
      | se d =>
        obtain ⟨x, y1, y2⟩ := y
        refine ⟨x, y1, Rp.mono (fun b u e => ?_) (fun _ h => h) d x y2⟩
        obtain ⟨e1, e2⟩ := viewO_iff.mp e
        exact viewO_iff.mpr ⟨e1, e2.imp (fun z => gg b u z) id⟩
  · by_cases hj : i = j
    · subst hj
      rw [List.getElem?_set_self hi] at e1
      cases e1
      exact absurd o1 List.not_mem_nil
    · rw [List.getElem?_set_ne hj] at e1
      by_cases hm : i = m
      · subst hm
        rw [List.getElem?_set_self hi] at e2
        cases e2
        exact absurd o2 List.not_mem_nil
      · rw [List.getElem?_set_ne hm] at e2
        exact w.dj j m s1 s2 v1 v2 a hjm e1 e2 e3 e4 o1 o2
theorem Wd.frz {H0 G : Hp} {R : Addr → Prop} {H : Hp} {σ : St} {ρ : En} {ds : List D} {l : Addr} {vs : List V} (w : Wd Γ H0 G R H σ ρ) (e : ρ[i]? = some (.op ds)) (eσ : σ[i]? = some (some (.ref l))) (h : H l = some (.lst vs)) (g : G l = none) (z : ¬ R l) (r : RpL Γ G R ds vs) :
    Wd Γ H0 (upd G l (.lst vs)) R H σ (ρ.set i (.fz (.lst ds))) := by
  refine w.frzO e (List.mem_singleton.mpr rfl) eσ h g z ?_
  unfold Rp
  exact ⟨l, vs, rfl, upd_same, RpL.mono (fun b u z => by rw [upd_ne (ne_of_none z g)]; exact z) (fun _ h => h) ds vs r⟩
theorem js_for {wi : TI} {fi : DA} (a : JI Γ W wi fi) (b : JS Γ W ts fs) : JS Γ W (tFor wi (gName i) ts) (dFor fi i fs) := fun G0 R0 H0 G R H σ ρ k D n w e f =>
  a H0 G R H σ ρ _ _ _ w (e.lk n w) f fun J G1 R1 H1 ds n1 io q => by
    have nb := (n.trans n1)
    refine ⟨fun j m σ2 H2 => m = ds.length - j ∧ j ≤ ds.length ∧ ∃ (G2 : Hp) (R2 : Addr → Prop) (ρ2 : En), Nx G1 R1 H0 G2 R2 H2 ∧ Wd Γ H0 G2 R2 H2 σ2 ρ2 ∧ forLoop fs i k (ds.drop j) ρ2,
      ⟨ds.length, by simp, Nat.zero_le _, G1, R1, ρ, nb.base, w.nx n1, q⟩, ?_⟩
    rintro j m σ2 H2 ⟨rfl, hj, G2, R2, ρ2, n2, w2, q2⟩
    obtain ⟨i1, i2, i3⟩ := io j G2 R2 H2 n2.gg n2.rr n2.gd
    by_cases hlt : j < ds.length
    · rw [List.drop_eq_getElem_cons hlt] at q2
      refine .inr ⟨i1 hlt, fun σ3 H3 => j + 1 ≤ ds.length ∧ ∃ (G2 : Hp) (R2 : Addr → Prop) (ρ2 : En), Nx G1 R1 H0 G2 R2 H3 ∧ Wd Γ H0 G2 R2 H3 σ3 ρ2 ∧ forLoop fs i k (ds.drop (j + 1)) ρ2,
        fun σ3 H3 p => ⟨ds.length - (j + 1), by omega, rfl, p.1, p.2⟩, fun xv H3 y => ?_⟩
      obtain ⟨G3, n3, r3⟩ := i2 ds[j] (List.getElem?_eq_getElem hlt) xv H3 y
      refine b G1 R1 H0 G3 R2 H3 _ _ { k with nx := forLoop fs i k (ds.drop (j + 1)), ct := forLoop fs i k (ds.drop (j + 1)), bk := k.nx } _ (n2.trans n3) ((w2.nx n3).fz i r3) ⟨?_, ?_, ?_, ?_, ?_, ?_⟩ q2
      · exact fun G4 R4 H4 σ4 ρ4 n4 w4 q4 => ⟨by omega, G4, R4, ρ4, n4, w4, q4⟩
      · exact fun v d G4 R4 H4 σ4 ρ4 n4 w4 r4 q4 => e.rt v d G4 R4 H4 σ4 ρ4 (nb.rebase n4) w4 r4 q4
      · exact fun G4 R4 H4 σ4 ρ4 n4 w4 q4 => e.nx G4 R4 H4 σ4 ρ4 (nb.rebase n4) w4 q4
      · exact fun G4 R4 H4 σ4 ρ4 n4 w4 q4 => ⟨by omega, G4, R4, ρ4, n4, w4, q4⟩
      · exact fun c fs' cls dx G4 R4 H4 σ4 ρ4 n4 w4 q4 => e.ex c fs' cls dx G4 R4 H4 σ4 ρ4 (nb.rebase n4) w4 q4
      · exact fun v as d G4 R4 H4 σ4 ρ4 n4 w4 r4 nd q4 => e.ro v as d G4 R4 H4 σ4 ρ4 (nb.rebase n4) w4 r4 nd q4
    · have z : j = ds.length := by omega
      subst z
      rw [List.drop_length] at q2
      exact .inl ⟨i3 (Nat.le_refl _), e.nx G2 R2 H2 σ2 ρ2 (nb.rebase n2) w2 q2⟩
end
section
variable (X : Cx) (C : Str → Addr) (W : WX)
def CE (e : Expr) (fe : DE) : Prop := ∃ te, PE X e te ∧ JE ⟨X.K, C⟩ W te fe
def CQ (e : Expr) (fe : DE) : Prop := ∃ te, PE X e te ∧ JQ ⟨X.K, C⟩ W te fe
def CN (e : Expr) (fa : DA) : Prop := ∃ te, PE X e te ∧ JN ⟨X.K, C⟩ W te fa
def CT (e : Expr) (ft : DT) : Prop := ∃ tt, PT X e tt ∧ JT ⟨X.K, C⟩ W tt ft
def CW (e : Expr) (ft : DT) : Prop := ∃ tt, PW X e tt ∧ JT ⟨X.K, C⟩ W tt ft
def CA (es : List Expr) (fa : DA) (n : Nat) : Prop := ∃ ta, PA X es ta ∧ JAn ⟨X.K, C⟩ W ta fa n
def CI (tg iter : Expr) (fi : DA) : Prop := ∃ wi, PI X tg iter wi ∧ JI ⟨X.K, C⟩ W wi fi
def CS (st : Stmt) (fs : DS) : Prop := ∃ ts, PS X st ts ∧ JS ⟨X.K, C⟩ W ts fs
def CSs (st : List Stmt) (fs : DS) : Prop := ∃ ts, PSs X st ts ∧ JS ⟨X.K, C⟩ W ts fs
end
structure GE (X : Cx) (W : WX) (k : Nat) (bl : Str → Bool) : Prop where
  calm : X.calm = true
  room : Room k X.A
  tk : Takes X W
  bl : ∀ x, bl x = true → X.mg x = none
structure GS (X : Cx) (W : WX) (k : Nat) (bl : Str → Bool) : Prop extends GE X W k bl where
  own : PassesOwn (model X.prog X.w) X.A X.env X.xe
theorem GE.hu {X : Cx} {W : WX} {k : Nat} {bl : Str → Bool} (g : GE X W k bl) : X.A.units + 65 < cLine := by have := g.room.un; omega
theorem GE.hu64 {X : Cx} {W : WX} {k : Nat} {bl : Str → Bool} (g : GE X W k bl) : X.A.units + 64 < cLine := by have := g.room.un; omega
theorem GE.blk {X : Cx} {W : WX} {k : Nat} {bl : Str → Bool} (g : GE X W k bl) (s : Shared) (H : Hp) (scope : Scope) (cenv : PySem.Env) (fp : List Addr) : GE (X.blk s H scope cenv fp) (fun _ _ _ _ => False) k bl :=
  ⟨g.calm, g.room, takes0, g.bl⟩
end Dl
namespace Dl
open PySem PySem.Spec PyProof.Rows L2
section
variable {X : Cx} {C : Str → Addr} {W : WX} {k j : Nat} {bl : Str → Bool} {a b c e : Expr} {es : List Expr} {fa fb fc fe : DE} {fs : DA} {ft f1 f2 : DT} {pos p p1 p2 : Pos} {n i : Nat}
theorem CE.q (h : CE X C W e fe) : CQ X C W e fe := let ⟨t, p, q⟩ := h; ⟨t, p, q.q⟩
theorem CN.own (h : CN X C W e fs) : CE X C W e (dLst fs) := let ⟨t, p, q⟩ := h; ⟨t, p, q.e⟩
theorem CN.q (h : CN X C W e fs) : CQ X C W e (dLst fs) := h.own.q
theorem CQ.own (h : CQ X C W e fe) : CE X C W e (dImm fe) := let ⟨t, p, q⟩ := h; ⟨t, p, q.own⟩
theorem ce_var (h : PE X e (tVar i)) : CE X C W e (dVar i) := ⟨_, h, je_var⟩
theorem ce_int {z : Int} {m : Nat} : CE X C W (.Constant (.int z) m pos) (dC (.int z)) := ⟨_, pe_int, je_int⟩
theorem ce_str {z : Str} {m : Nat} : CE X C W (.Constant (.str z) m pos) (dC (.str z)) := ⟨_, pe_str, je_str⟩
theorem ce_bl {z : Bool} {m : Nat} : CE X C W (.Constant (.bool z) m pos) (dC (.bl z)) := ⟨_, pe_bl, je_bl⟩
theorem ce_add (h : CQ X C W a fa) (h' : CQ X C W b fb) : CE X C W (.BinOp a .Add b pos) (d2 gAdd fa fb) := let ⟨_, p, q⟩ := h; let ⟨_, p', q'⟩ := h'; ⟨_, pe_op op_addAll p p', je_op u2_add q q'⟩
theorem ce_sub (h : CQ X C W a fa) (h' : CQ X C W b fb) : CE X C W (.BinOp a .Sub b pos) (d2 gMns fa fb) := let ⟨_, p, q⟩ := h; let ⟨_, p', q'⟩ := h'; ⟨_, pe_op op_sub p p', je_op u2_sub q q'⟩
theorem ce_mul (h : CQ X C W a fa) (h' : CQ X C W b fb) : CE X C W (.BinOp a .Mult b pos) (d2 (gI2 CMul fun i j => .int (i * j)) fa fb) := let ⟨_, p, q⟩ := h; let ⟨_, p', q'⟩ := h'; ⟨_, pe_op op_mul p p', je_op u2_int q q'⟩
theorem ce_fdiv (h : CQ X C W a fa) (h' : CQ X C W b fb) : CE X C W (.BinOp a .FloorDiv b pos) (d2 (gI2 CDiv fun i j => .int (i / j)) fa fb) := let ⟨_, p, q⟩ := h; let ⟨_, p', q'⟩ := h'; ⟨_, pe_op op_fdiv p p', je_op u2_int q q'⟩
theorem ce_mod (h : CQ X C W a fa) (h' : CQ X C W b fb) : CE X C W (.BinOp a .Mod b pos) (d2 (gI2 (fun _ j => 0 < j) fun i j => .int (i % j)) fa fb) := let ⟨_, p, q⟩ := h; let ⟨_, p', q'⟩ := h'; ⟨_, pe_op op_mod p p', je_op u2_int q q'⟩
theorem ce_pow (h : CQ X C W a fa) (h' : CQ X C W b fb) : CE X C W (.BinOp a .Pow b pos) (d2 (gI2 CPow fun i j => .int (i ^ j.toNat)) fa fb) := let ⟨_, p, q⟩ := h; let ⟨_, p', q'⟩ := h'; ⟨_, pe_op op_pow p p', je_op u2_int q q'⟩
theorem ce_cmpR {op : CmpOp} {r : R2} {g : D → D → (D → Prop) → Prop} (ho : OpR X (compareOp op) r) (u : U2 ⟨X.K, C⟩ r g) (hm : behindInMarks op b = false) (h : CQ X C W a fa) (h' : CQ X C W b fb) : CE X C W (.Compare a [op] [b] pos) (d2 g fa fb) :=
  let ⟨_, p, q⟩ := h; let ⟨_, p', q'⟩ := h'; ⟨_, pe_cmpR ho p p' hm, je_op u q q'⟩
theorem ct_cmpR {op : CmpOp} {r : R2} {g : D → D → (D → Prop) → Prop} (ho : OpR X (compareOp op) r) (u : U2 ⟨X.K, C⟩ r g) (hm : behindInMarks op b = false) (h : CQ X C W a fa) (h' : CQ X C W b fb) : CT X C W (.Compare a [op] [b] pos) (dB (d2 g fa fb)) :=
  let ⟨_, p, q⟩ := h; let ⟨_, p', q'⟩ := h'; ⟨_, pt_cmpR ho p p' hm, jt_b (je_op u q q').q⟩
abbrev gLt := gCmp fun i j => decide (i < j)
abbrev gGt := gCmp fun i j => decide (j < i)
abbrev gGe := gCmp fun i j => decide (j ≤ i)
theorem ce_lt (h : CQ X C W a fa) (h' : CQ X C W b fb) : CE X C W (.Compare a [.Lt] [b] pos) (d2 gLt fa fb) := ce_cmpR op_lt u2_cmp (nomark _) h h'
theorem ct_lt (h : CQ X C W a fa) (h' : CQ X C W b fb) : CT X C W (.Compare a [.Lt] [b] pos) (dB (d2 gLt fa fb)) := ct_cmpR op_lt u2_cmp (nomark _) h h'
theorem ct_gt (h : CQ X C W a fa) (h' : CQ X C W b fb) : CT X C W (.Compare a [.Gt] [b] pos) (dB (d2 gGt fa fb)) := ct_cmpR op_gt u2_cmp (nomark _) h h'
theorem ct_ge (h : CQ X C W a fa) (h' : CQ X C W b fb) : CT X C W (.Compare a [.GtE] [b] pos) (dB (d2 gGe fa fb)) := ct_cmpR op_ge u2_cmp (nomark _) h h'
theorem ce_eq (g : GE X W k bl) (h : CQ X C W a fa) (h' : CQ X C W b fb) : CE X C W (.Compare a [.Eq] [b] pos) (d2 gEq fa fb) := ce_cmpR (op_eqD g.hu64) u2_eq (nomark _) h h'
theorem ct_ne (g : GE X W k bl) (h : CQ X C W a fa) (h' : CQ X C W b fb) : CT X C W (.Compare a [.NotEq] [b] pos) (dB (d2 gNe fa fb)) := ct_cmpR (op_neD g.hu64) u2_ne (nomark _) h h'
theorem ct_b (h : CQ X C W e fe) (he : ∀ whole, isTrue e X.env whole = (do let v ← whole; standAt e.pos; holding [v] (truthy v)) := by intro _; rfl) : CT X C W e (dB fe) := let ⟨_, p, q⟩ := h; ⟨_, pt_val p he, jt_b q⟩
theorem ct_tru (h : CQ X C W e fe) (he : ∀ whole, isTrue e X.env whole = (do let v ← whole; standAt e.pos; holding [v] (truthy v)) := by intro _; rfl) : CT X C W e (dTru fe) := let ⟨_, p, q⟩ := h; ⟨_, pt_truth p he, jt_tru q⟩
theorem ct_not (h : CT X C W a f1) : CT X C W (.UnaryOp .Not a pos) (dNot f1) := let ⟨_, p, q⟩ := h; ⟨_, pt_not p, jt_not q⟩
theorem cw_and1 (h : CT X C W a f1) : CW X C W (.BoolOp .And [a] pos) f1 := let ⟨_, p, q⟩ := h; ⟨_, pw_and1 p, q⟩
theorem cw_and (h : CT X C W a f1) (h' : CW X C W (.BoolOp .And (b :: es) pos) f2) : CW X C W (.BoolOp .And (a :: b :: es) pos) (dAnd f1 f2) := let ⟨_, p, q⟩ := h; let ⟨_, p', q'⟩ := h'; ⟨_, pw_and p p', jt_and q q'⟩
theorem cw_or1 (h : CT X C W a f1) : CW X C W (.BoolOp .Or [a] pos) f1 := let ⟨_, p, q⟩ := h; ⟨_, pw_or1 p, q⟩
theorem cw_or (h : CT X C W a f1) (h' : CW X C W (.BoolOp .Or (b :: es) pos) f2) : CW X C W (.BoolOp .Or (a :: b :: es) pos) (dOr f1 f2) := let ⟨_, p, q⟩ := h; let ⟨_, p', q'⟩ := h'; ⟨_, pw_or p p', jt_or q q'⟩
theorem CW.t (h : CW X C W e ft) : CT X C W e ft := let ⟨_, p, q⟩ := h; ⟨_, p.pt, q⟩
theorem ce_and1 {op : BoolOp} (h : CE X C W a fa) : CE X C W (.BoolOp op [a] pos) fa := let ⟨_, p, q⟩ := h; ⟨_, pe_one p, q⟩
theorem ce_and (h : CQ X C W a fa) (h' : CE X C W (.BoolOp .And (b :: es) pos) fb) : CE X C W (.BoolOp .And (a :: b :: es) pos) (dAndV (dB fa) fb) := let ⟨_, p, q⟩ := h; let ⟨_, p', q'⟩ := h'; ⟨_, pe_and p p', je_andV q q'⟩
theorem ce_not (h : CQ X C W a fa) : CE X C W (.UnaryOp .Not a pos) (dNotV (dB fa)) := let ⟨_, p, q⟩ := h; ⟨_, pe_not p, je_notV q⟩
theorem ce_ifx (h : CT X C W c ft) (h1 : CE X C W a fa) (h2 : CE X C W b fb) : CE X C W (.IfExp c a b pos) (dIf ft fa fb) := let ⟨_, p, q⟩ := h; let ⟨_, p', q'⟩ := h1; let ⟨_, p2, q2⟩ := h2; ⟨_, pe_ifExp p p' p2, je_if q q' q2⟩
theorem ce_ix (h : CQ X C W a fa) (h' : CQ X C W b fb) (hp : PlainIx b := by exact fun _ _ => rfl) : CE X C W (.Subscript a b pos) (d2 gIx fa fb) := let ⟨_, p, q⟩ := h; let ⟨_, p', q'⟩ := h'; ⟨_, pe_ix ix_seq p p' hp, je_op u2_ix q q'⟩
def dSl (fe : DE) (fl fh : DO) : DE := fun xq ρ Q => fe xq ρ fun x => fl xq ρ fun lo => fh xq ρ fun hi => gSl x lo hi Q
def nSl (fe : DE) (fl fh : DO) : DA := fun xq ρ Q => fe xq ρ fun x => fl xq ρ fun lo => fh xq ρ fun hi => gSlN x lo hi Q
theorem ca_nil : CA X C W [] dNil 0 := ⟨_, pa_nil, jan_nil⟩
theorem ca_cons (h : CE X C W e fe) (h' : CA X C W es fs n) (hs : starEach (e :: es) X.env = (false, eval e X.env) :: starEach es X.env := by rfl) : CA X C W (e :: es) (dCons fe fs) (n + 1) := let ⟨_, p, q⟩ := h; let ⟨_, p', q'⟩ := h'; ⟨_, pa_cons p p' hs, jan_cons q q'⟩
theorem cn_lst (h : CA X C W es fs n) (hn : n ≤ sizeLine := by rw [sizeLine_eq]; decide) : CN X C W (.List es pos) fs := let ⟨_, p, q⟩ := h; ⟨_, pe_lst p, jn_lst q hn⟩
theorem ce_b1 (g : GE X W k bl) {x : Str} {id : String} {r : List V → Hp → VK → Prop} {gg : D → (D → Prop) → Prop} (hc : CallR X (.builtin id) r) (u : U1 ⟨X.K, C⟩ (fun v H Q => r [v] H Q) gg) (hv : bootBuiltins x = some (.builtin id)) (hb : bl x = true) (h : CQ X C W a fa) (hg : Gl X x) (hn : x ≠ "__name__") (hdb : (x == ("__debug__" : Str)) = false) (he : starEach [a] X.env = (false, eval a X.env) :: starEach [] X.env) : CE X C W (.Call (.Name x p) [a] [] pos) (d1 gg fa) :=
  let ⟨_, p, q⟩ := h; ⟨_, pe_callB hc hg (g.bl _ hb) hv (pa_cons p pa_nil he) hn hdb he rfl, je_cb1 u q⟩
theorem ce_t1 (g : GE X W k bl) {x : Str} {T : String} {r : List V → Hp → VK → Prop} {gg : D → (D → Prop) → Prop} (hc : CallR X (.type T) r) (u : U1 ⟨X.K, C⟩ (fun v H Q => r [v] H Q) gg) (hv : bootBuiltins x = some (.type T)) (hb : bl x = true) (h : CQ X C W a fa) (hg : Gl X x) (hn : x ≠ "__name__") (hdb : (x == ("__debug__" : Str)) = false) (he : starEach [a] X.env = (false, eval a X.env) :: starEach [] X.env) : CE X C W (.Call (.Name x p) [a] [] pos) (d1 gg fa) :=
  let ⟨_, p, q⟩ := h; ⟨_, pe_callTy hc hg (g.bl _ hb) hv (pa_cons p pa_nil he) hn hdb he rfl, je_cb1 u q⟩
theorem ce_len (g : GE X W k bl) (h : CQ X C W a fa) (hb : bl "len" = true := by decide +kernel) (hg : Gl X "len" := by rfl) (he : starEach [a] X.env = (false, eval a X.env) :: starEach [] X.env := by rfl) : CE X C W (.Call (.Name "len" p) [a] [] pos) (d1 gLen fa) := ce_b1 g call_len u1_len boot_len hb h hg (by decide) (by decide) he
theorem ce_int1 (g : GE X W k bl) (h : CQ X C W a fa) (hb : bl "int" = true := by decide +kernel) (hg : Gl X "int" := by rfl) (he : starEach [a] X.env = (false, eval a X.env) :: starEach [] X.env := by rfl) : CE X C W (.Call (.Name "int" p) [a] [] pos) (d1 gInt fa) := ce_t1 g call_int1 u1_int boot_int hb h hg (by decide) (by decide) he
theorem ce_all (g : GE X W k bl) (h : CQ X C W a fa) (hb : bl "all" = true := by decide +kernel) (hg : Gl X "all" := by rfl) (he : starEach [a] X.env = (false, eval a X.env) :: starEach [] X.env := by rfl) : CE X C W (.Call (.Name "all" p) [a] [] pos) (d1 gAll fa) := ce_b1 g (cr_all g.calm) u1_all boot_all hb h hg (by decide) (by decide) he
end
def dty : D → String
  | .non => "NoneType"
  | .bl _ => "bool"
  | .int _ => "int"
  | .str _ => "str"
  | .tup _ => "tuple"
  | .lst _ => "list"
  | .scr _ => "list"
  | .rd => "list"
  | .ins _ _ => "?"
  | .exc _ _ => "?"
  | .nms _ => "tuple"
  | .any => "?"
  | .dic _ => "?"
  | .fr _ => "?"
  | .raw _ => "?"
def kty (t T : String) : Bool := t == T || (t == "bool" && T == "int")
def gIsi (T : String) (d : D) (Q : D → Prop) : Prop := match d with
  | .ins _ _ => False
  | .exc _ _ => False
  | .rd => False
  | .any => False
  | .dic _ => False
  | .fr _ => False
  | .raw _ => False
  | d => Q (.bl (kty (dty d) T))
def Ty5 (T : String) : Prop := ∀ t ∈ ["NoneType", "bool", "int", "str", "tuple", "list"], L2.kitB t T = some (kty t T)
theorem ty_int : Ty5 "int" := by unfold Ty5; decide +kernel
theorem ty_bool : Ty5 "bool" := by unfold Ty5; decide +kernel
theorem ty_str : Ty5 "str" := by unfold Ty5; decide +kernel
theorem sqT_ty {K : PySem.W.Frag} {H : Hp} {a : Addr} {vs : List V} (h : SqT K H a vs) : TyX K H (.ref a) (.type "tuple") := by
  rcases h with (h | ⟨o, h⟩) | ⟨o, its, n, h, c, _⟩
  · exact .base (.tup h)
  · exact .fTuple h
  · exact .kTuple h c
theorem sqL_ty {K : PySem.W.Frag} {H : Hp} {a : Addr} {vs : List V} (h : SqL K H a vs) : TyX K H (.ref a) (.type "list") := by
  rcases h with (h | ⟨o, h⟩) | ⟨o, its, n, h, c, _⟩
  · exact .base (.lst h)
  · exact .base (.frz h)
  · exact .kList h c
theorem RpQ.ty {Γ : Kx} {G : Hp} {R : Addr → Prop} {H : Hp} {d : D} {v : V} (g : Gd G R H) (r : RpQ Γ G R H d v) (h1 : ∀ c fs, d ≠ .ins c fs ∧ d ≠ .exc c fs) (h2 : d ≠ .rd) (h3 : d ≠ .any) (h4 : (∀ kvs, d ≠ .dic kvs) ∧ (∀ x, d ≠ .fr x) ∧ ∀ x, d ≠ .raw x) : TyX Γ.K H v (.type (dty d)) := by
  cases d with
  | non => rw [r.non]; exact .base .non
  | bl b => rw [r.bl]; exact .base (.bl b)
  | int b => rw [r.int]; exact .base (.int b)
  | str b => rw [r.str]; exact .base (.str b)
  | tup ds => obtain ⟨a, vs, e, s, _⟩ := r.tup g; rw [e]; exact sqT_ty s
  | lst ds => obtain ⟨a, vs, e, s, _⟩ := r.lst g; rw [e]; exact sqL_ty (SqL.of s)
  | scr ds => obtain ⟨a, e, s⟩ := r.scr g; rw [e]; exact sqL_ty s
  | rd => exact absurd rfl h2
  | any => exact absurd rfl h3
  | dic kvs => exact absurd rfl (h4.1 kvs)
  | fr x => exact absurd rfl (h4.2.1 x)
  | raw x => exact absurd rfl (h4.2.2 x)
  | ins c fs => exact absurd rfl (h1 c fs).1
  | exc c fs => exact absurd rfl (h1 c fs).2
  | nms ys =>
    have r' : Rp Γ G R (.nms ys) v := r
    unfold Rp at r'
    obtain ⟨a, its, e, s⟩ := r'
    rw [e]
    exact sqT_ty (.inl (.inr ⟨_, g.sub _ _ s⟩))
theorem dty_mem {d : D} (h1 : ∀ c fs, d ≠ .ins c fs ∧ d ≠ .exc c fs) (h3 : d ≠ .any) (h4 : (∀ kvs, d ≠ .dic kvs) ∧ (∀ x, d ≠ .fr x) ∧ ∀ x, d ≠ .raw x) : dty d ∈ ["NoneType", "bool", "int", "str", "tuple", "list"] := by
  cases d <;> first | (simp [dty]; done) | exact absurd rfl (h1 _ _).1 | exact absurd rfl (h1 _ _).2 | exact absurd rfl h3 | exact absurd rfl (h4.1 _) | exact absurd rfl (h4.2.1 _) | exact absurd rfl (h4.2.2 _)
theorem u1_isi {Γ : Kx} {T : String} (t : Ty5 T) : U1 Γ (fun v H Q => rIsi Γ.K [v, .ty T] H Q) (gIsi T) := fun G R H d v Qd Q gd r1 g k => by
  have hi : (∀ c fs, d ≠ .ins c fs ∧ d ≠ .exc c fs) ∧ d ≠ .rd ∧ d ≠ .any ∧ ((∀ kvs, d ≠ .dic kvs) ∧ (∀ x, d ≠ .fr x) ∧ ∀ x, d ≠ .raw x) ∧ Qd (.bl (kty (dty d) T)) := by
    cases d <;> first | exact g.elim | exact ⟨(fun c fs => ⟨(fun e => nomatch e), (fun e => nomatch e)⟩), (fun e => nomatch e), (fun e => nomatch e), ⟨(fun _ e => nomatch e), (fun _ e => nomatch e), (fun _ e => nomatch e)⟩, g⟩
  obtain ⟨h1, h2, h3, h4, g⟩ := hi
  exact ⟨v, .ty T, _, _, _, rfl, .ty T, r1.ty gd h1 h2 h3 h4, kit_ty (t _ (dty_mem h1 h3 h4)), k _ G R H _ (Nx.refl gd) rp_bl g⟩
theorem je_isi {Γ : Kx} {W : WX} {te : TE} {fe : DE} {T : String} (t : Ty5 T) (a : JQ Γ W te fe) : JE Γ W (tCB (rIsi Γ.K) (tCons te (tCons (tC (.ty T)) tNil))) (d1 (gIsi T) fe) := fun H0 G R H σ ρ xq Qd Q w x f k =>
  a H0 G R H σ ρ xq _ _ w x f fun v1 G1 R1 H1 d1 n1 r1 q1 => u1_isi t G1 R1 H1 d1 v1 Qd Q n1.gd r1 q1 fun w' G' R' H' c n r q => k w' G' R' H' c (n1.trans n) r q
section
variable {X : Cx} {C : Str → Addr} {W : WX} {k j : Nat} {bl : Str → Bool} {a b c e : Expr} {fa : DE} {pos p p1 p2 : Pos}
theorem ce_isi {x : Str} {T : String} (t : Ty5 T) (hT : bootBuiltins x = some (.type T)) (g : GE X W k bl) (h : CQ X C W a fa) (hb : bl "isinstance" = true := by decide +kernel) (hbT : bl x = true := by decide +kernel) (hg : Gl X "isinstance" := by rfl) (hgT : Gl X x := by rfl) (hn : x ≠ "__name__" := by decide) (hd : (x == ("__debug__" : Str)) = false := by decide)
    (he : starEach [a, .Name x p2] X.env = (false, eval a X.env) :: starEach [.Name x p2] X.env := by rfl) (he' : starEach [.Name x p2] X.env = (false, eval (.Name x p2) X.env) :: starEach [] X.env := by rfl) (hpl : (backTo pos (starEach [.Name x p2] X.env)).any (·.1) = false := by rfl) : CE X C W (.Call (.Name "isinstance" p) [a, .Name x p2] [] pos) (d1 (gIsi T) fa) :=
  let ⟨_, p, q⟩ := h; ⟨_, pe_callB call_isi hg (g.bl _ hb) boot_isinstance (pa_cons p (pa_cons (pe_bltn (v := .ty T) hgT (g.bl _ hbT) hT rfl hn hd) pa_nil he') he) (by decide) (by decide) he hpl, je_isi t q⟩
end
end Dl
namespace Dl
open PySem PySem.Spec PyProof.Rows L2
abbrev W0 : WX := fun _ _ _ _ => False
def tOf (Γ : Kx) (W : WX) (fe : DE) : TE := fun σ H Q => ∃ (H0 G : Hp) (R : Addr → Prop) (ρ : En) (xq : XQ) (Qd : D → Prop), Wd Γ H0 G R H σ ρ ∧ Lk Γ W xq σ G R H ∧ fe xq ρ Qd ∧ ∀ v G' R' H' d, Nx G R H G' R' H' → Rp Γ G' R' d v → Qd d → Q v H'
def tTof (Γ : Kx) (W : WX) (ft : DT) : TT := fun σ H Q => ∃ (H0 G : Hp) (R : Addr → Prop) (ρ : En) (xq : XQ) (Qd : Bool → Prop), Wd Γ H0 G R H σ ρ ∧ Lk Γ W xq σ G R H ∧ ft xq ρ Qd ∧ ∀ b G' R' H', Nx G R H G' R' H' → Qd b → Q b H'
section
variable {X : Cx} {C : Str → Addr} {W : WX} {k j : Nat} {bl : Str → Bool} {a b c e : Expr} {es : List Expr} {fa fb fc fe : DE} {fs : DA} {ft f1 f2 : DT} {pos p p1 p2 : Pos} {n i : Nat}
theorem CE.canon (h : CE X C W e fe) : PE X e (tOf ⟨X.K, C⟩ W fe) := let ⟨t, p, q⟩ := h; ⟨fun pins s σ H Q I ⟨H0, G, R, ρ, xq, Qd, w, x, f, z⟩ => p.run pins s σ H Q I (q H0 G R H σ ρ xq Qd Q w x f z)⟩
theorem je_of {Γ : Kx} : JE Γ W (tOf Γ W fe) fe := fun H0 G R H σ ρ xq Qd Q w x f z => ⟨H0, G, R, ρ, xq, Qd, w, x, f, z⟩
theorem jt_of {Γ : Kx} : JT Γ W (tTof Γ W ft) ft := fun H0 G R H σ ρ xq Qd Q w x f z => ⟨H0, G, R, ρ, xq, Qd, w, x, f, z⟩
def CTs (X : Cx) (C : Str → Addr) (W : WX) (ifs : List Expr) (ft : DT) : Prop := ∃ tt, PTs X ifs tt ∧ JT ⟨X.K, C⟩ W tt ft
theorem cts_nil : CTs X C W [] dYes := ⟨_, pts_nil, jt_yes⟩
theorem CTs.canon (h : CTs X C W es ft) : PTs X es (tTof ⟨X.K, C⟩ W ft) := let ⟨t, p, q⟩ := h; ⟨fun pins s σ H Q I ⟨H0, G, R, ρ, xq, Qd, w, x, f, z⟩ => p.run pins s σ H Q I (q H0 G R H σ ρ xq Qd Q w x f z)⟩
variable {tg iter elt : Expr} {fi : DA}
theorem ci_it (h : CE X C W iter fe) : CI X C W tg iter (iIt fe) := let ⟨_, p, q⟩ := h; ⟨_, pi_seq p, ji_it q⟩
theorem ci_r1 (g : GE X W k bl) (h : CQ X C W a fa) (hb : bl "range" = true := by decide +kernel) (hg : Gl X "range" := by rfl) (hs : starEach [a] X.env = [(false, eval a X.env)] := by rfl) : CI X C W tg (.Call (.Name "range" p) [a] [] pos) (iR1 fa) :=
  let ⟨_, p, q⟩ := h; ⟨_, pi_range1 hg (g.bl _ hb) (pa_cons p pa_nil hs) hs, ji_r1 q⟩
variable {ifs : List Expr} {scope : Scope} {x y : Str} {xp py spos : Pos}
theorem cn_lc (g : GE X W k bl) (hN : X.N.Nodup) (hi : CI X C W (.Name x xp) iter fi) (ok : blkC X.N X.env.scope scope [(x, i)] = true)
    (hg : ∀ (s : Shared) (H : Hp) (Cc : Addr) (cl : List (Str × Addr)) (fp : List Addr), PG (X.blk s H scope (compEnvC scope cl Cc X.env) fp) (.Name x xp) (gName i))
    (ht : ∀ (s : Shared) (H : Hp) (Cc : Addr) (cl : List (Str × Addr)) (fp : List Addr), CTs (X.blk s H scope (compEnvC scope cl Cc X.env) fp) C W0 ifs ft)
    (he : ∀ (s : Shared) (H : Hp) (Cc : Addr) (cl : List (Str × Addr)) (fp : List Addr), CE (X.blk s H scope (compEnvC scope cl Cc X.env) fp) C W0 elt fe) (hs : ∀ x, foldedSetIterable iter X.env x = pure x := by intro _; rfl) :
    CN X C W (.ListComp elt [⟨.Name x xp, iter, ifs, 0⟩] scope pos) (dLc fi i ft fe) :=
  let ⟨_, p, q⟩ := hi; ⟨_, pe_lc g.calm hN p (blkOk_by ok) hg (fun s H Cc cl fp => (ht s H Cc cl fp).canon) (fun s H Cc cl fp => (he s H Cc cl fp).canon) hs, jn_lc q jt_of je_of⟩
structure Cal (P : Program) (w : World) (K : PySem.W.Frag) (mg : Str → Option Value) (base : Heap) (C : Str → Addr) (k : Nat) (x : Str) (S : DF) : Prop where
  ex : ∃ (f : Addr) (fd : FuncData) (ps : List Str), FnOk P w K mg base (L2.CX P w) k f fd ps (spD ⟨K, C⟩ S) ∧ mg x = some (.ref f) ∧ PySem.W.keepIn K (.ref f) = true ∧ Binds K fd ps []
theorem spD_imp {Γ : Kx} {S S' : DF} (h : ∀ ds Q Xq, S' ds Q Xq → S ds Q Xq) (vs : List V) (H : Hp) (Q : VK) (E : XK) (s : spD Γ S' vs H Q E) : spD Γ S vs H Q E := by
  obtain ⟨G, R, ds, Qd, Xq, g, r, s, k1, k2⟩ := s
  exact ⟨G, R, ds, Qd, Xq, g, r, h _ _ _ s, k1, k2⟩
theorem Cal.imp {P : Program} {w : World} {K : PySem.W.Frag} {mg : Str → Option Value} {base : Heap} {S S' : DF} (c : Cal P w K mg base C k x S) (h : ∀ ds Q Xq, S' ds Q Xq → S ds Q Xq) : Cal P w K mg base C k x S' :=
  let ⟨f, fd, ps, F, m, kp, b⟩ := c.ex
  ⟨f, fd, ps, F.imp (spD_imp h), m, kp, b⟩
theorem Cal.mono {P : Program} {w : World} {K : PySem.W.Frag} {mg : Str → Option Value} {base : Heap} {S : DF} (c : Cal P w K mg base C k x S) (h : k ≤ j) : Cal P w K mg base C j x S :=
  let ⟨f, fd, ps, F, m, kp, b⟩ := c.ex
  ⟨f, fd, ps, F.mono h, m, kp, b⟩
theorem ce_call {S : DF} (c : Cal X.prog X.w X.K X.mg X.base C k x S) (g : GE X W j bl) (h : CA X C W (e :: es) fs n) (hk : k ≤ j := by decide) (hg : Gl X x := by rfl)
    (hdb : (x == ("__debug__" : Str)) = false := by decide) (he : starEach (e :: es) X.env = (false, eval e X.env) :: starEach es X.env := by rfl) (hpl : (backTo pos (starEach es X.env)).any (·.1) = false := by rfl) : CE X C W (.Call (.Name x p) (e :: es) [] pos) (dCall S fs) :=
  let ⟨f, fd, ps, F, m, kp, b⟩ := c.ex
  let ⟨_, p, q⟩ := h
  ⟨_, pe_callS F (g.room.mono hk) hg m kp b (fun σ => passAt g.tk σ) p hdb he hpl, je_call q.a⟩
variable {st : Stmt} {sts s1 s2 : List Stmt} {g1 g2 : DS}
theorem css_nil : CSs X C W [] dNext := ⟨_, pss_nil, js_next⟩
theorem css_cons (h : CS X C W st g1) (h' : CSs X C W sts g2) : CSs X C W (st :: sts) (dSeq g1 g2) := let ⟨_, p, q⟩ := h; let ⟨_, p', q'⟩ := h'; ⟨_, pss_cons p p', js_seq q q'⟩
theorem css_one (h : CS X C W st g1) : CSs X C W [st] g1 := let ⟨_, p, q⟩ := h; ⟨_, pss_one p, q⟩
theorem cs_set (i : Nat) (hN : X.N.Nodup) (h : CE X C W e fe) (hi : X.N[i]? = some x := by rfl) (hx : Loc X.env.scope x := by first | exact Or.inl rfl | exact Or.inr rfl) (hs : swapsWith e (some (.Name x p)) pos.line X.env = pure false := by rfl) (hf : X.fn x = true ∨ X.env.scope.names.lookup x = some .local := by first | exact .inl rfl | exact .inr rfl) :
    CS X C W (.Assign [.Name x p] e pos) (dSet i fe) := let ⟨_, p, q⟩ := h; ⟨_, ps_set hN hi hx p hs hf, js_set q⟩
theorem cs_ret (h : CE X C W e fe) : CS X C W (.Return (some e) pos) (dRet fe) := let ⟨_, p, q⟩ := h; ⟨_, ps_ret p, js_ret q⟩
theorem cs_if (h : CT X C W c ft) (h1 : CSs X C W s1 g1) (h2 : CSs X C W s2 g2) : CS X C W (.If c s1 s2 pos) (dIfS ft g1 g2) := let ⟨_, p, q⟩ := h; let ⟨_, p', q'⟩ := h1; let ⟨_, p2, q2⟩ := h2; ⟨_, ps_if p p' p2, js_if q q' q2⟩
theorem cs_for (g : GS X W k bl) (hg : PG X tg (gName i)) (hi : CI X C W tg iter fi) (hb : CSs X C W s1 g1) (hs : ∀ x, foldedSetIterable iter X.env x = pure x := by intro _; rfl) : CS X C W (.For tg iter s1 [] pos) (dFor fi i g1) :=
  let ⟨_, p, q⟩ := hi; let ⟨_, p', q'⟩ := hb; ⟨_, ps_for g.own g.calm p hg p' hs, js_for q q'⟩
end
def kD (Qd : D → Prop) (Xq : XQ) : DK := ⟨fun _ => Qd .non, fun d _ => Qd d, fun _ => False, fun _ => False, fun c fs _ => Xq c fs, fun _ _ _ _ => False⟩
def startD (n : Nat) (ds : List D) : En := ds.map S.fz ++ List.replicate (n - ds.length) S.un
abbrev cxD (P : Program) (w : World) (K : PySem.W.Frag) (mg : Str → Option Value) (base : Heap) (N : List Str) (x : Str) (sc : Scope) (f : Addr) (cdv : Value) (A : Around) (outer : List PySem.Env) (s : Shared) (H : Hp) (E : XK) : Cx := cxOf (L2.CX P w) P w K mg base N x sc f cdv A outer s H E
abbrev wD (E : XK) : WX := fun cls d _ H => E cls d H
theorem start_wd {Γ : Kx} {G : Hp} {R : Addr → Prop} {H : Hp} {N : List Str} {ds : List D} {vs : List V} (g : Gd G R H) (r : RpL Γ G R ds vs) (hl : ds.length ≤ N.length) : Wd Γ H G R H (L2.start N vs) (startD N.length ds) := by
  have e := r.len
  unfold L2.start startD
  refine ⟨g, by simp [e], fun i s q => ?_, fun i j s1 s2 v1 v2 l hij q1 q2 _ _ o1 _ => ?_⟩
  · by_cases hi : i < ds.length
    · rw [List.getElem?_append_left (by simpa using hi), List.getElem?_map, List.getElem?_eq_getElem hi] at q
      cases q
      obtain ⟨v, e2, r2⟩ := r.get (List.getElem?_eq_getElem hi)
      refine ⟨some v, ?_, v, rfl, r2⟩
      rw [List.getElem?_append_left (by rw [List.length_map]; omega), List.getElem?_map, e2]
      rfl
    · rw [List.getElem?_append_right (by simpa using hi)] at q
      have hs : s = .un := List.eq_of_mem_replicate (List.mem_of_getElem? q)
      subst hs
      have hlt := (List.getElem?_eq_some_iff.mp q).1
      simp only [List.length_map, List.length_replicate] at hlt
      refine ⟨none, ?_, True.intro⟩
      rw [List.getElem?_append_right (by rw [List.length_map]; omega), List.length_map, ← e]
      rw [List.getElem?_replicate, if_pos (by omega)]
  · exfalso
    have m := List.mem_of_getElem? q1
    rcases List.mem_append.mp m with m | m
    · obtain ⟨d, _, z⟩ := List.mem_map.mp m
      subst z; exact absurd o1 List.not_mem_nil
    · have := List.eq_of_mem_replicate m
      subst this; exact absurd o1 List.not_mem_nil
theorem dfnF {P : Program} {w : World} {K : PySem.W.Frag} {mg : Str → Option Value} {base : Heap} {C : Str → Addr} {bl : Str → Bool} {x : Str} {params : Arguments} {body : List Stmt} {sc : Scope} {N ps : List Str} {f : Addr} {fd : FuncData} {k : Nat} {S : DF} {fs : DS}
    (F : FunD K x x params body sc [] [] f fd) (Sc : FnScope N ps sc) (hbl : ∀ n, bl n = true → mg n = none) (len : ∀ ds Q Xq, S ds Q Xq → ds.length = ps.length)
    (hbody : ∀ (cdv : Value) (A : Around) (outer : List PySem.Env) (s : Shared) (H : Hp) (E : XK), GS (cxD P w K mg base N x sc f cdv A outer s H E) (wD E) k bl → CSs (cxD P w K mg base N x sc f cdv A outer s H E) C (wD E) body fs)
    (spec : ∀ ds Qd Xq, S ds Qd Xq → fs (kD Qd Xq) (startD N.length ds)) : FnOk P w K mg base (L2.CX P w) (k + 1) f fd ps (spD ⟨K, C⟩ S) := by
  refine F.ok Sc (fun vs H Q E h => ?_) (fun cdv A outer s H vs Q E hr h => ?_)
  · obtain ⟨G, R, ds, Qd, Xq, g, r, q, _⟩ := h
    rw [← r.len]
    exact len _ _ _ q
  · obtain ⟨G, R, ds, Qd, Xq, g, r, q, h1, h2⟩ := h
    have gs : GS (cxD P w K mg base N x sc f cdv A outer s H E) (wD E) k bl := ⟨⟨rfl, hr, takes_of rfl rfl rfl rfl, hbl⟩, passes_of rfl⟩
    obtain ⟨t, p, j⟩ := hbody cdv A outer s H E gs
    refine ⟨t, p, ?_⟩
    have hl : ds.length ≤ N.length := by
      rw [len _ _ _ q]
      have := congrArg List.length Sc.pre
      rw [List.length_take] at this
      omega
    refine j G R H G R H _ _ (kD Qd Xq) _ (Nx.refl g) (start_wd g r hl) ⟨?_, ?_, ?_, ?_, ?_, ?_⟩ (spec ds Qd Xq q)
    · exact fun G' R' H' σ ρ n _ z => h1 .non G' R' H' .non n rp_non z
    · exact fun v d G' R' H' _ _ n _ r' z => h1 v G' R' H' d n r' z
    · exact fun _ _ _ _ _ _ _ z => z.elim
    · exact fun _ _ _ _ _ _ _ z => z.elim
    · exact fun c fs' cls dx G' R' H' σ ρ n _ z e => h2 c fs' G' R' H' cls dx n z e
    · exact fun _ _ _ _ _ _ _ _ _ _ _ _ z => z.elim
theorem dfn {P : Program} {w : World} {K : PySem.W.Frag} {mg : Str → Option Value} {base : Heap} {C : Str → Addr} {bl : Str → Bool} {x : Str} {params : Arguments} {body : List Stmt} {sc : Scope} {N ps : List Str} {f : Addr} {fd : FuncData} {k : Nat} {S : DF} {fs : DS}
    (F : FunD K x x params body sc [] [] f fd) (gf : mg x = some (.ref f)) (Sc : FnScope N ps sc) (hb : Binds K fd ps []) (hbl : ∀ n, bl n = true → mg n = none) (len : ∀ ds Q Xq, S ds Q Xq → ds.length = ps.length)
    (hbody : ∀ (cdv : Value) (A : Around) (outer : List PySem.Env) (s : Shared) (H : Hp) (E : XK), GS (cxD P w K mg base N x sc f cdv A outer s H E) (wD E) k bl → CSs (cxD P w K mg base N x sc f cdv A outer s H E) C (wD E) body fs)
    (spec : ∀ ds Qd Xq, S ds Qd Xq → fs (kD Qd Xq) (startD N.length ds)) : Cal P w K mg base C (k + 1) x S :=
  ⟨f, fd, ps, dfnF F Sc hbl len hbody spec, gf, F.kp, hb⟩
end Dl
namespace Dl
open PySem PySem.Spec PyProof.Rows L2
def dRd (fa : DA) : DE := fun xq ρ Q => fa xq ρ fun ds => (∃ a b c : Int, ds = [.int a, .int b, .int c]) ∧ Q .rd
theorem je_rd {Γ : Kx} {W : WX} {te : TE} {fa : DA} (h : JN Γ W te fa) : JE Γ W te (dRd fa) := fun H0 G R H σ ρ xq Qd Q w x f k =>
  h H0 G R H σ ρ xq _ Q w x f fun l vs G' R' H' ds n e g r h0 rl q => by
    obtain ⟨⟨a, b, c, rfl⟩, q⟩ := q
    have hv : vs = [.int a, .int b, .int c] := by
      unfold RpL at rl
      obtain ⟨v1, r1, rfl, p1, rl⟩ := rl
      unfold RpL at rl
      obtain ⟨v2, r2, rfl, p2, rl⟩ := rl
      unfold RpL at rl
      obtain ⟨v3, r3, rfl, p3, rl⟩ := rl
      unfold RpL at rl
      subst rl
      unfold Rp at p1 p2 p3
      rw [p1, p2, p3]
    subst hv
    refine k (.ref l) G' (fun a => R' a ∨ a = l) H' .rd ⟨n.gg, fun a z => .inl (n.rr a z), ⟨n.gd.sub, fun a z => ?_, fun a z => ?_⟩, n.ev, n.ex, n.fg, fun a z => ?_⟩ ?_ q
    · rcases z with z | rfl
      · exact n.gd.rd a z
      · exact ⟨_, _, _, e⟩
    · rcases z with z | rfl
      · exact n.gd.dis a z
      · exact g
    · rcases z with z | rfl
      · exact n.fr a z
      · exact .inr h0
    · unfold Rp
      exact ⟨l, rfl, .inr rfl⟩
theorem CN.rd {X : Cx} {C : Str → Addr} {W : WX} {e : Expr} {fs : DA} (h : CN X C W e fs) : CE X C W e (dRd fs) := let ⟨t, p, q⟩ := h; ⟨t, p, je_rd q⟩
def dSetIx (s : Nat) (fi fe : DE) : DS := fun k ρ => fe (k.xq ρ) ρ fun d => match ρ[s]? with
  | some (.op ds) => fi (k.xq ρ) ρ fun i => match i with
    | .int z => match ixN ds.length z with
      | some j => k.nx (ρ.set s (.op (ds.set j d)))
      | none => False
    | _ => False
  | some (.fz .rd) => fi (k.xq ρ) ρ fun i => match i, d with
    | .int z, .int _ => 0 ≤ z ∧ z < 3 ∧ k.nx ρ
    | _, _ => False
  | _ => False
theorem RpL.set {Γ : Kx} {G : Hp} {R : Addr → Prop} {ds : List D} {vs : List V} {d : D} {v : V} (r : RpL Γ G R ds vs) (h : Rp Γ G R d v) (j : Nat) : RpL Γ G R (ds.set j d) (vs.set j v) := by
  refine RpL.of_get (by simp [r.len]) fun i d' v' e1 e2 => ?_
  have hl := r.len
  by_cases hj : j = i
  · subst hj
    have hi : j < ds.length := by
      have := (List.getElem?_eq_some_iff.mp e1).1
      rwa [List.length_set] at this
    rw [List.getElem?_set_self hi] at e1
    rw [List.getElem?_set_self (by omega)] at e2
    cases e1
    cases e2
    exact h
  · rw [List.getElem?_set_ne hj] at e1 e2
    obtain ⟨u, e3, q⟩ := r.get e1
    rw [e2] at e3
    cases e3
    exact q
theorem Nx.turn {G0 G : Hp} {R0 R : Addr → Prop} {H0 H : Hp} (n : Nx G0 R0 H0 G R H) {a : Addr} {x y z : Int} (r : R a) : Nx G0 R0 H0 G R (upd H a (.lst [.int x, .int y, .int z])) where
  gg := n.gg
  rr := n.rr
  gd := ⟨fun b o q => by rw [upd_ne (ne_of_none q (n.gd.dis a r))]; exact n.gd.sub b o q, fun b q => by
    by_cases hb : b = a
    · subst hb; exact ⟨x, y, z, upd_same⟩
    · obtain ⟨c, k, m, e⟩ := n.gd.rd b q
      exact ⟨c, k, m, by rw [upd_ne hb]; exact e⟩, n.gd.dis⟩
  ev := fun b o q nb => by
    have ne : b ≠ a := fun e => by
      subst e
      rcases n.fr b r with h | h
      · exact nb h
      · rw [h] at q; cases q
    rw [upd_ne ne]; exact n.ev b o q nb
  ex := fun b o q => by
    by_cases hb : b = a
    · subst hb; exact ⟨_, upd_same⟩
    · rw [upd_ne hb]; exact n.ex b o q
  fg := n.fg
  fr := n.fr
theorem Wd.turn {Γ : Kx} {H0 G : Hp} {R : Addr → Prop} {H : Hp} {σ : St} {ρ : En} (w : Wd Γ H0 G R H σ ρ) {a : Addr} {x y z : Int} (r : R a) : Wd Γ H0 G R (upd H a (.lst [.int x, .int y, .int z])) σ ρ := by
  refine ⟨(Nx.turn (Nx.refl w.gd) r).gd, w.len, fun i s e => ?_, w.dj⟩
  obtain ⟨v, e2, q⟩ := w.sl i s e
  refine ⟨v, e2, ?_⟩
  cases s with
  | un => exact True.intro
  | fz d => exact q
  | op ds =>
    obtain ⟨l, vs, rfl, h, g, nr, h0, rl⟩ := q
    have ne : l ≠ a := fun e => nr (by subst e; exact r)
    exact ⟨l, vs, rfl, by rw [upd_ne ne]; exact h, g, nr, h0, rl⟩
  | io l c fs =>
    obtain ⟨dx, vs, rfl, h, g, nr, h0, rl⟩ := q
    have ne : l ≠ a := fun e => nr (by subst e; exact r)
    exact ⟨dx, vs, rfl, by rw [upd_ne ne]; exact h, g, nr, h0, rl⟩
  | ex l d c fs =>
    obtain ⟨y1, y2⟩ := q
    refine ⟨y1, y2.imp id fun ⟨dd, vs, z1, z2, z3, z4⟩ => ⟨dd, vs, z1, ?_, z3, z4⟩⟩
    rw [upd_ne (fun e => z3 (by subst e; exact r))]
    exact z2
  | ow x as d =>
    obtain ⟨y1, y2, y3⟩ := q
    refine ⟨y1, Ow.mono d x as ⟨fun b o _ h _ g nr => ⟨by rw [upd_ne (fun e => nr (by subst e; exact r))]; exact h, g, nr⟩, fun b o h s => ?_, fun _ h => h, fun _ _ h => h⟩ y2, y3⟩
    rw [upd_ne (fun e => by
      subst e
      obtain ⟨_, _, _, z⟩ := w.gd.rd b r
      rw [h] at z
      cases z
      exact s.elim)]
    exact h
  | se d =>
    obtain ⟨x, y1, y2⟩ := q
    refine ⟨x, y1, Rp.mono (fun b u e => ?_) (fun _ h => h) d x y2⟩
    obtain ⟨e1, e2⟩ := viewO_iff.mp e
    refine viewO_iff.mpr ⟨?_, e2⟩
    rw [upd_ne (fun q => by
      subst q
      rcases e2 with z | z | z
      · rw [w.gd.dis b r] at z; cases z
      · obtain ⟨_, _, _, y⟩ := w.gd.rd b r
        rw [e1] at y
        cases y
        exact z.elim
      · exact z.1 r)]
    exact e1
theorem js_setIx {Γ : Kx} {W : WX} {te ti : TE} {fe fi : DE} {s : Nat} (a : JE Γ W te fe) (b : JQ Γ W ti fi) : JS Γ W (tAsg te (L2.gSub (tVar s) ti rSetL)) (dSetIx s fi fe) := fun G0 R0 H0 G R H σ ρ k D n w e f =>
  a H0 G R H σ ρ _ _ _ w (e.lk n w) f fun v G1 R1 H1 d n1 r1 q1 => by
    have w1 := w.nx n1
    split at q1
    · rename_i ds q
      obtain ⟨v2, e2, l, vs, rfl, h, g, nr, h0, rl⟩ := w1.sl s _ q
      refine ⟨.ref l, e2, b H0 G1 R1 H1 σ ρ _ _ _ w1 (e.lk (n.trans n1) w1) q1 fun vi G2 R2 H2 di n2 r2 q2 => ?_⟩
      obtain ⟨h', g', nr'⟩ := n2.open_ h g nr
      have rl2 := RpL.mono n2.gg n2.rr ds vs rl
      cases di <;> first | exact q2.elim | skip
      rename_i z
      have q2' : match ixN ds.length z with
        | some j => k.nx (List.set ρ s (S.op (ds.set j d)))
        | none => False := q2
      cases hj : ixN ds.length z with
      | none => rw [hj] at q2'; exact q2'.elim
      | some j =>
        rw [hj] at q2'
        refine ⟨l, vs, z, j, rfl, r2.int, h', by rw [← rl2.len]; exact hj, ?_⟩
        exact e.nx G2 R2 _ _ _ (((n.trans n1).trans n2).mut g' nr' h0) ((w1.nx n2).mut q e2 h' g' nr' h0 (rl2.set (Rp.mono n2.gg n2.rr d v r1) j)) q2'
    · rename_i q
      obtain ⟨v2, e2, y, rfl, ry⟩ := w1.sl s _ q
      unfold Rp at ry
      obtain ⟨l, rfl, ra⟩ := ry
      refine ⟨.ref l, e2, b H0 G1 R1 H1 σ ρ _ _ _ w1 (e.lk (n.trans n1) w1) q1 fun vi G2 R2 H2 di n2 r2 q2 => ?_⟩
      split at q2
      · rename_i z y
        obtain ⟨z0, z3, q3⟩ := q2
        have rv : v = .int y := by
          have := r1
          unfold Rp at this
          exact this
        subst rv
        have ra2 := n2.rr l ra
        obtain ⟨x0, x1, x2, hl⟩ := n2.gd.rd l ra2
        have hj : ixN 3 z = some z.toNat := by
          unfold ixN
          rw [if_pos z0, if_pos (by omega)]
        refine ⟨l, _, z, z.toNat, rfl, r2.int, hl, hj, ?_⟩
        have hs : ∃ a b c : Int, [V.int x0, V.int x1, V.int x2].set z.toNat (.int y) = [.int a, .int b, .int c] := by
          have : z = 0 ∨ z = 1 ∨ z = 2 := by omega
          rcases this with rfl | rfl | rfl
          · exact ⟨y, x1, x2, rfl⟩
          · exact ⟨x0, y, x2, rfl⟩
          · exact ⟨x0, x1, y, rfl⟩
        obtain ⟨a', b', c', hs⟩ := hs
        rw [hs]
        exact e.nx G2 R2 _ _ _ (((n.trans n1).trans n2).turn ra2) ((w1.nx n2).turn ra2) q3
      · exact q2.elim
    · exact q1.elim
theorem cs_setix {X : Cx} {C : Str → Addr} {W : WX} {o i e : Expr} {fi fe : DE} {pos p2 : Pos} (s : Nat) (ho : PE X o (tVar s)) (h : CE X C W e fe) (h' : CQ X C W i fi)
    (ha : ∀ v, assign (.Subscript o i p2) X.env v = (do
      let ov ← holding [v] (eval o X.env)
      let iv ← holding [v, ov] (eval i X.env)
      standAt p2
      holding [v, ov, iv] (setItem ov iv v)
      release [v, ov, iv] []) := by intro _; rfl)
    (hs : swapsWithSole [.Subscript o i p2] e pos.line X.env = pure false := by rfl) (hw : swappedStores [.Subscript o i p2] e X.env = pure none := by rfl)
    (h1 : (assignEach [.Subscript o i p2] X.env).map (·.2) = [assign (.Subscript o i p2) X.env] := by rfl) : CS X C W (.Assign [.Subscript o i p2] e pos) (dSetIx s fi fe) :=
  let ⟨_, p, q⟩ := h; let ⟨_, p', q'⟩ := h'; ⟨_, ps_asg p (pg_sub ho p' set_list ha) hs hw h1, js_setIx q q'⟩
end Dl
namespace Dl
open PySem PySem.Spec PyProof.Rows PySem.W PySem.SeqAt PySem.Calls
section
variable {prog : Program} {w : World} {A : Around} {E : Value → Shared → Prop} {s : Shared}
theorem oneLt_tuple {xs ys : List PyData} {a b : Value} {as bs : List Addr} {Q : Bool → Shared → Prop} (ra : Reads s.heap a (.tuple xs) as) (rb : Reads s.heap b (.tuple ys) bs) (hal : alikeAll xs ys = true)
    (hu : A.units + min (PyData.tuple xs).depth (PyData.tuple ys).depth < cLine) (hq : Q (dataLt (.tuple xs) (.tuple ys)) s) : wpAny (model prog w) A (oneLt' true a b) Q E s := by
  cases ra with
  | @tuple l o vs n _ as₁ h1 h2 h3 h4 =>
    cases rb with
    | @tuple l' o' vs' n' _ bs₁ k1 k2 k3 k4 =>
      have n1 : vs.size = xs.length := by simpa using ReadsAll.length _ _ _ h4
      have n2 : vs'.size = ys.length := by simpa using ReadsAll.length _ _ _ k4
      rw [dataLt_tuple, ← firstLt_toks xs ys hal, ← n1, ← n2] at hq
      rw [oneLt'_eq]
      simp only [if_true]
      refine wpAny_bind (wpAny_cRoomFor (room_here hu) ?_)
      obtain ⟨cls, dd, data, sl⟩ := o
      obtain ⟨cls2, dd2, data2, sl2⟩ := o'
      simp only at h2 h3 k2 k3
      subst h2 h3 k2 k3
      refine wpAny_bind (wpAny_callSpecialIfBound?_slot (T := "tuple") ⟨_, h1, rfl⟩ F.slot_tuple_lt (call_meets F.slot_tuple_lt ⟨_, h1, rfl⟩ F.entry_tuple_lt (F.args_tuple_lt_2 _ _) (SeqAt.tuple_ltAt l l' vs vs' n n' dd dd2 sl sl2 (pairEq xs ys) (fun j => dataLt (xs.getD j .none) (ys.getD j .none))) ⟨h1, k1, fun j j1 j2 => ?_, fun j j1 j2 hj => ?_, ?_⟩))
      · have := eqAt_alikeAll xs ys A.in1 s vs.toList vs'.toList _ _ h4 k4 hal (room_in hu) j (by simpa using j1) (by simpa using j2)
        simpa using this
      · have := rcLt_alikeAll xs ys A.in1 s vs.toList vs'.toList _ _ h4 k4 hal (room_in hu) j (by simpa using j1) (by simpa using j2) hj
        simpa using this
      · exact wpAny_truthy_bool hq
def neT : PyData → Bool
  | .tuple (_ :: _) => true
  | _ => false
end
section
variable {M : Model} {A : Around} {E : Value → Shared → Prop} {s : Shared}
theorem mix_firsts : ∀ {vs : List Value} {ds : List PyData}, EachIs (fun v d => ∃ as, Reads s.heap v d as) vs ds → (∀ d ∈ ds, ∃ xs, d = .tuple xs) → ∃ os : List (Option Value), os.map Option.isSome = ds.map neT ∧ ∀ {Q : List (Option Value) → Shared → Prop}, Q os s → wpAny M A (vs.mapM firstOfTuple') Q E s
  | _, _, .nil, _ => ⟨[], rfl, fun h => by rw [List.mapM_nil]; exact wpAny_pure h⟩
  | _, _, .cons (b := d) ⟨as, r⟩ t, ht => by
    obtain ⟨os, e, k⟩ := mix_firsts t fun d hd => ht d (List.mem_cons_of_mem _ hd)
    obtain ⟨xs, rfl⟩ := ht d (List.mem_cons_self ..)
    cases r with
    | @tuple l o vs n _ as₁ h1 h2 h3 h4 =>
      refine ⟨vs[0]? :: os, ?_, fun {Q} h => ?_⟩
      · rw [List.map_cons, List.map_cons, e]
        congr 1
        have n1 : vs.size = xs.length := by simpa using ReadsAll.length _ _ _ h4
        cases xs with
        | nil =>
          have : vs[0]? = none := by rw [Array.getElem?_eq_none_iff]; rw [n1]; exact Nat.le_refl _
          rw [this]
          rfl
        | cons x xs =>
          have h0 : 0 < vs.size := by rw [n1]; exact Nat.succ_pos _
          rw [Array.getElem?_eq_getElem h0]
          rfl
      · rw [List.mapM_cons]
        refine wpAny_bind ?_
        rw [kas_first_eq]
        refine wpAny_bind (Looks.here (show Looks M s.heap (typeOf (.ref l)) o.cls from (Looks.ld h1).andThen .now) ?_)
        rw [h2, if_neg (by first | decide | simp)]
        refine wpAny_bind (listItems_at h1 h3 (wpAny_pure ?_))
        exact wpAny_bind (k (Q := fun bs s' => wpAny M A (pure (vs[0]? :: bs)) Q E s') (wpAny_pure h))
theorem mix_kind {vs : List Value} {d0 : PyData} {ds : List PyData} {Q : SortKind → Shared → Prop} (e : EachIs (fun v d => ∃ as, Reads s.heap v d as) vs (d0 :: ds)) (ht : ∀ d ∈ d0 :: ds, ∃ xs, d = .tuple xs) (hm : ∃ d ∈ d0 :: ds, neT d = false)
    (h : Q (if neT d0 = true then general' else oneType') s) : wpAny M A (keyKind' vs.toArray) Q E s := by
  obtain ⟨os, eo, k⟩ := mix_firsts (M := M) (A := A) (E := E) e ht
  obtain ⟨o0, or, rfl⟩ : ∃ o0 or, os = o0 :: or := by
    cases os with
    | nil => simp at eo
    | cons a b => exact ⟨a, b, rfl⟩
  rw [List.map_cons, List.map_cons] at eo
  have e0 : o0.isSome = neT d0 := (List.cons.inj eo).1
  rw [kat_kind_eq, List.mapM_toArray, map_eq_pure_bind]
  refine wpAny_bind (wpAny_bind (k (wpAny_pure ?_)))
  have hall : ¬ ((o0 :: or).toArray.all fun x => x.isSome) = true := by
    intro q
    simp only [List.all_toArray, List.all_eq_true] at q
    obtain ⟨d, hd, hn⟩ := hm
    have : neT d ∈ (d0 :: ds).map neT := List.mem_map.mpr ⟨d, hd, rfl⟩
    rw [List.map_cons, ← eo, ← List.map_cons (f := Option.isSome)] at this
    obtain ⟨o, ho, he⟩ := List.mem_map.mp this
    rw [q o ho, hn] at he
    cases he
  rw [if_neg hall]
  have h0 : ((o0 :: or).toArray[0]?.bind id).isSome = neT d0 := by rw [← e0]; simp
  rw [h0]
  cases hd : neT d0 with
  | true =>
    rw [hd, if_pos rfl] at h
    simp only [if_true]
    exact wpAny_pure h
  | false =>
    rw [hd, if_neg Bool.false_ne_true] at h
    simp only [Bool.false_eq_true, if_false]
    rw [oneTypeOnly'_eq, List.mapM_toArray, map_eq_pure_bind]
    have hT : ∀ v ∈ vs, Looks M s.heap (typeOf v) (Value.type "tuple") := fun v hv => by
      obtain ⟨d, hd, as, r⟩ := e.left v hv
      obtain ⟨xs, rfl⟩ := ht d hd
      exact looks_reads r
    refine wpAny_bind (wpAny_bind (wpAny_bind (kas_mapM (r := Value.type "tuple") _ (fun v hv Q' hq => (hT v hv).here hq) (wpAny_pure ?_))))
    have hall2 : ((List.map (fun _ => Value.type "tuple") vs).toArray.all fun x => x == Value.type "tuple") = true := by
      simp only [List.all_toArray, List.all_map, List.all_eq_true]
      intro _ _
      exact beq_self_eq_true _
    have hv : ∃ v vr, vs = v :: vr := by
      cases e with
      | cons _ _ => exact ⟨_, _, rfl⟩
    obtain ⟨v, vr, rfl⟩ := hv
    have h0' : (List.map (fun _ => Value.type "tuple") (v :: vr)).toArray[0]? = some (Value.type "tuple") := by simp
    rw [h0']
    simp only [hall2, if_true]
    exact wpAny_pure (wpAny_pure h)
end
def Sortable2 (ds : List PyData) : Prop := Sortable ds ∨ ∀ d, d ∈ ds → ∃ xs, d = .tuple xs
theorem SortsAt.any {prog : Program} {w : World} {A : Around} {s : Shared} {vs : List Value} {ds : List PyData} (e : EachIs (fun v d => ∃ as, Reads s.heap v d as) vs ds) (hal : AllAlike ds) (hk : Sortable2 ds) (hu : ∀ d, d ∈ ds → A.units + d.depth < cLine) : SortsAt prog w A s (dataKind s.heap ds) vs := by
  rcases hk with hk | ht
  · exact SortsAt.data e hal hk hu
  by_cases hm : ∃ d ∈ ds, neT d = false
  · have room : ∀ {d d' : PyData}, d ∈ ds → A.units + min d.depth d'.depth < cLine := fun {d d'} hd => Nat.lt_of_le_of_lt (Nat.add_le_add_left (Nat.min_le_left _ _) _) (hu d hd)
    refine ⟨fun v hv => ?_, ?_⟩
    · obtain ⟨d, hd, as, r⟩ := e.left v hv
      exact ⟨_, dataKind_some hal hd r⟩
    · obtain ⟨d0, dr, rfl⟩ : ∃ d0 dr, ds = d0 :: dr := by
        obtain ⟨d, hd, _⟩ := hm
        cases ds with
        | nil => exact absurd hd List.not_mem_nil
        | cons a b => exact ⟨a, b, rfl⟩
      refine ⟨if neT d0 = true then general' else oneType', ?_, fun h2 E Q hq => mix_kind e ht hm hq⟩
      intro E x y a b Q ha hb hq
      obtain ⟨d, as, hd, ra, rfl⟩ := dataKind_inv ha
      obtain ⟨d', as', hd', rb, rfl⟩ := dataKind_inv hb
      have hdd := hal d hd d' hd'
      have hroom := room (d' := d') hd
      split
      · show wpAny _ _ (oneLt' false x y) _ _ _
        refine oneLt_alike (fun q => nomatch q) ra rb hdd ?_ hroom hq
        obtain ⟨xs, rfl⟩ := ht d hd
        exact fun q => nomatch q
      · rw [keyLt'_oneType]
        obtain ⟨xs, rfl⟩ := ht d hd
        obtain ⟨ys, rfl⟩ := ht d' hd'
        exact oneLt_tuple ra rb (by simpa [alike] using hdd) hroom hq
  · refine SortsAt.data e hal (.inl fun d hd => ?_) hu
    obtain ⟨xs, rfl⟩ := ht d hd
    cases xs with
    | nil => exact absurd ⟨_, hd, rfl⟩ hm
    | cons x xs => exact ⟨x, xs, rfl⟩
end Dl
namespace Dl
open PySem PySem.Spec PyProof.Rows L2
abbrev gMul := gI2 CMul fun i j => .int (i * j)
abbrev gFdiv := gI2 CDiv fun i j => .int (i / j)
abbrev gMod := gI2 (fun _ j => 0 < j) fun i j => .int (i % j)
abbrev gPow := gI2 CPow fun i j => .int (i ^ j.toNat)
def gRevN (x : D) (Q : List D → Prop) : Prop := match x with
  | .lst ds => Q ds.reverse
  | _ => False
def pyD (d : D) : PyData := (py d).getD .none
def dle : D → D → Bool := PySem.W.dataLe false pyD
structure SortOk (ds : List D) : Prop where
  ok : ∀ d ∈ ds, eqOk d = true
  al : PySem.W.AllAlike (ds.map pyD)
  so : Sortable2 (ds.map pyD)
end Dl
namespace Dl
open PySem L2
def Eo (n : Nat) (d : D) : Prop := ∃ p, py d = some p ∧ p.canLay0 = true ∧ p.depth ≤ n
theorem Eo.ok {n : Nat} {d : D} (h : Eo n d) (hn : n ≤ 64 := by omega) : eqOk d = true := by
  obtain ⟨p, e, c, dp⟩ := h
  unfold eqOk
  rw [e]
  show SeqAt.shaped p = true
  unfold SeqAt.shaped
  rw [c, decide_eq_true (Nat.le_trans dp hn)]
  rfl
theorem Eo.mono {n m : Nat} {d : D} (h : Eo n d) (hn : n ≤ m) : Eo m d := let ⟨p, e, c, dp⟩ := h; ⟨p, e, c, Nat.le_trans dp hn⟩
theorem eo_int (n : Nat) (i : Int) : Eo n (.int i) := ⟨.int i, by unfold py; rfl, by simp [PyData.canLay0], by simp [PyData.depth]⟩
theorem eo_bl (n : Nat) (i : Bool) : Eo n (.bl i) := ⟨.bool i, by unfold py; rfl, by simp [PyData.canLay0], by simp [PyData.depth]⟩
theorem eo_non (n : Nat) : Eo n .non := ⟨.none, by unfold py; rfl, by simp [PyData.canLay0], by simp [PyData.depth]⟩
theorem eo_str (n : Nat) (s : Str) (h : (PyData.str s).canLay0 = true) : Eo n (.str s) := ⟨.str s, by unfold py; rfl, h, by simp [PyData.depth]⟩
theorem eo_all {n : Nat} : ∀ {ds : List D}, (∀ d ∈ ds, Eo n d) → ∃ ps, pyL ds = some ps ∧ PyData.canLayAll0 ps = true ∧ PyData.depthAll ps ≤ n
  | [], _ => ⟨[], by unfold pyL; rfl, by simp [PyData.canLayAll0], by simp [PyData.depthAll]⟩
  | d :: ds, h => by
    obtain ⟨p, e, c, dp⟩ := h d (List.mem_cons_self ..)
    obtain ⟨ps, e2, c2, dp2⟩ := eo_all fun x hx => h x (List.mem_cons_of_mem _ hx)
    refine ⟨p :: ps, by unfold pyL; rw [e, e2], by simp [PyData.canLayAll0, c, c2], ?_⟩
    simp only [PyData.depthAll]
    omega
theorem eo_tup {n : Nat} {ds : List D} (h : ∀ d ∈ ds, Eo n d) : Eo (n + 1) (.tup ds) := by
  obtain ⟨ps, e, c, dp⟩ := eo_all h
  refine ⟨.tuple ps, by unfold py; rw [e]; rfl, by simp [PyData.canLay0, c], ?_⟩
  simp only [PyData.depth]
  omega
theorem eo_lst {n : Nat} {ds : List D} (h : ∀ d ∈ ds, Eo n d) : Eo (n + 1) (.lst ds) := by
  obtain ⟨ps, e, c, dp⟩ := eo_all h
  refine ⟨.list ps, by unfold py; rw [e]; rfl, by simp [PyData.canLay0, c], ?_⟩
  simp only [PyData.depth]
  omega
def deqL : List D → List D → Bool
  | [], [] => true
  | x :: xs, y :: ys => deq x y && deqL xs ys
  | _, _ => false
theorem deq_py {n : Nat} {d e : D} {p q : PyData} (h : py d = some p) (h' : py e = some q) : deq d e = PyData.eqv p q := by
  unfold deq; rw [h, h']
theorem deqL_py : ∀ {ds es : List D} {ps qs : List PyData}, pyL ds = some ps → pyL es = some qs → deqL ds es = PyData.eqvAll ps qs
  | [], [], ps, qs, h, h' => by unfold pyL at h h'; cases h; cases h'; simp [deqL, PyData.eqvAll]
  | [], e :: es, ps, qs, h, h' => by
    unfold pyL at h h'
    cases h
    cases q1 : py e <;> cases q2 : pyL es <;> rw [q1, q2] at h' <;> cases h'
    simp [deqL, PyData.eqvAll]
  | d :: ds, [], ps, qs, h, h' => by
    unfold pyL at h h'
    cases h'
    cases q1 : py d <;> cases q2 : pyL ds <;> rw [q1, q2] at h <;> cases h
    simp [deqL, PyData.eqvAll]
  | d :: ds, e :: es, ps, qs, h, h' => by
    unfold pyL at h h'
    cases q1 : py d <;> cases q2 : pyL ds <;> rw [q1, q2] at h <;> cases h
    cases q3 : py e <;> cases q4 : pyL es <;> rw [q3, q4] at h' <;> cases h'
    simp only [deqL, PyData.eqvAll]
    rw [deq_py (n := 0) q1 q3, deqL_py q2 q4]
theorem deq_tup {n m : Nat} {ds es : List D} (h : ∀ d ∈ ds, Eo n d) (h' : ∀ d ∈ es, Eo m d) : deq (.tup ds) (.tup es) = deqL ds es := by
  obtain ⟨ps, e, _⟩ := eo_all h
  obtain ⟨qs, e', _⟩ := eo_all h'
  rw [deq_py (n := 0) (d := .tup ds) (e := .tup es) (p := .tuple ps) (q := .tuple qs) (by unfold py; rw [e]; rfl) (by unfold py; rw [e']; rfl), deqL_py e e']
  simp [PyData.eqv]
theorem deq_lst {n m : Nat} {ds es : List D} (h : ∀ d ∈ ds, Eo n d) (h' : ∀ d ∈ es, Eo m d) : deq (.lst ds) (.lst es) = deqL ds es := by
  obtain ⟨ps, e, _⟩ := eo_all h
  obtain ⟨qs, e', _⟩ := eo_all h'
  rw [deq_py (n := 0) (d := .lst ds) (e := .lst es) (p := .list ps) (q := .list qs) (by unfold py; rw [e]; rfl) (by unfold py; rw [e']; rfl), deqL_py e e']
  simp [PyData.eqv]
theorem deq_int (i j : Int) : deq (.int i) (.int j) = decide (i = j) := by
  rw [deq_py (n := 0) (p := .int i) (q := .int j) (by unfold py; rfl) (by unfold py; rfl)]
  simp only [PyData.eqv]
  by_cases h : i = j <;> simp [h]
theorem deq_str (i j : Str) : deq (.str i) (.str j) = decide (i = j) := by
  rw [deq_py (n := 0) (p := .str i) (q := .str j) (by unfold py; rfl) (by unfold py; rfl)]
  simp only [PyData.eqv]
  by_cases h : i = j <;> simp [h]
theorem deq_bl (i j : Bool) : deq (.bl i) (.bl j) = decide (i = j) := by
  rw [deq_py (n := 0) (p := .bool i) (q := .bool j) (by unfold py; rfl) (by unfold py; rfl)]
  simp only [PyData.eqv]
  cases i <;> cases j <;> rfl
structure Enc {α : Type} [DecidableEq α] (f : α → D) (n : Nat) : Prop where
  eo : ∀ a, Eo n (f a)
  eq : ∀ a b, deq (f a) (f b) = decide (a = b)
section
variable {α β : Type} [DecidableEq α] [DecidableEq β] {f : α → D} {g : β → D} {n m : Nat}
theorem enc_int : Enc D.int 0 := ⟨fun i => eo_int 0 i, deq_int⟩
theorem enc_bl : Enc D.bl 0 := ⟨fun i => eo_bl 0 i, deq_bl⟩
theorem Enc.mono (h : Enc f n) (hn : n ≤ m) : Enc f m := ⟨fun a => (h.eo a).mono hn, h.eq⟩
theorem Enc.all (h : Enc f n) (l : List α) : ∀ d ∈ l.map f, Eo n d := fun d hd => by
  obtain ⟨a, _, rfl⟩ := List.mem_map.mp hd
  exact h.eo a
theorem Enc.deqL (h : Enc f n) : ∀ l k : List α, deqL (l.map f) (k.map f) = decide (l = k)
  | [], [] => rfl
  | [], _ :: _ => rfl
  | _ :: _, [] => rfl
  | a :: l, b :: k => by
    show (deq (f a) (f b) && Dl.deqL (l.map f) (k.map f)) = _
    rw [h.eq, Enc.deqL h l k]
    by_cases h1 : a = b <;> by_cases h2 : l = k <;> simp [h1, h2]
theorem Enc.tup (h : Enc f n) : Enc (fun l : List α => D.tup (l.map f)) (n + 1) := ⟨fun l => eo_tup (h.all l), fun l k => by rw [deq_tup (h.all l) (h.all k), h.deqL]⟩
theorem Enc.lst (h : Enc f n) : Enc (fun l : List α => D.lst (l.map f)) (n + 1) := ⟨fun l => eo_lst (h.all l), fun l k => by rw [deq_lst (h.all l) (h.all k), h.deqL]⟩
theorem Enc.any (h : Enc f n) (l : List α) (a : α) : ((l.map f).any fun z => deq z (f a)) = decide (a ∈ l) := by
  induction l with
  | nil => rfl
  | cons b l ih =>
    rw [List.map_cons, List.any_cons, ih, h.eq]
    by_cases h1 : b = a
    · subst h1; simp
    · have h2 : ¬ a = b := fun e => h1 e.symm
      simp [h1, h2]
end
structure Ord {α : Type} (f : α → D) (le : α → α → Bool) (n : Nat) : Prop where
  eo : ∀ a, Eo n (f a)
  al : ∀ a b, PySem.W.alike (pyD (f a)) (pyD (f b)) = true
  le : ∀ a b, dle (f a) (f b) = le a b
section
variable {α : Type} {f : α → D} {le : α → α → Bool} {n : Nat}
end
abbrev tI (l : List Int) : D := .tup (l.map .int)
abbrev lI (l : List Int) : D := .lst (l.map .int)
end Dl
namespace Dl
open PySem L2
theorem for_ind {α : Type} (f : α → D) {fb : DS} {i : Nat} {k : DK} {ρ : En} (l : List α) (Inv : List α → List α → En → Prop) (h0 : Inv [] l ρ)
    (step : ∀ pre a post ρ (N : En → Prop), l = pre ++ a :: post → Inv pre (a :: post) ρ → (∀ ρ', Inv (pre ++ [a]) post ρ' → N ρ') → fb { k with nx := N, ct := N, bk := k.nx } (ρ.set i (.fz (f a))))
    (hend : ∀ ρ, Inv l [] ρ → k.nx ρ) : forLoop fb i k (l.map f) ρ := by
  have go : ∀ (post pre : List α) (ρ : En), l = pre ++ post → Inv pre post ρ → forLoop fb i k (post.map f) ρ := by
    intro post
    induction post with
    | nil =>
      intro pre ρ e h
      rw [List.append_nil] at e
      subst e
      exact hend ρ h
    | cons a post ih =>
      intro pre ρ e h
      rw [List.map_cons]
      unfold forLoop
      exact step pre a post ρ _ e h fun ρ' h' => ih (pre ++ [a]) ρ' (by rw [e]; simp) h'
  exact go l [] ρ rfl h0
theorem for_rng {fb : DS} {i : Nat} {k : DK} {ρ : En} {lo : Int} {n : Nat} (Inv : Nat → En → Prop) (h0 : Inv 0 ρ)
    (step : ∀ j ρ (N : En → Prop), j < n → Inv j ρ → (∀ ρ', Inv (j + 1) ρ' → N ρ') → fb { k with nx := N, ct := N, bk := k.nx } (ρ.set i (.fz (.int (lo + (j : Int))))))
    (hend : ∀ ρ, Inv n ρ → k.nx ρ) : forLoop fb i k (rng lo n) ρ := by
  unfold rng
  refine for_ind (fun (j : Nat) => D.int (lo + (j : Int))) (List.range n) (fun pre post ρ => Inv pre.length ρ ∧ pre.length + post.length = n) ⟨h0, by simp⟩ (fun pre a post ρ N e h hN => ?_) (fun ρ h => ?_)
  · have ha : a = pre.length := by
      have h1 : (List.range n)[pre.length]? = some a := by rw [e]; simp
      have h2 : pre.length < n := by have := h.2; simp at this; omega
      rw [List.getElem?_range h2] at h1
      exact (Option.some.inj h1).symm
    subst ha
    have h2 : pre.length < n := by have := h.2; simp at this; omega
    exact step pre.length ρ N h2 h.1 fun ρ' h' => hN ρ' ⟨by simpa using h', by have := h.2; simp at this ⊢; omega⟩
  · have := h.1
    rw [List.length_range] at this
    exact hend ρ this
def Is (fe : DE) (ρ : En) (d : D) : Prop := ∀ xq Q, Q d → fe xq ρ Q
def IsT (ft : DT) (ρ : En) (b : Bool) : Prop := ∀ xq (Q : Bool → Prop), Q b → ft xq ρ Q
theorem isT_yes {ρ : En} : IsT dYes ρ true := fun _ _ q => q
theorem lc_ind {α : Type} (f : α → D) {ft : DT} {fe : DE} {i : Nat} {ρ : En} {Q : List D → Prop} (l : List α) (t : α → Bool) (g : α → D) (ht : ∀ a ∈ l, IsT ft (ρ.set i (.fz (f a))) (t a)) (he : ∀ a ∈ l, t a = true → Is fe (ρ.set i (.fz (f a))) (g a))
    (h : Q ((l.filter t).map g)) : lcLoop ft fe i ρ Q (l.map f) [] := by
  have go : ∀ (l : List α) (acc : List D), (∀ a ∈ l, IsT ft (ρ.set i (.fz (f a))) (t a)) → (∀ a ∈ l, t a = true → Is fe (ρ.set i (.fz (f a))) (g a)) → Q (acc ++ (l.filter t).map g) → lcLoop ft fe i ρ Q (l.map f) acc := by
    intro l
    induction l with
    | nil => intro acc _ _ h; simpa [lcLoop] using h
    | cons a l ih =>
      intro acc ht he h
      rw [List.map_cons]
      unfold lcLoop
      refine ht a (List.mem_cons_self ..) _ _ ?_
      cases q : t a with
      | true =>
        rw [if_pos rfl]
        refine he a (List.mem_cons_self ..) q _ _ (ih _ (fun b hb => ht b (List.mem_cons_of_mem _ hb)) (fun b hb => he b (List.mem_cons_of_mem _ hb)) ?_)
        rw [List.filter_cons_of_pos q, List.map_cons] at h
        simpa using h
      | false =>
        rw [if_neg Bool.false_ne_true]
        refine ih _ (fun b hb => ht b (List.mem_cons_of_mem _ hb)) (fun b hb => he b (List.mem_cons_of_mem _ hb)) ?_
        rw [List.filter_cons_of_neg (by simp [q])] at h
        exact h
  exact go l [] ht he (by simpa using h)
theorem lc_map {α : Type} (f : α → D) {fe : DE} {i : Nat} {ρ : En} {Q : List D → Prop} (l : List α) (g : α → D) (he : ∀ a ∈ l, Is fe (ρ.set i (.fz (f a))) (g a)) (h : Q (l.map g)) : lcLoop dYes fe i ρ Q (l.map f) [] :=
  lc_ind f l (fun _ => true) g (fun _ _ => isT_yes) (fun a ha _ => he a ha) (by rw [List.filter_eq_self.mpr fun _ _ => rfl]; exact h)
theorem atI_nth {α : Type} {l : List α} {i : Nat} (h : i < l.length) : atI l (i : Int) = some l[i] := atI_nat (List.getElem?_eq_getElem h)
theorem atI_0 {α : Type} (a : α) (l : List α) : atI (a :: l) 0 = some a := atI_nat (j := 0) rfl
theorem atI_in {α : Type} {l : List α} {i : Int} (h0 : 0 ≤ i) (h1 : i < l.length) : ∃ a, atI l i = some a ∧ a ∈ l := by
  have hl : i.toNat < l.length := by omega
  refine ⟨l[i.toNat], ?_, List.getElem_mem hl⟩
  have := atI_nth hl
  rwa [show ((i.toNat : Nat) : Int) = i by omega] at this
def S_next : DF := fun ds Q _ => ∃ size : Int, ds = [.rd, .int size] ∧ 0 < size ∧ size < 1073741824 ∧ ∀ n : Int, 0 ≤ n → n < size → Q (.int n)
def S_reader : DF := fun ds Q _ => ∃ c : Int, ds = [.int c] ∧ Q .rd
def S_cell : DF := fun ds Q _ => ∃ (ns : List Int) (k : Int), ds = [.scr ns, .int k] ∧ 0 ≤ k ∧ ∀ n : Int, Q (.int n)
theorem S_next.len {ds : List D} {Q : D → Prop} {Xq : XQ} (h : S_next ds Q Xq) : ds.length = 2 := by obtain ⟨_, rfl, _⟩ := h; rfl
theorem S_reader.len {ds : List D} {Q : D → Prop} {Xq : XQ} (h : S_reader ds Q Xq) : ds.length = 1 := by obtain ⟨_, rfl, _⟩ := h; rfl
theorem S_cell.len {ds : List D} {Q : D → Prop} {Xq : XQ} (h : S_cell ds Q Xq) : ds.length = 2 := by obtain ⟨_, _, rfl, _⟩ := h; rfl
end Dl
namespace Dl
open PySem L2
theorem gIx_rd0 (Q : D → Prop) : gIx .rd (.int 0) Q = ∀ n : Int, Q (.int n) := propext ⟨fun h => h.2.2, fun h => ⟨by decide, by decide, h⟩⟩
theorem gIx_rd1 (Q : D → Prop) : gIx .rd (.int 1) Q = ∀ n : Int, Q (.int n) := propext ⟨fun h => h.2.2, fun h => ⟨by decide, by decide, h⟩⟩
theorem gIx_rd2 (Q : D → Prop) : gIx .rd (.int 2) Q = ∀ n : Int, Q (.int n) := propext ⟨fun h => h.2.2, fun h => ⟨by decide, by decide, h⟩⟩
theorem gIx_lst {ds : List D} {i : Int} {d : D} (h : atI ds i = some d) (Q : D → Prop) : gIx (.lst ds) (.int i) Q = Q d := by show (match atI ds i with | some d => Q d | none => False) = Q d; rw [h]
theorem gIx_tup {ds : List D} {i : Int} {d : D} (h : atI ds i = some d) (Q : D → Prop) : gIx (.tup ds) (.int i) Q = Q d := by show (match atI ds i with | some d => Q d | none => False) = Q d; rw [h]
theorem gIx_scr {ns : List Int} {i : Int} {n : Int} (h : atI ns i = some n) (Q : D → Prop) : gIx (.scr ns) (.int i) Q = Q (.int n) := by show (match atI ns i with | some n => Q (.int n) | none => False) = Q (.int n); rw [h]
theorem gEq_int (i j : Int) (Q : D → Prop) : gEq (.int i) (.int j) Q = Q (.bl (decide (i = j))) := propext ⟨fun h => by have := h.2.2; rwa [deq_int] at this, fun h => ⟨(eo_int 0 i).ok, (eo_int 0 j).ok, by rwa [deq_int]⟩⟩
theorem gNe_int (i j : Int) (Q : D → Prop) : gNe (.int i) (.int j) Q = Q (.bl (!decide (i = j))) := propext ⟨fun h => by have := h.2.2; rwa [deq_int] at this, fun h => ⟨(eo_int 0 i).ok, (eo_int 0 j).ok, by rwa [deq_int]⟩⟩
theorem gEq_enc {α : Type} [DecidableEq α] {f : α → D} {n : Nat} (e : Enc f n) (hn : n ≤ 64) (a b : α) (Q : D → Prop) : gEq (f a) (f b) Q = Q (.bl (decide (a = b))) := propext ⟨fun h => by have := h.2.2; rwa [e.eq] at this, fun h => ⟨(e.eo a).ok hn, (e.eo b).ok hn, by rwa [e.eq]⟩⟩
theorem gNe_enc {α : Type} [DecidableEq α] {f : α → D} {n : Nat} (e : Enc f n) (hn : n ≤ 64) (a b : α) (Q : D → Prop) : gNe (f a) (f b) Q = Q (.bl (!decide (a = b))) := propext ⟨fun h => by have := h.2.2; rwa [e.eq] at this, fun h => ⟨(e.eo a).ok hn, (e.eo b).ok hn, by rwa [e.eq]⟩⟩
theorem gIn_tI (neg : Bool) (a : Int) (w : List Int) (Q : D → Prop) : gIn neg (.int a) (tI w) Q = Q (.bl (if neg then !decide (a ∈ w) else decide (a ∈ w))) := propext ⟨fun h => by
  have := h.2.2
  rwa [enc_int.any w a] at this, fun h => ⟨(eo_int 0 a).ok, ((enc_int.tup).eo w).ok, by rwa [enc_int.any w a]⟩⟩
theorem gIn_lI (neg : Bool) (a : Int) (w : List Int) (Q : D → Prop) : gIn neg (.int a) (lI w) Q = Q (.bl (if neg then !decide (a ∈ w) else decide (a ∈ w))) := propext ⟨fun h => by
  have := h.2.2
  rwa [enc_int.any w a] at this, fun h => ⟨(eo_int 0 a).ok, ((enc_int.lst).eo w).ok, by rwa [enc_int.any w a]⟩⟩
end Dl
namespace Dl
open PySem L2
theorem cutD_to {α : Type} (l : List α) (n : Nat) : cutD l none (some (n : Int)) = l.take n := by
  unfold cutD
  rw [HT.sIx_none, HT.sIx_nat, List.drop_zero, Nat.sub_zero]
  by_cases h : n ≤ l.length
  · rw [Nat.min_eq_left h]
  · rw [Nat.min_eq_right (by omega), List.take_of_length_le (by omega), List.take_of_length_le (by omega)]
theorem cutD_from {α : Type} (l : List α) (n : Nat) : cutD l (some (n : Int)) none = l.drop n := by
  unfold cutD
  rw [HT.sIx_none, HT.sIx_nat]
  by_cases h : n ≤ l.length
  · rw [Nat.min_eq_left h, List.take_of_length_le (by rw [List.length_drop]; omega)]
  · rw [Nat.min_eq_right (by omega), List.drop_length, List.drop_of_length_le (by omega)]
    rw [List.take_nil]
theorem bls_map {α : Type} (g : α → Bool) (l : List α) : bls (l.map fun a => D.bl (g a)) = some (l.map g) := by
  induction l with
  | nil => rfl
  | cons a l ih => rw [List.map_cons]; unfold bls; rw [ih]; rfl
theorem gAll_map {α : Type} (g : α → Bool) (l : List α) (Q : D → Prop) : gAll (.lst (l.map fun a => D.bl (g a))) Q = Q (.bl (l.all g)) := by
  unfold gAll
  dsimp only
  rw [bls_map]
  dsimp only
  rw [List.all_map]
  rfl
theorem gIsi_tup (ds : List D) (Q : D → Prop) : gIsi "tuple" (.tup ds) Q = Q (.bl true) := by
  have : kty (dty (.tup ds)) "tuple" = true := by show kty "tuple" "tuple" = true; decide +kernel
  show Q (.bl (kty (dty (.tup ds)) "tuple")) = _
  rw [this]
theorem gIsi_int (i : Int) (Q : D → Prop) : gIsi "int" (.int i) Q = Q (.bl true) := by
  have : kty (dty (.int i)) "int" = true := by show kty "int" "int" = true; decide +kernel
  show Q (.bl (kty (dty (.int i)) "int")) = _
  rw [this]
theorem gIsi_bool (i : Int) (Q : D → Prop) : gIsi "bool" (.int i) Q = Q (.bl false) := by
  have : kty (dty (.int i)) "bool" = false := by show kty "int" "bool" = false; decide +kernel
  show Q (.bl (kty (dty (.int i)) "bool")) = _
  rw [this]
theorem gLen_lst (ds : List D) (Q : D → Prop) : gLen (.lst ds) Q = Q (.int ds.length) := rfl
theorem gLen_tup (ds : List D) (Q : D → Prop) : gLen (.tup ds) Q = Q (.int ds.length) := rfl
theorem gLen_scr (ds : List Int) (Q : D → Prop) : gLen (.scr ds) Q = Q (.int ds.length) := rfl
theorem gItems_lst (ds : List D) (Q : List D → Prop) : gItems (.lst ds) Q = Q ds := rfl
theorem gItems_tup (ds : List D) (Q : List D → Prop) : gItems (.tup ds) Q = Q ds := rfl
theorem gItems_scr (ds : List Int) (Q : List D → Prop) : gItems (.scr ds) Q = Q (ds.map D.int) := rfl
theorem gTuple_lst (ds : List D) (Q : D → Prop) : gTuple (.lst ds) Q = Q (.tup ds) := rfl
theorem gTuple_tup (ds : List D) (Q : D → Prop) : gTuple (.tup ds) Q = Q (.tup ds) := rfl
theorem gListN_lst (ds : List D) (Q : List D → Prop) : gListN (.lst ds) Q = Q ds := rfl
theorem gListN_tup (ds : List D) (Q : List D → Prop) : gListN (.tup ds) Q = Q ds := rfl
def S_law : DF := fun ds Q _ => ∃ ns : List Int, ds = [.scr ns] ∧ ns.length ≤ 63 ∧ Q (.bl true)
end Dl
namespace Dl
open PySem PySem.Spec PyProof.Rows L2
def spLaw (K : PySem.W.Frag) (n : Nat) : Sp := fun vs H Q _ => ∃ (a : Addr) (ns : List Int), vs = [.ref a] ∧ ns.length ≤ n ∧ SqL K H a (ns.map V.int) ∧ ∀ v H', v = .bl true → Q v H'
theorem law_fn {P : Program} {w : World} {K : PySem.W.Frag} {mg : Str → Option Value} {base : Heap} {C : Str → Addr} {k n : Nat} {f : Addr} {fd : FuncData} {y : Str} {S : DF} (F : FnOk P w K mg base (L2.CX P w) k f fd [y] (spD ⟨K, C⟩ S))
    (h : ∀ (ns : List Int) (Qd : D → Prop), ns.length ≤ n → Qd (.bl true) → S [.scr ns] Qd fun _ _ => False) : FnOk P w K mg base CX0 k f fd [y] (spLaw K n) := by
  refine ⟨fun vs H Q E s => ?_, fun A outer s H args us vs Q E hr he hbt hv hs => ?_⟩
  · obtain ⟨a, ns, rfl, _⟩ := s
    rfl
  · obtain ⟨a, ns, rfl, hn, hq, hQ⟩ := hs
    refine codeAny_mono (F.run A outer s H args us [.ref a] Q (fun _ _ _ => False) hr he hbt hv ⟨H, fun _ => False, [.scr ns], fun d => d = .bl true, fun _ _ => False, ⟨fun _ _ q => q, fun _ z => z.elim, fun _ z => z.elim⟩, RpL.cons ?_ RpL.nil, h ns _ hn rfl, ?_, ?_⟩) fun r s' z => ?_
    · unfold Rp
      exact ⟨a, rfl, hq⟩
    · intro v G' R' H' d _ r e
      subst e
      unfold Rp at r
      exact hQ v H' r
    · exact fun _ _ _ _ _ _ _ _ z => z.elim
    · unfold CR at z ⊢
      split at z
      · exact z
      · exact z.elim
      · obtain ⟨_, _, _, _, _, _, _, _, _, _, _, _, z⟩ := z
        exact z.elim
end Dl
namespace Dl
open PySem PySem.Spec PyProof.Rows L2
section
variable {Γ : Kx} {G : Hp} {R : Addr → Prop}
theorem RpF.lookup {f : Str} : ∀ {fs : List (Str × D)} {vs : List (Str × V)} {d : D}, RpF Γ G R fs vs → fs.lookup f = some d → ∃ v, vs.lookup f = some v ∧ Rp Γ G R d v
  | [], _, _, _, e => by cases e
  | (x, d0) :: fs, vs, d, h, e => by
    unfold RpF at h
    obtain ⟨v, r, rfl, h1, h2⟩ := h
    by_cases q : f = x
    · subst q
      rw [lookup_cons_self] at e
      cases e
      exact ⟨v, lookup_cons_self, h1⟩
    · have hb : (f == x) = false := beq_eq_false_iff_ne.mpr q
      have e' : fs.lookup f = some d := by simpa [List.lookup, hb] using e
      obtain ⟨u, a, b⟩ := RpF.lookup h2 e'
      exact ⟨u, by simpa [List.lookup, hb] using a, b⟩
where lookup_cons_self {α : Type} {f : Str} {a : α} {l : List (Str × α)} : ((f, a) :: l).lookup f = some a := by simp [List.lookup]
theorem RpF.len : ∀ {fs : List (Str × D)} {vs : List (Str × V)}, RpF Γ G R fs vs → fs.length = vs.length
  | [], _, h => by unfold RpF at h; subst h; rfl
  | (x, d0) :: fs, vs, h => by
    unfold RpF at h
    obtain ⟨v, r, rfl, h1, h2⟩ := h
    simp [RpF.len h2]
end
def putD (f : Str) (d : D) : List (Str × D) → List (Str × D)
  | [] => [(f, d)]
  | (g, x) :: r => if g = f then (g, d) :: r else (g, x) :: putD f d r
theorem RpQ.ins {Γ : Kx} {G : Hp} {R : Addr → Prop} {H : Hp} {c : Str} {fs : List (Str × D)} {v : V} (g : Gd G R H) (r : RpQ Γ G R H (.ins c fs) v) : ∃ a dx vs, v = .ref a ∧ H a = some (.ins (Γ.C c) dx vs) ∧ RpF Γ G R fs vs := by
  have r' : Rp Γ G R (.ins c fs) v := r
  unfold Rp at r'
  obtain ⟨a, dx, vs, e, h, f⟩ := r'
  exact ⟨a, dx, vs, e, g.sub _ _ h, f⟩
def dFldV (i : Nat) (f : Str) : DE := fun _ ρ Q => match ρ[i]? with
  | some (.io _ _ fs) => ∃ d, fs.lookup f = some d ∧ Q d
  | _ => False
def dSetF (i : Nat) (cs : List Str) (f : Str) (fe : DE) : DS := fun k ρ => fe (k.xq ρ) ρ fun d => match ρ[i]? with
  | some (.io a c fs) => c ∈ cs ∧ fs.length < 999 ∧ k.nx (ρ.set i (.io a c (putD f d fs)))
  | _ => False
section
variable {Γ : Kx} {W : WX} {te : TE} {fe : DE} {i : Nat} {cs : List Str} {f : Str}
end
structure CalM (P : Program) (w : World) (K : PySem.W.Frag) (mg : Str → Option Value) (base : Heap) (C : Str → Addr) (k : Nat) (c m : Str) (S : DF) : Prop where
  ex : ∃ (f : Addr) (fd : FuncData) (ps : List Str), FnOk P w K mg base (L2.CX P w) k f fd ps (spD ⟨K, C⟩ S) ∧ Meth K (C c) m f ∧ Cls K (C c) ∧ Binds K fd ps []
theorem CalM.imp {P : Program} {w : World} {K : PySem.W.Frag} {mg : Str → Option Value} {base : Heap} {C : Str → Addr} {k : Nat} {c m : Str} {S S' : DF} (h : CalM P w K mg base C k c m S) (i : ∀ ds Q Xq, S' ds Q Xq → S ds Q Xq) : CalM P w K mg base C k c m S' :=
  let ⟨f, fd, ps, F, m, kp, b⟩ := h.ex
  ⟨f, fd, ps, F.imp (spD_imp i), m, kp, b⟩
theorem CalM.mono {P : Program} {w : World} {K : PySem.W.Frag} {mg : Str → Option Value} {base : Heap} {C : Str → Addr} {j k : Nat} {c m : Str} {S : DF} (h : CalM P w K mg base C k c m S) (i : k ≤ j) : CalM P w K mg base C j c m S :=
  let ⟨f, fd, ps, F, m, kp, b⟩ := h.ex
  ⟨f, fd, ps, F.mono i, m, kp, b⟩
section
variable {X : Cx} {CX : CXT} {k : Nat} {f C : Addr} {fd : FuncData} {ps : List Str} {sp : Sp} {E : St → XK} {x m : Str} {p pos apos : Pos} {e o : Expr} {es : List Expr} {ta : TE} {t : TA}
end
def dMeth (c m : Str) (S : DF) (fo : DE) (fa : DA) : DE := fun xq ρ Q => fo xq ρ fun x => (∃ fs, x = .ins c fs ∧ fs.lookup m = none) ∧ fa xq ρ fun ds => S (x :: ds) Q xq
abbrev DI := List D → (List (Str × D) → Prop) → XQ → Prop
def spI (Γ : Kx) (c : Str) (S : DI) : Sp := fun vs H Q E => ∃ (G : Hp) (R : Addr → Prop) (H1 : Hp) (x dx : Addr) (us : List V) (ds : List D) (Qf : List (Str × D) → Prop) (Xq : XQ),
  vs = .ref x :: us ∧ H = upd (upd H1 dx (.own x)) x (.ins (Γ.C c) dx []) ∧ H1 x = none ∧ H1 dx = none ∧ dx ≠ x ∧ Gd G R H1 ∧ RpL Γ G R ds us ∧ S ds Qf Xq ∧
  (∀ G' R' H' dx' ws fs, Nx G R H1 G' R' H' → H' x = some (.ins (Γ.C c) dx' ws) → G' x = none → ¬ R' x → RpF Γ G' R' fs ws → Qf fs → Q .non H') ∧ ∀ c fs G' R' H' cls dx, Nx G R H1 G' R' H' → Xq c fs → ExRep Γ G' R' H' c fs cls dx → E cls dx H'
structure CalI (P : Program) (w : World) (K : PySem.W.Frag) (mg : Str → Option Value) (base : Heap) (C : Str → Addr) (k : Nat) (c : Str) (S : DI) : Prop where
  ex : ∃ (f : Addr) (fd : FuncData) (ps : List Str), FnOk P w K mg base (L2.CX P w) k f fd ps (spI ⟨K, C⟩ c S) ∧ Mk K (C c) f ∧ mg c = some (.ref (C c)) ∧ Binds K fd ps []
theorem CalI.mono {P : Program} {w : World} {K : PySem.W.Frag} {mg : Str → Option Value} {base : Heap} {C : Str → Addr} {j k : Nat} {c : Str} {S : DI} (h : CalI P w K mg base C k c S) (i : k ≤ j) : CalI P w K mg base C j c S :=
  let ⟨f, fd, ps, F, m, kp, b⟩ := h.ex
  ⟨f, fd, ps, F.mono i, m, kp, b⟩
section
variable {X : Cx} {CX : CXT} {k : Nat} {f C : Addr} {fd : FuncData} {ps : List Str} {sp : Sp} {E : St → XK} {x m : Str} {p pos apos : Pos} {e o : Expr} {es : List Expr} {ta : TE} {t : TA}
end
def dMake (c : Str) (S : DI) (fa : DA) : DE := fun xq ρ Q => fa xq ρ fun ds => S ds (fun fs => Q (.ins c fs)) xq
def kI (a : Addr) (c : Str) (Qf : List (Str × D) → Prop) (Xq : XQ) : DK := ⟨fun ρ => ∃ fs, ρ[0]? = some (.io a c fs) ∧ Qf fs, fun _ _ => False, fun _ => False, fun _ => False, fun c fs _ => Xq c fs, fun _ _ _ _ => False⟩
end Dl
namespace Dl
open PySem PySem.Spec PyProof.Rows L2 PySem.Calls
def exShape (b : List Stmt) (f p : Str) : Prop := ∃ (m : Str) (j : Nat) (q0 q1 q2 q3 q4 q5 q6 q7 q8 q9 : Pos), (q2.endLine == q4.line) = true ∧
  b = [.Expr (.Call (.Attribute (.Call (.Name "super" q0) [] [] q1) "__init__" q2) [.Constant (.str m) j q3] [] q4) q5, .Assign [.Attribute (.Name "self" q6) f q7] (.Name p q8) q9]
structure ExIn (P : Program) (K : PySem.W.Frag) (C fI : Addr) (f p : Str) (fd : FuncData) : Prop where
  lk : ∃ oc od osl, K.lookup fI = some ⟨oc, od, .func fd, osl⟩
  tf : PySem.W.typeIn K (.ref fI) = some (.type "function")
  ps : (fd.params.posonlyargs ++ fd.params.args).head?.map (·.arg) = some ("self" : Str)
  gl : fd.globals = mainGlobals
  bl : fd.builtins = builtinsNs
  co : fd.scope.isCoroutine = false
  ge : fd.scope.isGenerator = false
  ki : fd.scope.kind = .function
  nc : ∀ x ∈ fd.scope.names, x.2 ≠ .cell
  nS : fd.scope.names.lookup ("self" : Str) = some .local
  nP : fd.scope.names.lookup p = some .local
  nU : fd.scope.names.lookup ("super" : Str) = some .globalImplicit
  nC : fd.scope.names.lookup ("__class__" : Str) = some .free
  fr : ∀ x, fd.scope.names.lookup x = some .free → x = "__class__"
  ne : p ≠ "self"
  nd1 : p ≠ ("__debug__" : Str)
  nd2 : p ≠ ("__classdict__" : Str)
  clo : ∃ cc cl cld csl, fd.closure = [(("__class__" : Str), cc)] ∧ K.lookup cc = some ⟨cl, cld, .cell (some (.ref C)), csl⟩
  code : ∃ cda ccl cdd vs ccs file tf, fd.code = .ref cda ∧ PySem.W.codeIn K fd.code fd.qualname = true ∧ K.lookup cda = some ⟨ccl, cdd, .fields vs, ccs⟩ ∧ vs[2]? = some (.str file tf) ∧ ((P.main.file : Str) == file) = true
  body : ∃ b, fd.body = .stmts b ∧ exShape b f p
  top : (P.main.scope.names.lookup ("super" : Str)).isSome = false
  cd : ∃ cd, PySem.W.clsIn K C = some cd
  mro : PySem.W.mroIn K C (.ref C) = some true
  sup : PySem.W.ks_superIn K C C "__init__" = some (some (.builtin "ValueError.__init__"))
  sub : PySem.W.subIn K (.ref C) (.type "ValueError") = some true
  opq : PySem.W.nsIn K cStatics "thirdparty.any" = some none
  ei : PySem.W.excInitIn K C He.veBase "ValueError.__new__" = true
  oc : OexC K C
  no : PySem.W.findIn K (.ref C) f = some none
def cxE (CX : CXT) (P : Program) (w : World) (K : PySem.W.Frag) (mg : Str → Option Value) (base : Heap) (p : Str) (fd : FuncData) (fI : Addr) (A : Around) (outer : List PySem.Env) (s : Shared) (H : Hp) (E : XK) : Cx where
  prog := P
  w := w
  K := K
  mg := mg
  base := base
  A := A.deeper (callEnv fd s.heap.objs.size fI)
  N := ["self", p]
  s_0 := s
  H_0 := H
  env := callEnv fd s.heap.objs.size fI
  outer := outer
  stack := callEnv fd s.heap.objs.size fI :: outer
  ex := []
  calm := true
  fn := fun x => decide (x ≠ "__class__")
  pn := []
  xe := fun e s' => wpAny (model P w) (A.deeper (callEnv fd s.heap.objs.size fI)) (leaving (callEnv fd s.heap.objs.size fI) e) (fun _ s'' => CX outer H s E e s'') (fun e' s'' => CX outer H s E e' s'') s'
def spExI (C : Addr) (f : Str) : Sp := fun vs H Q _ => ∃ a v, vs = [.ref a, v] ∧ H a = some (exo a C none) ∧ ∀ dx, H dx = none → dx ≠ a → Q .non (upd (upd H dx (exd dx [(f, v)])) a (exo a C (some dx)))
section
variable {CX : CXT} {P : Program} {w : World} {K : PySem.W.Frag} {mg : Str → Option Value} {base : Heap} {C fI : Addr} {f p : Str} {fd : FuncData}
theorem exinit_start {A : Around} {outer : List PySem.Env} {s : Shared} {H : Hp} {E : XK} {h₀ : Heap} {tk : Nat} {a : Addr} {v : V} {u : Value} (F : ExIn P K C fI f p fd) (e0 : Env0 P w K mg base A outer s H) (hd : A.handled = none) (rv : RelV v u)
    (hns : h₀.Ns s.heap.objs.size (fun x => ([("self", Value.ref a), (p, u)] : List (Str × Value)).reverse.lookup x)) (hk : ∀ b o, s.heap.get? b = some o → h₀.get? b = some o) :
    Inv (cxE CX P w K mg base p fd fI A outer s H E) [] [some (.ref a), some v] H { s with heap := h₀, toks := tk } := by
  obtain ⟨cc, cl, cld, csl, ec, lc⟩ := F.clo
  have cells : ∀ {x c}, (callEnv fd s.heap.objs.size fI).cells.lookup x = some c → x = "__class__" ∧ c = cc := fun {x c} h => by
    have h' : fd.closure.lookup x = some c := h
    rw [ec] at h'
    by_cases q : x = "__class__"
    · subst q
      have : some cc = some c := by simpa [List.lookup] using h'
      exact ⟨rfl, (Option.some.inj this).symm⟩
    · have hb : (x == ("__class__" : Str)) = false := beq_eq_false_iff_ne.mpr q
      simp [List.lookup, hb] at h'
  have KX : K.In s.heap := e0.mod.kin.keeps fun b o e => (e0.bs b o e).1
  have hbc : ∃ ob, base.get? cc = some ob ∧ ob.data = .cell (some (.ref C)) := ⟨_, e0.mod.kin _ _ lc, rfl⟩
  have hcc : s.heap.IsCell cc (some (.ref C)) := by
    obtain ⟨ob, hb, hdt⟩ := hbc
    exact ⟨ob, (e0.bs _ _ hb).1, hdt⟩
  have hc0 : h₀.IsCell cc (some (.ref C)) := by
    obtain ⟨ob, hb, hdt⟩ := hbc
    exact ⟨ob, hk _ _ (e0.bs _ _ hb).1, hdt⟩
  have hHc : H cc = none := by
    obtain ⟨ob, hb, hdt⟩ := hbc
    exact (e0.bs _ _ hb).2
  have noA : ∀ b : Addr, b ∉ (cxE CX P w K mg base p fd fI A outer s H E).ex := fun b z => absurd (show b ∈ ([] : List Addr) from z) (by simp)
  refine ⟨⟨e0.mod, F.ki, F.gl, F.bl, Nat.le_refl _, fun y z c h1 h2 => ?_, fun y hy => ?_, fun y c hfn h => ?_, fun _ => hd, Around.frames_deeper e0.frames, .inr ⟨rfl, rfl⟩, fun b z => absurd z (noA b), e0.bs, e0.bsz, fun b _ _ => noA b, fun b z => absurd z (noA b), e0.funs, e0.frf⟩,
    rfl, e0.bare, Un.kept hk, ⟨_, hns, fun i y v' h1 h2 h3 => ?_⟩, fun y c h => ?_, e0.hok.fresh (Nat.le_refl _), fun y c h => ?_, fun q hp => absurd (show q ∈ ([] : List (Addr × Obj)) from hp) (by simp), e0.hok.kept hk, rfl⟩
  · rw [(cells h1).1, (cells h2).1]
  · rcases hy with hy | hy
    · exact absurd rfl (F.nc _ (PySem.mem_of_lookup (show fd.scope.names.lookup y = some .cell from hy)))
    · have := F.fr y hy
      subst this
      refine ⟨cc, ?_⟩
      show fd.closure.lookup ("__class__" : Str) = some cc
      rw [ec]
      simp [List.lookup]
  · have := (cells h).1
    subst this
    exact absurd (of_decide_eq_true (show decide (("__class__" : Str) ≠ "__class__") = true from hfn)) (by simp)
  · match i with
    | 0 =>
      cases h1
      cases h2
      exact ⟨_, rfl, .inl ⟨F.nS, by
        show ([("self", Value.ref a), (p, u)] : List (Str × Value)).reverse.lookup ("self" : Str) = _
        have hb : (("self" : Str) == p) = false := beq_eq_false_iff_ne.mpr (Ne.symm F.ne)
        simp [List.lookup, hb]⟩⟩
    | 1 =>
      cases h1
      cases h2
      refine ⟨_, rv, .inl ⟨F.nP, ?_⟩⟩
      show ([("self", Value.ref a), (p, u)] : List (Str × Value)).reverse.lookup p = _
      simp [List.lookup]
    | i + 2 => cases h1
  · obtain ⟨rfl, rfl⟩ := cells h
    exact ⟨_, hc0⟩
  · obtain ⟨rfl, rfl⟩ := cells h
    exact hHc
theorem exinit_fn (F : ExIn P K C fI f p fd) (hsup : mg "super" = none) : FnOk P w K mg base CX 1 fI fd ["self", p] (spExI C f) := by
  refine ⟨fun vs H Q E h => by obtain ⟨a, v, rfl, _⟩ := h; rfl, fun A outer s H args us vs Q E hr e0 hb rv hs => ?_⟩
  obtain ⟨a, v, rfl, ha, hq⟩ := hs
  obtain ⟨u1, u2, rfl, r1, r2⟩ := vals2 rv
  cases (show u1 = Value.ref a from r1)
  have KX : K.In s.heap := e0.mod.kin.keeps fun b o e => (e0.bs b o e).1
  have lim : s.heap.NoLimit := e0.mod.nolimit.keeps fun b o e => (e0.bs b o e).1
  obtain ⟨oc, od, osl, lk⟩ := F.lk
  obtain ⟨cda, ccl, cdd, cvs, ccs, file, tf, ecd, hcd, lcd, hv2, hfile⟩ := F.code
  obtain ⟨b, eb, m, j, q0, q1, q2, q3, q4, q5, q6, q7, q8, q9, hline, rfl⟩ := F.body
  obtain ⟨cc, cl, cld, csl, ec, lc⟩ := F.clo
  obtain ⟨cd, hcls⟩ := F.cd
  refine ks_codeAny_call_defAt (binds := [("self", .ref a), (p, u2)]) (Room.depth hr) (KX _ _ lk) rfl lim (PySem.W.codeRec_of KX hcd) eb hb F.nc (fun x hx => ?_) (fun h₀ hns hk => ?_) F.co F.ge F.ki
  · rcases List.mem_cons.mp hx with rfl | hx
    · exact F.nS
    · rcases List.mem_cons.mp hx with rfl | hx
      · exact F.nP
      · cases hx
  have I : Inv (cxE CX P w K mg base p fd fI A outer s H E) [] [some (.ref a), some v] H { s with heap := h₀, toks := s.toks + 2 } := exinit_start F e0 hr.hd r2 hns hk
  have KX1 : K.In h₀ := KX.keeps hk
  -- super().__init__('text')
  have hi : interactive (callEnv fd s.heap.objs.size fI) = false := by
    show (fd.scope.kind == .module && _) = false
    rw [F.ki]; rfl
  have he : eval (.Call (.Attribute (.Call (.Name "super" q0) [] [] q1) "__init__" q2) [.Constant (.str m) j q3] [] q4) (callEnv fd s.heap.objs.size fI) = (do
      let ov ← attributeBase (.Call (.Name "super" q0) [] [] q1) "__init__" (callEnv fd s.heap.objs.size fI) (eval (.Call (.Name "super" q0) [] [] q1) (callEnv fd s.heap.objs.size fI))
      standAt q2.atName
      let (f, first) ← holding [ov] (getMethod ov "__init__" (do return (← importBound (.Call (.Name "super" q0) [] [] q1) (callEnv fd s.heap.objs.size fI)).getD true))
      callWith q4 f first (backTo q4 (starEach [.Constant (.str m) j q3] (callEnv fd s.heap.objs.size fI))) []) := by
    show (do
      let ov ← attributeBase (.Call (.Name "super" q0) [] [] q1) "__init__" (callEnv fd s.heap.objs.size fI) (eval (.Call (.Name "super" q0) [] [] q1) (callEnv fd s.heap.objs.size fI))
      standAt q2.atName
      methodCall (.Call (.Name "super" q0) [] [] q1) "__init__" q2 q4 (callEnv fd s.heap.objs.size fI) ov 1 (backTo q4 (starEach [.Constant (.str m) j q3] (callEnv fd s.heap.objs.size fI))) []) = _
    unfold methodCall methodCallPos
    rw [hline]
    rfl
  refine ks_wpAt_execs_cons (ks_wpAt_Expr_any (ks_wpAt_MethodCall ?_ he) hi)
  obtain ⟨ar, ear, ear2⟩ : ∃ ar, (fd.params.posonlyargs ++ fd.params.args).head? = some ar ∧ ar.arg = "self" := by
    have := F.ps
    cases q : (fd.params.posonlyargs ++ fd.params.args).head? with
    | none => rw [q] at this; cases this
    | some ar => rw [q] at this; exact ⟨ar, rfl, Option.some.inj this⟩
  refine ks_wpAt_super_base (env := callEnv fd s.heap.objs.size fI) F.nU F.nC rfl rfl (KX1 _ _ lk) rfl ear ecd (KX1 _ _ lcd) rfl hv2 hfile F.top ?_
  obtain ⟨mb, hb1, hb2⟩ := e0.mod.blt
  have bk : ∀ b o, base.get? b = some o → h₀.get? b = some o := fun b o e => hk b o (e0.bs b o e).1
  refine PySem.W.ks_loadName_global F.ki F.nU (loadGlobal_builtin (env := callEnv fd s.heap.objs.size fI) (by show h₀.Ns fd.globals mg; rw [F.gl]; exact e0.mod.glob.keeps bk) hsup (by show h₀.Ns fd.builtins mb; rw [F.bl]; exact hb1.keeps bk)
    ((hb2 _ (by decide)).trans (show bootBuiltins "super" = some (.type "super") by decide +kernel)) ⟨rfl, ?_⟩)
  refine wpAny_loadName_free F.ki F.nC (c := cc) (by show fd.closure.lookup ("__class__" : Str) = some cc; rw [ec]; simp [List.lookup]) ⟨_, KX1 _ _ lc, rfl⟩ ?_
  rw [ear2]
  refine wpAny_loadName_local F.ki F.nS hns (by
    show ([("self", Value.ref a), (p, u2)] : List (Str × Value)).reverse.lookup ("self" : Str) = _
    have hb : (("self" : Str) == p) = false := beq_eq_false_iff_ne.mpr (Ne.symm F.ne)
    simp [List.lookup, hb]
    rfl) ?_
  obtain ⟨oD, hD1, hD2⟩ : ∃ oD, h₀.get? C = some oD ∧ oD.data = .cls cd := by
    unfold PySem.W.clsIn at hcls
    split at hcls
    · rename_i c d cd' sl ho
      cases hcls
      exact ⟨_, KX1 _ _ ho, rfl⟩
    · cases hcls
  refine ks_wpAny_isType_cls hD1 hD2 ⟨rfl, ?_⟩
  obtain ⟨t1, hoe⟩ := exo_at I.hok ha
  refine ks_wpAny_call_super hD1 hD2 hoe rfl (fun c e => nomatch e) (PySem.W.looks_mroIn KX1 F.mro) (fun h1 hso k1 => ?_)
  have I1 := I.kept (h' := h1) (t' := s.toks + 2) k1
  have KX2 : K.In h1 := KX1.keeps k1
  have hoe1 := k1 _ _ hoe
  have J : PySem.W.InstAt h1 a _ C none := ⟨hoe1, rfl, rfl, trivial⟩
  have hI : PySem.W.Looks (model P w) h1 (isInstance (.ref a) (.type "ValueError")) true := J.type.andThen (PySem.W.looks_subIn KX2 F.sub)
  have hsp := F.sup
  unfold PySem.W.ks_superIn at hsp
  rw [hcls] at hsp
  refine PySem.W.kxs_getMethod PySem.W.kxs_ValueError hso (PySem.W.looks_opaque KX2 F.opq) (l₀ := cd.mro) ?_ rfl KX2 hsp hI (PySem.W.ks_ne KX2 J hcls) (by decide) ?_
  · exact fun A Q E s k q => wpAny_bind ((PySem.W.looks_clsIn KX2 hcls) A _ E s k (wpAny_pure q))
  have k2 : ∀ b o, h1.get? b = some o → (h1.push (PySem.W.kxs_mw "ValueError.__init__" a)).get? b = some o := fun b o e => Heap.get?_push_of_some _ e
  have hu : (h1.push (PySem.W.kxs_mw "ValueError.__init__" a)).get? h1.objs.size = some (PySem.W.kxs_mw "ValueError.__init__" a) := Heap.get?_push_at rfl rfl
  have I2 := I1.kept (h' := h1.push (PySem.W.kxs_mw "ValueError.__init__" a)) (t' := s.toks + 2 + 1) k2
  refine PySem.W.kxs_callWith (i := "ValueError.__init__") (x := a) rfl ?_
  rw [show starEach [.Constant (.str m) j q3] (callEnv fd s.heap.objs.size fI) = (false, eval (.Constant (.str m) j q3) (callEnv fd s.heap.objs.size fI)) :: starEach [] (callEnv fd s.heap.objs.size fI) from rfl]
  refine evalArgs_plain ?_
  refine spliced_cons (wpAny_Constant_str (k := j) (pos := q3) (spliced_nil ⟨hu, ?_⟩))
  obtain ⟨nm', N', qn', bs', bm', hdct', sn', sub', ab', col', dd', k0', k1', k2', k3', k5', hCo, hT⟩ := PySem.W.excInit_of (KX2.keeps k2) F.ei
  have hoe2 := k2 _ _ hoe1
  have I3 : Inv (cxE CX P w K mg base p fd fI A outer s H E) [] [some (.ref a), some v] H { s with heap := h1.push (PySem.W.kxs_mw "ValueError.__init__" a), toks := s.toks + 2 + 1 + 1 } := I1.kept (t' := s.toks + 2 + 1 + 1) k2
  refine wpAny_call (codeAny_of_tree ?_)
  show wpAny _ _ (callAny (.ref h1.objs.size) ⟨[.str m _], []⟩) _ _ _
  simp only [callAny]
  refine wpAny_bind (wpAny_load hu ?_)
  simp only [PySem.W.kxs_mw, show (Value.type "method-wrapper" == Value.type "method" || Value.type "method-wrapper" == Value.type "builtin_function_or_method" || Value.type "method-wrapper" == Value.type "method-wrapper") = true by decide, if_true]
  refine PySem.W.KFB.if_so (by decide) ?_
  refine wpAny_bind (PySem.W.check_bound_init PySem.F.excBase_ValueError.toExcCallFacts hCo hoe2 rfl ?_)
  refine wpAny_bind (wpAny_pure (wpAny_pure ?_))
  refine ⟨plainId_quiet PySem.F.excBase_ValueError.init.plain _, codeAny_builtin PySem.F.excBase_ValueError.initEntry ?_⟩
  refine PySem.W.exc_init_tree (cls := .ref C) (t0 := t1) (dv := none) (c2 := .none) (c3 := .none) (b4 := .bool false) hoe2 (by rw [sizeLine_eq]; exact (show 1 ≤ 16777216 by decide)) (fun h' k3 hx _ => ?_)
  have J3 := I3.write (t' := s.toks + 2 + 1 + 1) (x := a) (e := a) (o := exo a C none) (by rw [ha]; exact True.intro) (.inl rfl) k3 ⟨_, hx⟩ (exo_ok hx)
  have eu : upd H a (exo a C none) = H := by
    funext b
    by_cases hb : b = a
    · rw [hb, upd_same, ha]
    · rw [upd_ne hb]
  rw [eu] at J3
  -- self.f = p
  refine wpAt_of_wpAny ?_
  have hps : PSs (cxE CX P w K mg base p fd fI A outer s H E) [.Assign [.Attribute (.Name "self" q6) f q7] (.Name p q8) q9] (tOst K f (tVar 0) (tVar 1)) :=
    pss_one (ps_ost (X := cxE CX P w K mg base p fd fI A outer s H E) (pe_var (i := 0) rfl (.inl F.nS)) (pe_var (i := 1) rfl (.inl F.nP) (beq_eq_false_iff_ne.mpr F.nd1) (beq_eq_false_iff_ne.mpr F.nd2)))
  refine wpAny_mono (hps.run [] _ _ H { nx := fun _ H' => Q .non H', rt := fun _ _ => False } J3 ⟨v, rfl, .ref a, rfl, a, C, rfl, F.oc, F.no, .inl ⟨ha, fun dx n ne => hq dx n ne⟩⟩) (fun fl s' hs => ?_) fun e s' hs => hs
  cases fl with
  | ret u => obtain ⟨_, _, _, _, _, z⟩ := hs; exact z.elim
  | next =>
    obtain ⟨σ', H', J, q⟩ := hs
    exact ⟨.non, H', J.os, J.bare, J.base, J.hok, rfl, q⟩
  | brk => obtain ⟨_, _, _, z⟩ := hs; exact z.elim
  | cont => obtain ⟨_, _, _, z⟩ := hs; exact z.elim
end
end Dl
namespace PySem.W
open PySem PySem.Spec PySem.Calls PyProof.Rows
section
variable {prog : Program} {w : World} {A : Around} {E : Value → Shared → Prop} {s : Shared} {K : Frag} {x D : Addr} {ox : Obj} {odx : Option Obj}
theorem findObj_dataD {C : Addr} {name : Str} {a g : Value} (hc : (clsIn K C).isSome = true) (ha : findIn K (.ref C) name = some (some a)) (hg : specialIn K a "__get__" = some (some g)) (ht : takesIn K a = some true) : findObj K C odx name = some (.bind g a) := by
  obtain ⟨cd, hc⟩ := Option.isSome_iff_exists.mp hc
  unfold findObj
  rw [hc, Option.bind_some, ha, Option.bind_some]
  simp [hg, ht]
theorem kin_classD {Q : Option Value → Shared → Prop} (hga : findIn K (.ref D) "__getattribute__" = some (some (.builtin "BaseException.__getattribute__"))) (hgt : findIn K (.ref D) "__getattr__" = some none) (hsub : subIn K (.ref D) (.type "BaseException") = some true)
    (hdct : hasDictIn K D = true) (ha : findIn K (.ref D) "__class__" = some (some (.builtin "object.__class__")))
    (hn : specialIn K (.builtin "object.__class__") "__get__" = some (some (.builtin "getset_descriptor.__get__"))) (htk : takesIn K (.builtin "object.__class__") = some true) (hm : mroIn K D (.type "object") = some true)
    (X : K.In s.heap) (I : InstAt s.heap x ox D odx) (h : Q (some (.ref D)) { s with toks := s.toks + 1 }) : wpAny (model prog w) A (getAttr? (.ref x) "__class__") Q E s := by
  have hf : findObj K D odx "__class__" = some (.bind (.builtin "getset_descriptor.__get__") (.builtin "object.__class__")) := findObj_dataD (by obtain ⟨cd, hc, _⟩ := any_some hdct; rw [hc]; rfl) ha hn htk
  obtain ⟨hp, g, d, t, os⟩ := s
  have L0 := I.type (M := model prog w)
  have L1 := looks_findIn (M := model prog w) X hga
  have L2 := looks_findIn (M := model prog w) X hgt
  have L3 := looks_find (M := model prog w) X I hf
  have sub : Looks (model prog w) hp (isInstance (.ref x) (.type "BaseException")) true := L0.andThen (looks_subIn X hsub)
  have hx0 : (false && onTheHeap (Value.builtin "BaseException.__getattribute__")) = false := rfl
  have hx2 : (Value.builtin "BaseException.__getattribute__" == Value.builtin "object.__getattribute__") = false := by decide +kernel
  have hx1 : (onTheHeap (Value.ref D) && Value.builtin "BaseException.__getattribute__" == Value.builtin "object.__getattribute__") = false := by rw [hx2]; rfl
  unfold getAttr? getAttrBy? getAttrBy
  refine wpAny_bind (wpAny_mkText (wpAny_bind (wpAny_attempt (wpAny_holding (wpAny_bind (L0.at (wpAny_bind (L1.at ?_))))))))
  show wpAny _ _ (if (onTheHeap (Value.ref D) && Value.builtin "BaseException.__getattribute__" == Value.builtin "object.__getattribute__") = true then _ else _) _ _ _
  rw [hx1, if_neg Bool.false_ne_true]
  unfold getAttrByItsOwn hookBefore
  refine wpAny_bind ?_
  rw [if_pos (show onTheHeap (Value.ref D) = true from rfl)]
  refine L2.at ?_
  refine wpAny_bind (wpAny_attempt (wpAny_holding ?_))
  unfold callGetattribute
  rw [hx0, if_neg Bool.false_ne_true]
  unfold boundAndCalled
  rw [PySem.F.excAttr_ValueError.ga.bind (.ref x)]
  refine wpAny_bind (wpAny_pure ?_)
  show wpAny _ _ (call (.builtin "BaseException.__getattribute__") [.ref x, .str "__class__" t]) _ _ _
  refine wpAny_call (codeAny_call_builtin PySem.F.excAttr_ValueError.ga.plain PySem.F.entry_bexc_ga ?_)
  refine @check_slot (model prog w) _ _ ⟨hp, g, d, t + 1, os⟩ "BaseException.__getattribute__" "BaseException" "__getattribute__" (.ref x) [.str "__class__" t] [] _ (by decide +kernel) (by decide +kernel) sub (PySem.F.args_bexc_ga (.ref x) (.str "__class__" t)) ?_
  unfold Builtin.«object.__getattribute__»
  refine wpAny_bind (wpAny_of_eq (a := ((Value.ref x : Value), [Value.str "__class__" t])) (by first | rfl | (simp only [slotArgs]; rfl)) ?_)
  refine wpAny_bind (wpAny_pure (wpAny_bind (L0.at (wpAny_bind (L3.at ?_)))))
  show wpAny _ _ (holding [Value.builtin "object.__class__"] (call (.builtin "getset_descriptor.__get__") [.builtin "object.__class__", .ref x, .ref D]) >>= ret) _ _ _
  refine wpAny_bind (wpAny_holding (wpAny_call (class_get (s := ⟨hp, g, d, t + 1, os⟩) (ox := ox) (od := odx) X I hm ?_)))
  refine wpAny_pure ?_
  show wpAny _ _ (handedOut (.ref D)) _ _ _
  rw [handedOut_of (v := .ref D) rfl]
  first
    | exact wpAny_pure (wpAny_pure h)
    | exact wpAny_pure h
    | exact wpAny_pure (wpAny_bind (wpAny_pure (wpAny_pure h)))
theorem kitx_excD (hga : findIn K (.ref D) "__getattribute__" = some (some (.builtin "BaseException.__getattribute__"))) (hgt : findIn K (.ref D) "__getattr__" = some none) (hsub : subIn K (.ref D) (.type "BaseException") = some true) (hdct : hasDictIn K D = true) (ha : findIn K (.ref D) "__class__" = some (some (.builtin "object.__class__")))
    (hn : specialIn K (.builtin "object.__class__") "__get__" = some (some (.builtin "getset_descriptor.__get__"))) (htk : takesIn K (.builtin "object.__class__") = some true) (hm : mroIn K D (.type "object") = some true) :
    KitX K (.ref x) (.ref D) (fun h => ∃ ox odx, InstAt h x ox D odx) where
  ty := fun _ _ _ ⟨_, _, I⟩ => I.type
  it := fun _ _ X _ => by
    obtain ⟨cdD, hcD, _⟩ := any_some hdct
    unfold clsIn at hcD
    split at hcD
    · rename_i c' d' cd' sl' ho
      intro A' Q' E' s' k q
      unfold isType loadHead
      exact wpAny_bind (wpAny_loadPart (k _ _ (X _ _ ho)) (wpAny_pure q))
    · cases hcD
  ne := fun h tp dd its n sl X htp => by
    obtain ⟨cdD, hcD, _⟩ := any_some hdct
    refine Bool.eq_false_iff.mpr fun q => ?_
    have e : D = tp := Value.ref.inj (beq_iff_eq.mp q)
    subst e
    unfold clsIn at hcD
    split at hcD
    · rename_i c' d' cd' sl' ho
      have z := (X _ _ ho).symm.trans htp
      cases z
    · cases hcD
  ca := fun X ⟨_, _, I⟩ k => kin_classD hga hgt hsub hdct ha hn htk hm X I k
end
end PySem.W
namespace Dl
open PySem PySem.Spec PyProof.Rows L2
structure Ex0 (K : PySem.W.Frag) (mg : Str → Option Value) (C : Str → Addr) (c : Str) : Prop where
  ex : PySem.W.excIn K (C c) He.veBase "ValueError.__new__" = true
  gl : mg c = some (.ref (C c))
  kp : PySem.W.keepIn K (.ref (C c)) = true
  sb : PySem.W.subIn K (.ref (C c)) (.type "BaseException") = some true
  ty : PySem.W.typeIn K (.ref (C c)) = some (.type "type")
structure Ex1 (P : Program) (w : World) (K : PySem.W.Frag) (mg : Str → Option Value) (base : Heap) (C : Str → Addr) (c f : Str) : Prop where
  oc : OexC K (C c)
  gl : mg c = some (.ref (C c))
  ex : ∃ (fI : Addr) (fd : FuncData) (ps : List Str), PySem.W.findIn K (.ref (C c)) "__init__" = some (some (.ref fI)) ∧ PySem.W.typeIn K (.ref fI) = some (.type "function") ∧
    (∀ CX : CXT, FnOk P w K mg base CX 1 fI fd ps (spExI (C c) f)) ∧ Binds K fd ps []
def dRaise0 (c : Str) : DS := fun k ρ => k.ex c [] ρ
def dRaise1 (c f : Str) (fe : DE) : DS := fun k ρ => fe (k.xq ρ) ρ fun d => k.ex c [(f, d)] ρ
section
variable {Γ : Kx} {W : WX} {te : TE} {fe : DE} {c f : Str}
end
section
variable {X : Cx} {C : Str → Addr} {W : WX} {k : Nat} {bl : Str → Bool} {e : Expr} {es : List Expr} {fe : DE} {pos p p1 p2 : Pos} {c f : Str}
theorem takes_no (tk : Takes X W) : Passes (L2.CX X.prog X.w) X (fun _ _ _ => False) := passes_call tk fun _ _ _ _ h => h.elim
end
def kSu (k : DK) (i : Nat) : DK := ⟨fun ρ => k.nx (ρ.set i .un), fun d ρ => k.rt d (ρ.set i .un), fun ρ => k.bk (ρ.set i .un), fun ρ => k.ct (ρ.set i .un), fun _ _ _ => False, fun v as d ρ => k.ro v as d (ρ.set i .un)⟩
def dTry (exs : List Str) (i : Nat) (fb : DS) (su : Addr → Option Addr → Str → List (Str × D) → DS) : DS := fun k ρ =>
  fb ⟨k.nx, k.rt, k.bk, k.ct, fun c fs ρ' => c ∈ exs ∧ ∀ a d, su a d c fs (kSu k i) (ρ'.set i (.ex a d c fs)), k.ro⟩ ρ
def tSof (Γ : Kx) (W : WX) (fs : DS) : TS := fun D σ H => ∃ (G0 : Hp) (R0 : Addr → Prop) (H0 G : Hp) (R : Addr → Prop) (ρ : En) (k : DK), Nx G0 R0 H0 G R H ∧ Wd Γ H0 G R H σ ρ ∧ EndsOk Γ W G0 R0 H0 k D ∧ fs k ρ
theorem CSs.canon {X : Cx} {C : Str → Addr} {W : WX} {st : List Stmt} {fs : DS} (h : CSs X C W st fs) : PSs X st (tSof ⟨X.K, C⟩ W fs) := let ⟨t, p, q⟩ := h; ⟨fun pins s σ H D I ⟨G0, R0, H0, G, R, ρ, k, n, w, e, f⟩ => p.run pins s σ H D I (q G0 R0 H0 G R H σ ρ k D n w e f)⟩
structure ExT (K : PySem.W.Frag) (C : Str → Addr) (exs : List Str) (cv : Value) : Prop where
  exm : ∀ c ∈ exs, PySem.W.exmOne K (.ref (C c)) cv = some true
section
variable {X : Cx} {C : Str → Addr} {W : WX} {k : Nat} {bl : Str → Bool} {x n : Str} {cv : Value} {i : Nat} {body suite : List Stmt} {b₀ : Stmt} {np pos pos' : Pos} {exs : List Str} {fb : DS} {su : Addr → Option Addr → Str → List (Str × D) → DS}
end
end Dl
namespace Dl
open PySem PySem.Spec PyProof.Rows L2
def dExIs (a : Addr) (d : Option Addr) (i : Nat) (b : Bool) : DE := fun _ ρ Q => (∃ c fs, ρ[i]? = some (.ex a d c fs)) ∧ Q (.bl b)
def dExFld (a : Addr) (d : Option Addr) (fs : List (Str × D)) (i : Nat) (f : Str) : DE := fun _ ρ Q => (∃ c, ρ[i]? = some (.ex a d c fs)) ∧ ∃ v, fs.lookup f = some v ∧ Q v
section
variable {Γ : Kx} {W : WX} {a Dc : Addr} {d : Option Addr} {i : Nat} {b : Bool} {c : V} {cv : Value} {f : Str} {fs : List (Str × D)}
end
section
variable {X : Cx} {C : Str → Addr} {W : WX} {a : Addr} {d : Option Addr} {c y f : Str} {oe : Obj} {pn : List (Addr × Obj)} {i : Nat} {b : Bool} {e : Expr} {fs : List (Str × D)} {pos p p2 : Pos}
end
section
variable {X : Cx} {C : Str → Addr} {W : WX} {bl : Str → Bool} {a : Expr} {fa : DE} {pos p p2 : Pos} {x : Str} {T : String}
end
structure IsC (K : PySem.W.Frag) (C : Str → Addr) (cs : List Str) (isa : Str → Bool) (y : Str) : Prop where
  ins : ∀ c ∈ cs, Cls K (C c) ∧ PySem.W.findIn K (.ref (C c)) "__class__" = some (some (.builtin "object.__class__")) ∧ PySem.W.mroIn K (C c) (.type "object") = some true ∧ PySem.W.kitOne K (.ref (C c)) (.ref (C y)) = some (isa c)
  sp : PySem.W.specialIn K (.builtin "object.__class__") "__get__" = some (some (.builtin "getset_descriptor.__get__"))
  tk : PySem.W.takesIn K (.builtin "object.__class__") = some true
  bs : ∀ t ∈ ["NoneType", "bool", "int", "str", "tuple", "list"], PySem.W.kitOne K (.type t) (.ref (C y)) = some false
section
variable {X : Cx} {C : Str → Addr} {W : WX} {k : Nat} {bl : Str → Bool} {a : Expr} {fa : DE} {pos p p2 : Pos} {y : Str} {cs : List Str} {isa : Str → Bool}
variable {b e : Expr} {es : List Expr} {fs fb : DE} {fr : DA} {f c m : Str} {n j i : Nat}
def dFldI (i : Nat) (cs : List Str) (f : Str) : DE := fun xq ρ Q => (∃ a c fs, ρ[i]? = some (.io a c fs) ∧ c ∈ cs) ∧ dFldV i f xq ρ Q
end
end Dl
namespace Dl
open PySem PySem.Spec PyProof.Rows L2 He
structure CTb where
  cls : List Str
  exs : List Str
  ex0 : List Str
  flds : List (Str × Str)
  tgt : List Str
  cat : List Str
  isa : Str → Str → Bool
  meth : List (Str × Str)
  mkd : List Str
  gints : List (Str × Int)
  gstrs : List (Str × Str)
  gtups : List (Str × List Str) := []
  gtup2 : List (Str × List (List Str)) := []
def strOf : Value → Option Str
  | .str s _ => some s
  | _ => none
def tupB (K : PySem.W.Frag) (p : Str × List Str) : Bool := (Fa.glo p.1).ok K && (match K.lookup (ga K p.1) with
  | some o => decide (o.cls = .type "tuple") && (match o.data with
    | .seq its _ => decide (its.toList.map strOf = p.2.map some) && decide (its.size ≤ 1000)
    | _ => false)
  | none => false)
theorem strs_vals : ∀ {us : List Value} {xs : List Str}, us.map strOf = xs.map some → Vals (xs.map V.str) us
  | [], [], _ => .nil
  | [], _ :: _, h => by simp at h
  | _ :: _, [], h => by simp at h
  | u :: us, x :: xs, h => by
    rw [List.map_cons, List.map_cons] at h
    obtain ⟨h1, h2⟩ := List.cons.inj h
    refine .cons ?_ (strs_vals h2)
    cases u <;> first | (unfold strOf at h1; cases h1; exact ⟨_, rfl⟩) | (unfold strOf at h1; cases h1)
theorem tupB_ok {K : PySem.W.Frag} {p : Str × List Str} (h : tupB K p = true) : (Fa.glo p.1).ok K = true ∧ ∃ (o : Obj) (its : Array Value) (n : Nat), K.lookup (ga K p.1) = some o ∧ o.cls = .type "tuple" ∧ o.data = .seq its n ∧ its.size ≤ sizeLine ∧ Vals (p.2.map V.str) its.toList := by
  obtain ⟨h1, h2⟩ := ba h
  refine ⟨h1, ?_⟩
  split at h2
  · rename_i o e
    obtain ⟨h3, h4⟩ := ba h2
    split at h4
    · rename_i its n e2
      obtain ⟨h5, h6⟩ := ba h4
      have h6 := of_decide_eq_true h6
      exact ⟨o, its, n, e, of_decide_eq_true h3, e2, by rw [sizeLine_eq]; omega, strs_vals (of_decide_eq_true h5)⟩
    · cases h4
  · cases h2
def TupS (K : PySem.W.Frag) (a : Addr) (ys : List Str) : Prop := ∃ (o : Obj) (its : Array Value) (n : Nat), K.lookup a = some o ∧ o.cls = .type "tuple" ∧ o.data = .seq its n ∧ its.size ≤ sizeLine ∧ Vals (ys.map V.str) its.toList
def tupA (K : PySem.W.Frag) (a : Addr) (ys : List Str) : Bool := match K.lookup a with
  | some o => decide (o.cls = .type "tuple") && (match o.data with
    | .seq its _ => decide (its.toList.map strOf = ys.map some) && decide (its.size ≤ 1000)
    | _ => false)
  | none => false
theorem tupA_ok {K : PySem.W.Frag} {a : Addr} {ys : List Str} (h2 : tupA K a ys = true) : TupS K a ys := by
  unfold tupA at h2
  split at h2
  · rename_i o e
    obtain ⟨h3, h4⟩ := ba h2
    split at h4
    · rename_i its n e2
      obtain ⟨h5, h6⟩ := ba h4
      have h6 := of_decide_eq_true h6
      exact ⟨o, its, n, e, of_decide_eq_true h3, e2, by rw [sizeLine_eq]; omega, strs_vals (of_decide_eq_true h5)⟩
    · cases h4
  · cases h2
def TupsS (K : PySem.W.Frag) : List Value → List (List Str) → Prop
  | [], [] => True
  | .ref a :: us, ys :: r => TupS K a ys ∧ TupsS K us r
  | _, _ => False
def tupsA (K : PySem.W.Frag) : List Value → List (List Str) → Bool
  | [], [] => true
  | .ref a :: us, ys :: r => tupA K a ys && tupsA K us r
  | _, _ => false
theorem tupsA_ok {K : PySem.W.Frag} : ∀ {us : List Value} {yss : List (List Str)}, tupsA K us yss = true → TupsS K us yss
  | [], [], _ => trivial
  | [], _ :: _, h => by unfold tupsA at h; cases h
  | .ref a :: us, ys :: r, h => by
    unfold tupsA at h
    obtain ⟨h1, h2⟩ := ba h
    exact ⟨tupA_ok h1, tupsA_ok h2⟩
  | .ref _ :: _, [], h => by unfold tupsA at h; cases h
  | .int _ _ :: _, _, h => by unfold tupsA at h; cases h
  | u :: us, yss, h => by
    cases u <;> cases yss <;> first | (unfold tupsA at h; cases h; done) | skip
    rename_i a ys r
    unfold tupsA at h
    obtain ⟨h1, h2⟩ := ba h
    exact ⟨tupA_ok h1, tupsA_ok h2⟩
def Tup2 (K : PySem.W.Frag) (a : Addr) (yss : List (List Str)) : Prop := ∃ (o : Obj) (its : Array Value) (n : Nat), K.lookup a = some o ∧ o.cls = .type "tuple" ∧ o.data = .seq its n ∧ its.size ≤ sizeLine ∧ TupsS K its.toList yss
def tup2B (K : PySem.W.Frag) (p : Str × List (List Str)) : Bool := (Fa.glo p.1).ok K && (match K.lookup (ga K p.1) with
  | some o => decide (o.cls = .type "tuple") && (match o.data with
    | .seq its _ => tupsA K its.toList p.2 && decide (its.size ≤ 1000)
    | _ => false)
  | none => false)
theorem tup2B_ok {K : PySem.W.Frag} {p : Str × List (List Str)} (h : tup2B K p = true) : (Fa.glo p.1).ok K = true ∧ Tup2 K (ga K p.1) p.2 := by
  obtain ⟨h1, h2⟩ := ba h
  refine ⟨h1, ?_⟩
  split at h2
  · rename_i o e
    obtain ⟨h3, h4⟩ := ba h2
    split at h4
    · rename_i its n e2
      obtain ⟨h5, h6⟩ := ba h4
      have h6 := of_decide_eq_true h6
      exact ⟨o, its, n, e, of_decide_eq_true h3, e2, by rw [sizeLine_eq]; omega, tupsA_ok h5⟩
    · cases h4
  · cases h2
def bases : List String := ["NoneType", "bool", "int", "str", "tuple", "list"]
def kitB1 (K : PySem.W.Frag) (t c : Value) (b : Bool) : Bool := decide (PySem.W.kitOne K t c = some b)
def isoB (K : PySem.W.Frag) : Bool := decide (PySem.W.specialIn K (.builtin "object.__class__") "__get__" = some (some (.builtin "getset_descriptor.__get__"))) && decide (PySem.W.takesIn K (.builtin "object.__class__") = some true)
def objB (K : PySem.W.Frag) (c : Str) : Bool := eqO (PySem.W.findIn K (.ref (ga K c)) "__class__") (some (some (.builtin "object.__class__"))) && decide (PySem.W.mroIn K (ga K c) (.type "object") = some true)
def ex0B (K : PySem.W.Frag) (c : Str) : Bool := PySem.W.excIn K (ga K c) veBase "ValueError.__new__" && (PySem.W.keepIn K (.ref (ga K c)) && (decide (PySem.W.subIn K (.ref (ga K c)) (.type "BaseException") = some true) && decide (PySem.W.typeIn K (.ref (ga K c)) = some (.type "type"))))
def ctB (T : CTb) (K : PySem.W.Frag) : Bool :=
  ((T.cls ++ T.exs).all fun c => (Fa.glo c).ok K) && ((T.cls.all fun c => (Fa.cls c).ok K && objB K c) && (isoB K && ((T.flds.all fun p => (Fa.noat p.1 p.2).ok K) &&
  (((T.cls ++ T.exs).all fun c => T.tgt.all fun y => kitB1 K (.ref (ga K c)) (.ref (ga K y)) (T.isa c y)) && ((T.tgt.all fun y => bases.all fun t => kitB1 K (.type t) (.ref (ga K y)) false) &&
  ((T.exs.all fun c => kitB1 K (.ref (ga K c)) (.type "ValueError") true && (xfB K (ga K c) && objB K c)) && ((T.exs.all fun c => T.cat.all fun y => decide (PySem.W.exmOne K (.ref (ga K c)) (.ref (ga K y)) = some (T.isa c y))) &&
  ((T.ex0.all fun c => ex0B K c && (Fa.glo c).ok K) && ((T.meth.all fun p => (Fa.meth p.1 p.2).ok K) && ((T.mkd.all fun c => (Fa.mkr c).ok K) && ((T.gints.all fun p => (Fa.int p.1 p.2).ok K) && ((T.gstrs.all fun p => (Fa.str p.1 p.2).ok K) && ((T.gtups.all fun p => tupB K p) && T.gtup2.all fun p => tup2B K p)))))))))))))
structure KC (K : PySem.W.Frag) (mg : Str → Option Value) (C : Str → Addr) (T : CTb) : Prop where
  glo : ∀ c ∈ T.cls ++ T.exs, mg c = some (.ref (C c))
  cls : ∀ c ∈ T.cls, Cls K (C c)
  obj : ∀ c ∈ T.cls, PySem.W.findIn K (.ref (C c)) "__class__" = some (some (.builtin "object.__class__")) ∧ PySem.W.mroIn K (C c) (.type "object") = some true
  sp : PySem.W.specialIn K (.builtin "object.__class__") "__get__" = some (some (.builtin "getset_descriptor.__get__"))
  tk : PySem.W.takesIn K (.builtin "object.__class__") = some true
  no : ∀ p ∈ T.flds, PySem.W.findIn K (.ref (C p.1)) p.2 = some none
  isa : ∀ c ∈ T.cls ++ T.exs, ∀ y ∈ T.tgt, PySem.W.kitOne K (.ref (C c)) (.ref (C y)) = some (T.isa c y)
  bs : ∀ y ∈ T.tgt, ∀ t ∈ bases, PySem.W.kitOne K (.type t) (.ref (C y)) = some false
  ve : ∀ c ∈ T.exs, PySem.W.kitOne K (.ref (C c)) (.type "ValueError") = some true
  xf : ∀ c ∈ T.exs, XfC K (C c)
  xc : ∀ c ∈ T.exs, ExcC K (C c)
  exm : ∀ c ∈ T.exs, ∀ y ∈ T.cat, PySem.W.exmOne K (.ref (C c)) (.ref (C y)) = some (T.isa c y)
  x0 : ∀ c ∈ T.ex0, Ex0 K mg C c
  meth : ∀ p ∈ T.meth, Meth K (C p.1) p.2 (ma K (C p.1) p.2)
  mks : ∀ c ∈ T.mkd, Mk K (C c) (ma K (C c) "__init__")
  gi : ∀ p ∈ T.gints, ∃ t, mg p.1 = some (.int p.2 t)
  gs : ∀ p ∈ T.gstrs, ∃ t, mg p.1 = some (.str p.2 t)
  gt : ∀ p ∈ T.gtups, mg p.1 = some (.ref (C p.1)) ∧ ∃ (o : Obj) (its : Array Value) (n : Nat), K.lookup (C p.1) = some o ∧ o.cls = .type "tuple" ∧ o.data = .seq its n ∧ its.size ≤ sizeLine ∧ Vals (p.2.map V.str) its.toList
  gt2 : ∀ p ∈ T.gtup2, mg p.1 = some (.ref (C p.1)) ∧ Tup2 K (C p.1) p.2
theorem kc_of {T : CTb} {K : PySem.W.Frag} {h : Heap} {mg : Str → Option Value} (X : K.In h) (G : h.Ns mainGlobals mg) (c : ctB T K = true) : KC K mg (ga K) T := by
  obtain ⟨b1, c⟩ := ba c
  obtain ⟨b2, c⟩ := ba c
  obtain ⟨b3, c⟩ := ba c
  obtain ⟨b4, c⟩ := ba c
  obtain ⟨b5, c⟩ := ba c
  obtain ⟨b6, c⟩ := ba c
  obtain ⟨b7, c⟩ := ba c
  obtain ⟨b8, c⟩ := ba c
  obtain ⟨b9, c⟩ := ba c
  obtain ⟨b10, c⟩ := ba c
  obtain ⟨b11, c⟩ := ba c
  obtain ⟨b12, c⟩ := ba c
  obtain ⟨b13, c⟩ := ba c
  obtain ⟨b14, b15⟩ := ba c
  obtain ⟨s1, s2⟩ := ba b3
  have s1 := of_decide_eq_true s1
  have s2 := of_decide_eq_true s2
  have hcl : ∀ c ∈ T.cls, (Fa.cls c).ok K = true ∧ objB K c = true := fun c hc => ba (List.all_eq_true.mp b2 c hc)
  have hob : ∀ {c}, objB K c = true → PySem.W.findIn K (.ref (ga K c)) "__class__" = some (some (.builtin "object.__class__")) ∧ PySem.W.mroIn K (ga K c) (.type "object") = some true := fun {c} z => by
    obtain ⟨z1, z2⟩ := ba z
    exact ⟨eqO_ok z1, of_decide_eq_true z2⟩
  have hex : ∀ c ∈ T.exs, PySem.W.kitOne K (.ref (ga K c)) (.type "ValueError") = some true ∧ XfC K (ga K c) ∧ objB K c = true := fun c hc => by
    obtain ⟨z1, z⟩ := ba (List.all_eq_true.mp b7 c hc)
    obtain ⟨z2, z3⟩ := ba z
    exact ⟨of_decide_eq_true z1, xfB_ok z2, z3⟩
  have hmeth : ∀ {x m}, (Fa.meth x m).ok K = true → Meth K (ga K x) m (ma K (ga K x) m) := fun {x m} z => by
    obtain ⟨z1, z⟩ := ba z
    obtain ⟨z2, z3⟩ := ba z
    exact ⟨eqO_ok z1, z2, z3⟩
  exact {
    glo := fun c hc => glo_ok X G (List.all_eq_true.mp b1 c hc)
    cls := fun c hc => cls_ok (hcl c hc).1
    obj := fun c hc => hob (hcl c hc).2
    sp := s1
    tk := s2
    no := fun p hp => eqO_ok (List.all_eq_true.mp b4 p hp)
    isa := fun c hc y hy => of_decide_eq_true (List.all_eq_true.mp (List.all_eq_true.mp b5 c hc) y hy)
    bs := fun y hy t ht => of_decide_eq_true (List.all_eq_true.mp (List.all_eq_true.mp b6 y hy) t ht)
    ve := fun c hc => (hex c hc).1
    xf := fun c hc => (hex c hc).2.1
    xc := fun c hc => by
      obtain ⟨_, x, o⟩ := hex c hc
      obtain ⟨o1, o2⟩ := hob o
      exact ⟨x.ga, x.gg, x.exC, x.hdC, o1, s1, s2, o2⟩
    exm := fun c hc y hy => of_decide_eq_true (List.all_eq_true.mp (List.all_eq_true.mp b8 c hc) y hy)
    x0 := fun c hc => by
      obtain ⟨z, z5⟩ := ba (List.all_eq_true.mp b9 c hc)
      obtain ⟨z1, z⟩ := ba z
      obtain ⟨z2, z⟩ := ba z
      obtain ⟨z3, z4⟩ := ba z
      exact ⟨z1, glo_ok X G z5, z2, of_decide_eq_true z3, of_decide_eq_true z4⟩
    meth := fun p hp => hmeth (List.all_eq_true.mp b10 p hp)
    mks := fun c hc => by
      obtain ⟨z1, z⟩ := ba (List.all_eq_true.mp b11 c hc)
      obtain ⟨z2, z⟩ := ba z
      obtain ⟨z3, z4⟩ := ba z
      exact ⟨z1, eqO_ok z2, z3, z4⟩
    gi := fun p hp => int_ok X G (List.all_eq_true.mp b12 p hp)
    gs := fun p hp => str_ok X G (List.all_eq_true.mp b13 p hp)
    gt := fun p hp => by
      obtain ⟨z1, z2⟩ := tupB_ok (List.all_eq_true.mp b14 p hp)
      exact ⟨glo_ok X G z1, z2⟩
    gt2 := fun p hp => by
      obtain ⟨z1, z2⟩ := tup2B_ok (List.all_eq_true.mp b15 p hp)
      exact ⟨glo_ok X G z1, z2⟩ }
section
variable {K : PySem.W.Frag} {mg : Str → Option Value} {C : Str → Addr} {T : CTb}
theorem KC.g (kc : KC K mg C T) {c : Str} (h : (T.cls ++ T.exs).contains c = true := by decide +kernel) : mg c = some (.ref (C c)) := kc.glo c (List.contains_iff_mem.mp h)
theorem KC.int (kc : KC K mg C T) {x : Str} {i : Int} (h : T.gints.contains (x, i) = true := by decide +kernel) : ∃ t, mg x = some (.int i t) := kc.gi (x, i) (List.contains_iff_mem.mp h)
theorem KC.str (kc : KC K mg C T) {x z : Str} (h : T.gstrs.contains (x, z) = true := by decide +kernel) : ∃ t, mg x = some (.str z t) := kc.gs (x, z) (List.contains_iff_mem.mp h)
theorem KC.tup (kc : KC K mg C T) {x : Str} {ys : List Str} (h : T.gtups.contains (x, ys) = true := by decide +kernel) : mg x = some (.ref (C x)) ∧ ∃ (o : Obj) (its : Array Value) (n : Nat), K.lookup (C x) = some o ∧ o.cls = .type "tuple" ∧ o.data = .seq its n ∧ its.size ≤ sizeLine ∧ Vals (ys.map V.str) its.toList := kc.gt (x, ys) (List.contains_iff_mem.mp h)
theorem KC.ex0 (kc : KC K mg C T) {c : Str} (h : T.ex0.contains c = true := by decide +kernel) : Ex0 K mg C c := kc.x0 c (List.contains_iff_mem.mp h)
theorem KC.mkr (kc : KC K mg C T) {c : Str} (h : T.mkd.contains c = true := by decide +kernel) : Mk K (C c) (ma K (C c) "__init__") := kc.mks c (List.contains_iff_mem.mp h)
theorem KC.cl (kc : KC K mg C T) {c : Str} (h : T.cls.contains c = true := by decide +kernel) : Cls K (C c) := kc.cls c (List.contains_iff_mem.mp h)
end
structure ExD where
  c : Str
  f : Str
  p : Str
  params : Arguments
  body : List Stmt
  scope : Scope
abbrev ExW : Type := Option (Arguments × FuncBody × Scope × Addr × Addr)
def exW (K : PySem.W.Frag) (c : Str) : ExW := match K.lookup (ma K (ga K c) "__init__") with
  | some ⟨_, _, .func fd, _⟩ => some (fd.params, fd.body, fd.scope, fd.globals, fd.builtins)
  | _ => none
def ExD.val (d : ExD) : ExW := some (d.params, .stmts d.body, d.scope, mainGlobals, builtinsNs)
structure ExSt (d : ExD) : Prop where
  ps : (d.params.posonlyargs ++ d.params.args).head?.map (·.arg) = some ("self" : Str)
  co : d.scope.isCoroutine = false
  ge : d.scope.isGenerator = false
  ki : d.scope.kind = .function
  nc : (d.scope.names.all fun q => decide (q.2 ≠ .cell)) = true
  nS : d.scope.names.lookup ("self" : Str) = some .local
  nP : d.scope.names.lookup d.p = some .local
  nU : d.scope.names.lookup ("super" : Str) = some .globalImplicit
  nC : d.scope.names.lookup ("__class__" : Str) = some .free
  fr : (d.scope.names.all fun q => decide (q.2 ≠ .free) || decide (q.1 = "__class__")) = true
  ne : decide (d.p ≠ "self" ∧ d.p ≠ ("__debug__" : Str) ∧ d.p ≠ ("__classdict__" : Str)) = true
  body : exShape d.body d.f d.p
  bd : ∀ (nm qn : Str) (gl bl : Addr) (cl : List (Str × Addr)) (kV doc pm cdv ct : Value) (an : Option Addr) (us : List Value), us.length = 2 →
    bindArgs ⟨nm, qn, d.params, .stmts d.body, d.scope, gl, cl, .none, kV, doc, pm, an, cdv, ct, bl⟩ ⟨us, []⟩ = pure ((["self", d.p] : List Str).zip us)
def oexB (K : PySem.W.Frag) (C : Addr) : Bool := (match K.lookup C with
  | some ⟨.type "type", _, .cls cd, sl⟩ => (match cd.mro, sl.toList with
    | .ref C' :: bm, [_, _, _, _, some (.builtin n), _] => decide (C' = C) && (decide (n = "ValueError.__new__") && (cd.hasDict && (!cd.hasDel && PySem.HandSPX.refsVE bm)))
    | _, _ => false)
  | _ => false) && (eqO (PySem.W.findIn K (.ref C) "__setattr__") (some (some (.builtin "object.__setattr__"))) && (decide (PySem.W.subIn K (.ref C) (.type "BaseException") = some true) && (decide (PySem.W.typeIn K (.ref C) = some (.type "type")) && PySem.W.keepIn K (.ref C))))
theorem oexB_ok {K : PySem.W.Frag} {C : Addr} (h : oexB K C = true) : OexC K C := by
  obtain ⟨h1, h⟩ := ba h
  obtain ⟨h2, h⟩ := ba h
  obtain ⟨h3, h⟩ := ba h
  obtain ⟨h4, h5⟩ := ba h
  refine ⟨?_, eqO_ok h2, of_decide_eq_true h3, of_decide_eq_true h4, h5⟩
  split at h1
  · rename_i dd cd sl ho
    split at h1
    · rename_i C' bm k0 k1 k2 k3 n k5 hm hs
      obtain ⟨e1, h1⟩ := ba h1
      obtain ⟨e2, h1⟩ := ba h1
      obtain ⟨e3, h1⟩ := ba h1
      obtain ⟨e4, e5⟩ := ba h1
      have e1 := of_decide_eq_true e1
      have e2 := of_decide_eq_true e2
      subst e1 e2
      obtain ⟨nm, bs, mro, ns, qn, hd, sn, sb, ab, col, del⟩ := cd
      dsimp only at hm e3 e4
      have e4 : del = false := by simpa using e4
      subst hm e3 e4
      have hsl : sl = #[k0, k1, k2, k3, some (.builtin "ValueError.__new__"), k5] := by
        obtain ⟨l⟩ := sl
        simp only at hs
        rw [hs]
      subst hsl
      exact ⟨nm, qn, ns, bs, bm, sn, sb, ab, col, dd, k0, k1, k2, k3, k5, ho, e5⟩
    · cases h1
  · cases h1
def exB (P : Program) (K : PySem.W.Frag) (d : ExD) : Bool := oexB K (ga K d.c) && ((Fa.glo d.c).ok K && (eqO (PySem.W.findIn K (.ref (ga K d.c)) "__init__") (some (some (.ref (ma K (ga K d.c) "__init__")))) &&
  (decide (PySem.W.typeIn K (.ref (ma K (ga K d.c) "__init__")) = some (.type "function")) && ((match K.lookup (ma K (ga K d.c) "__init__") with
    | some ⟨_, _, .func fd, _⟩ => decide (fd.defaults = .none) && ((match fd.closure with
      | [(x, cc)] => decide (x = "__class__") && (match K.lookup cc with
        | some ⟨_, _, .cell (some (.ref C')), _⟩ => decide (C' = ga K d.c)
        | _ => false)
      | _ => false) && (PySem.W.codeIn K fd.code fd.qualname && (match fd.code with
        | .ref c => (match K.lookup c with
          | some ⟨_, _, .fields vs, _⟩ => (match (vs[2]? : Option Value) with
            | some (Value.str file _) => ((P.main.file : Str) == file)
            | _ => false)
          | _ => false)
        | _ => false)))
    | _ => false) && ((PySem.W.clsIn K (ga K d.c)).isSome && (decide (PySem.W.mroIn K (ga K d.c) (.ref (ga K d.c)) = some true) && (eqO (PySem.W.ks_superIn K (ga K d.c) (ga K d.c) "__init__") (some (some (.builtin "ValueError.__init__"))) &&
    (decide (PySem.W.subIn K (.ref (ga K d.c)) (.type "ValueError") = some true) && (eqO (PySem.W.nsIn K cStatics "thirdparty.any") (some none) && (PySem.W.excInitIn K (ga K d.c) veBase "ValueError.__new__" && eqO (PySem.W.findIn K (.ref (ga K d.c)) d.f) (some none)))))))))))
theorem exIn_of {P : Program} {w : World} {K : PySem.W.Frag} {h : Heap} {mg : Str → Option Value} {base : Heap} {d : ExD} (X : K.In h) (G : h.Ns mainGlobals mg) (st : ExSt d) (ob : exW K d.c = d.val) (c : exB P K d = true) (top : (P.main.scope.names.lookup ("super" : Str)).isSome = false) (hsup : mg "super" = none) :
    Ex1 P w K mg base (ga K) d.c d.f := by
  obtain ⟨c1, c⟩ := ba c
  obtain ⟨c2, c⟩ := ba c
  obtain ⟨c3, c⟩ := ba c
  obtain ⟨c4, c⟩ := ba c
  obtain ⟨c5, c⟩ := ba c
  obtain ⟨c6, c⟩ := ba c
  obtain ⟨c7, c⟩ := ba c
  obtain ⟨c8, c⟩ := ba c
  obtain ⟨c9, c⟩ := ba c
  obtain ⟨c10, c⟩ := ba c
  obtain ⟨c11, c12⟩ := ba c
  obtain ⟨n1, n2, n3⟩ := of_decide_eq_true st.ne
  unfold exW at ob
  cases q : K.lookup (ma K (ga K d.c) "__init__") with
  | none => rw [q] at c5; cases c5
  | some o =>
    obtain ⟨oc, od, dt, osl⟩ := o
    rw [q] at c5 ob
    cases dt with
    | func fd =>
      obtain ⟨f1, f2, f3, f4, f5, f6, f7, f8, f9, f10, f11, f12, f13, f14, f15⟩ := fd
      have ob2 : (some (f3, f4, f5, f6, f15) : ExW) = some (d.params, .stmts d.body, d.scope, mainGlobals, builtinsNs) := ob
      simp only [Option.some.injEq, Prod.mk.injEq] at ob2
      obtain ⟨e1, e2, e3, e4, e5⟩ := ob2
      subst e1 e2 e3 e4 e5
      obtain ⟨k1, k⟩ := ba c5
      obtain ⟨k2, k⟩ := ba k
      obtain ⟨k3, k4⟩ := ba k
      have k1 : f8 = .none := of_decide_eq_true k1
      subst k1
      refine ⟨oexB_ok c1, glo_ok X G c2, _, _, ["self", d.p], eqO_ok c3, of_decide_eq_true c4, fun CX => exinit_fn (fd := ⟨f1, f2, d.params, .stmts d.body, d.scope, mainGlobals, f7, .none, f9, f10, f11, f12, f13, f14, builtinsNs⟩) ?_ hsup, .all fun us hu => st.bd _ _ _ _ _ _ _ _ _ _ _ us hu⟩
      refine { lk := ⟨_, _, _, q⟩, tf := of_decide_eq_true c4, ps := st.ps, gl := rfl, bl := rfl, co := st.co, ge := st.ge, ki := st.ki, nc := fun x hx => of_decide_eq_true (List.all_eq_true.mp st.nc x hx), nS := st.nS, nP := st.nP, nU := st.nU, nC := st.nC, fr := fun x hx => ?_,
               ne := n1, nd1 := n2, nd2 := n3, clo := ?_, code := ?_, body := ⟨_, rfl, st.body⟩, top := top, cd := ?_, mro := of_decide_eq_true c7, sup := eqO_ok c8, sub := of_decide_eq_true c9, opq := eqO_ok c10, ei := c11, oc := oexB_ok c1, no := eqO_ok c12 }
      · have := List.all_eq_true.mp st.fr _ (PySem.mem_of_lookup hx)
        simp only [Bool.or_eq_true, decide_eq_true_eq] at this
        rcases this with z | z
        · exact absurd rfl z
        · exact z
      · have k2' := k2
        dsimp only at k2'
        split at k2'
        · rename_i x cc e
          obtain ⟨z1, z2⟩ := ba k2'
          have z1 := of_decide_eq_true z1
          subst z1
          split at z2
          · rename_i c0 d0 C' s0 e2
            have z2 := of_decide_eq_true z2
            subst z2
            exact ⟨cc, _, _, _, rfl, e2⟩
          · cases z2
        · cases k2'
      · cases f13 with
        | ref cda =>
          have k4' : (match K.lookup cda with
          | some ⟨_, _, .fields vs, _⟩ => (match (vs[2]? : Option Value) with
            | some (Value.str file _) => ((P.main.file : Str) == file)
            | _ => false)
          | _ => false) = true := k4
          cases e1 : K.lookup cda with
          | none => rw [e1] at k4'; cases k4'
          | some oo =>
            obtain ⟨oc1, od1, dt1, sl1⟩ := oo
            rw [e1] at k4'
            cases dt1 with
            | fields vs =>
              dsimp only at k4'
              cases e2 : (vs[2]? : Option Value) with
              | none => rw [e2] at k4'; cases k4'
              | some vv =>
                rw [e2] at k4'
                cases vv with
                | str file tf => exact ⟨cda, _, _, _, _, _, _, rfl, k3, e1, e2, k4'⟩
                | _ => cases k4'
            | _ => cases k4'
        | _ => cases k4
      · exact Option.isSome_iff_exists.mp c6
    | _ => cases c5
abbrev AlY : Type := AlD × List ExW × Bool
def obsY (fa : List Fa) (fn : List DefD) (T : CTb) (xd : List ExD) (P : Program) (K : PySem.W.Frag) : AlY := (obsD fa fn K, xd.map (fun d => exW K d.c), ctB T K && xd.all (exB P K))
def valY (fn : List DefD) (xd : List ExD) : AlY := (valD fn, xd.map ExD.val, true)
def SaysY (fa : List Fa) (fn : List DefD) (T : CTb) (xd : List ExD) (P : Program) (K : PySem.W.Frag) : Prop := obsY fa fn T xd P K = valY fn xd
section
variable {fa : List Fa} {fn : List DefD} {T : CTb} {xd : List ExD} {P : Program} {K : PySem.W.Frag}
theorem SaysY.d (c : SaysY fa fn T xd P K) : SaysD fa fn K := congrArg (fun z : AlY => z.1) c
theorem SaysY.ct (c : SaysY fa fn T xd P K) : ctB T K = true := (ba (show (ctB T K && xd.all (exB P K)) = true from congrArg (fun z : AlY => z.2.2) c)).1
theorem SaysY.xb (c : SaysY fa fn T xd P K) {d : ExD} (h : d ∈ xd) : exB P K d = true := List.all_eq_true.mp (ba (show (ctB T K && xd.all (exB P K)) = true from congrArg (fun z : AlY => z.2.2) c)).2 d h
theorem SaysY.xw (c : SaysY fa fn T xd P K) (i : Nat) {d : ExD} (h : xd[i]? = some d) : exW K d.c = d.val := by
  have e : xd.map (fun d => exW K d.c) = xd.map ExD.val := congrArg (fun z : AlY => z.2.1) c
  have e2 : (xd.map fun d => exW K d.c)[i]? = (xd.map ExD.val)[i]? := by rw [e]
  rw [List.getElem?_map, List.getElem?_map, h] at e2
  exact Option.some.inj e2
end
end Dl
namespace Dl
open PySem PySem.Spec PyProof.Rows L2 He
def refsZ (o : Obj) : List Addr := match o.data with
  | .func fd => refV fd.code ++ refV fd.defaults ++ refV fd.kwdefaults ++ fd.closure.map (·.2)
  | .dict es _ => es.toList.flatMap fun e => refV e.val
  | .cls cd => cd.ns :: cd.mro.tail.flatMap refV
  | .seq its _ => its.toList.flatMap refV
  | .fields vs => vs.toList.flatMap refV
  | .cell (some v) => refV v
  | _ => []
def lvlZ (g : Addr → Option Obj) : Nat → List Addr → List Addr
  | 0, as => as
  | n + 1, as => as ++ lvlZ g n (as.flatMap fun a => match g a with
    | some o => refsZ o
    | none => [])
def asZ (g : Addr → Option Obj) (n : Nat) : List Addr := lvlZ g n [mainGlobals, cStatics]
def obsZG (n : Nat) (fa : List Fa) (fn : List DefD) (T : CTb) (xd : List ExD) (P : Program) (g : Addr → Option Obj) : AlY := obsY fa fn T xd P (frG g (asZ g n))
def hookZ (n : Nat) (fa : List Fa) (fn : List DefD) (T : CTb) (xd : List ExD) (P : Program) : PySem.W.Hook where
  α := AlY
  obs := fun s => obsZG n fa fn T xd P s.heap.get?
  val := fun _ => valY fn xd
  says := fun _ h => ∃ K : PySem.W.Frag, K.In h ∧ SaysY fa fn T xd P K
  of := fun _ _ e => ⟨_, frG_in, e⟩
  keeps := fun _ _ _ ⟨K, hK, c⟩ k => ⟨K, PySem.W.Frag.In.keeps hK k, c⟩
theorem obsZG_eq {n : Nat} {fa : List Fa} {fn : List DefD} {T : CTb} {xd : List ExD} {P : Program} {g : Addr → Option Obj} {s : Shared} (h : ∀ a, g a = s.heap.get? a) : obsZG n fa fn T xd P g = (hookZ n fa fn T xd P).obs s := by
  have e : g = s.heap.get? := funext h
  rw [e] <;> rfl
end Dl
namespace Dl
open PySem PySem.Spec PyProof.Rows L2
abbrev DB := D → (En → Prop) → En → Prop
def setAll : List Nat → List D → En → En
  | i :: is, d :: ds, ρ => setAll is ds (ρ.set i (.fz d))
  | _, _, ρ => ρ
def bTup (is : List Nat) : DB := fun d P ρ => ∃ ds, d = .tup ds ∧ ds.length = is.length ∧ P (setAll is ds ρ)
def gNs : List Nat → TGs
  | [] => gNil
  | i :: is => gCons (gName i) (gNs is)
def dAsg (b : DB) (fe : DE) : DS := fun k ρ => fe (k.xq ρ) ρ fun d => b d k.nx ρ
def forLoopB (fb : DS) (b : DB) (k : DK) : List D → En → Prop
  | [], ρ => k.nx ρ
  | d :: ds, ρ => b d (fun ρ' => fb { k with nx := forLoopB fb b k ds, ct := forLoopB fb b k ds, bk := k.nx } ρ') ρ
def dForB (fi : DA) (b : DB) (fb : DS) : DS := fun k ρ => fi (k.xq ρ) ρ fun ds => forLoopB fb b k ds ρ
section
variable {X : Cx} {C : Str → Addr} {W : WX} {k : Nat} {bl : Str → Bool} {a b c e tg iter : Expr} {es : List Expr} {fa fb fc fe : DE} {fi : DA} {pos p p1 p2 p3 : Pos} {g1 : DS} {s1 : List Stmt} {is : List Nat} {z : Nat}
inductive PNs (X : Cx) : List Expr → List Nat → Prop
  | nil : PNs X [] []
  | cons {x : Str} {i : Nat} {p : Pos} {es : List Expr} {is : List Nat} : PG X (.Name x p) (gName i) → PNs X es is → ((assignEach (.Name x p :: es) X.env).map (·.2) = assign (.Name x p) X.env :: (assignEach es X.env).map (·.2)) → PNs X (.Name x p :: es) (i :: is)
theorem PNs.gs : ∀ {es : List Expr} {is : List Nat}, PNs X es is → PGs X es (gNs is)
  | _, _, .nil => pgs_nil
  | _, _, .cons h t q => pgs_cons h t.gs q
def gIsi2 (T1 T2 : String) (d : D) (Q : D → Prop) : Prop := match d with
  | .ins _ _ => False
  | .exc _ _ => False
  | .rd => False
  | .any => False
  | .dic _ => False
  | .fr _ => False
  | .raw _ => False
  | d => Q (.bl (kty (dty d) T1 || kty (dty d) T2))
def gIndexL (x y : D) (Q : D → Prop) : Prop := match x with
  | .lst ds => eqOk (.lst ds) = true ∧ eqOk y = true ∧ ∃ (j : Nat) (u : D), ds[j]? = some u ∧ deq u y = true ∧ (∀ (m : Nat) u', m < j → ds[m]? = some u' → deq u' y = false) ∧ Q (.int j)
  | _ => False
def dIndexL (fo fe : DE) : DE := fun xq ρ Q => fo xq ρ fun x => (∃ ds, x = .lst ds) ∧ fe xq ρ fun y => gIndexL x y Q
end
end Dl
namespace Dl
open PySem PySem.Spec PyProof.Rows L2
end Dl
open PySem L2 Dl in
local macro_rules | `(tactic| walk_at "dl") => `(tactic| simp only [dSeq, dSet, dSetN, dIfS, dRet, dRetV, dRetN, dExpr, dBreak, dCont, dNext, dFrz, frz, dApp, dExt, dSetIx, dFor, dVar, dVarQ, dC, dImm, dLst, d1, d2, n1, n2, dNil, dCons, dTup, dCall, dCallQ, dB, dTru, gTru, dNot, dAnd, dOr, dAndV, dOrV, dNotV, dIf, dSl, nSl, oNo, oSome, iIt, iR1, iR2, iStrD, gItems, dLc, dYes, dRd, kD, DK.xq, gAdd, gMns, gI2, gCmp, gNeg, gLen, gInt, gStr, gMin, gMax, gListN, gTuple, gRevN, gCat, gSlN, gSl, gIx_rd0, gIx_rd1, gIx_rd2, gEq_int, gNe_int, gIn_tI, gIn_lI, List.getElem?_cons_zero, List.getElem?_cons_succ, List.set_cons_zero, List.set_cons_succ, if_true, if_false, Bool.false_eq_true, ite_true, ite_false])
namespace Rnd
open PySem L2 Dl
def b__law_reader : DS :=
  dRet (dRd (dCons (dVar 0) (dCons (dC (.int 0)) (dCons (d2 gMns (dVar 0) (d2 gPow (dC (.int 10)) (dC (.int 18)))) dNil))))
def b__law_next : DS :=
  dSeq (dSet 2 (d2 gIx (dVar 0) (dC (.int 1))))
  (dSeq (dSetIx 0 (dC (.int 1)) (d2 gAdd (dVar 2) (dC (.int 1))))
  (dSeq (dIfS (dAnd (dB (d2 gGe (d2 gIx (dVar 0) (dC (.int 0))) (d2 gPow (dC (.int 10)) (dC (.int 18))))) (dB (d2 gGt (d2 gIx (dVar 0) (dC (.int 2))) (dC (.int 0)))))
    (dSeq (dSet 3 (d2 gIx (dVar 0) (dC (.int 2))))
    (dSeq (dSetIx 0 (dC (.int 2)) (d2 gFdiv (dVar 3) (dVar 1)))
    (dRet (d2 gMod (d1 gInt (dVar 3)) (dVar 1)))))
    dNext)
  (dSeq (dSet 4 (d2 gMod (d1 gInt (d2 gAdd (d2 gAdd (d2 gIx (dVar 0) (dC (.int 0))) (d2 gMul (dC (.int 7919)) (dVar 2))) (dC (.int 13)))) (dC (.int 2147483647))))
  (dSeq (dSet 4 (d2 gMod (d1 gInt (d2 gMul (dVar 4) (d2 gAdd (dVar 4) (dC (.int 48271))))) (dC (.int 2147483629))))
  (dSeq (dSet 4 (d2 gMod (d1 gInt (d2 gAdd (d2 gMul (dVar 4) (d2 gAdd (dVar 4) (dC (.int 69621)))) (d2 gMul (dC (.int 31)) (dVar 2)))) (dC (.int 2147483647))))
  (dRet (d2 gMod (d1 gInt (d2 gFdiv (dVar 4) (dC (.int 9)))) (dVar 1))))))))
theorem p_next (ds : List D) (Qd : D → Prop) (Xq : XQ) (h : S_next ds Qd Xq) : b__law_next (kD Qd Xq) (startD 5 ds) := by
  obtain ⟨size, rfl, h0, h1, h⟩ := h
  show b__law_next (kD Qd Xq) [.fz .rd, .fz (.int size), .un, .un, .un]
  unfold b__law_next
  walk_at "dl"
  have hm : ∀ n : Int, Qd (.int (n % size)) := fun n => h _ (Int.emod_nonneg _ (by omega)) (Int.emod_lt_of_pos _ h0)
  have hc : ∀ n m : Int, (0 < m ∧ m ≤ 2147483647) → CMul (n % m) (n % m + 48271) := fun n m hm => by
    have a := Int.emod_nonneg n (b := m) (by omega)
    have b := Int.emod_lt_of_pos n (b := m) (by omega)
    generalize n % m = z at a b
    exact .inl ⟨by omega, by omega⟩
  have hc2 : ∀ n m : Int, (0 < m ∧ m ≤ 2147483647) → CMul (n % m) (n % m + 69621) := fun n m hm => by
    have a := Int.emod_nonneg n (b := m) (by omega)
    have b := Int.emod_lt_of_pos n (b := m) (by omega)
    generalize n % m = z at a b
    exact .inl ⟨by omega, by omega⟩
  intro k0
  refine ⟨by decide, by decide, fun c0 => ⟨⟨by decide, by decide, by decide⟩, ?_⟩⟩
  have tail : ∀ n : Int, CMul 7919 k0 ∧ (0 : Int) < 2147483647 ∧ CMul ((n + 7919 * k0 + 13) % 2147483647) ((n + 7919 * k0 + 13) % 2147483647 + 48271) := fun n => ⟨.inl ⟨by decide, by decide⟩, by decide, hc _ _ ⟨by decide, by decide⟩⟩
  have c31 : CMul 31 k0 := .inl ⟨by decide, by decide⟩
  have c9 : ∀ n : Int, CDiv n 9 := fun n => ⟨by decide, by decide⟩
  split
  · intro n
    split
    · intro m
      exact ⟨⟨h0, h1⟩, by decide, by decide, h0, hm _⟩
    · intro m
      exact ⟨(tail m).1, by decide, (tail m).2.2, by decide, hc2 _ _ ⟨by decide, by decide⟩, c31, by decide, c9 _, h0, hm _⟩
  · intro m
    exact ⟨(tail m).1, by decide, (tail m).2.2, by decide, hc2 _ _ ⟨by decide, by decide⟩, c31, by decide, c9 _, h0, hm _⟩
end Rnd
namespace Dl
open PySem PySem.Spec PyProof.Rows L2 HT
section
variable {prog : Program} {w : World} {A : Around} {E : Value → Shared → Prop} {s : Shared}
end
end Dl
namespace Dl
open PySem PySem.Spec PyProof.Rows L2
def idxD (ys : List Str) (y : D) (Q : D → Prop) : Prop := match y with
  | .str z => ∃ j : Nat, ys[j]? = some z ∧ (∀ m, m < j → ys[m]? ≠ some z) ∧ Q (.int j)
  | _ => False
def dIndex (fo fe : DE) : DE := fun xq ρ Q => fo xq ρ fun x => match x with
  | .nms ys => fe xq ρ fun y => idxD ys y Q
  | .lst ds => ∃ ys : List Str, ds = ys.map D.str ∧ fe xq ρ fun y => idxD ys y Q
  | _ => False
def gSplit (x y : D) (Q : D → Prop) : Prop := match x, y with
  | .str a, .str b => (b.length == 0) = false ∧ a.length + 2 ≤ sizeLine ∧ Q (.lst ((Txt.split a b).map D.str))
  | _, _ => False
def dSplit (fa fb : DE) : DE := fun xq ρ Q => fa xq ρ fun x => match x with
    | .str s => fb xq ρ fun y => gSplit (.str s) y Q
    | _ => False
theorem Cal.none {P : Program} {w : World} {K : PySem.W.Frag} {mg : Str → Option Value} {base : Heap} {C : Str → Addr} {k : Nat} {x : Str} {params : Arguments} {body : List Stmt} {sc : Scope} {ps : List Str} {f : Addr} {fd : FuncData} (F : FunD K x x params body sc [] [] f fd) (gf : mg x = some (.ref f)) (hb : Binds K fd ps []) : Cal P w K mg base C k x fun _ _ _ => False :=
  ⟨f, fd, ps, ⟨fun vs H Q E h => by obtain ⟨_, _, _, _, _, _, _, z, _⟩ := h; exact z.elim, fun A outer s H args us vs Q E hr he hbt hv h => by obtain ⟨_, _, _, _, _, _, _, z, _⟩ := h; exact z.elim⟩, gf, F.kp, hb⟩
end Dl
open PySem L2 Dl in
local macro_rules | `(tactic| walk_at "dl") => `(tactic| simp only [dSeq, dSet, dSetN, dIfS, dRet, dRetV, dRetN, dExpr, dBreak, dCont, dNext, dFrz, frz, dApp, dExt, dSetIx, dFor, dVar, dVarQ, dC, dImm, dLst, d1, d2, n1, n2, dNil, dCons, dTup, dCall, dCallQ, dB, dTru, gTru, dNot, dAnd, dOr, dAndV, dOrV, dNotV, dIf, dSl, nSl, oNo, oSome, iIt, iR1, iR2, iStrD, gItems_lst, gItems_tup, gItems_scr, dLc, dYes, dRd, kD, DK.xq, gAdd, gMns, gI2, gCmp, gNeg, gLen_lst, gLen_tup, gLen_scr, gInt, gStr, gMin, gMax, gListN_lst, gListN_tup, gTuple_lst, gTuple_tup, gRevN, gCat, gSlN, gSl, gIx_rd0, gIx_rd1, gIx_rd2, gEq_int, gNe_int, gIn_tI, gIn_lI, gIsi_tup, gIsi_int, gIsi_bool, dIndex, dSplit, List.getElem?_cons_zero, List.getElem?_cons_succ, List.set_cons_zero, List.set_cons_succ, if_true, if_false, Bool.false_eq_true, ite_true, ite_false])
namespace Expr
open PySem L2 Dl
inductive Ex where
  | num (n : Int) | nam (s : Str) | no (e : Ex) | bin (op : Str) (a b : Ex)
theorem gEq_str {a b : Str} (ha : (PyData.str a).canLay0 = true) (hb : (PyData.str b).canLay0 = true) (Q : D → Prop) : gEq (.str a) (.str b) Q = Q (.bl (decide (a = b))) := propext ⟨fun h => by have := h.2.2; rwa [deq_str] at this, fun h => ⟨(eo_str 0 a ha).ok, (eo_str 0 b hb).ok, by rwa [deq_str]⟩⟩
def lays (s : Str) : Bool := (PyData.str s).canLay0
end Expr
namespace Dl
open PySem L2
abbrev lays := Expr.lays
theorem gAdd_int (i j : Int) (Q : D → Prop) : gAdd (.int i) (.int j) Q = Q (.int (i + j)) := rfl
theorem gAdd_str (s t : Str) (Q : D → Prop) : gAdd (.str s) (.str t) Q = (s.length + t.length ≤ sizeLine ∧ Q (.str (s ++ t))) := rfl
theorem gAdd_lst (a b : List D) (Q : D → Prop) : gAdd (.lst a) (.lst b) Q = (a.length + b.length ≤ sizeLine ∧ Q (.lst (a ++ b))) := rfl
theorem gAdd_tup (a b : List D) (Q : D → Prop) : gAdd (.tup a) (.tup b) Q = (a.length + b.length ≤ sizeLine ∧ Q (.tup (a ++ b))) := rfl
theorem gMns_int (i j : Int) (Q : D → Prop) : gMns (.int i) (.int j) Q = Q (.int (i - j)) := rfl
theorem gI2_int (C : Int → Int → Prop) (o : Int → Int → D) (i j : Int) (Q : D → Prop) : gI2 C o (.int i) (.int j) Q = (C i j ∧ Q (o i j)) := rfl
theorem gCmp_int (p : Int → Int → Bool) (i j : Int) (Q : D → Prop) : gCmp p (.int i) (.int j) Q = Q (.bl (p i j)) := rfl
theorem gNeg_int (i : Int) (Q : D → Prop) : gNeg (.int i) Q = Q (.int (-i)) := rfl
theorem gIsN_non (x : D) (Q : D → Prop) : gIsN x .non Q = Q (.bl (isNon x)) := propext ⟨fun h => h.2, fun h => ⟨rfl, h⟩⟩
theorem gNotN_non (x : D) (Q : D → Prop) : gNotN x .non Q = Q (.bl (!isNon x)) := propext ⟨fun h => h.2, fun h => ⟨rfl, h⟩⟩
theorem gTru_non (Q : Bool → Prop) : gTru .non Q = Q false := rfl
theorem gTru_bl (b : Bool) (Q : Bool → Prop) : gTru (.bl b) Q = Q b := rfl
theorem gTru_int (i : Int) (Q : Bool → Prop) : gTru (.int i) Q = Q (i != 0) := rfl
theorem gTru_lst (ds : List D) (Q : Bool → Prop) : gTru (.lst ds) Q = Q (!ds.isEmpty) := rfl
theorem gTru_tup (ds : List D) (Q : Bool → Prop) : gTru (.tup ds) Q = Q (!ds.isEmpty) := rfl
theorem gInt_int (i : Int) (Q : D → Prop) : gInt (.int i) Q = Q (.int i) := rfl
theorem gInt_bl (b : Bool) (Q : D → Prop) : gInt (.bl b) Q = Q (.int (if b then 1 else 0)) := rfl
theorem gStr_int (i : Int) (Q : D → Prop) : gStr (.int i) Q = (i.natAbs.log2 < 1920 ∧ Q (.str (toString i))) := rfl
theorem gMin_int (i j : Int) (Q : D → Prop) : gMin (.int i) (.int j) Q = Q (.int (if j < i then j else i)) := rfl
theorem gMax_int (i j : Int) (Q : D → Prop) : gMax (.int i) (.int j) Q = Q (.int (if j > i then j else i)) := rfl
theorem gEq_strL (a b : Str) (Q : D → Prop) (ha : lays a = true) (hb : lays b = true) : gEq (.str a) (.str b) Q = Q (.bl (decide (a = b))) := Expr.gEq_str ha hb Q
theorem gNe_strL (a b : Str) (Q : D → Prop) (ha : lays a = true) (hb : lays b = true) : gNe (.str a) (.str b) Q = Q (.bl (!decide (a = b))) := propext ⟨fun h => by
  have := h.2.2
  rwa [deq_str] at this, fun h => ⟨(eo_str 0 a ha).ok, (eo_str 0 b hb).ok, by rwa [deq_str]⟩⟩
theorem gIsi_int_non (Q : D → Prop) : gIsi "int" (D.non) Q = Q (.bl false) := by
  show Q (.bl (kty "NoneType" "int")) = _
  rw [show kty "NoneType" "int" = false by decide +kernel]
theorem gIsi_int_bl (b : Bool) (Q : D → Prop) : gIsi "int" (D.bl b) Q = Q (.bl true) := by
  show Q (.bl (kty "bool" "int")) = _
  rw [show kty "bool" "int" = true by decide +kernel]
theorem gIsi_int_int (i : Int) (Q : D → Prop) : gIsi "int" (D.int i) Q = Q (.bl true) := by
  show Q (.bl (kty "int" "int")) = _
  rw [show kty "int" "int" = true by decide +kernel]
theorem gIsi_int_str (s : Str) (Q : D → Prop) : gIsi "int" (D.str s) Q = Q (.bl false) := by
  show Q (.bl (kty "str" "int")) = _
  rw [show kty "str" "int" = false by decide +kernel]
theorem gIsi_int_tup (ds : List D) (Q : D → Prop) : gIsi "int" (D.tup ds) Q = Q (.bl false) := by
  show Q (.bl (kty "tuple" "int")) = _
  rw [show kty "tuple" "int" = false by decide +kernel]
theorem gIsi_int_lst (ds : List D) (Q : D → Prop) : gIsi "int" (D.lst ds) Q = Q (.bl false) := by
  show Q (.bl (kty "list" "int")) = _
  rw [show kty "list" "int" = false by decide +kernel]
theorem gIsi_bool_non (Q : D → Prop) : gIsi "bool" (D.non) Q = Q (.bl false) := by
  show Q (.bl (kty "NoneType" "bool")) = _
  rw [show kty "NoneType" "bool" = false by decide +kernel]
theorem gIsi_bool_bl (b : Bool) (Q : D → Prop) : gIsi "bool" (D.bl b) Q = Q (.bl true) := by
  show Q (.bl (kty "bool" "bool")) = _
  rw [show kty "bool" "bool" = true by decide +kernel]
theorem gIsi_bool_int (i : Int) (Q : D → Prop) : gIsi "bool" (D.int i) Q = Q (.bl false) := by
  show Q (.bl (kty "int" "bool")) = _
  rw [show kty "int" "bool" = false by decide +kernel]
theorem gIsi_bool_str (s : Str) (Q : D → Prop) : gIsi "bool" (D.str s) Q = Q (.bl false) := by
  show Q (.bl (kty "str" "bool")) = _
  rw [show kty "str" "bool" = false by decide +kernel]
theorem gIsi_bool_tup (ds : List D) (Q : D → Prop) : gIsi "bool" (D.tup ds) Q = Q (.bl false) := by
  show Q (.bl (kty "tuple" "bool")) = _
  rw [show kty "tuple" "bool" = false by decide +kernel]
theorem gIsi_bool_lst (ds : List D) (Q : D → Prop) : gIsi "bool" (D.lst ds) Q = Q (.bl false) := by
  show Q (.bl (kty "list" "bool")) = _
  rw [show kty "list" "bool" = false by decide +kernel]
theorem gIsi_str_non (Q : D → Prop) : gIsi "str" (D.non) Q = Q (.bl false) := by
  show Q (.bl (kty "NoneType" "str")) = _
  rw [show kty "NoneType" "str" = false by decide +kernel]
theorem gIsi_str_bl (b : Bool) (Q : D → Prop) : gIsi "str" (D.bl b) Q = Q (.bl false) := by
  show Q (.bl (kty "bool" "str")) = _
  rw [show kty "bool" "str" = false by decide +kernel]
theorem gIsi_str_int (i : Int) (Q : D → Prop) : gIsi "str" (D.int i) Q = Q (.bl false) := by
  show Q (.bl (kty "int" "str")) = _
  rw [show kty "int" "str" = false by decide +kernel]
theorem gIsi_str_str (s : Str) (Q : D → Prop) : gIsi "str" (D.str s) Q = Q (.bl true) := by
  show Q (.bl (kty "str" "str")) = _
  rw [show kty "str" "str" = true by decide +kernel]
theorem gIsi_str_tup (ds : List D) (Q : D → Prop) : gIsi "str" (D.tup ds) Q = Q (.bl false) := by
  show Q (.bl (kty "tuple" "str")) = _
  rw [show kty "tuple" "str" = false by decide +kernel]
theorem gIsi_str_lst (ds : List D) (Q : D → Prop) : gIsi "str" (D.lst ds) Q = Q (.bl false) := by
  show Q (.bl (kty "list" "str")) = _
  rw [show kty "list" "str" = false by decide +kernel]
theorem gIsi_tuple_non (Q : D → Prop) : gIsi "tuple" (D.non) Q = Q (.bl false) := by
  show Q (.bl (kty "NoneType" "tuple")) = _
  rw [show kty "NoneType" "tuple" = false by decide +kernel]
theorem gIsi_tuple_bl (b : Bool) (Q : D → Prop) : gIsi "tuple" (D.bl b) Q = Q (.bl false) := by
  show Q (.bl (kty "bool" "tuple")) = _
  rw [show kty "bool" "tuple" = false by decide +kernel]
theorem gIsi_tuple_int (i : Int) (Q : D → Prop) : gIsi "tuple" (D.int i) Q = Q (.bl false) := by
  show Q (.bl (kty "int" "tuple")) = _
  rw [show kty "int" "tuple" = false by decide +kernel]
theorem gIsi_tuple_str (s : Str) (Q : D → Prop) : gIsi "tuple" (D.str s) Q = Q (.bl false) := by
  show Q (.bl (kty "str" "tuple")) = _
  rw [show kty "str" "tuple" = false by decide +kernel]
theorem gIsi_tuple_tup (ds : List D) (Q : D → Prop) : gIsi "tuple" (D.tup ds) Q = Q (.bl true) := by
  show Q (.bl (kty "tuple" "tuple")) = _
  rw [show kty "tuple" "tuple" = true by decide +kernel]
theorem gIsi_tuple_lst (ds : List D) (Q : D → Prop) : gIsi "tuple" (D.lst ds) Q = Q (.bl false) := by
  show Q (.bl (kty "list" "tuple")) = _
  rw [show kty "list" "tuple" = false by decide +kernel]
theorem gIsi_list_non (Q : D → Prop) : gIsi "list" (D.non) Q = Q (.bl false) := by
  show Q (.bl (kty "NoneType" "list")) = _
  rw [show kty "NoneType" "list" = false by decide +kernel]
theorem gIsi_list_bl (b : Bool) (Q : D → Prop) : gIsi "list" (D.bl b) Q = Q (.bl false) := by
  show Q (.bl (kty "bool" "list")) = _
  rw [show kty "bool" "list" = false by decide +kernel]
theorem gIsi_list_int (i : Int) (Q : D → Prop) : gIsi "list" (D.int i) Q = Q (.bl false) := by
  show Q (.bl (kty "int" "list")) = _
  rw [show kty "int" "list" = false by decide +kernel]
theorem gIsi_list_str (s : Str) (Q : D → Prop) : gIsi "list" (D.str s) Q = Q (.bl false) := by
  show Q (.bl (kty "str" "list")) = _
  rw [show kty "str" "list" = false by decide +kernel]
theorem gIsi_list_tup (ds : List D) (Q : D → Prop) : gIsi "list" (D.tup ds) Q = Q (.bl false) := by
  show Q (.bl (kty "tuple" "list")) = _
  rw [show kty "tuple" "list" = false by decide +kernel]
theorem gIsi_list_lst (ds : List D) (Q : D → Prop) : gIsi "list" (D.lst ds) Q = Q (.bl true) := by
  show Q (.bl (kty "list" "list")) = _
  rw [show kty "list" "list" = true by decide +kernel]
theorem gIsi2_lt_non (Q : D → Prop) : gIsi2 "list" "tuple" (D.non) Q = Q (.bl false) := by
  show Q (.bl (kty "NoneType" "list" || kty "NoneType" "tuple")) = _
  rw [show (kty "NoneType" "list" || kty "NoneType" "tuple") = false by decide +kernel]
theorem gIsi2_lt_bl (b : Bool) (Q : D → Prop) : gIsi2 "list" "tuple" (D.bl b) Q = Q (.bl false) := by
  show Q (.bl (kty "bool" "list" || kty "bool" "tuple")) = _
  rw [show (kty "bool" "list" || kty "bool" "tuple") = false by decide +kernel]
theorem gIsi2_lt_int (i : Int) (Q : D → Prop) : gIsi2 "list" "tuple" (D.int i) Q = Q (.bl false) := by
  show Q (.bl (kty "int" "list" || kty "int" "tuple")) = _
  rw [show (kty "int" "list" || kty "int" "tuple") = false by decide +kernel]
theorem gIsi2_lt_str (s : Str) (Q : D → Prop) : gIsi2 "list" "tuple" (D.str s) Q = Q (.bl false) := by
  show Q (.bl (kty "str" "list" || kty "str" "tuple")) = _
  rw [show (kty "str" "list" || kty "str" "tuple") = false by decide +kernel]
theorem gIsi2_lt_tup (ds : List D) (Q : D → Prop) : gIsi2 "list" "tuple" (D.tup ds) Q = Q (.bl true) := by
  show Q (.bl (kty "tuple" "list" || kty "tuple" "tuple")) = _
  rw [show (kty "tuple" "list" || kty "tuple" "tuple") = true by decide +kernel]
theorem gIsi2_lt_lst (ds : List D) (Q : D → Prop) : gIsi2 "list" "tuple" (D.lst ds) Q = Q (.bl true) := by
  show Q (.bl (kty "list" "list" || kty "list" "tuple")) = _
  rw [show (kty "list" "list" || kty "list" "tuple") = true by decide +kernel]
theorem isNon_non : isNon (D.non) = true := rfl
theorem isNon_bl (b : Bool) : isNon (D.bl b) = false := rfl
theorem isNon_int (i : Int) : isNon (D.int i) = false := rfl
theorem isNon_str (s : Str) : isNon (D.str s) = false := rfl
theorem isNon_tup (ds : List D) : isNon (D.tup ds) = false := rfl
theorem isNon_lst (ds : List D) : isNon (D.lst ds) = false := rfl
theorem gIx_tup0 (a : D) (l : List D) (Q : D → Prop) : gIx (.tup (a :: l)) (.int 0) Q = Q a := gIx_tup (atI_nat (j := 0) rfl) Q
theorem gIx_lst0 (a : D) (l : List D) (Q : D → Prop) : gIx (.lst (a :: l)) (.int 0) Q = Q a := gIx_lst (atI_nat (j := 0) rfl) Q
theorem gIx_tup1 (a b : D) (l : List D) (Q : D → Prop) : gIx (.tup (a :: b :: l)) (.int 1) Q = Q b := gIx_tup (atI_nat (j := 1) rfl) Q
theorem gIx_lst1 (a b : D) (l : List D) (Q : D → Prop) : gIx (.lst (a :: b :: l)) (.int 1) Q = Q b := gIx_lst (atI_nat (j := 1) rfl) Q
theorem gIx_tup2 (a b c : D) (l : List D) (Q : D → Prop) : gIx (.tup (a :: b :: c :: l)) (.int 2) Q = Q c := gIx_tup (atI_nat (j := 2) rfl) Q
theorem gIx_lst2 (a b c : D) (l : List D) (Q : D → Prop) : gIx (.lst (a :: b :: c :: l)) (.int 2) Q = Q c := gIx_lst (atI_nat (j := 2) rfl) Q
theorem gIx_tup3 (a b c d : D) (l : List D) (Q : D → Prop) : gIx (.tup (a :: b :: c :: d :: l)) (.int 3) Q = Q d := gIx_tup (atI_nat (j := 3) rfl) Q
theorem gIx_lst3 (a b c d : D) (l : List D) (Q : D → Prop) : gIx (.lst (a :: b :: c :: d :: l)) (.int 3) Q = Q d := gIx_lst (atI_nat (j := 3) rfl) Q
theorem gIx_tup4 (a b c d e : D) (l : List D) (Q : D → Prop) : gIx (.tup (a :: b :: c :: d :: e :: l)) (.int 4) Q = Q e := gIx_tup (atI_nat (j := 4) rfl) Q
theorem gIx_lst4 (a b c d e : D) (l : List D) (Q : D → Prop) : gIx (.lst (a :: b :: c :: d :: e :: l)) (.int 4) Q = Q e := gIx_lst (atI_nat (j := 4) rfl) Q
theorem gIx_tup5 (a b c d e f : D) (l : List D) (Q : D → Prop) : gIx (.tup (a :: b :: c :: d :: e :: f :: l)) (.int 5) Q = Q f := gIx_tup (atI_nat (j := 5) rfl) Q
theorem gIx_lst5 (a b c d e f : D) (l : List D) (Q : D → Prop) : gIx (.lst (a :: b :: c :: d :: e :: f :: l)) (.int 5) Q = Q f := gIx_lst (atI_nat (j := 5) rfl) Q
theorem gIx_tup6 (a b c d e f g : D) (l : List D) (Q : D → Prop) : gIx (.tup (a :: b :: c :: d :: e :: f :: g :: l)) (.int 6) Q = Q g := gIx_tup (atI_nat (j := 6) rfl) Q
theorem gIx_lst6 (a b c d e f g : D) (l : List D) (Q : D → Prop) : gIx (.lst (a :: b :: c :: d :: e :: f :: g :: l)) (.int 6) Q = Q g := gIx_lst (atI_nat (j := 6) rfl) Q
theorem gIx_tup7 (a b c d e f g h : D) (l : List D) (Q : D → Prop) : gIx (.tup (a :: b :: c :: d :: e :: f :: g :: h :: l)) (.int 7) Q = Q h := gIx_tup (atI_nat (j := 7) rfl) Q
theorem gIx_lst7 (a b c d e f g h : D) (l : List D) (Q : D → Prop) : gIx (.lst (a :: b :: c :: d :: e :: f :: g :: h :: l)) (.int 7) Q = Q h := gIx_lst (atI_nat (j := 7) rfl) Q
theorem gSl_lst (ds : List D) (lo hi : Option Int) (Q : D → Prop) : gSl (.lst ds) lo hi Q = Q (.lst (cutD ds lo hi)) := rfl
theorem gSl_tup (ds : List D) (lo hi : Option Int) (Q : D → Prop) : gSl (.tup ds) lo hi Q = Q (.tup (cutD ds lo hi)) := rfl
theorem gSl_str (s : Str) (lo hi : Option Int) (Q : D → Prop) : gSl (.str s) lo hi Q = (s.length ≤ sizeLine ∧ Q (.str (cutS s lo hi))) := rfl
theorem gSlN_lst (ds : List D) (lo hi : Option Int) (Q : List D → Prop) : gSlN (.lst ds) lo hi Q = Q (cutD ds lo hi) := rfl
theorem gCat_lst (a b : List D) (Q : List D → Prop) : gCat (.lst a) (.lst b) Q = (a.length + b.length ≤ sizeLine ∧ Q (a ++ b)) := rfl
theorem bTup_tup (is : List Nat) (ds : List D) (P : En → Prop) (ρ : En) : bTup is (.tup ds) P ρ = (ds.length = is.length ∧ P (setAll is ds ρ)) := propext ⟨fun ⟨_, e, h⟩ => by cases e; exact h, fun h => ⟨_, rfl, h⟩⟩
theorem gEq_bl (a b : Bool) (Q : D → Prop) : gEq (.bl a) (.bl b) Q = Q (.bl (decide (a = b))) := gEq_enc enc_bl (by omega) a b Q
theorem gNe_bl (a b : Bool) (Q : D → Prop) : gNe (.bl a) (.bl b) Q = Q (.bl (!decide (a = b))) := gNe_enc enc_bl (by omega) a b Q
theorem cut_t1 (a : D) (l : List D) : cutD (a :: l) none (some 1) = [a] := cutD_to _ 1
theorem cut_t2 (a b : D) (l : List D) : cutD (a :: b :: l) none (some 2) = [a, b] := cutD_to _ 2
theorem cut_t3 (a b c : D) (l : List D) : cutD (a :: b :: c :: l) none (some 3) = [a, b, c] := cutD_to _ 3
theorem cut_f1 (a : D) (l : List D) : cutD (a :: l) (some 1) none = l := cutD_from _ 1
end Dl
namespace Dl
open PySem L2
theorem lay_0 : lays "allmends.programs" = true := by decide +kernel
theorem lay_1 : lays "law_allmends_k01_value_of" = true := by decide +kernel
theorem lay_2 : lays "abcdefghijklmnopqrstuvwxyz0123456789" = true := by decide +kernel
theorem lay_3 : lays "number" = true := by decide +kernel
theorem lay_4 : lays "name" = true := by decide +kernel
theorem lay_5 : lays "not" = true := by decide +kernel
theorem lay_6 : lays "+" = true := by decide +kernel
theorem lay_7 : lays "-" = true := by decide +kernel
theorem lay_8 : lays "*" = true := by decide +kernel
theorem lay_9 : lays "==" = true := by decide +kernel
theorem lay_10 : lays "<" = true := by decide +kernel
theorem lay_11 : lays "and" = true := by decide +kernel
theorem lay_12 : lays " " = true := by decide +kernel
theorem lay_13 : lays "0123456789" = true := by decide +kernel
theorem lay_14 : lays "or" = true := by decide +kernel
theorem lay_15 : lays "abcdefghijklmnopqrstuvwxyz" = true := by decide +kernel
theorem lay_16 : lays "allmends.common" = true := by decide +kernel
theorem lay_17 : lays "allmends.errors" = true := by decide +kernel
theorem lay_18 : lays "allmends.names" = true := by decide +kernel
theorem lay_19 : lays "allmends.checks" = true := by decide +kernel
theorem lay_20 : lays "allmends.flow" = true := by decide +kernel
theorem lay_21 : lays "law_allmends_k02_value_at_a_place" = true := by decide +kernel
theorem lay_22 : lays "letters" = true := by decide +kernel
theorem lay_23 : lays "answers" = true := by decide +kernel
theorem lay_24 : lays "global" = true := by decide +kernel
theorem lay_25 : lays "proc" = true := by decide +kernel
theorem lay_26 : lays "local" = true := by decide +kernel
theorem lay_27 : lays "read" = true := by decide +kernel
theorem lay_28 : lays "write" = true := by decide +kernel
theorem lay_29 : lays "if" = true := by decide +kernel
theorem lay_30 : lays "then" = true := by decide +kernel
theorem lay_31 : lays "else" = true := by decide +kernel
theorem lay_32 : lays "while" = true := by decide +kernel
theorem lay_33 : lays "do" = true := by decide +kernel
theorem lay_34 : lays "call" = true := by decide +kernel
theorem lay_35 : lays "skip" = true := by decide +kernel
theorem lay_36 : lays "end" = true := by decide +kernel
theorem lay_37 : lays "set" = true := by decide +kernel
theorem lay_38 : lays "test" = true := by decide +kernel
theorem lay_39 : lays "names" = true := by decide +kernel
theorem lay_40 : lays "wide" = true := by decide +kernel
theorem lay_41 : lays "left" = true := by decide +kernel
theorem lay_42 : lays "calls" = true := by decide +kernel
theorem lay_43 : lays "globals" = true := by decide +kernel
theorem lay_44 : lays "places" = true := by decide +kernel
theorem lay_45 : lays "called" = true := by decide +kernel
theorem lay_46 : lays "sizes" = true := by decide +kernel
theorem lay_47 : lays "passed" = true := by decide +kernel
theorem lay_48 : lays "rows" = true := by decide +kernel
theorem lay_49 : lays "the program breaks a rule" = true := by decide +kernel
theorem lay_50 : lays "" = true := by decide +kernel
theorem lay_51 : lays "procedures" = true := by decide +kernel
theorem lay_52 : lays "main" = true := by decide +kernel
theorem lay_53 : lays "statements" = true := by decide +kernel
theorem lay_54 : lays "spoilt" = true := by decide +kernel
theorem lay_55 : lays "variables" = true := by decide +kernel
theorem lay_56 : lays "twice" = true := by decide +kernel
theorem lay_57 : lays "sights" = true := by decide +kernel
theorem lay_58 : lays "nesting" = true := by decide +kernel
theorem lay_59 : lays "depth" = true := by decide +kernel
theorem lay_60 : lays "pass" = true := by decide +kernel
theorem lay_61 : lays "size" = true := by decide +kernel
theorem lay_62 : lays "unknown" = true := by decide +kernel
theorem lay_63 : lays "law_allmends_k03_sights_in_order" = true := by decide +kernel
theorem lay_64 : lays "law_allmends_k04_places_in_text_order" = true := by decide +kernel
theorem lay_65 : lays "law_allmends_k05_points_and_next" = true := by decide +kernel
theorem lay_66 : lays "made" = true := by decide +kernel
theorem lay_67 : lays "the text does not fit" = true := by decide +kernel
theorem lay_68 : lays "the contract breaks a rule" = true := by decide +kernel
theorem lay_69 : lays "the place does not fit" = true := by decide +kernel
theorem lay_70 : lays "the edit does not fit its place" = true := by decide +kernel
theorem lay_71 : lays "the line does not fit" = true := by decide +kernel
theorem lay_72 : lays "the name does not fit" = true := by decide +kernel
theorem lay_73 : lays "changed" = true := by decide +kernel
theorem lay_74 : lays "abcd0123" = true := by decide +kernel
theorem lay_75 : lays "\n" = true := by decide +kernel
theorem lay_76 : lays "v0" = true := by decide +kernel
theorem lay_77 : lays "other" = true := by decide +kernel
theorem lay_78 : lays "v1" = true := by decide +kernel
theorem lay_79 : lays "p" = true := by decide +kernel
theorem lay_80 : lays "refused" = true := by decide +kernel
theorem lay_81 : lays "v" = true := by decide +kernel
theorem lay_82 : lays "allmends.contracts" = true := by decide +kernel
theorem lay_83 : lays "law_allmends_k11_contract_rows" = true := by decide +kernel
theorem lay_84 : lays "over" = true := by decide +kernel
theorem lay_85 : lays "states" = true := by decide +kernel
theorem lay_86 : lays "new" = true := by decide +kernel
theorem lay_87 : lays "target" = true := by decide +kernel
theorem lay_88 : lays "row" = true := by decide +kernel
theorem lay_89 : lays "allmends.words" = true := by decide +kernel
theorem lay_90 : lays "(),=<+-*" = true := by decide +kernel
theorem lay_91 : lays " \n" = true := by decide +kernel
theorem lay_92 : lays "allmends.tables" = true := by decide +kernel
theorem lay_93 : lays "  " = true := by decide +kernel
theorem lay_94 : lays "state" = true := by decide +kernel
theorem lay_95 : lays "(" = true := by decide +kernel
theorem lay_96 : lays "0" = true := by decide +kernel
theorem lay_97 : lays "fault" = true := by decide +kernel
theorem lay_98 : lays "finish" = true := by decide +kernel
theorem lay_99 : lays "silent" = true := by decide +kernel
theorem lay_100 : lays "007" = true := by decide +kernel
theorem lay_101 : lays "00" = true := by decide +kernel
theorem lay_102 : lays "10000" = true := by decide +kernel
theorem lay_103 : lays "9999" = true := by decide +kernel
theorem lay_104 : lays "10" = true := by decide +kernel
theorem lay_105 : lays "1" = true := by decide +kernel
theorem lay_106 : lays "2" = true := by decide +kernel
theorem lay_107 : lays "3" = true := by decide +kernel
theorem lay_108 : lays "4" = true := by decide +kernel
theorem lay_109 : lays "5" = true := by decide +kernel
theorem lay_110 : lays "7" = true := by decide +kernel
theorem lay_111 : lays "8" = true := by decide +kernel
theorem lay_112 : lays "9" = true := by decide +kernel
theorem lay_113 : lays "NUMBER" = true := by decide +kernel
theorem lay_114 : lays "tokens" = true := by decide +kernel
theorem lay_115 : lays "at" = true := by decide +kernel
theorem lay_116 : lays "END" = true := by decide +kernel
theorem lay_117 : lays "parts" = true := by decide +kernel
theorem lay_118 : lays "word" = true := by decide +kernel
theorem lay_119 : lays "sign" = true := by decide +kernel
theorem lay_120 : lays "to" = true := by decide +kernel
theorem lay_121 : lays " finish" = true := by decide +kernel
theorem lay_122 : lays " silent" = true := by decide +kernel
theorem lay_123 : lays "letters " = true := by decide +kernel
theorem lay_124 : lays "answers " = true := by decide +kernel
theorem lay_125 : lays "FAULT" = true := by decide +kernel
theorem lay_126 : lays "WORD" = true := by decide +kernel
theorem lay_127 : lays "reason" = true := by decide +kernel
theorem lay_128 : lays "\nanswers " = true := by decide +kernel
theorem lay_129 : lays "\n\n " = true := by decide +kernel
theorem lay_130 : lays "SIGN" = true := by decide +kernel
theorem lay_131 : lays "over to " = true := by decide +kernel
theorem lay_132 : lays " to " = true := by decide +kernel
theorem lay_133 : lays "law_allmends_k13_both_contracts" = true := by decide +kernel
theorem lay_134 : lays "too large" = true := by decide +kernel
theorem lay_135 : lays "too long" = true := by decide +kernel
theorem lay_136 : lays "too many cases" = true := by decide +kernel
theorem lay_137 : lays "mismatch" = true := by decide +kernel
theorem lay_138 : lays "large states" = true := by decide +kernel
theorem lay_139 : lays "large " = true := by decide +kernel
theorem lay_140 : lays "allmends.changes" = true := by decide +kernel
theorem lay_141 : lays "law_allmends_k14_change_kept_in_order" = true := by decide +kernel
theorem lay_142 : lays "a place stands twice" = true := by decide +kernel
theorem lay_143 : lays "an entry of another place is set" = true := by decide +kernel
theorem lay_144 : lays "an entry is set twice" = true := by decide +kernel
theorem lay_145 : lays "law_allmends_k15_turned_entries" = true := by decide +kernel
theorem lay_146 : lays "allmends.edits" = true := by decide +kernel
theorem lay_147 : lays "law_allmends_k21_edits_listed" = true := by decide +kernel
theorem lay_148 : lays "put" = true := by decide +kernel
theorem lay_149 : lays "pq" = true := by decide +kernel
theorem lay_150 : lays "late" = true := by decide +kernel
theorem lay_151 : lays "drop" = true := by decide +kernel
theorem lay_152 : lays "g" = true := by decide +kernel
theorem lay_153 : lays "go" = true := by decide +kernel
theorem lay_154 : lays "no place" = true := by decide +kernel
theorem lay_155 : lays "a" = true := by decide +kernel
theorem lay_156 : lays "b1" = true := by decide +kernel
theorem lay_157 : lays "x" = true := by decide +kernel
theorem lay_158 : lays "law_allmends_k22_edits_applied" = true := by decide +kernel
theorem lay_159 : lays "law_allmends_k23_draft_picks" = true := by decide +kernel
theorem lay_160 : lays "draft" = true := by decide +kernel
theorem lay_161 : lays "the place of a pick is not in the field" = true := by decide +kernel
theorem lay_162 : lays "a place stands twice in the field" = true := by decide +kernel
theorem lay_163 : lays "a place has two picks" = true := by decide +kernel
theorem lay_164 : lays "allmends.amendments" = true := by decide +kernel
theorem lay_165 : lays "law_allmends_k26_amended_place" = true := by decide +kernel
theorem lay_166 : lays "q" = true := by decide +kernel
theorem lay_167 : lays "b" = true := by decide +kernel
theorem lay_168 : lays "k7" = true := by decide +kernel
theorem lay_169 : lays "abcdefgh" = true := by decide +kernel
theorem lay_170 : lays "place" = true := by decide +kernel
end Dl
namespace Dl
open PySem L2
def subs : List (Str × Str) := ([("InvalidInput", "MendError"), ("BoundError", "MendError"), ("DeskError", "MendError"), ("InvalidText", "InvalidInput"), ("InvalidText", "MendError"), ("InvalidProgram", "InvalidInput"), ("InvalidProgram", "MendError"), ("InvalidContract", "InvalidInput"), ("InvalidContract", "MendError"), ("InvalidChange", "InvalidInput"), ("InvalidChange", "MendError"), ("InvalidStream", "InvalidInput"), ("InvalidStream", "MendError"), ("InvalidPlaces", "InvalidInput"), ("InvalidPlaces", "MendError")] : List (Str × Str)) ++ ([("InvalidEdit", "InvalidInput"), ("InvalidEdit", "MendError"), ("InvalidLine", "InvalidInput"), ("InvalidLine", "MendError"), ("InvalidName", "InvalidInput"), ("InvalidName", "MendError"), ("Mismatch", "InvalidInput"), ("Mismatch", "MendError"), ("TooLarge", "BoundError"), ("TooLarge", "MendError"), ("TooLong", "BoundError"), ("TooLong", "MendError"), ("TooManyCases", "BoundError"), ("TooManyCases", "MendError"), ("NameTaken", "DeskError")] : List (Str × Str)) ++ ([("NameTaken", "MendError"), ("UnknownName", "DeskError"), ("UnknownName", "MendError"), ("NothingToUndo", "DeskError"), ("NothingToUndo", "MendError"), ("NothingToRedo", "DeskError"), ("NothingToRedo", "MendError")] : List (Str × Str))
def isaF (c y : Str) : Bool := decide (c = y) || subs.contains (c, y)
theorem ex_is (a : Addr) (d : Option Addr) (c : Str) (fs : List (Str × D)) : (∃ c' fs', some (S.ex a d c fs) = some (S.ex a d c' fs')) = True := propext ⟨fun _ => True.intro, fun _ => ⟨_, _, rfl⟩⟩
theorem ex_fl (a : Addr) (d : Option Addr) (c : Str) (fs : List (Str × D)) : (∃ c', some (S.ex a d c fs) = some (S.ex a d c' fs)) = True := propext ⟨fun _ => True.intro, fun _ => ⟨_, rfl⟩⟩
theorem lk_hd (f : Str) (d : D) (l : List (Str × D)) (P : D → Prop) : (∃ v, List.lookup f ((f, d) :: l) = some v ∧ P v) = P d := propext ⟨fun ⟨v, e, p⟩ => by simp [List.lookup] at e; subst e; exact p, fun p => ⟨d, by simp [List.lookup], p⟩⟩
end Dl
namespace Dl
open PySem PySem.Spec PyProof.Rows L2
section
variable {Γ : Kx} {H0 G G' : Hp} {R R' : Addr → Prop} {H H' : Hp}
theorem OwL.len : ∀ {ds : List D} {vs : List V} {as : List Addr}, OwL Γ H0 G R H ds vs as → ds.length = vs.length
  | [], vs, as, h => by unfold OwL at h; rw [h.1]; rfl
  | d :: ds, vs, as, h => by
    unfold OwL at h
    obtain ⟨v, r, bs, cs, rfl, _, h1, h2⟩ := h
    rw [List.length_cons, List.length_cons, OwL.len h2]
theorem OwL.nil : OwL Γ H0 G R H [] [] [] := by unfold OwL; exact ⟨rfl, rfl⟩
theorem OwL.cons {d : D} {v : V} {as : List Addr} {ds : List D} {vs : List V} {bs : List Addr} (h : Ow Γ H0 G R H d v as) (t : OwL Γ H0 G R H ds vs bs) : OwL Γ H0 G R H (d :: ds) (v :: vs) (as ++ bs) := by
  unfold OwL
  exact ⟨v, vs, as, bs, rfl, rfl, h, t⟩
theorem OwL.append : ∀ {ds es : List D} {vs us : List V} {as bs : List Addr}, OwL Γ H0 G R H ds vs as → OwL Γ H0 G R H es us bs → OwL Γ H0 G R H (ds ++ es) (vs ++ us) (as ++ bs)
  | [], _, vs, _, as, _, h, t => by unfold OwL at h; obtain ⟨rfl, rfl⟩ := h; exact t
  | d :: ds, es, vs, us, as, bs, h, t => by
    unfold OwL at h
    obtain ⟨v, r, b1, c1, rfl, rfl, h1, h2⟩ := h
    have := OwL.cons h1 (OwL.append h2 t)
    simpa using this
end
section
variable {Γ : Kx} {H0 G G' G'' : Hp} {R R' R'' : Addr → Prop} {H H' H'' : Hp}
theorem Nx.stays (g : Gd G R H) (n : Nx G R H G' R' H') (as : List Addr) : Stays G R H G' R' H' as := ⟨fun a o _ h s g r => n.openO h s.stiff g r, fun a o h s => n.st h s g, n.rr, n.gg⟩
theorem Stays.trans {as : List Addr} (s : Stays G R H G' R' H' as) (t : Stays G' R' H' G'' R'' H'' as) : Stays G R H G'' R'' H'' as := ⟨fun a o m h op g r => by
  obtain ⟨x, y, z⟩ := s.sl a o m h op g r
  exact t.sl a o m x op y z, fun a o h st => t.st a o (s.st a o h st) st, fun a r => t.rd a (s.rd a r), fun a o e => t.gg a o (s.gg a o e)⟩
theorem Stays.upd {as : List Addr} {a : Addr} {o u : HO} (hm : a ∉ as) (h : H a = some u) (hu : ¬ Stiff u) : Stays G R H G R (L2.upd H a o) as := ⟨fun b w m h op g r => ⟨by rw [upd_ne (fun (e : b = a) => hm (e ▸ m))]; exact h, g, r⟩, fun b w e s => by
  rw [upd_ne (fun (z : b = a) => by rw [z, h] at e; cases e; exact hu s)]
  exact e, fun _ h => h, fun _ _ h => h⟩
def wo (as bs : List Addr) : List Addr := as.filter fun a => !decide (a ∈ bs)
theorem mem_wo {as bs : List Addr} {a : Addr} : a ∈ wo as bs ↔ a ∈ as ∧ a ∉ bs := by
  unfold wo
  rw [List.mem_filter]
  simp
def Frs (H0 G : Hp) (R : Addr → Prop) (H : Hp) (as : List Addr) : Prop := ∀ a ∈ as, H0 a = none ∧ G a = none ∧ ¬ R a ∧ ∃ o, H a = some o ∧ Open o
theorem Gd.cut {as : List Addr} (g : Gd G R H) (f : ∀ a ∈ as, G a = none ∧ ¬ R a) : Gd G R (Dl.cut H as) :=
  ⟨fun b o e => by rw [cut_out (fun m => by rw [(f b m).1] at e; cases e)]; exact g.sub b o e, fun a r => by
    obtain ⟨x, y, z, e⟩ := g.rd a r
    exact ⟨x, y, z, by rw [cut_out (fun m => (f a m).2 r)]; exact e⟩, g.dis⟩
theorem Nx.cut {G0 : Hp} {R0 : Addr → Prop} {as : List Addr} (n : Nx G0 R0 H0 G R H) (f : Frs H0 G R H as) : Nx G0 R0 H0 G R (Dl.cut H as) where
  gg := n.gg
  rr := n.rr
  gd := n.gd.cut fun a m => ⟨(f a m).2.1, (f a m).2.2.1⟩
  ev := fun b o e r => by rw [cut_out (fun m => by rw [(f b m).1] at e; cases e)]; exact n.ev b o e r
  ex := fun b o e => by rw [cut_out (fun m => by rw [(f b m).1] at e; cases e)]; exact n.ex b o e
  fg := n.fg
  fr := n.fr
theorem Nx.cutOf {as : List Addr} (n : Nx G R H G' R' H') : Nx G R (Dl.cut H as) G' R' H' where
  gg := n.gg
  rr := n.rr
  gd := n.gd
  ev := fun b u e z => n.ev b u (cut_some e).2 z
  ex := fun b u e => n.ex b u (cut_some e).2
  fg := fun b u e => by
    rcases n.fg b u e with z | z | z
    · exact .inl z
    · refine .inr (.inl ?_)
      unfold Dl.cut
      split
      · rfl
      · exact z
    · exact .inr (.inr z)
  fr := fun b z => by
    rcases n.fr b z with y | y
    · exact .inl y
    · refine .inr ?_
      unfold Dl.cut
      split
      · rfl
      · exact y
end
section
variable {Γ : Kx} {H0 G G' : Hp} {R R' : Addr → Prop} {H H' : Hp} {σ : St} {ρ : En} {i : Nat} {v : V} {as as' : List Addr} {d d' : D}
theorem Wd.frs (w : Wd Γ H0 G R H σ ρ) (e : ρ[i]? = some (.ow v as d)) : Frs H0 G R H as := by
  obtain ⟨u, _, _, h, _⟩ := w.sl i _ e
  exact Ow.fresh d v as h
theorem Wd.take (w : Wd Γ H0 G R H σ ρ) (e : ρ[i]? = some (.ow v as d)) : Wd Γ H0 G R (Dl.cut H as) σ (ρ.set i .un) := by
  have f := w.frs e
  obtain ⟨v0, eσ, y1, y2, y3⟩ := w.sl i _ e
  have hi : i < ρ.length := (List.getElem?_eq_some_iff.mp e).1
  refine ⟨w.gd.cut fun a m => ⟨(f a m).2.1, (f a m).2.2.1⟩, by rw [List.length_set]; exact w.len, fun j t q => ?_, fun j m s1 s2 v1 v2 a hjm e1 e2 e3 e4 o1 o2 => ?_⟩
  · by_cases hj : i = j
    · subst hj
      rw [List.getElem?_set_self hi] at q
      cases q
      exact ⟨_, eσ, True.intro⟩
    · rw [List.getElem?_set_ne hj] at q
      obtain ⟨u, e2, y⟩ := w.sl j t q
      refine ⟨u, e2, ?_⟩
      have far : ∀ a, a ∈ t.fpt u → a ∉ as := fun a m z => w.dj i j _ t _ u a hj e q eσ e2 z m
      cases t with
      | un => exact True.intro
      | fz d => exact y
      | op es =>
        obtain ⟨a, us, rfl, y1, y2, y3, y4, y5⟩ := y
        exact ⟨a, us, rfl, by rw [cut_out (far a (List.mem_singleton.mpr rfl))]; exact y1, y2, y3, y4, y5⟩
      | io a c fs =>
        obtain ⟨dx, us, rfl, y1, y2, y3, y4, y5⟩ := y
        exact ⟨dx, us, rfl, by rw [cut_out (far a (List.mem_singleton.mpr rfl))]; exact y1, y2, y3, y4, y5⟩
      | ex a d c fs =>
        obtain ⟨y1, y2⟩ := y
        refine ⟨y1, y2.imp id fun ⟨dd, vs, z1, z2, z3⟩ => ⟨dd, vs, z1, ?_, z3⟩⟩
        rw [cut_out (fun m => by
          obtain ⟨_, _, _, o, ho, op⟩ := f dd m
          rw [z2] at ho; cases ho; exact op.elim)]
        exact z2
      | ow x bs d =>
        obtain ⟨y1, y2, y3⟩ := y
        refine ⟨y1, Ow.mono d x bs ⟨fun a o m h _ g r => ⟨by rw [cut_out (far a m)]; exact h, g, r⟩, fun a o h s => ?_, fun _ h => h, fun _ _ h => h⟩ y2, y3⟩
        rw [cut_out (fun m => by
          obtain ⟨_, _, _, o, ho, op⟩ := f a m
          rw [h] at ho; cases ho; exact op.stiff s)]
        exact h
      | se d =>
        obtain ⟨x, y1, y2⟩ := y
        refine ⟨x, y1, Rp.mono (fun b u e => ?_) (fun _ h => h) d x y2⟩
        obtain ⟨e1, e2⟩ := viewO_iff.mp e
        refine viewO_iff.mpr ⟨?_, e2⟩
        rw [cut_out (fun m => by
          obtain ⟨h0, g0, r0, o, ho, op⟩ := f b m
          rw [e1] at ho
          cases ho
          rcases e2 with z | z | z
          · rw [g0] at z; cases z
          · exact op.stiff z
          · exact z.2.1 h0)]
        exact e1
  · by_cases hj : i = j
    · subst hj
      rw [List.getElem?_set_self hi] at e1
      cases e1
      exact absurd o1 List.not_mem_nil
    · rw [List.getElem?_set_ne hj] at e1
      by_cases hm : i = m
      · subst hm
        rw [List.getElem?_set_self hi] at e2
        cases e2
        exact absurd o2 List.not_mem_nil
      · rw [List.getElem?_set_ne hm] at e2
        exact w.dj j m s1 s2 v1 v2 a hjm e1 e2 e3 e4 o1 o2
theorem Wd.putO (w : Wd Γ H0 G R H σ ρ) (e : ρ[i]? = some (.ow v as d)) (n : Nx G R (Dl.cut H as) G' R' H') (h : Ow Γ H0 G' R' H' d' v as') (nd : as'.Nodup) (hs : ∀ a ∈ as', Dl.cut H as a = none) : Wd Γ H0 G' R' H' σ (ρ.set i (.ow v as' d')) := by
  have w0 := w.take e
  have w1 := w0.nx n
  obtain ⟨v0, eσ, rfl, _⟩ := w.sl i _ e
  have := w1.set i (v := some v) (s := .ow v as' d') ⟨rfl, h, nd⟩ fun a m j t u hj e1 e2 m2 => by
    obtain ⟨⟨o, ho, _⟩, _⟩ := w0.ownThere e1 e2 m2
    rw [hs a m] at ho
    cases ho
  rw [List.set_set] at this
  have eσ2 : σ.set i (some v) = σ := by
    obtain ⟨hl, q⟩ := List.getElem?_eq_some_iff.mp eσ
    conv => lhs; rw [← q]
    exact List.set_getElem_self hl
  rw [eσ2] at this
  exact this
theorem Nx.putO {G0 : Hp} {R0 : Addr → Prop} (n0 : Nx G0 R0 H0 G R H) (w : Wd Γ H0 G R H σ ρ) (e : ρ[i]? = some (.ow v as d)) (n : Nx G R (Dl.cut H as) G' R' H') : Nx G0 R0 H0 G' R' H' := (n0.cut (w.frs e)).trans n
end
section
variable {Γ : Kx} {H0 G G' : Hp} {R R' : Addr → Prop} {H H' : Hp}
structure Comp (Γ : Kx) (H0 G : Hp) (R : Addr → Prop) (H : Hp) (v : V) (as : List Addr) (f : D → D) (d1 : D) (v1 : V) (as1 : List Addr) : Prop where
  ow : Ow Γ H0 G R H d1 v1 as1
  nd : as1.Nodup
  sub : ∀ a ∈ as1, a ∈ as
  re : ∀ (G' : Hp) (R' : Addr → Prop) (H' : Hp) (d2 : D) (as2 : List Addr), Stays G R H G' R' H' (wo as as1) → Ow Γ H0 G' R' H' d2 v1 as2 → as2.Nodup → (∀ a ∈ as2, a ∈ as → a ∈ as1) →
    ∃ as3, Ow Γ H0 G' R' H' (f d2) v as3 ∧ as3.Nodup ∧ ∀ a, a ∈ as3 ↔ a ∈ as2 ∨ (a ∈ as ∧ a ∉ as1)
theorem Comp.refl {d : D} {v : V} {as : List Addr} (h : Ow Γ H0 G R H d v as) (nd : as.Nodup) : Comp Γ H0 G R H v as (fun x => x) d v as :=
  ⟨h, nd, fun _ m => m, fun G' R' H' d2 as2 _ h n _ => ⟨as2, h, n, fun a => ⟨.inl, fun m => m.elim id fun z => absurd z.1 z.2⟩⟩⟩
theorem Comp.trans {v v1 v2 : V} {as as1 as2 : List Addr} {f g : D → D} {d1 d2 : D} (c : Comp Γ H0 G R H v as f d1 v1 as1) (e : Comp Γ H0 G R H v1 as1 g d2 v2 as2) : Comp Γ H0 G R H v as (fun x => f (g x)) d2 v2 as2 := by
  refine ⟨e.ow, e.nd, fun a m => c.sub a (e.sub a m), fun G' R' H' d3 as3 s h nd hs => ?_⟩
  obtain ⟨as4, h4, n4, m4⟩ := e.re G' R' H' d3 as3 (s.sub fun a m => by
    rw [mem_wo] at *
    exact ⟨c.sub a m.1, m.2⟩) h nd fun a m ma => hs a m (c.sub a ma)
  obtain ⟨as5, h5, n5, m5⟩ := c.re G' R' H' (g d3) as4 (s.sub fun a m => by
    rw [mem_wo] at *
    exact ⟨m.1, fun z => m.2 (e.sub a z)⟩) h4 n4 fun a m ma => by
      rcases (m4 a).mp m with z | z
      · exact e.sub a (hs a z ma)
      · exact z.1
  refine ⟨as5, h5, n5, fun a => ⟨fun m => ?_, fun m => ?_⟩⟩
  · rcases (m5 a).mp m with z | z
    · rcases (m4 a).mp z with y | y
      · exact .inl y
      · exact .inr ⟨c.sub a y.1, y.2⟩
    · exact .inr ⟨z.1, fun y => z.2 (e.sub a y)⟩
  · refine (m5 a).mpr ?_
    rcases m with z | z
    · exact .inl ((m4 a).mpr (.inl z))
    · by_cases q : a ∈ as1
      · exact .inl ((m4 a).mpr (.inr ⟨q, z.2⟩))
      · exact .inr ⟨z.1, q⟩
theorem Comp.nx {v v1 : V} {as as1 : List Addr} {f : D → D} {d1 : D} (c : Comp Γ H0 G R H v as f d1 v1 as1) (g : Gd G R H) (n : Nx G R H G' R' H') : Comp Γ H0 G' R' H' v as f d1 v1 as1 :=
  ⟨Ow.mono d1 v1 as1 (n.stays g _) c.ow, c.nd, c.sub, fun G'' R'' H'' d2 as2 s h nd hs => c.re G'' R'' H'' d2 as2 ((n.stays g _).trans s) h nd hs⟩
theorem OwL.at : ∀ {ds : List D} {vs : List V} {bs : List Addr} {j : Nat} {d1 : D}, OwL Γ H0 G R H ds vs bs → bs.Nodup → ds[j]? = some d1 →
    ∃ v1 as1, vs[j]? = some v1 ∧ Ow Γ H0 G R H d1 v1 as1 ∧ as1.Nodup ∧ (∀ a ∈ as1, a ∈ bs) ∧ ∀ (G' : Hp) (R' : Addr → Prop) (H' : Hp) (d2 : D) (v2 : V) (as2 : List Addr), Stays G R H G' R' H' (wo bs as1) → Ow Γ H0 G' R' H' d2 v2 as2 → as2.Nodup → (∀ a ∈ as2, a ∈ bs → a ∈ as1) →
      ∃ bs3, OwL Γ H0 G' R' H' (ds.set j d2) (vs.set j v2) bs3 ∧ bs3.Nodup ∧ ∀ a, a ∈ bs3 ↔ a ∈ as2 ∨ (a ∈ bs ∧ a ∉ as1)
  | [], _, _, _, _, _, _, e => by simp at e
  | d :: ds, vs, bs, 0, d1, h, nd, e => by
    simp at e
    subst e
    unfold OwL at h
    obtain ⟨v, r, b1, c1, rfl, rfl, h1, h2⟩ := h
    obtain ⟨n1, n2, n3⟩ := List.nodup_append.mp nd
    refine ⟨v, b1, by simp, h1, n1, fun a m => List.mem_append_left _ m, fun G' R' H' d2 v2 as2 s h nd2 hs => ?_⟩
    have l2 := OwL.mono ds r c1 (s.sub fun a m => mem_wo.mpr ⟨List.mem_append_right _ m, fun z => n3 a z a m rfl⟩) h2
    rw [List.set_cons_zero, List.set_cons_zero]
    refine ⟨as2 ++ c1, OwL.cons h l2, List.nodup_append.mpr ⟨nd2, n2, fun a ha b hb e => ?_⟩, fun a => ?_⟩
    · subst e
      exact n3 a (hs a ha (List.mem_append_right _ hb)) a hb rfl
    · refine ⟨fun m => ?_, fun m => ?_⟩
      · rcases List.mem_append.mp m with m | m
        · exact .inl m
        · exact .inr ⟨List.mem_append_right _ m, fun z => n3 a z a m rfl⟩
      · rcases m with m | m
        · exact List.mem_append_left _ m
        · exact List.mem_append_right _ ((List.mem_append.mp m.1).resolve_left m.2)
  | d :: ds, vs, bs, j + 1, d1, h, nd, e => by
    simp at e
    unfold OwL at h
    obtain ⟨v, r, b1, c1, rfl, rfl, h1, h2⟩ := h
    obtain ⟨n1, n2, n3⟩ := List.nodup_append.mp nd
    obtain ⟨v1, as1, e1, o1, nd1, sub1, re1⟩ := h2.at n2 e
    refine ⟨v1, as1, by simpa using e1, o1, nd1, fun a m => List.mem_append_right _ (sub1 a m), fun G' R' H' d2 v2 as2 s h nd2 hs => ?_⟩
    have h1' := Ow.mono d v b1 (s.sub fun a m => mem_wo.mpr ⟨List.mem_append_left _ m, fun z => n3 a m a (sub1 a z) rfl⟩) h1
    obtain ⟨c3, l3, nc3, m3⟩ := re1 G' R' H' d2 v2 as2 (s.sub fun a m => by
      rw [mem_wo] at *
      exact ⟨List.mem_append_right _ m.1, m.2⟩) h nd2 fun a m ma => hs a m (List.mem_append_right _ ma)
    rw [List.set_cons_succ, List.set_cons_succ]
    refine ⟨b1 ++ c3, OwL.cons h1' l3, List.nodup_append.mpr ⟨n1, nc3, fun a ha b hb e => ?_⟩, fun a => ?_⟩
    · subst e
      rcases (m3 a).mp hb with z | z
      · exact n3 a ha a (sub1 a (hs a z (List.mem_append_left _ ha))) rfl
      · exact n3 a ha a z.1 rfl
    · refine ⟨fun m => ?_, fun m => ?_⟩
      · rcases List.mem_append.mp m with m | m
        · exact .inr ⟨List.mem_append_left _ m, fun z => n3 a m a (sub1 a z) rfl⟩
        · rcases (m3 a).mp m with z | z
          · exact .inl z
          · exact .inr ⟨List.mem_append_right _ z.1, z.2⟩
      · rcases m with m | m
        · exact List.mem_append_right _ ((m3 a).mpr (.inl m))
        · rcases List.mem_append.mp m.1 with z | z
          · exact List.mem_append_left _ z
          · exact List.mem_append_right _ ((m3 a).mpr (.inr ⟨z, m.2⟩))
theorem Comp.lst {v v1 : V} {as as1 : List Addr} {f : D → D} {ds : List D} (c : Comp Γ H0 G R H v as f (.lst ds) v1 as1) : ∃ a vs bs, v1 = .ref a ∧ as1 = a :: bs ∧ a ∈ as ∧ a ∉ bs ∧ bs.Nodup ∧ (∀ x ∈ bs, x ∈ as) ∧ H a = some (.lst vs) ∧ G a = none ∧ ¬ R a ∧ OwL Γ H0 G R H ds vs bs ∧
    ∀ (ds' : List D) (vs' : List V) (bs' : List Addr), OwL Γ H0 G R H ds' vs' bs' → bs'.Nodup → a ∉ bs' → (∀ b ∈ bs', b ∈ as → b ∈ bs) → ∃ as3, Ow Γ H0 G R (upd H a (.lst vs')) (f (.lst ds')) v as3 ∧ as3.Nodup ∧ ∀ x ∈ as3, x ∈ bs' ∨ x ∈ as := by
  have h := c.ow
  unfold Ow at h
  obtain ⟨a, vs, bs, rfl, rfl, h0, g, r, hl, l⟩ := h
  obtain ⟨na, nb⟩ := List.nodup_cons.mp c.nd
  refine ⟨a, vs, bs, rfl, rfl, c.sub a (List.mem_cons_self ..), na, nb, fun x m => c.sub x (List.mem_cons_of_mem _ m), hl, g, r, l, fun ds' vs' bs' l' nd' na' hs => ?_⟩
  have st : ¬ Stiff (HO.lst vs) := fun t => t
  obtain ⟨as3, h3, n3, m3⟩ := c.re G R (upd H a (.lst vs')) (.lst ds') (a :: bs') (Stays.upd (fun m => (mem_wo.mp m).2 (List.mem_cons_self ..)) hl st) (by
    unfold Ow
    exact ⟨a, vs', bs', rfl, rfl, h0, g, r, upd_same, OwL.mono ds' vs' bs' (Stays.upd na' hl st) l'⟩) (List.nodup_cons.mpr ⟨na', nd'⟩) fun x m mx => by
      rcases List.mem_cons.mp m with rfl | m
      · exact List.mem_cons_self ..
      · exact List.mem_cons_of_mem _ (hs x m mx)
  refine ⟨as3, h3, n3, fun x m => ?_⟩
  rcases (m3 x).mp m with z | z
  · rcases List.mem_cons.mp z with rfl | z
    · exact .inr (c.sub x (List.mem_cons_self ..))
    · exact .inl z
  · exact .inr z.1
end
end Dl
namespace Dl
open PySem PySem.Spec PyProof.Rows L2
section
variable {Γ : Kx} {H0 G G2 G' : Hp} {R R' : Addr → Prop} {H H' : Hp} {σ : St} {ρ : En} {W : WX}
mutual
theorem Ow.view (g : Same G H) : ∀ (d : D) (v : V) (as : List Addr), Ow Γ H0 G R H d v as → Rp Γ (viewO H G R H) R d v
  | .lst ds, v, as, h => by
    unfold Ow at h
    obtain ⟨a, vs, bs, e, _, _, _, r, hl, l⟩ := h
    unfold Rp
    exact ⟨a, vs, e, viewO_iff.mpr ⟨hl, .inr (.inr ⟨r, by rw [hl]; exact (fun z => nomatch z), trivial⟩)⟩, OwL.view g ds vs bs l⟩
  | .dic ds, v, as, h => by
    unfold Ow at h
    obtain ⟨a, vs, bs, e, _, _, _, r, hl, l⟩ := h
    unfold Rp
    exact ⟨a, vs, e, viewO_iff.mpr ⟨hl, .inr (.inr ⟨r, by rw [hl]; exact (fun z => nomatch z), trivial⟩)⟩, OwK.view g ds vs bs l⟩
  | .tup ds, v, as, h => by
    unfold Ow at h
    obtain ⟨a, vs, e, q, l⟩ := h
    unfold Rp
    exact ⟨a, vs, e, seqT_stiff (fun a o e s => viewO_iff.mpr ⟨e, .inr (.inl s)⟩) q, OwL.view g ds vs as l⟩
  | .non, v, as, h => by unfold Ow at h; exact Rp.mono (viewO_same g) (fun _ h => h) _ _ h.2
  | .bl _, v, as, h => by unfold Ow at h; exact Rp.mono (viewO_same g) (fun _ h => h) _ _ h.2
  | .int _, v, as, h => by unfold Ow at h; exact Rp.mono (viewO_same g) (fun _ h => h) _ _ h.2
  | .str _, v, as, h => by unfold Ow at h; exact Rp.mono (viewO_same g) (fun _ h => h) _ _ h.2
  | .scr _, v, as, h => by unfold Ow at h; exact Rp.mono (viewO_same g) (fun _ h => h) _ _ h.2
  | .rd, v, as, h => by unfold Ow at h; exact Rp.mono (viewO_same g) (fun _ h => h) _ _ h.2
  | .ins _ _, v, as, h => by unfold Ow at h; exact Rp.mono (viewO_same g) (fun _ h => h) _ _ h.2
  | .exc _ _, v, as, h => by unfold Ow at h; exact Rp.mono (viewO_same g) (fun _ h => h) _ _ h.2
  | .nms _, v, as, h => by unfold Ow at h; exact Rp.mono (viewO_same g) (fun _ h => h) _ _ h.2
  | .any, v, as, h => by unfold Ow at h; exact Rp.mono (viewO_same g) (fun _ h => h) _ _ h.2
  | .fr _, v, as, h => by unfold Ow at h; exact Rp.mono (viewO_same g) (fun _ h => h) _ _ h.2
  | .raw _, v, as, h => by unfold Ow at h; exact Rp.mono (viewO_same g) (fun _ h => h) _ _ h.2
theorem OwL.view (g : Same G H) : ∀ (ds : List D) (vs : List V) (as : List Addr), OwL Γ H0 G R H ds vs as → RpL Γ (viewO H G R H) R ds vs
  | [], vs, as, h => by unfold OwL at h; unfold RpL; exact h.1
  | d :: ds, vs, as, h => by
    unfold OwL at h
    obtain ⟨v, r, bs, cs, e, _, h1, h2⟩ := h
    unfold RpL
    exact ⟨v, r, e, Ow.view g d v bs h1, OwL.view g ds r cs h2⟩
theorem OwK.view (g : Same G H) : ∀ (ds : List (Key × D)) (vs : List (Key × V)) (as : List Addr), OwK Γ H0 G R H ds vs as → RpK Γ (viewO H G R H) R ds vs
  | [], vs, as, h => by unfold OwK at h; unfold RpK; exact h.1
  | (x, d) :: ds, vs, as, h => by
    unfold OwK at h
    obtain ⟨v, r, bs, cs, e, _, h1, h2⟩ := h
    unfold RpK
    exact ⟨v, r, e, Ow.view g d v bs h1, OwK.view g ds r cs h2⟩
end
def S.seen : S → S
  | .op ds => .fz (.lst ds)
  | .ow _ _ d => .fz d
  | .se d => .fz d
  | s => s
theorem view_gd (g : Gd G R H) : Gd (viewO H0 G R H) R H := ⟨fun b o e => (viewO_iff.mp e).1, g.rd, fun a r => by
  cases q : viewO H0 G R H a with
  | none => rfl
  | some o =>
    obtain ⟨e, z⟩ := viewO_iff.mp q
    rcases z with z | z | z
    · rw [g.dis a r] at z; cases z
    · obtain ⟨_, _, _, y⟩ := g.rd a r
      rw [e] at y
      cases y
      exact z.elim
    · exact absurd r z.1⟩
theorem Wd.view (w : Wd Γ H0 G R H σ ρ) : Wd Γ H0 (viewO H G R H) R H σ (ρ.map S.seen) := by
  have sm : Same G (viewO H G R H) := viewO_same w.gd.sub
  refine ⟨view_gd w.gd, by rw [List.length_map]; exact w.len, fun i s e => ?_, fun i j s t v1 v2 a hij e1 e2 e3 e4 o1 o2 => ?_⟩
  · rw [List.getElem?_map] at e
    cases q : ρ[i]? with
    | none => rw [q] at e; cases e
    | some s0 =>
      rw [q] at e
      cases e
      obtain ⟨v, eσ, y⟩ := w.sl i s0 q
      refine ⟨v, eσ, ?_⟩
      cases s0 with
      | un => exact True.intro
      | fz d => obtain ⟨x, y1, y2⟩ := y; exact ⟨x, y1, Rp.mono sm (fun _ h => h) d x y2⟩
      | op ds =>
        obtain ⟨l, vs, y1, y2, y3, y4, y5, y6⟩ := y
        refine ⟨.ref l, y1, ?_⟩
        unfold Rp
        exact ⟨l, vs, rfl, viewO_iff.mpr ⟨y2, .inr (.inr ⟨y4, by rw [y2]; exact (fun z => nomatch z), trivial⟩)⟩, RpL.mono sm (fun _ h => h) ds vs y6⟩
      | io a c fs =>
        obtain ⟨dx, vs, y1, y2, y3, y4, y5, y6⟩ := y
        refine ⟨dx, vs, y1, y2, ?_, y4, y5, RpF.mono sm (fun _ h => h) fs vs y6⟩
        cases q : viewO H G R H a with
        | none => rfl
        | some o =>
          obtain ⟨e, z⟩ := viewO_iff.mp q
          rw [y2] at e
          cases e
          rcases z with z | z | z
          · rw [y3] at z; cases z
          · exact z.elim
          · exact z.2.2.elim
      | ex a d c fs =>
        obtain ⟨y1, y2⟩ := y
        exact ⟨y1, y2.imp id fun ⟨dd, vs, z1, z2, z3, z4⟩ => ⟨dd, vs, z1, z2, z3, RpF.mono sm (fun _ h => h) fs vs z4⟩⟩
      | ow x as d => exact ⟨x, y.1, Ow.view w.gd.sub d x as y.2.1⟩
      | se d =>
        obtain ⟨x, y1, y2⟩ := y
        refine ⟨x, y1, Rp.mono (fun b o e => ?_) (fun _ h => h) d x y2⟩
        obtain ⟨e1, e2⟩ := viewO_iff.mp e
        exact viewO_iff.mpr ⟨e1, e2.imp id fun z => z.imp id fun z => ⟨z.1, by rw [e1]; exact (fun z => nomatch z), z.2.2⟩⟩
  · rw [List.getElem?_map] at e1 e2
    cases q1 : ρ[i]? with
    | none => rw [q1] at e1; cases e1
    | some s0 =>
      cases q2 : ρ[j]? with
      | none => rw [q2] at e2; cases e2
      | some t0 =>
        rw [q1] at e1
        rw [q2] at e2
        cases e1
        cases e2
        have sub : ∀ (s : S) (v : Option V) a, a ∈ s.seen.fpt v → a ∈ s.fpt v := fun s v a m => by
          cases s <;> first | exact m | exact absurd m List.not_mem_nil
        exact w.dj i j s0 t0 v1 v2 a hij q1 q2 e3 e4 (sub _ _ _ o1) (sub _ _ _ o2)
theorem Nx.back (s : Same G G2) (n : Nx G2 R H G' R' H') : Nx G R H (Dl.satur G H') R' H' where
  gg := satur_same
  rr := n.rr
  gd := by
    have s1 : Same G H' := fun b o e => n.gd.sub b o (n.gg b o (s b o e))
    have g1 : Gd G R' H' := ⟨s1, n.gd.rd, fun a r => by
      cases q : G a with
      | none => rfl
      | some o =>
        have := n.gg a o (s a o q)
        rw [n.gd.dis a r] at this
        cases this⟩
    exact g1.satur
  ev := n.ev
  ex := n.ex
  fg := fun b u q => by
    rcases satur_cases q with z | ⟨_, z⟩
    · exact .inl z
    · exact .inr (.inr (stiff_of z))
  fr := n.fr
theorem Lk.view {xq : XQ} (g : Gd G R H) (x : Lk Γ W xq σ G R H) : Lk Γ W (fun c fs => immF fs = true ∧ xq c fs) σ (viewO H G R H) R H := fun c fs G' R' H' cls dx n z e => by
  refine x c fs _ R' H' cls dx (n.back (viewO_same g.sub)) z.2 ⟨e.1, e.2.imp id fun ⟨e1, a, vs, e2, e3, e4⟩ => ⟨e1, a, vs, e2, e3, ?_⟩⟩
  have s1 : Same G H' := fun b o y => n.gd.sub b o (n.gg b o (viewO_same g.sub b o y))
  exact RpF.imm (satur_tups s1) (fun _ h => h) fs vs z.1 (RpF.mono n.gd.sub (fun _ h => h) fs vs e4)
end
section
variable {Γ : Kx} {W : WX}
def JF (Γ : Kx) (W : WX) (te : TE) (fo : DE) : Prop := ∀ (H0 G : Hp) (R : Addr → Prop) (H : Hp) (σ : St) (ρ : En) (xq : XQ) (Qd : D → Prop) (Q : VK), Wd Γ H0 G R H σ ρ → Lk Γ W xq σ G R H → fo xq ρ Qd →
  (∀ v as G' R' H' d, Nx G R H G' R' H' → Ow Γ H G' R' H' d v as → as.Nodup → Qd d → Q v H') → te σ H Q
theorem Stays.new {G : Hp} {R : Addr → Prop} {H : Hp} {as : List Addr} {p : Addr} {o : HO} (h : H p = none) : Stays G R H G R (L2.upd H p o) as := ⟨fun a u _ e _ g r => ⟨by rw [upd_ne (ne_of_none e h)]; exact e, g, r⟩, fun a u e _ => by rw [upd_ne (ne_of_none e h)]; exact e, fun _ h => h, fun _ _ h => h⟩
end
end Dl
namespace Dl
open PySem PySem.Spec PyProof.Rows L2
abbrev DP := XQ → En → (Nat → (D → D) → D → Prop) → Prop
section
variable {Γ : Kx} {W : WX} {tp te ti : TE} {fp : DP} {fe fi fo : DE}
end
end Dl
namespace Dl
open PySem PySem.Spec PyProof.Rows L2
section
variable {Γ : Kx} {H0 G G' : Hp} {R R' : Addr → Prop} {H H' : Hp} {σ : St} {ρ : En} {i : Nat} {v v1 : V} {as as' as1 : List Addr} {d d' d1 : D} {f : D → D}
mutual
theorem Ow.base {H1 : Hp} : ∀ (d : D) (v : V) (as : List Addr), (∀ a ∈ as, H1 a = none) → Ow Γ H0 G R H d v as → Ow Γ H1 G R H d v as
  | .lst ds, v, as, o, h => by
    unfold Ow at *
    obtain ⟨a, vs, bs, e, rfl, h0, g, r, hl, l⟩ := h
    exact ⟨a, vs, bs, e, rfl, o a (List.mem_cons_self ..), g, r, hl, OwL.base ds vs bs (fun b m => o b (List.mem_cons_of_mem _ m)) l⟩
  | .dic ds, v, as, o, h => by
    unfold Ow at *
    obtain ⟨a, vs, bs, e, rfl, h0, g, r, hl, l⟩ := h
    exact ⟨a, vs, bs, e, rfl, o a (List.mem_cons_self ..), g, r, hl, OwK.base ds vs bs (fun b m => o b (List.mem_cons_of_mem _ m)) l⟩
  | .tup ds, v, as, o, h => by
    unfold Ow at *
    obtain ⟨a, vs, e, q, l⟩ := h
    exact ⟨a, vs, e, q, OwL.base ds vs as o l⟩
  | .non, v, as, _, h => by unfold Ow at *; exact h
  | .bl _, v, as, _, h => by unfold Ow at *; exact h
  | .int _, v, as, _, h => by unfold Ow at *; exact h
  | .str _, v, as, _, h => by unfold Ow at *; exact h
  | .scr _, v, as, _, h => by unfold Ow at *; exact h
  | .rd, v, as, _, h => by unfold Ow at *; exact h
  | .ins _ _, v, as, _, h => by unfold Ow at *; exact h
  | .exc _ _, v, as, _, h => by unfold Ow at *; exact h
  | .nms _, v, as, _, h => by unfold Ow at *; exact h
  | .any, v, as, _, h => by unfold Ow at *; exact h
  | .fr _, v, as, _, h => by unfold Ow at *; exact h
  | .raw _, v, as, _, h => by unfold Ow at *; exact h
theorem OwL.base {H1 : Hp} : ∀ (ds : List D) (vs : List V) (as : List Addr), (∀ a ∈ as, H1 a = none) → OwL Γ H0 G R H ds vs as → OwL Γ H1 G R H ds vs as
  | [], vs, as, _, h => by unfold OwL at *; exact h
  | d :: ds, vs, as, o, h => by
    unfold OwL at *
    obtain ⟨v, r, bs, cs, e, rfl, h1, h2⟩ := h
    exact ⟨v, r, bs, cs, e, rfl, Ow.base d v bs (fun a m => o a (List.mem_append_left _ m)) h1, OwL.base ds r cs (fun a m => o a (List.mem_append_right _ m)) h2⟩
theorem OwK.base {H1 : Hp} : ∀ (ds : List (Key × D)) (vs : List (Key × V)) (as : List Addr), (∀ a ∈ as, H1 a = none) → OwK Γ H0 G R H ds vs as → OwK Γ H1 G R H ds vs as
  | [], vs, as, _, h => by unfold OwK at *; exact h
  | (x, d) :: ds, vs, as, o, h => by
    unfold OwK at *
    obtain ⟨v, r, bs, cs, e, rfl, h1, h2⟩ := h
    exact ⟨v, r, bs, cs, e, rfl, Ow.base d v bs (fun a m => o a (List.mem_append_left _ m)) h1, OwK.base ds r cs (fun a m => o a (List.mem_append_right _ m)) h2⟩
end
theorem Ow.nn (h : Ow Γ H0 G R H d v as) (hn : isNon d = false) : v ≠ .non := by
  cases d with
  | non => cases hn
  | bl b => unfold Ow Rp at h; rw [h.2]; exact fun e => nomatch e
  | int b => unfold Ow Rp at h; rw [h.2]; exact fun e => nomatch e
  | str b => unfold Ow Rp at h; rw [h.2]; exact fun e => nomatch e
  | scr b => unfold Ow Rp at h; obtain ⟨_, a, e, _⟩ := h; rw [e]; exact fun e => nomatch e
  | rd => unfold Ow Rp at h; obtain ⟨_, a, e, _⟩ := h; rw [e]; exact fun e => nomatch e
  | ins c fs => unfold Ow Rp at h; obtain ⟨_, a, _, _, e, _⟩ := h; rw [e]; exact fun e => nomatch e
  | exc c fs => unfold Ow Rp at h; obtain ⟨_, a, _, e, _⟩ := h; rw [e]; exact fun e => nomatch e
  | nms b => unfold Ow Rp at h; obtain ⟨_, a, _, e, _⟩ := h; rw [e]; exact fun e => nomatch e
  | any => unfold Ow Rp at h; exact h.2
  | fr d => unfold Ow Rp at h; exact h.2.1
  | raw u => unfold Ow Rp at h; rw [h.2]; exact of_decide_eq_false hn
  | lst ds => unfold Ow at h; obtain ⟨a, _, _, e, _⟩ := h; rw [e]; exact fun e => nomatch e
  | dic ds => unfold Ow at h; obtain ⟨a, _, _, e, _⟩ := h; rw [e]; exact fun e => nomatch e
  | tup ds => unfold Ow at h; obtain ⟨a, _, e, _⟩ := h; rw [e]; exact fun e => nomatch e
theorem Nx.cut2 (n : Nx G R H G' R' H') (sub : ∀ a ∈ as1, a ∈ as) (g : ∀ a ∈ as1, G' a = none ∧ ¬ R' a) : Nx G R (Dl.cut H as) G' R' (Dl.cut H' as1) where
  gg := n.gg
  rr := n.rr
  gd := n.gd.cut g
  ev := fun b o e z => by
    obtain ⟨e1, e2⟩ := cut_some e
    rw [cut_out fun m => e1 (sub b m)]
    exact n.ev b o e2 z
  ex := fun b o e => by
    obtain ⟨e1, e2⟩ := cut_some e
    rw [cut_out fun m => e1 (sub b m)]
    exact n.ex b o e2
  fg := n.cutOf.fg
  fr := n.cutOf.fr
end
section
variable {Γ : Kx} {W : WX} {tp te ti : TE} {fp : DP} {fe fi fo : DE} {ts : TS} {fs : DS}
end
end Dl
namespace Dl
open PySem PySem.Spec PyProof.Rows L2
inductive AD where
  | d (d : D) | o (d : D)
abbrev DFO := List AD → (AD → List AD → Prop) → XQ → Prop
section
variable (Γ : Kx) (H0 G : Hp) (R : Addr → Prop) (H : Hp)
def AL : List AD → List V → List (List Addr) → Prop
  | [], vs, ass => vs = [] ∧ ass = []
  | .d d :: r, vs, ass => ∃ v q as', vs = v :: q ∧ ass = [] :: as' ∧ Rp Γ G R d v ∧ AL r q as'
  | .o d :: r, vs, ass => ∃ v q a as', vs = v :: q ∧ ass = a :: as' ∧ Ow Γ H0 G R H d v a ∧ AL r q as'
end
def spO (Γ : Kx) (S : DFO) : Sp := fun vs H Q E => ∃ (G : Hp) (R : Addr → Prop) (ads : List AD) (ass : List (List Addr)) (Qd : AD → List AD → Prop) (Xq : XQ), Gd G R H ∧ AL Γ (cut H ass.flatten) G R H ads vs ass ∧ ass.flatten.Nodup ∧ S ads Qd Xq ∧
  (∀ v G' R' H' r rs ads' ass', Nx G R (cut H ass.flatten) G' R' H' → AL Γ (cut H ass.flatten) G' R' H' (r :: ads') (v :: vs) (rs :: ass') → (rs ++ ass'.flatten).Nodup → Qd r ads' → Q v H') ∧
  ∀ c fs G' R' H' cls dx, Nx G R (cut H ass.flatten) G' R' H' → Xq c fs → ExRep Γ G' R' H' c fs cls dx → E cls dx H'
section
variable {Γ : Kx} {H0 G G' : Hp} {R R' : Addr → Prop} {H H' : Hp}
theorem AL.len : ∀ {ads : List AD} {vs : List V} {ass : List (List Addr)}, AL Γ H0 G R H ads vs ass → vs.length = ads.length ∧ ass.length = ads.length
  | [], vs, ass, h => by unfold AL at h; obtain ⟨rfl, rfl⟩ := h; exact ⟨rfl, rfl⟩
  | .d d :: r, vs, ass, h => by
    unfold AL at h
    obtain ⟨v, q, as', rfl, rfl, _, h⟩ := h
    exact ⟨congrArg (· + 1) h.len.1, congrArg (· + 1) h.len.2⟩
  | .o d :: r, vs, ass, h => by
    unfold AL at h
    obtain ⟨v, q, a, as', rfl, rfl, _, h⟩ := h
    exact ⟨congrArg (· + 1) h.len.1, congrArg (· + 1) h.len.2⟩
theorem AL.ds : ∀ {ds : List D} {vs : List V}, RpL Γ G R ds vs → ∃ ass, AL Γ H0 G R H (ds.map AD.d) vs ass ∧ ass.flatten = []
  | [], vs, h => by unfold RpL at h; subst h; exact ⟨[], ⟨rfl, rfl⟩, rfl⟩
  | d :: ds, vs, h => by
    unfold RpL at h
    obtain ⟨v, q, rfl, h1, h2⟩ := h
    obtain ⟨ass, h3, h4⟩ := AL.ds h2
    exact ⟨[] :: ass, ⟨v, q, ass, rfl, rfl, h1, h3⟩, by simpa using h4⟩
theorem AL.at : ∀ {ads : List AD} {vs : List V} {ass : List (List Addr)} {j : Nat} {d : D}, AL Γ H0 G R H ads vs ass → ass.flatten.Nodup → ads[j]? = some (.o d) → ∃ v as, vs[j]? = some v ∧ Ow Γ H0 G R H d v as ∧ as.Nodup
  | [], _, _, _, _, _, _, e => by simp at e
  | .d x :: r, vs, ass, 0, d, h, nd, e => by simp at e
  | .o x :: r, vs, ass, 0, d, h, nd, e => by
    simp at e
    subst e
    unfold AL at h
    obtain ⟨v, q, a, as', rfl, rfl, o, h⟩ := h
    rw [List.flatten_cons] at nd
    exact ⟨v, a, rfl, o, (List.nodup_append.mp nd).1⟩
  | .d x :: r, vs, ass, j + 1, d, h, nd, e => by
    unfold AL at h
    obtain ⟨v, q, as', rfl, rfl, o, h⟩ := h
    rw [List.flatten_cons] at nd
    obtain ⟨u, as, a1, a2⟩ := AL.at h (List.nodup_append.mp nd).2.1 (by simpa using e)
    exact ⟨u, as, by simpa using a1, a2⟩
  | .o x :: r, vs, ass, j + 1, d, h, nd, e => by
    unfold AL at h
    obtain ⟨v, q, a, as', rfl, rfl, o, h⟩ := h
    rw [List.flatten_cons] at nd
    obtain ⟨u, as, a1, a2⟩ := AL.at h (List.nodup_append.mp nd).2.1 (by simpa using e)
    exact ⟨u, as, by simpa using a1, a2⟩
end
def JX (Γ : Kx) (W : WX) (te : TE) (fx : XQ → En → (D → En → Prop) → Prop) : Prop := ∀ (G0 : Hp) (R0 : Addr → Prop) (H0 G : Hp) (R : Addr → Prop) (H : Hp) (σ : St) (ρ : En) (xq : XQ) (Qd : D → En → Prop) (Q : VK), Nx G0 R0 H0 G R H → Wd Γ H0 G R H σ ρ → Lk Γ W xq σ G R H → fx xq ρ Qd →
  (∀ v G' R' H' ρ' d, Nx G0 R0 H0 G' R' H' → Wd Γ H0 G' R' H' σ ρ' → Rp Γ G' R' d v → Qd d ρ' → Q v H') → te σ H Q
abbrev DX := XQ → En → (List D → Nat → (D → D) → D → List D → Prop) → Prop
section
variable {Γ : Kx} {W : WX} {te tp : TE} {ta : TA} {fe : DE} {fp : DP} {fa : DA} {fx : DX}
end
section
variable {Γ : Kx} {H0 G G' : Hp} {R R' : Addr → Prop} {H H' : Hp} {σ : St} {ρ : En}
end
end Dl
namespace Dl
open PySem PySem.Spec PyProof.Rows L2
section
variable {Γ : Kx} {H0 G G' : Hp} {R R' : Addr → Prop} {H H' : Hp}
structure Soft (G G' : Hp) : Prop where
  lst : ∀ a vs, G a = some (.lst vs) → G' a = some (.lst vs)
  dK : ∀ a vs, G a = some (.dK vs) → G' a = some (.dK vs)
  st : ∀ a o, G a = some o → Stiff o → G' a = some o
end
section
variable {Γ : Kx} {W : WX} {te : TE} {ta : TA} {fe : DE} {fa : DA}
end
def spS (Γ : Kx) (S : DF) : Sp := fun vs H Q E => ∃ (G : Hp) (R : Addr → Prop) (ds : List D) (Qd : D → Prop) (Xq : XQ), Gd G R H ∧ RpL Γ (viewO H G R H) R ds vs ∧ S ds Qd Xq ∧
  (∀ v G' R' H' d, Nx G R H G' R' H' → Rp Γ G' R' d v → Qd d → Q v H') ∧ ∀ c fs G' R' H' cls dx, Nx G R H G' R' H' → Xq c fs → ExRep Γ G' R' H' c fs cls dx → E cls dx H'
def spIS (Γ : Kx) (c : Str) (S : DI) : Sp := fun vs H Q E => ∃ (G : Hp) (R : Addr → Prop) (H1 : Hp) (x dx : Addr) (us : List V) (ds : List D) (Qf : List (Str × D) → Prop) (Xq : XQ),
  vs = .ref x :: us ∧ H = upd (upd H1 dx (.own x)) x (.ins (Γ.C c) dx []) ∧ H1 x = none ∧ H1 dx = none ∧ dx ≠ x ∧ Gd G R H1 ∧ RpL Γ (viewO H1 G R H1) R ds us ∧ S ds Qf Xq ∧
  (∀ G' R' H' dx' ws fs, Nx G R H1 G' R' H' → H' x = some (.ins (Γ.C c) dx' ws) → G' x = none → ¬ R' x → RpF Γ G' R' fs ws → Qf fs → Q .non H') ∧ ∀ c fs G' R' H' cls dx, Nx G R H1 G' R' H' → Xq c fs → ExRep Γ G' R' H' c fs cls dx → E cls dx H'
end Dl
namespace Dl
open PySem PySem.Spec PyProof.Rows L2
section
variable (X : Cx) (C : Str → Addr) (W : WX)
def CF (e : Expr) (fo : DE) : Prop := ∃ te, PE X e te ∧ JF ⟨X.K, C⟩ W te fo
def CX (e : Expr) (fx : XQ → En → (D → En → Prop) → Prop) : Prop := ∃ te, PE X e te ∧ JX ⟨X.K, C⟩ W te fx
end
structure CalO (P : Program) (w : World) (K : PySem.W.Frag) (mg : Str → Option Value) (base : Heap) (C : Str → Addr) (k : Nat) (x : Str) (S : DFO) : Prop where
  ex : ∃ (f : Addr) (fd : FuncData) (ps : List Str), FnOk P w K mg base (L2.CX P w) k f fd ps (spO ⟨K, C⟩ S) ∧ mg x = some (.ref f) ∧ PySem.W.keepIn K (.ref f) = true ∧ Binds K fd ps []
structure CalS (P : Program) (w : World) (K : PySem.W.Frag) (mg : Str → Option Value) (base : Heap) (C : Str → Addr) (k : Nat) (x : Str) (S : DF) : Prop where
  ex : ∃ (f : Addr) (fd : FuncData) (ps : List Str), FnOk P w K mg base (L2.CX P w) k f fd ps (spS ⟨K, C⟩ S) ∧ mg x = some (.ref f) ∧ PySem.W.keepIn K (.ref f) = true ∧ Binds K fd ps []
structure CalIS (P : Program) (w : World) (K : PySem.W.Frag) (mg : Str → Option Value) (base : Heap) (C : Str → Addr) (k : Nat) (c : Str) (S : DI) : Prop where
  ex : ∃ (f : Addr) (fd : FuncData) (ps : List Str), FnOk P w K mg base (L2.CX P w) k f fd ps (spIS ⟨K, C⟩ c S) ∧ Mk K (C c) f ∧ mg c = some (.ref (C c)) ∧ Binds K fd ps []
section
variable {P : Program} {w : World} {K : PySem.W.Frag} {mg : Str → Option Value} {base : Heap} {C : Str → Addr} {j k : Nat} {x c : Str} {S : DFO} {S' : DF} {S2 : DI}
theorem CalO.mono (h : CalO P w K mg base C k x S) (i : k ≤ j) : CalO P w K mg base C j x S := let ⟨f, fd, ps, F, m, kp, b⟩ := h.ex; ⟨f, fd, ps, F.mono i, m, kp, b⟩
theorem CalS.mono (h : CalS P w K mg base C k x S') (i : k ≤ j) : CalS P w K mg base C j x S' := let ⟨f, fd, ps, F, m, kp, b⟩ := h.ex; ⟨f, fd, ps, F.mono i, m, kp, b⟩
theorem CalIS.mono (h : CalIS P w K mg base C k c S2) (i : k ≤ j) : CalIS P w K mg base C j c S2 := let ⟨f, fd, ps, F, m, kp, b⟩ := h.ex; ⟨f, fd, ps, F.mono i, m, kp, b⟩
theorem CalO.imp {S S' : DFO} (c : CalO P w K mg base C k x S) (h : ∀ ads Q Xq, S' ads Q Xq → S ads Q Xq) : CalO P w K mg base C k x S' :=
  let ⟨f, fd, ps, F, m, kp, b⟩ := c.ex
  ⟨f, fd, ps, F.imp fun vs H Q E ⟨G, R, ads, ass, Qd, Xq, g, al, nd, s, k1, k2⟩ => ⟨G, R, ads, ass, Qd, Xq, g, al, nd, h _ _ _ s, k1, k2⟩, m, kp, b⟩
theorem CalO.none {params : Arguments} {body : List Stmt} {sc : Scope} {ps : List Str} {f : Addr} {fd : FuncData} (F : FunD K x x params body sc [] [] f fd) (gf : mg x = some (.ref f)) (hb : Binds K fd ps []) : CalO P w K mg base C k x fun _ _ _ => False :=
  ⟨f, fd, ps, ⟨fun vs H Q E h => by obtain ⟨_, _, _, _, _, _, _, _, _, z, _⟩ := h; exact z.elim, fun A outer s H args us vs Q E hr he hbt hv h => by obtain ⟨_, _, _, _, _, _, _, _, _, z, _⟩ := h; exact z.elim⟩, gf, F.kp, hb⟩
end
section
variable {X : Cx} {C : Str → Addr} {W : WX} {k j : Nat} {bl : Str → Bool} {a b c e o : Expr} {es : List Expr} {fa fb fc fe fo fi : DE} {fs fr : DA} {ft : DT} {fp : DP} {fx : DX} {pos p p1 p2 : Pos} {n i : Nat} {x y : Str}
def tFof (Γ : Kx) (W : WX) (fo : DE) : TE := fun σ H Q => ∃ (H0 G : Hp) (R : Addr → Prop) (ρ : En) (xq : XQ) (Qd : D → Prop), Wd Γ H0 G R H σ ρ ∧ Lk Γ W xq σ G R H ∧ fo xq ρ Qd ∧ ∀ v as G' R' H' d, Nx G R H G' R' H' → Ow Γ H G' R' H' d v as → as.Nodup → Qd d → Q v H'
theorem CF.canon (h : CF X C W e fo) : PE X e (tFof ⟨X.K, C⟩ W fo) := let ⟨t, p, q⟩ := h; ⟨fun pins s σ H Q I ⟨H0, G, R, ρ, xq, Qd, w, x, f, z⟩ => p.run pins s σ H Q I (q H0 G R H σ ρ xq Qd Q w x f z)⟩
variable {tg iter elt : Expr} {fit : DA} {scope : Scope} {xp py spos : Pos}
end
end Dl
namespace Dl
open PySem PySem.Spec PyProof.Rows L2
section
variable {X : Cx} {C : Str → Addr} {W : WX} {k j : Nat} {bl : Str → Bool} {a b c e : Expr} {fa fb fc fe : DE} {pos p p1 p2 : Pos}
end
end Dl
namespace Dl
open PySem PySem.Spec PyProof.Rows L2
def tIof (Γ : Kx) (W : WX) (fi : DA) : TI := fun σ H Q => ∃ (H0 G : Hp) (R : Addr → Prop) (ρ : En) (xq : XQ) (Qd : List D → Prop), Wd Γ H0 G R H σ ρ ∧ Lk Γ W xq σ G R H ∧ fi xq ρ Qd ∧ ∀ J G' R' H' ds, Nx G R H G' R' H' → ItOk Γ G' R' J ds → Qd ds → Q J H'
section
variable {X : Cx} {C : Str → Addr} {W : WX} {k j j1 : Nat} {bl : Str → Bool} {tg iter iter1 elt : Expr} {fi fi1 : DA} {ft ft1 : DT} {fe : DE} {ifs ifs1 : List Expr} {scope : Scope} {x x1 y : Str} {xp xp1 py pos spos : Pos}
theorem CI.canon (h : CI X C W tg iter fi) : PI X tg iter (tIof ⟨X.K, C⟩ W fi) := let ⟨t, p, q⟩ := h; ⟨fun pins s σ H Q I ⟨H0, G, R, ρ, xq, Qd, w, x, f, z⟩ => p.run pins s σ H Q I (q H0 G R H σ ρ xq Qd Q w x f z)⟩
end
end Dl
namespace PySem.AutoSeq1
end PySem.AutoSeq1
namespace Dl
open PySem PySem.Spec PyProof.Rows L2
section
variable {X : Cx}
end
def dExtA (i : Nat) (fe : DE) : DS := fun k ρ => match ρ[i]? with
  | some (.op ds) => fe (k.xq ρ) ρ fun d => match d with
    | .lst es => ds.length + es.length ≤ sizeLine ∧ k.nx (ρ.set i (.op (ds ++ es)))
    | .tup es => ds.length + es.length ≤ sizeLine ∧ k.nx (ρ.set i (.op (ds ++ es)))
    | _ => False
  | _ => False
end Dl
namespace K75
open PySem PySem.Spec PyProof.Rows L2 Dl
def TB : CTb where
  cls := []
  exs := (["MendError", "InvalidInput", "BoundError", "DeskError", "InvalidText", "InvalidProgram", "InvalidContract", "InvalidChange", "InvalidStream", "InvalidPlaces", "InvalidEdit", "InvalidLine", "InvalidName", "Mismatch", "TooLarge", "TooLong", "TooManyCases", "NameTaken", "UnknownName", "NothingToUndo"] : List Str) ++ (["NothingToRedo"] : List Str)
  ex0 := (["MendError", "InvalidInput", "BoundError", "DeskError", "InvalidChange", "InvalidStream", "Mismatch", "NothingToUndo", "NothingToRedo"] : List Str)
  flds := ([("MendError", "limit"), ("MendError", "name"), ("MendError", "number"), ("MendError", "place"), ("MendError", "position"), ("MendError", "reason"), ("MendError", "what"), ("InvalidInput", "limit"), ("InvalidInput", "name"), ("InvalidInput", "number"), ("InvalidInput", "place"), ("InvalidInput", "position"), ("InvalidInput", "reason"), ("InvalidInput", "what"), ("BoundError", "limit"), ("BoundError", "name"), ("BoundError", "number"), ("BoundError", "place"), ("BoundError", "position"), ("BoundError", "reason")] : List (Str × Str)) ++ ([("BoundError", "what"), ("DeskError", "limit"), ("DeskError", "name"), ("DeskError", "number"), ("DeskError", "place"), ("DeskError", "position"), ("DeskError", "reason"), ("DeskError", "what"), ("InvalidText", "limit"), ("InvalidText", "name"), ("InvalidText", "number"), ("InvalidText", "place"), ("InvalidText", "position"), ("InvalidText", "reason"), ("InvalidText", "what"), ("InvalidProgram", "limit"), ("InvalidProgram", "name"), ("InvalidProgram", "number"), ("InvalidProgram", "place"), ("InvalidProgram", "position")] : List (Str × Str)) ++ ([("InvalidProgram", "reason"), ("InvalidProgram", "what"), ("InvalidContract", "limit"), ("InvalidContract", "name"), ("InvalidContract", "number"), ("InvalidContract", "place"), ("InvalidContract", "position"), ("InvalidContract", "reason"), ("InvalidContract", "what"), ("InvalidChange", "limit"), ("InvalidChange", "name"), ("InvalidChange", "number"), ("InvalidChange", "place"), ("InvalidChange", "position"), ("InvalidChange", "reason"), ("InvalidChange", "what"), ("InvalidStream", "limit"), ("InvalidStream", "name"), ("InvalidStream", "number"), ("InvalidStream", "place")] : List (Str × Str)) ++ ([("InvalidStream", "position"), ("InvalidStream", "reason"), ("InvalidStream", "what"), ("InvalidPlaces", "limit"), ("InvalidPlaces", "name"), ("InvalidPlaces", "number"), ("InvalidPlaces", "place"), ("InvalidPlaces", "position"), ("InvalidPlaces", "reason"), ("InvalidPlaces", "what"), ("InvalidEdit", "limit"), ("InvalidEdit", "name"), ("InvalidEdit", "number"), ("InvalidEdit", "place"), ("InvalidEdit", "position"), ("InvalidEdit", "reason"), ("InvalidEdit", "what"), ("InvalidLine", "limit"), ("InvalidLine", "name"), ("InvalidLine", "number")] : List (Str × Str)) ++ ([("InvalidLine", "place"), ("InvalidLine", "position"), ("InvalidLine", "reason"), ("InvalidLine", "what"), ("InvalidName", "limit"), ("InvalidName", "name"), ("InvalidName", "number"), ("InvalidName", "place"), ("InvalidName", "position"), ("InvalidName", "reason"), ("InvalidName", "what"), ("Mismatch", "limit"), ("Mismatch", "name"), ("Mismatch", "number"), ("Mismatch", "place"), ("Mismatch", "position"), ("Mismatch", "reason"), ("Mismatch", "what"), ("TooLarge", "limit"), ("TooLarge", "name")] : List (Str × Str)) ++ ([("TooLarge", "number"), ("TooLarge", "place"), ("TooLarge", "position"), ("TooLarge", "reason"), ("TooLarge", "what"), ("TooLong", "limit"), ("TooLong", "name"), ("TooLong", "number"), ("TooLong", "place"), ("TooLong", "position"), ("TooLong", "reason"), ("TooLong", "what"), ("TooManyCases", "limit"), ("TooManyCases", "name"), ("TooManyCases", "number"), ("TooManyCases", "place"), ("TooManyCases", "position"), ("TooManyCases", "reason"), ("TooManyCases", "what"), ("NameTaken", "limit")] : List (Str × Str)) ++ ([("NameTaken", "name"), ("NameTaken", "number"), ("NameTaken", "place"), ("NameTaken", "position"), ("NameTaken", "reason"), ("NameTaken", "what"), ("UnknownName", "limit"), ("UnknownName", "name"), ("UnknownName", "number"), ("UnknownName", "place"), ("UnknownName", "position"), ("UnknownName", "reason"), ("UnknownName", "what"), ("NothingToUndo", "limit"), ("NothingToUndo", "name"), ("NothingToUndo", "number"), ("NothingToUndo", "place"), ("NothingToUndo", "position"), ("NothingToUndo", "reason"), ("NothingToUndo", "what")] : List (Str × Str)) ++ ([("NothingToRedo", "limit"), ("NothingToRedo", "name"), ("NothingToRedo", "number"), ("NothingToRedo", "place"), ("NothingToRedo", "position"), ("NothingToRedo", "reason"), ("NothingToRedo", "what")] : List (Str × Str))
  tgt := (["BoundError", "DeskError", "InvalidChange", "InvalidContract", "InvalidEdit", "InvalidInput", "InvalidLine", "InvalidName", "InvalidPlaces", "InvalidProgram", "InvalidStream", "InvalidText", "MendError", "Mismatch", "NameTaken", "NothingToRedo", "NothingToUndo", "TooLarge", "TooLong", "TooManyCases"] : List Str) ++ (["UnknownName"] : List Str)
  cat := []
  isa := isaF
  meth := []
  mkd := []
  gints := []
  gstrs := []
  gtups := []
def top (i : Nat) : Stmt := PySem.Challenge.pw_allmends_k75_errors_by_position.main.body.getD i (.Pass ⟨0, 0, 0, 0⟩)
def bl0 (x : Str) : Bool := decide (x ∈ (["ValueError", "all", "bool", "int", "isinstance", "len", "range", "str", "super"] : List Str))
def xd_InvalidText : ExD := ⟨"InvalidText", "position", "position", defArgs (inClass (top 5) 0), defBody (inClass (top 5) 0), defScope (inClass (top 5) 0)⟩
theorem xs_InvalidText : ExSt xd_InvalidText := ⟨rfl, rfl, rfl, rfl, by decide +kernel, rfl, rfl, rfl, rfl, by decide +kernel, by decide +kernel, ⟨_, _, _, _, _, _, _, _, _, _, _, _, rfl, rfl⟩, fun _ _ _ _ _ _ _ _ _ _ _ us h => match us, h with | [_, _], _ => rfl⟩
def xd_InvalidProgram : ExD := ⟨"InvalidProgram", "reason", "reason", defArgs (inClass (top 6) 0), defBody (inClass (top 6) 0), defScope (inClass (top 6) 0)⟩
theorem xs_InvalidProgram : ExSt xd_InvalidProgram := ⟨rfl, rfl, rfl, rfl, by decide +kernel, rfl, rfl, rfl, rfl, by decide +kernel, by decide +kernel, ⟨_, _, _, _, _, _, _, _, _, _, _, _, rfl, rfl⟩, fun _ _ _ _ _ _ _ _ _ _ _ us h => match us, h with | [_, _], _ => rfl⟩
def xd_InvalidContract : ExD := ⟨"InvalidContract", "reason", "reason", defArgs (inClass (top 7) 0), defBody (inClass (top 7) 0), defScope (inClass (top 7) 0)⟩
theorem xs_InvalidContract : ExSt xd_InvalidContract := ⟨rfl, rfl, rfl, rfl, by decide +kernel, rfl, rfl, rfl, rfl, by decide +kernel, by decide +kernel, ⟨_, _, _, _, _, _, _, _, _, _, _, _, rfl, rfl⟩, fun _ _ _ _ _ _ _ _ _ _ _ us h => match us, h with | [_, _], _ => rfl⟩
def xd_InvalidPlaces : ExD := ⟨"InvalidPlaces", "place", "place", defArgs (inClass (top 10) 0), defBody (inClass (top 10) 0), defScope (inClass (top 10) 0)⟩
theorem xs_InvalidPlaces : ExSt xd_InvalidPlaces := ⟨rfl, rfl, rfl, rfl, by decide +kernel, rfl, rfl, rfl, rfl, by decide +kernel, by decide +kernel, ⟨_, _, _, _, _, _, _, _, _, _, _, _, rfl, rfl⟩, fun _ _ _ _ _ _ _ _ _ _ _ us h => match us, h with | [_, _], _ => rfl⟩
def xd_InvalidEdit : ExD := ⟨"InvalidEdit", "place", "place", defArgs (inClass (top 11) 0), defBody (inClass (top 11) 0), defScope (inClass (top 11) 0)⟩
theorem xs_InvalidEdit : ExSt xd_InvalidEdit := ⟨rfl, rfl, rfl, rfl, by decide +kernel, rfl, rfl, rfl, rfl, by decide +kernel, by decide +kernel, ⟨_, _, _, _, _, _, _, _, _, _, _, _, rfl, rfl⟩, fun _ _ _ _ _ _ _ _ _ _ _ us h => match us, h with | [_, _], _ => rfl⟩
def xd_InvalidLine : ExD := ⟨"InvalidLine", "number", "number", defArgs (inClass (top 12) 0), defBody (inClass (top 12) 0), defScope (inClass (top 12) 0)⟩
theorem xs_InvalidLine : ExSt xd_InvalidLine := ⟨rfl, rfl, rfl, rfl, by decide +kernel, rfl, rfl, rfl, rfl, by decide +kernel, by decide +kernel, ⟨_, _, _, _, _, _, _, _, _, _, _, _, rfl, rfl⟩, fun _ _ _ _ _ _ _ _ _ _ _ us h => match us, h with | [_, _], _ => rfl⟩
def xd_InvalidName : ExD := ⟨"InvalidName", "name", "name", defArgs (inClass (top 13) 0), defBody (inClass (top 13) 0), defScope (inClass (top 13) 0)⟩
theorem xs_InvalidName : ExSt xd_InvalidName := ⟨rfl, rfl, rfl, rfl, by decide +kernel, rfl, rfl, rfl, rfl, by decide +kernel, by decide +kernel, ⟨_, _, _, _, _, _, _, _, _, _, _, _, rfl, rfl⟩, fun _ _ _ _ _ _ _ _ _ _ _ us h => match us, h with | [_, _], _ => rfl⟩
def xd_TooLarge : ExD := ⟨"TooLarge", "what", "what", defArgs (inClass (top 15) 0), defBody (inClass (top 15) 0), defScope (inClass (top 15) 0)⟩
theorem xs_TooLarge : ExSt xd_TooLarge := ⟨rfl, rfl, rfl, rfl, by decide +kernel, rfl, rfl, rfl, rfl, by decide +kernel, by decide +kernel, ⟨_, _, _, _, _, _, _, _, _, _, _, _, rfl, rfl⟩, fun _ _ _ _ _ _ _ _ _ _ _ us h => match us, h with | [_, _], _ => rfl⟩
def xd_TooLong : ExD := ⟨"TooLong", "what", "what", defArgs (inClass (top 16) 0), defBody (inClass (top 16) 0), defScope (inClass (top 16) 0)⟩
theorem xs_TooLong : ExSt xd_TooLong := ⟨rfl, rfl, rfl, rfl, by decide +kernel, rfl, rfl, rfl, rfl, by decide +kernel, by decide +kernel, ⟨_, _, _, _, _, _, _, _, _, _, _, _, rfl, rfl⟩, fun _ _ _ _ _ _ _ _ _ _ _ us h => match us, h with | [_, _], _ => rfl⟩
def xd_TooManyCases : ExD := ⟨"TooManyCases", "limit", "limit", defArgs (inClass (top 17) 0), defBody (inClass (top 17) 0), defScope (inClass (top 17) 0)⟩
theorem xs_TooManyCases : ExSt xd_TooManyCases := ⟨rfl, rfl, rfl, rfl, by decide +kernel, rfl, rfl, rfl, rfl, by decide +kernel, by decide +kernel, ⟨_, _, _, _, _, _, _, _, _, _, _, _, rfl, rfl⟩, fun _ _ _ _ _ _ _ _ _ _ _ us h => match us, h with | [_, _], _ => rfl⟩
def xd_NameTaken : ExD := ⟨"NameTaken", "name", "name", defArgs (inClass (top 18) 0), defBody (inClass (top 18) 0), defScope (inClass (top 18) 0)⟩
theorem xs_NameTaken : ExSt xd_NameTaken := ⟨rfl, rfl, rfl, rfl, by decide +kernel, rfl, rfl, rfl, rfl, by decide +kernel, by decide +kernel, ⟨_, _, _, _, _, _, _, _, _, _, _, _, rfl, rfl⟩, fun _ _ _ _ _ _ _ _ _ _ _ us h => match us, h with | [_, _], _ => rfl⟩
def xd_UnknownName : ExD := ⟨"UnknownName", "name", "name", defArgs (inClass (top 19) 0), defBody (inClass (top 19) 0), defScope (inClass (top 19) 0)⟩
theorem xs_UnknownName : ExSt xd_UnknownName := ⟨rfl, rfl, rfl, rfl, by decide +kernel, rfl, rfl, rfl, rfl, by decide +kernel, by decide +kernel, ⟨_, _, _, _, _, _, _, _, _, _, _, _, rfl, rfl⟩, fun _ _ _ _ _ _ _ _ _ _ _ us h => match us, h with | [_, _], _ => rfl⟩
def xds : List ExD := [xd_InvalidText, xd_InvalidProgram, xd_InvalidContract, xd_InvalidPlaces, xd_InvalidEdit, xd_InvalidLine, xd_InvalidName, xd_TooLarge, xd_TooLong, xd_TooManyCases, xd_NameTaken, xd_UnknownName]
abbrev st__law_reader : Stmt := top 23
abbrev st__law_next : Stmt := top 24
abbrev st__law_same : Stmt := top 25
abbrev st__law_inputs : Stmt := top 26
abbrev st__law_others : Stmt := top 27
abbrev st__law_is : Stmt := top 28
abbrev st__law_attributes : Stmt := top 29
abbrev st_law : Stmt := top 30
def d__law_reader : He.DefD := ⟨("_law_reader", none), "_law_reader", "_law_reader", defArgs st__law_reader, defBody st__law_reader, defScope st__law_reader, [], []⟩
def d__law_next : He.DefD := ⟨("_law_next", none), "_law_next", "_law_next", defArgs st__law_next, defBody st__law_next, defScope st__law_next, [], []⟩
def d__law_same : He.DefD := ⟨("_law_same", none), "_law_same", "_law_same", defArgs st__law_same, defBody st__law_same, defScope st__law_same, [], []⟩
def d__law_inputs : He.DefD := ⟨("_law_inputs", none), "_law_inputs", "_law_inputs", defArgs st__law_inputs, defBody st__law_inputs, defScope st__law_inputs, [], []⟩
def d__law_others : He.DefD := ⟨("_law_others", none), "_law_others", "_law_others", defArgs st__law_others, defBody st__law_others, defScope st__law_others, [], []⟩
def d__law_is : He.DefD := ⟨("_law_is", none), "_law_is", "_law_is", defArgs st__law_is, defBody st__law_is, defScope st__law_is, [], []⟩
def d__law_attributes : He.DefD := ⟨("_law_attributes", none), "_law_attributes", "_law_attributes", defArgs st__law_attributes, defBody st__law_attributes, defScope st__law_attributes, [], []⟩
def d_law : He.DefD := ⟨("law", none), "law", "law", defArgs st_law, defBody st_law, defScope st_law, [], []⟩
def fn : List He.DefD := ([d__law_reader, d__law_next, d__law_same, d__law_inputs, d__law_others, d__law_is, d__law_attributes, d_law] : List He.DefD)
def fa : List He.Fa := ([.glo "_law_reader", .glo "_law_next", .glo "_law_same", .glo "_law_inputs", .glo "_law_others", .glo "_law_is", .glo "_law_attributes", .glo "law", .free "ValueError", .free "all", .free "bool", .free "int", .free "isinstance", .free "len", .free "range", .free "str", .free "super"] : List He.Fa)
abbrev R : PySem.W.OpenRow := PySem.W.OpenLaw.row PySem.Challenge.rw_allmends_k75_errors_by_position
abbrev hk : PySem.W.Hook := hookZ 5 fa fn TB xds PySem.Challenge.rw_allmends_k75_errors_by_position.prog
def ob (s : PySem.W.SharedT) : AlY := obsZG 5 fa fn TB xds PySem.Challenge.rw_allmends_k75_errors_by_position.prog (HandSHeadRun.getT s)
theorem ob_eq (s : PySem.W.SharedT) : ob s = hk.obs s.abs := obsZG_eq (HandSHeadRun.getT_eq s)
def loose : List Str := (["__name__", "MendError", "InvalidInput", "BoundError", "DeskError", "InvalidText", "InvalidProgram", "InvalidContract", "InvalidChange", "InvalidStream", "InvalidPlaces", "InvalidEdit", "InvalidLine", "InvalidName", "Mismatch", "TooLarge", "TooLong", "TooManyCases", "NameTaken", "UnknownName", "NothingToUndo", "NothingToRedo", "_law_reader", "_law_next", "_law_same", "_law_inputs", "_law_others", "_law_is", "_law_attributes"] : List Str)
theorem run (w : World) : HandSHeadRun.RunEq R (PySem.W.view R.prog [30]) hk ob 6000 loose w := by
  intro os
  kernel_rfl
end K75
namespace Dl
open PySem L2
end Dl
namespace Dl
open PySem PySem.Spec PyProof.Rows L2
def getK : List (Key × D) → Key → Option D
  | [], _ => none
  | (x, d) :: r, k => if x = k then some d else getK r k
def setK : List (Key × D) → Key → D → List (Key × D)
  | [], k, y => [(k, y)]
  | (x, d) :: r, k, y => if x = k then (x, y) :: r else (x, d) :: setK r k y
theorem RpK.get {Γ : Kx} {G : Hp} {R : Addr → Prop} {k : Key} {d : D} : ∀ {kvs : List (Key × D)} {us : List (Key × V)}, RpK Γ G R kvs us → getK kvs k = some d → ∃ v, valV us k = some v ∧ Rp Γ G R d v
  | [], us, h, e => by unfold getK at e; cases e
  | (x, y) :: r, us, h, e => by
    unfold RpK at h
    obtain ⟨v, q, rfl, h1, h2⟩ := h
    unfold getK at e
    by_cases z : x = k
    · rw [if_pos z] at e
      cases e
      exact ⟨v, valV_pos z, h1⟩
    · rw [if_neg z] at e
      obtain ⟨v2, e2, r2⟩ := RpK.get h2 e
      exact ⟨v2, by rw [valV_neg z]; exact e2, r2⟩
section
variable {Γ : Kx} {W : WX} {te tp : TE} {fe fo : DE} {fp : DP}
end
section
variable {Γ : Kx} {H0 G G' : Hp} {R R' : Addr → Prop} {H H' : Hp}
theorem Comp.dic {v v1 : V} {as as1 : List Addr} {f : D → D} {ds : List (Key × D)} (c : Comp Γ H0 G R H v as f (.dic ds) v1 as1) : ∃ a vs bs, v1 = .ref a ∧ as1 = a :: bs ∧ a ∈ as ∧ a ∉ bs ∧ bs.Nodup ∧ (∀ x ∈ bs, x ∈ as) ∧ H a = some (.dK vs) ∧ G a = none ∧ ¬ R a ∧ OwK Γ H0 G R H ds vs bs ∧
    ∀ (ds' : List (Key × D)) (vs' : List (Key × V)) (bs' : List Addr), OwK Γ H0 G R H ds' vs' bs' → bs'.Nodup → a ∉ bs' → (∀ b ∈ bs', b ∈ as → b ∈ bs) → ∃ as3, Ow Γ H0 G R (upd H a (.dK vs')) (f (.dic ds')) v as3 ∧ as3.Nodup ∧ ∀ x ∈ as3, x ∈ bs' ∨ x ∈ as := by
  have h := c.ow
  unfold Ow at h
  obtain ⟨a, vs, bs, rfl, rfl, h0, g, r, hl, l⟩ := h
  obtain ⟨na, nb⟩ := List.nodup_cons.mp c.nd
  refine ⟨a, vs, bs, rfl, rfl, c.sub a (List.mem_cons_self ..), na, nb, fun x m => c.sub x (List.mem_cons_of_mem _ m), hl, g, r, l, fun ds' vs' bs' l' nd' na' hs => ?_⟩
  have st : ¬ Stiff (HO.dK vs) := fun t => t
  obtain ⟨as3, h3, n3, m3⟩ := c.re G R (upd H a (.dK vs')) (.dic ds') (a :: bs') (Stays.upd (fun m => (mem_wo.mp m).2 (List.mem_cons_self ..)) hl st) (by
    unfold Ow
    exact ⟨a, vs', bs', rfl, rfl, h0, g, r, upd_same, OwK.mono ds' vs' bs' (Stays.upd na' hl st) l'⟩) (List.nodup_cons.mpr ⟨na', nd'⟩) fun x m mx => by
      rcases List.mem_cons.mp m with rfl | m
      · exact List.mem_cons_self ..
      · exact List.mem_cons_of_mem _ (hs x m mx)
  refine ⟨as3, h3, n3, fun x m => ?_⟩
  rcases (m3 x).mp m with z | z
  · rcases List.mem_cons.mp z with rfl | z
    · exact .inr (c.sub x (List.mem_cons_self ..))
    · exact .inl z
  · exact .inr z.1
end
section
variable {Γ : Kx} {W : WX} {te tp ti : TE} {fp : DP} {fe fi fo : DE}
end
section
variable {Γ : Kx} {H0 G G' : Hp} {R : Addr → Prop} {H : Hp}
end
section
variable {Γ : Kx} {W : WX}
end
section
variable {X : Cx} {C : Str → Addr} {W : WX} {k : Nat} {bl : Str → Bool} {a e o : Expr} {es : List Expr} {fa fe fo : DE} {fs : DA} {fp : DP} {pos p1 p2 pos' : Pos} {m : Nat} {z : Str} {i : Nat}
end
end Dl
namespace Dl
open PySem PySem.Spec PyProof.Rows L2
abbrev DXE := XQ → En → (D → En → Prop) → Prop
abbrev DXA := XQ → En → (List D → En → Prop) → Prop
section
variable {Γ : Kx} {W : WX} {te tb tp : TE} {ta : TA} {fe : DE} {fx fy : DXE} {fa : DXA} {fp : DP}
end
inductive At : D → (D → D) → D → Prop
  | here (d : D) : At d (fun x => x) d
  | lst {ds : List D} {j : Nat} {d1 d2 : D} {f : D → D} : ds[j]? = some d1 → At d1 f d2 → At (.lst ds) (fun x => .lst (ds.set j (f x))) d2
  | tup {ds : List D} {j : Nat} {d1 d2 : D} {f : D → D} : ds[j]? = some d1 → At d1 f d2 → At (.tup ds) (fun x => .tup (ds.set j (f x))) d2
  | key {kvs : List (Key × D)} {k : Key} {d1 d2 : D} {f : D → D} : getK kvs k = some d1 → At d1 f d2 → At (.dic kvs) (fun x => .dic (setK kvs k (f x))) d2
section
variable {Γ : Kx} {H0 G G' : Hp} {R R' : Addr → Prop} {H H' : Hp} {σ : St} {ρ : En}
theorem Wd.raw {i : Nat} {v v1 : V} {as as1 : List Addr} {d d1 : D} {f : D → D} (w : Wd Γ H0 G R H σ ρ) (e : ρ[i]? = some (.ow v as d)) (c : Comp Γ H0 G R H v as f d1 v1 as1) : ∃ as3, Wd Γ H0 G R (Dl.cut H as1) σ (ρ.set i (.ow v as3 (f (.raw v1)))) := by
  have fr := w.frs e
  have st : Stays G R H G R (Dl.cut H as1) (wo as as1) := ⟨fun a o m h _ g r => ⟨by rw [cut_out (mem_wo.mp m).2]; exact h, g, r⟩, fun a o h s => by
    rw [cut_out fun m => by
      obtain ⟨_, _, _, u, hu, op⟩ := fr a (c.sub a m)
      rw [h] at hu; cases hu; exact op.stiff s]
    exact h, fun _ h => h, fun _ _ h => h⟩
  obtain ⟨as3, h3, n3, m3⟩ := c.re G R (Dl.cut H as1) (.raw v1) [] st (by unfold Ow Rp; exact ⟨rfl, rfl⟩) (by simp) fun a m => absurd m List.not_mem_nil
  refine ⟨as3, w.putO e ((Nx.refl w.gd).cut2 c.sub fun a m => ⟨(fr a (c.sub a m)).2.1, (fr a (c.sub a m)).2.2.1⟩) h3 n3 fun a m => ?_⟩
  rcases (m3 a).mp m with z | z
  · exact absurd z List.not_mem_nil
  · exact cut_in z.1
end
section
variable {Γ : Kx} {W : WX} {te tp : TE} {fx : DXE} {fp : DP}
end
section
variable {X : Cx} {C : Str → Addr} {W : WX} {k j : Nat} {bl : Str → Bool} {a b e o : Expr} {es : List Expr} {fe : DE} {fx fy : DXE} {fa : DXA} {fp : DP} {pos p p1 p2 : Pos} {n i : Nat}
end
end Dl
namespace Dl
open PySem PySem.Spec PyProof.Rows L2
section
variable {Γ : Kx} {W : WX} {te : TE} {fo : DE}
end
section
variable {X : Cx} {C : Str → Addr} {W : WX} {e : Expr} {fo : DE}
end
mutual
def eqB : Nat → D → Bool
  | _, .non => true
  | _, .bl _ => true
  | _, .int _ => true
  | _, .str s => (PyData.str s).canLay0
  | n + 1, .tup ds => eqL n ds
  | n + 1, .lst ds => eqL n ds
  | _, _ => false
def eqL : Nat → List D → Bool
  | _, [] => true
  | n, d :: ds => eqB n d && eqL n ds
end
theorem eqL_of {n : Nat} : ∀ {ds : List D}, (∀ d ∈ ds, eqB n d = true) → eqL n ds = true
  | [], _ => by unfold eqL; rfl
  | d :: ds, h => by
    unfold eqL
    rw [h d (by simp), eqL_of fun e he => h e (by simp [he])]
    rfl
mutual
theorem eqB_eo : ∀ (n : Nat) (d : D), eqB n d = true → Eo n d
  | n, .non, _ => eo_non n
  | n, .bl b, _ => eo_bl n b
  | n, .int i, _ => eo_int n i
  | n, .str s, h => eo_str n s (by unfold eqB at h; exact h)
  | n + 1, .tup ds, h => by unfold eqB at h; exact eo_tup (eqL_eo n ds h)
  | n + 1, .lst ds, h => by unfold eqB at h; exact eo_lst (eqL_eo n ds h)
  | 0, .tup _, h => by unfold eqB at h; cases h
  | 0, .lst _, h => by unfold eqB at h; cases h
  | _, .scr _, h => by unfold eqB at h; cases h
  | _, .rd, h => by unfold eqB at h; cases h
  | _, .ins _ _, h => by unfold eqB at h; cases h
  | _, .exc _ _, h => by unfold eqB at h; cases h
  | _, .nms _, h => by unfold eqB at h; cases h
  | _, .any, h => by unfold eqB at h; cases h
  | _, .dic _, h => by unfold eqB at h; cases h
  | _, .fr _, h => by unfold eqB at h; cases h
  | _, .raw _, h => by unfold eqB at h; cases h
theorem eqL_eo : ∀ (n : Nat) (ds : List D), eqL n ds = true → ∀ d ∈ ds, Eo n d
  | n, d :: ds, h, e, he => by
    unfold eqL at h
    rw [Bool.and_eq_true] at h
    rcases List.mem_cons.mp he with q | he
    · rw [q]; exact eqB_eo n d h.1
    · exact eqL_eo n ds h.2 e he
end
theorem deq_non : deq .non .non = true := by unfold deq py; rfl
mutual
theorem deq_self : ∀ (n : Nat) (d : D), eqB n d = true → deq d d = true
  | n, .non, _ => deq_non
  | n, .bl b, _ => by rw [deq_bl]; simp
  | n, .int i, _ => by rw [deq_int]; simp
  | n, .str s, h => by rw [deq_str]; simp
  | n + 1, .tup ds, h => by
    unfold eqB at h
    rw [deq_tup (eqL_eo n ds h) (eqL_eo n ds h)]
    exact deqL_self n ds h
  | n + 1, .lst ds, h => by
    unfold eqB at h
    rw [deq_lst (eqL_eo n ds h) (eqL_eo n ds h)]
    exact deqL_self n ds h
  | 0, .tup _, h => by unfold eqB at h; cases h
  | 0, .lst _, h => by unfold eqB at h; cases h
  | _, .scr _, h => by unfold eqB at h; cases h
  | _, .rd, h => by unfold eqB at h; cases h
  | _, .ins _ _, h => by unfold eqB at h; cases h
  | _, .exc _ _, h => by unfold eqB at h; cases h
  | _, .nms _, h => by unfold eqB at h; cases h
  | _, .any, h => by unfold eqB at h; cases h
  | _, .dic _, h => by unfold eqB at h; cases h
  | _, .fr _, h => by unfold eqB at h; cases h
  | _, .raw _, h => by unfold eqB at h; cases h
theorem deqL_self : ∀ (n : Nat) (ds : List D), eqL n ds = true → deqL ds ds = true
  | _, [], _ => rfl
  | n, d :: ds, h => by
    unfold eqL at h
    rw [Bool.and_eq_true] at h
    show (deq d d && deqL ds ds) = true
    rw [deq_self n d h.1, deqL_self n ds h.2]
    rfl
end
theorem gNe_self {n : Nat} {d : D} (h : eqB n d = true) (hn : n ≤ 64) {Q : D → Prop} (q : Q (.bl false)) : gNe d d Q := ⟨(eqB_eo n d h).ok hn, (eqB_eo n d h).ok hn, by rw [deq_self n d h]; exact q⟩
theorem gEq_self {n : Nat} {d : D} (h : eqB n d = true) (hn : n ≤ 64) {Q : D → Prop} (q : Q (.bl true)) : gEq d d Q := ⟨(eqB_eo n d h).ok hn, (eqB_eo n d h).ok hn, by rw [deq_self n d h]; exact q⟩
end Dl
namespace Dl
open PySem PySem.Spec PyProof.Rows L2 PySem.Calls
section
variable {Γ : Kx} {G : Hp} {R : Addr → Prop} {H : Hp} {c : Str} {fs : List (Str × D)} {v : V}
theorem RpQ.exc (g : Gd G R H) (r : RpQ Γ G R H (.exc c fs) v) : ∃ a vs, v = .ref a ∧ ExAt Γ H a c vs ∧ RpF Γ G R fs vs := by
  have r' : Rp Γ G R (.exc c fs) v := r
  unfold Rp at r'
  obtain ⟨a, vs, e, x, f⟩ := r'
  exact ⟨a, vs, e, x.mono g.sub, f⟩
theorem ExAt.inst {P : Program} {w : World} {h : Heap} {a : Addr} {vs : List (Str × V)} (hok : HOk P w H h) (x : ExAt Γ H a c vs) : ∃ ox odx, PySem.W.InstAt h a ox (Γ.C c) odx := by
  rcases x with ⟨dx, e1, e2⟩ | ⟨rfl, e⟩
  · obtain ⟨t1, ho⟩ := exo_at hok e1
    obtain ⟨mA, hns, _⟩ := exd_at hok e2
    obtain ⟨od, hod, hl⟩ := lookIn_ns hns
    exact ⟨_, some od, ho, rfl, rfl, hod⟩
  · obtain ⟨⟨oe, us, ho, hz, hd, _⟩, _, _⟩ := hok a _ e
    exact ⟨oe, none, ho, hz.1, by unfold PySem.W.notCls; rw [hd] <;> rfl, by rw [hz.2]; trivial⟩
end
def tNwO (C : Addr) (sp : Sp) (dvs : List V) (ta : TA) : TE := fun σ H Q => ta σ H fun vs H1 => vs.length ≤ 1000 ∧ ∀ a, H1 a = none → sp (.ref a :: (vs ++ dvs)) (upd H1 a (exo a C none)) (fun v H2 => v = .non ∧ Q (.ref a) H2) (fun _ _ _ => False)
section
variable {X : Cx} {e : Expr} {es : List Expr} {ta : TA} {p pos : Pos}
theorem pe_oex {CX : CXT} {x : Str} {C fI : Addr} {k : Nat} {fd : FuncData} {ps : List Str} {sp : Sp} {ds : List Value} {dvs : List V} (T : OexC X.K C) (iC : PySem.W.findIn X.K (.ref C) "__init__" = some (some (.ref fI))) (tI : PySem.W.typeIn X.K (.ref fI) = some (.type "function"))
    (F1 : FnOk X.prog X.w X.K X.mg X.base CX k fI fd ps sp) (hr : Room (k + 1) X.A) (hb : Binds X.K fd ps ds) (hd : Vals dvs ds) (hx : Passes CX X (fun _ _ _ => False)) (hg : Gl X x) (hm : X.mg x = some (.ref C)) (ha : PA X (e :: es) ta)
    (hdb : (x == ("__debug__" : Str)) = false := by decide) (he : starEach (e :: es) X.env = (false, eval e X.env) :: starEach es X.env := by rfl) (hpl : (backTo pos (starEach es X.env)).any (·.1) = false := by rfl) :
    PE X (.Call (.Name x p) (e :: es) [] pos) (tNwO C sp dvs ta) := by
  refine ⟨fun pins s σ H Q I h => ?_⟩
  obtain ⟨nm, q, N, bs, bm, sn, sub, ab, col, dd, k0, k1, k2, k3, k5, hC, hbm⟩ := T.cls
  refine wpAny_Call_Name_kw (ld_glob I hg hm ?_ hdb)
  refine PySem.W.callWith_K (h₀ := X.base) I.ok.mod.kin T.kC (thn (ha.run pos pins s σ H _ I h) fun us s1 ⟨vs, H1, I1, r1, hz, q1⟩ => ⟨I1.kIn, ?_⟩) he hpl
  show wpAny _ _ (call (.ref C) us) _ _ _
  obtain ⟨hp, g, dr, tk, os⟩ := s1
  have hsz : hp.objs.size ≤ hp.objs.size + 1 := Nat.le_succ _
  have hn : H1 (hp.objs.size + 1) = none := I1.hok.fresh hsz
  have hq := q1 (hp.objs.size + 1) hn
  have kk : ∀ b o, hp.get? b = some o → ((hp.push (PySem.W.kdv_tup us)).push (PySem.HandSPX.excO C hp.objs.size)).get? b = some o := fun b o e => Heap.get?_push_of_some _ (Heap.get?_push_of_some _ e)
  have hget : ((hp.push (PySem.W.kdv_tup us)).push (PySem.HandSPX.excO C hp.objs.size)).get? (hp.objs.size + 1) = some (PySem.HandSPX.excO C hp.objs.size) := by heap_get
  have I2 : Inv X pins σ (upd H1 (hp.objs.size + 1) (exo (hp.objs.size + 1) C none)) ⟨(hp.push (PySem.W.kdv_tup us)).push (PySem.HandSPX.excO C hp.objs.size), g, dr, tk, os⟩ :=
    I1.laid (t' := tk) (a := hp.objs.size + 1) (o := exo (hp.objs.size + 1) C none) (h' := (hp.push (PySem.W.kdv_tup us)).push (PySem.HandSPX.excO C hp.objs.size)) kk hsz (exo_ok hget)
  have r2 : Vals (V.ref (hp.objs.size + 1) :: (vs ++ dvs)) (Value.ref (hp.objs.size + 1) :: (us ++ ds)) := .cons rfl (r1.append hd)
  have hl : (Value.ref (hp.objs.size + 1) :: us ++ ds).length = ps.length := by
    have e := r2.length
    rw [F1.len _ _ _ _ hq] at e
    exact e.symm
  have hus : us.length ≤ sizeLine := by
    rw [← Paired.length r1, sizeLine_eq]
    omega
  refine wpAny_call (PySem.HandSPX.call_own F.excBase_ValueError (fun Y => PySem.HandSPX.refsVE_contains Y bm hbm) (I1.kIn _ _ hC) (PySem.W.looks_findIn I1.kIn iC) (fun self => PySem.W.bind_fn I1.kIn self tI) hus
    (codeAny_mono (F1.run _ X.stack _ _ ⟨Value.ref (hp.objs.size + 1) :: us, []⟩ (Value.ref (hp.objs.size + 1) :: (us ++ ds)) _ _ (fun _ _ _ => False) (hr.make C us []) (I2.env0.make C us []) (hb _ (Value.ref (hp.objs.size + 1) :: us) I2.kIn hl) r2 hq) fun r s' hq' => ?_))
  cases r with
  | error er => exact hx pins σ _ _ er s' I2 hq'
  | ok fl =>
    cases fl with
    | ret u =>
      obtain ⟨v, H2, os2, bare2, un2, hok2, rv, ev, q2⟩ := hq'
      subst ev
      obtain ⟨h2, g2, d2, t2, os'⟩ := s'
      exact ⟨rv, .ref (hp.objs.size + 1), H2, I2.call' (ch := []) os2 un2 hok2 bare2 (fun b z => absurd z (by simp)), rfl, q2⟩
    | next => exact False.elim hq'
    | brk => exact False.elim hq'
    | cont => exact False.elim hq'
theorem pe_exc0 {C : Addr} {bmB : List Value} {B newId initId : String} {x : Str} (F : ExcBaseFacts B newId initId bmB) (q : PySem.W.excIn X.K C bmB newId = true) (gC : X.mg x = some (.ref C)) (kC : PySem.W.keepIn X.K (.ref C) = true) (hg : Gl X x) (hdb : (x == ("__debug__" : Str)) = false := by decide) :
    PE X (.Call (.Name x p) [] [] pos) (fun _ H Q => ∀ a, H a = none → Q (.ref a) (upd H a (ExO (.ref C) a))) := by
  refine ⟨fun pins s σ H Q I h => ?_⟩
  refine wpAny_Call_Name_kw (ld_glob I hg gC ?_ hdb)
  refine PySem.W.callWith_K0 I.kIn kC ?_
  show wpAny _ _ (call (.ref C) []) _ _ _
  obtain ⟨bm, N, nm, qn, bs, hdct, sn, sub, ab, col, dd, k0, k1, k2, k3, k5, mN, hC, hN, hni, T⟩ := exc_obj I.kIn q
  refine wpAny_call_exc_subT F T hC hN hni (fun h' a hm => ?_) (by show 0 ≤ sizeLine; rw [sizeLine_eq]; omega)
  have hn : H a = none := I.hok.gone hm.new
  obtain ⟨t, ht, _, _⟩ := hm.there
  exact ⟨.ref a, upd H a (ExO (.ref C) a), I.laidN hm.keeps hm.new hn (exO_ok ht ⟨rfl, rfl⟩ rfl rfl rfl (show 4 < 6 by decide)), rfl, h a hn⟩
end
def dExN0 (c : Str) : DE := fun _ _ Q => Q (.exc c [])
def dExN1 (c f : Str) (fe : DE) : DE := fun xq ρ Q => fe xq ρ fun d => Q (.exc c [(f, d)])
section
variable {Γ : Kx} {W : WX} {te : TE} {fe : DE} {c f : Str}
theorem je_exN0 : JE Γ W (fun _ H Q => ∀ a, H a = none → Q (.ref a) (upd H a (ExO (.ref (Γ.C c)) a))) (dExN0 c) := fun H0 G R H σ ρ xq Qd Q w x f k => fun p hp => by
  have n := Nx.newG w.gd (ExO (.ref (Γ.C c)) p) hp
  refine k (.ref p) (upd G p (ExO (.ref (Γ.C c)) p)) R _ (.exc c []) n ?_ f
  show Rp Γ (upd G p (ExO (.ref (Γ.C c)) p)) R (.exc c []) (.ref p)
  unfold Rp
  exact ⟨p, [], rfl, .inr ⟨rfl, upd_same⟩, by unfold RpF; rfl⟩
theorem je_exN1 (a : JE Γ W te fe) : JE Γ W (tNwO (Γ.C c) (spExI (Γ.C c) f) [] (tCons te tNil)) (dExN1 c f fe) := fun H0 G R H σ ρ xq Qd Q w x fz k =>
  a H0 G R H σ ρ xq _ _ w x fz fun v G1 R1 H1 d n1 r1 q1 => ⟨by show 1 ≤ 1000; omega, fun p hp => by
    refine ⟨p, v, rfl, upd_same, fun dx hdx ne => ⟨rfl, ?_⟩⟩
    have hdx' : H1 dx = none := by rw [upd_ne ne] at hdx; exact hdx
    have eH : upd (upd (upd H1 p (exo p (Γ.C c) none)) dx (exd dx [(f, v)])) p (exo p (Γ.C c) (some dx)) = upd (upd H1 dx (exd dx [(f, v)])) p (exo p (Γ.C c) (some dx)) := by
      funext b
      by_cases h2 : b = p
      · rw [h2, upd_same, upd_same]
      · rw [upd_ne h2, upd_ne h2]
        by_cases h1 : b = dx
        · rw [h1, upd_same, upd_same]
        · rw [upd_ne h1, upd_ne h1, upd_ne h2]
    rw [eH]
    have hp2 : upd H1 dx (exd dx [(f, v)]) p = none := by rw [upd_ne (Ne.symm ne)]; exact hp
    have n2 : Nx G1 R1 H1 (upd G1 dx (exd dx [(f, v)])) R1 (upd H1 dx (exd dx [(f, v)])) := Nx.newG n1.gd _ hdx'
    have n3 := Nx.newG n2.gd (exo p (Γ.C c) (some dx)) hp2
    have n4 := n2.trans n3
    refine k (.ref p) (upd (upd G1 dx (exd dx [(f, v)])) p (exo p (Γ.C c) (some dx))) R1 _ (.exc c [(f, d)]) (n1.trans n4) ?_ q1
    show Rp Γ _ R1 (.exc c [(f, d)]) (.ref p)
    unfold Rp
    refine ⟨p, [(f, v)], rfl, .inl ⟨dx, upd_same, by rw [upd_ne ne, upd_same]⟩, ?_⟩
    unfold RpF
    exact ⟨v, [], rfl, Rp.mono n4.gg n4.rr _ _ r1, by unfold RpF; rfl⟩⟩
end
section
variable {X : Cx} {C : Str → Addr} {W : WX} {k : Nat} {bl : Str → Bool} {e : Expr} {fe : DE} {pos p : Pos} {c f : Str}
theorem ce_exN0 (h : Ex0 X.K X.mg C c) (g : GE X W k bl) (hg : Gl X c := by rfl) (hdb : (c == ("__debug__" : Str)) = false := by decide) : CE X C W (.Call (.Name c p) [] [] pos) (dExN0 c) :=
  ⟨_, pe_exc0 PySem.F.excBase_ValueError h.ex h.gl h.kp hg hdb, je_exN0⟩
theorem ce_exN1 (h : Ex1 X.prog X.w X.K X.mg X.base C c f) (g : GE X W k bl) (ha : CE X C W e fe) (hk : 2 ≤ k := by omega) (hg : Gl X c := by rfl) (hdb : (c == ("__debug__" : Str)) = false := by decide)
    (he : starEach [e] X.env = (false, eval e X.env) :: starEach [] X.env := by rfl) : CE X C W (.Call (.Name c p) [e] [] pos) (dExN1 c f fe) :=
  let ⟨_, p, q⟩ := ha
  let ⟨_, _, _, iC, tI, F, b⟩ := h.ex
  ⟨_, pe_oex h.oc iC tI (F _) (g.room.mono hk) b .nil (takes_no g.tk) hg h.gl (pa_cons p pa_nil he) hdb he rfl, je_exN1 q⟩
end
def rIsX (Γ : Kx) : List V → Hp → VK → Prop := fun xs H Q => ∃ (a : Addr) (cl : Str) (vs : List (Str × V)) (c : V) (cv : Value) (b : Bool), xs = [.ref a, c] ∧ ExAt Γ H a cl vs ∧ ExcC Γ.K (Γ.C cl) ∧ (∀ u, RelV c u → u = cv) ∧ PySem.W.kitOne Γ.K (.ref (Γ.C cl)) cv = some b ∧ Q (.bl b) H
theorem call_isX {X : Cx} {C : Str → Addr} : CallR X (.builtin "isinstance") (rIsX ⟨X.K, C⟩) := by
  intro pins s σ H xs us Q I r h
  obtain ⟨a, cl, vs, c, cv, b, rfl, hx, CC, hcv, e, q⟩ := h
  cases r with
  | cons rx rr =>
    cases rr with
    | cons rt rr =>
      cases rr
      cases rx
      have ec := hcv _ rt
      subst ec
      exact PySem.W.kia_one (PySem.W.kitx_excD CC.hg CC.hk CC.hs CC.hd CC.ha CC.hn CC.ht CC.hm) I.kIn (ExAt.inst (Γ := ⟨X.K, C⟩) I.hok hx) e (fun z => nomatch z) fun tk => ⟨.bl b, H, I.kept (t' := tk) fun _ _ z => z, rfl, q⟩
def gIsX (cs : List Str) (isa : Str → Bool) (x : D) (Q : D → Prop) : Prop := match x with
  | .exc c _ => c ∈ cs ∧ Q (.bl (isa c))
  | _ => False
def IsX (K : PySem.W.Frag) (C : Str → Addr) (cs : List Str) (isa : Str → Bool) (cv : Value) : Prop := ∀ c ∈ cs, ExcC K (C c) ∧ PySem.W.kitOne K (.ref (C c)) cv = some (isa c)
theorem je_isX {Γ : Kx} {W : WX} {te : TE} {fe : DE} {cs : List Str} {isa : Str → Bool} {c : V} {cv : Value} (h : IsX Γ.K Γ.C cs isa cv) (hcv : ∀ u, RelV c u → u = cv) (q : JQ Γ W te fe) : JE Γ W (tCB (rIsX Γ) (tCons te (tCons (tC c) tNil))) (d1 (gIsX cs isa) fe) := fun H0 G R H σ ρ xq Qd Q w x f k =>
  q H0 G R H σ ρ xq _ _ w x f fun v1 G1 R1 H1 d1 n1 r1 q1 => by
    unfold gIsX at q1
    split at q1
    · obtain ⟨hc, q1⟩ := q1
      obtain ⟨a, vs, e, hx, _⟩ := r1.exc n1.gd
      exact ⟨a, _, vs, c, cv, _, by rw [e], hx, (h _ hc).1, hcv, (h _ hc).2, k _ G1 R1 H1 _ n1 rp_bl q1⟩
    · exact q1.elim
section
variable {X : Cx} {C : Str → Addr} {W : WX} {k : Nat} {bl : Str → Bool} {a : Expr} {fa : DE} {pos p p2 : Pos} {y f : Str} {cs : List Str} {isa : Str → Bool}
theorem ce_isX (hc : IsX X.K C cs isa (.ref (C y))) (hy : X.mg y = some (.ref (C y))) (g : GE X W k bl) (h : CQ X C W a fa) (hb : bl "isinstance" = true := by decide +kernel) (hg : Gl X "isinstance" := by rfl) (hgT : Gl X y := by rfl) (hd : (y == ("__debug__" : Str)) = false := by decide)
    (he : starEach [a, .Name y p2] X.env = (false, eval a X.env) :: starEach [.Name y p2] X.env := by rfl) (he' : starEach [.Name y p2] X.env = (false, eval (.Name y p2) X.env) :: starEach [] X.env := by rfl) (hpl : (backTo pos (starEach [.Name y p2] X.env)).any (·.1) = false := by rfl) : CE X C W (.Call (.Name "isinstance" p) [a, .Name y p2] [] pos) (d1 (gIsX cs isa) fa) :=
  let ⟨_, p, q⟩ := h; ⟨_, pe_callB call_isX hg (g.bl _ hb) boot_isinstance (pa_cons p (pa_cons (pe_glob (v := .ref (C y)) hgT hy rfl hd) pa_nil he') he) (by decide) (by decide) he hpl, je_isX hc (fun u r => r) q⟩
theorem ce_isXB {T : String} (hc : IsX X.K C cs isa (.type T)) (hT : bootBuiltins y = some (.type T)) (g : GE X W k bl) (h : CQ X C W a fa) (hb : bl "isinstance" = true := by decide +kernel) (hbT : bl y = true := by decide +kernel) (hg : Gl X "isinstance" := by rfl) (hgT : Gl X y := by rfl) (hn : y ≠ "__name__" := by decide) (hd : (y == ("__debug__" : Str)) = false := by decide)
    (he : starEach [a, .Name y p2] X.env = (false, eval a X.env) :: starEach [.Name y p2] X.env := by rfl) (he' : starEach [.Name y p2] X.env = (false, eval (.Name y p2) X.env) :: starEach [] X.env := by rfl) (hpl : (backTo pos (starEach [.Name y p2] X.env)).any (·.1) = false := by rfl) : CE X C W (.Call (.Name "isinstance" p) [a, .Name y p2] [] pos) (d1 (gIsX cs isa) fa) :=
  let ⟨_, p, q⟩ := h; ⟨_, pe_callB call_isX hg (g.bl _ hb) boot_isinstance (pa_cons p (pa_cons (pe_bltn (v := .ty T) hgT (g.bl _ hbT) hT rfl hn hd) pa_nil he') he) (by decide) (by decide) he hpl, je_isX hc (fun u r => r) q⟩
end
def tXfl (Γ : Kx) (f : Str) (te : TE) : TE := fun σ H Q => te σ H fun x H1 => ∃ (a : Addr) (cl : Str) (vs : List (Str × V)) (v : V), x = .ref a ∧ ExAt Γ H1 a cl vs ∧ XfC Γ.K (Γ.C cl) ∧ PySem.W.findIn Γ.K (.ref (Γ.C cl)) f = some none ∧ vs.lookup f = some v ∧ Q v H1
theorem pe_xfl {X : Cx} {C : Str → Addr} {e : Expr} {te : TE} {pos : Pos} {n : Str} (he : PE X e te) (hb : attributeBase e n X.env (eval e X.env) = eval e X.env := by rfl) : PE X (.Attribute e n pos) (tXfl ⟨X.K, C⟩ n te) := by
  refine ⟨fun pins s σ H Q I h => ?_⟩
  refine attr_of hb (thn (he.run pins s σ H _ I h) fun u s1 hh => ?_)
  obtain ⟨x, H1, I1, rx, a, cl, vs, v, ex, hx, T, hno, l, q⟩ := hh
  subst ex
  obtain rfl : u = Value.ref a := rx
  rcases hx with ⟨dx, e1, e2⟩ | ⟨rfl, e⟩
  · obtain ⟨t1, ho⟩ := exo_at I1.hok e1
    obtain ⟨mA, hns, hr⟩ := exd_at I1.hok e2
    obtain ⟨od, hod, hl⟩ := lookIn_ns hns
    obtain ⟨u, hu, ru⟩ := RelO.some_of (v := v) (o := mA n) (by rw [← l]; exact hr n)
    have J : PySem.W.InstAt s1.heap a _ (C cl) (some od) := ⟨ho, rfl, rfl, hod⟩
    exact HandSPX.exc_get I1.kIn J T.ga T.gg T.exC (PySem.W.findObj_own T.hdC hno rfl (by rw [hl, hu])) (handed_of ru) ⟨v, H1, I1.tok _, ru, q⟩
  · cases l
def gXFld (cs : List Str) (f : Str) (x : D) (Q : D → Prop) : Prop := match x with
  | .exc c fs => c ∈ cs ∧ ∃ d, fs.lookup f = some d ∧ Q d
  | _ => False
def XFl (K : PySem.W.Frag) (C : Str → Addr) (cs : List Str) (f : Str) : Prop := ∀ c ∈ cs, XfC K (C c) ∧ PySem.W.findIn K (.ref (C c)) f = some none
theorem je_xFld {Γ : Kx} {W : WX} {te : TE} {fe : DE} {cs : List Str} {f : Str} (h : XFl Γ.K Γ.C cs f) (q : JQ Γ W te fe) : JE Γ W (tXfl Γ f te) (d1 (gXFld cs f) fe) := fun H0 G R H σ ρ xq Qd Q w x fz k =>
  q H0 G R H σ ρ xq _ _ w x fz fun v1 G1 R1 H1 d1 n1 r1 q1 => by
    unfold gXFld at q1
    split at q1
    · obtain ⟨hc, d, l, q1⟩ := q1
      obtain ⟨a, vs, e, hx, rf⟩ := r1.exc n1.gd
      obtain ⟨u, l2, ru⟩ := rf.lookup l
      exact ⟨a, _, vs, u, e, hx, (h _ hc).1, (h _ hc).2, l2, k u G1 R1 H1 d n1 ru q1⟩
    · exact q1.elim
theorem ce_xFld {X : Cx} {C : Str → Addr} {W : WX} {a : Expr} {fa : DE} {pos : Pos} {f : Str} {cs : List Str} (h : XFl X.K C cs f) (q : CQ X C W a fa) (hb : attributeBase a f X.env (eval a X.env) = eval a X.env := by rfl) : CE X C W (.Attribute a f pos) (d1 (gXFld cs f) fa) :=
  let ⟨_, p, q⟩ := q; ⟨_, pe_xfl p hb, je_xFld h q⟩
def gUpper (x : D) (Q : D → Prop) : Prop := match x with
  | .str s => s.length ≤ 5592405 ∧ Q (.str (Txt.upper s))
  | _ => False
theorem je_upper {Γ : Kx} {W : WX} {te : TE} {fe : DE} (q : JQ Γ W te fe) : JE Γ W (tM0 (fun x xs H Q => ∃ a, x = .str a ∧ xs = [] ∧ a.length ≤ 5592405 ∧ Q (.str (Txt.upper a)) H) te) (d1 gUpper fe) := fun H0 G R H σ ρ xq Qd Q w x fz k =>
  q H0 G R H σ ρ xq _ _ w x fz fun v1 G1 R1 H1 d1 n1 r1 q1 => by
    unfold gUpper at q1
    split at q1
    · obtain ⟨hl, q1⟩ := q1
      have e := r1.str
      exact ⟨⟨_, e⟩, _, e, rfl, hl, k _ G1 R1 H1 _ n1 rp_str q1⟩
    · exact q1.elim
theorem ce_upper {X : Cx} {C : Str → Addr} {W : WX} {a : Expr} {fa : DE} {apos pos : Pos} (q : CQ X C W a fa) (hb : attributeBase a "upper" X.env (eval a X.env) = eval a X.env := by rfl) (hl : (apos.endLine == pos.line) = true := by rfl) : CE X C W (.Call (.Attribute a "upper" apos) [] [] pos) (d1 gUpper fa) :=
  let ⟨_, p, q⟩ := q; ⟨_, pe_upper p hb hl, je_upper q⟩
section
variable {K : PySem.W.Frag} {mg : Str → Option Value} {C : Str → Addr} {T : CTb}
theorem KC.isx (kc : KC K mg C T) {cs : List Str} {y : Str} (h : (T.tgt.contains y && cs.all fun c => T.exs.contains c) = true := by decide +kernel) : IsX K C cs (fun c => T.isa c y) (.ref (C y)) := by
  obtain ⟨h1, h2⟩ := He.ba h
  have h1 := List.contains_iff_mem.mp h1
  have h2 : ∀ c ∈ cs, c ∈ T.exs := fun c hc => List.contains_iff_mem.mp (List.all_eq_true.mp h2 c hc)
  exact fun c hc => ⟨kc.xc c (h2 c hc), kc.isa c (List.mem_append_right _ (h2 c hc)) y h1⟩
theorem KC.isve (kc : KC K mg C T) {cs : List Str} (h : (cs.all fun c => T.exs.contains c) = true := by decide +kernel) : IsX K C cs (fun _ => true) (.type "ValueError") := fun c hc => by
  have hc := List.contains_iff_mem.mp (List.all_eq_true.mp h c hc)
  exact ⟨kc.xc c hc, kc.ve c hc⟩
theorem KC.xfl (kc : KC K mg C T) {cs : List Str} {f : Str} (h : (cs.all fun c => T.exs.contains c && T.flds.contains (c, f)) = true := by decide +kernel) : XFl K C cs f := fun c hc => by
  obtain ⟨h1, h2⟩ := He.ba (List.all_eq_true.mp h c hc)
  exact ⟨kc.xf c (List.contains_iff_mem.mp h1), kc.no (c, f) (List.contains_iff_mem.mp h2)⟩
end
end Dl
namespace K75
open PySem L2 Dl
def XCs : List Str := ["InvalidText", "InvalidProgram", "InvalidContract", "InvalidChange", "InvalidStream", "InvalidPlaces", "InvalidEdit", "InvalidLine", "InvalidName", "Mismatch", "TooLarge", "TooLong", "TooManyCases", "NameTaken", "UnknownName", "NothingToUndo", "NothingToRedo"]
def b__law_reader : DS :=
  dSeq (dSet 2 (dIf (dB (d2 gLt (dVar 1) (d1 gLen (dVar 0)))) (d2 gIx (dVar 0) (dVar 1)) (dC (.int 0))))
  (dRet (dRd (dCons (dVar 2) (dCons (dC (.int 0)) (dCons (d2 gMns (dVar 2) (d2 gPow (dC (.int 10)) (dC (.int 18)))) dNil)))))
def b__law_same : DS :=
  dSeq (dIfS (dB (d1 (gIsi "str") (dVar 1)))
    (dRet (dAndV (dB (d1 (gIsi "str") (dVar 0))) (d2 gEq (dVar 0) (dVar 1))))
    dNext)
  (dRet (dAndV (dB (d1 (gIsi "int") (dVar 0))) (dAndV (dB (dNotV (dB (d1 (gIsi "bool") (dVar 0))))) (d2 gEq (dVar 0) (dVar 1)))))
def b__law_inputs : DS :=
  dSeq (dSet 1 (dLst (dCons (d1 (gIsX XCs (fun c => isaF c "InvalidText")) (dVar 0)) (dCons (d1 (gIsX XCs (fun c => isaF c "InvalidProgram")) (dVar 0)) (dCons (d1 (gIsX XCs (fun c => isaF c "InvalidContract")) (dVar 0)) dNil)))))
  (dSeq (dSet 1 (d2 gAdd (dVar 1) (dLst (dCons (d1 (gIsX XCs (fun c => isaF c "InvalidChange")) (dVar 0)) (dCons (d1 (gIsX XCs (fun c => isaF c "InvalidStream")) (dVar 0)) (dCons (d1 (gIsX XCs (fun c => isaF c "InvalidPlaces")) (dVar 0)) dNil))))))
  (dRet (d2 gAdd (dVar 1) (dLst (dCons (d1 (gIsX XCs (fun c => isaF c "InvalidEdit")) (dVar 0)) (dCons (d1 (gIsX XCs (fun c => isaF c "InvalidLine")) (dVar 0)) (dCons (d1 (gIsX XCs (fun c => isaF c "InvalidName")) (dVar 0)) (dCons (d1 (gIsX XCs (fun c => isaF c "Mismatch")) (dVar 0)) dNil))))))))
def b__law_others : DS :=
  dSeq (dSet 1 (dLst (dCons (d1 (gIsX XCs (fun c => isaF c "TooLarge")) (dVar 0)) (dCons (d1 (gIsX XCs (fun c => isaF c "TooLong")) (dVar 0)) (dCons (d1 (gIsX XCs (fun c => isaF c "TooManyCases")) (dVar 0)) dNil)))))
  (dSeq (dSet 1 (d2 gAdd (dVar 1) (dLst (dCons (d1 (gIsX XCs (fun c => isaF c "NameTaken")) (dVar 0)) (dCons (d1 (gIsX XCs (fun c => isaF c "UnknownName")) (dVar 0)) dNil)))))
  (dRet (d2 gAdd (dVar 1) (dLst (dCons (d1 (gIsX XCs (fun c => isaF c "NothingToUndo")) (dVar 0)) (dCons (d1 (gIsX XCs (fun c => isaF c "NothingToRedo")) (dVar 0)) dNil))))))
def b__law_is (S__law_inputs : DF) (S__law_others : DF) : DS :=
  dSeq (dIfS (dOr (dNot (dB (d1 (gIsX XCs (fun c => isaF c "MendError")) (dVar 0)))) (dNot (dB (d1 (gIsX XCs (fun _ => true)) (dVar 0)))))
    (dRet (dC (.bl false)))
    dNext)
  (dSeq (dSet 2 (dLst (dCons (d1 (gIsX XCs (fun c => isaF c "InvalidInput")) (dVar 0)) (dCons (d1 (gIsX XCs (fun c => isaF c "BoundError")) (dVar 0)) (dCons (d1 (gIsX XCs (fun c => isaF c "DeskError")) (dVar 0)) dNil)))))
  (dSeq (dIfS (dB (d2 gNe (dVar 2) (dLst (dCons (d2 gLt (dVar 1) (dC (.int 10))) (dCons (dAndV (dB (d2 gLt (dC (.int 9)) (dVar 1))) (d2 gLt (dVar 1) (dC (.int 13)))) (dCons (d2 gLt (dC (.int 12)) (dVar 1)) dNil))))))
    (dRet (dC (.bl false)))
    dNext)
  (dRet (d2 gEq (d2 gAdd (dCall S__law_inputs (dCons (dVar 0) dNil)) (dCall S__law_others (dCons (dVar 0) dNil))) (dLst (dLc (iR1 (dC (.int 17))) 3 dYes (d2 gEq (dVar 3) (dVar 1))))))))
def b__law_attributes (S__law_same : DF) : DS :=
  dSeq (dSet 2 (dLst (dCons (d1 (gXFld ["InvalidText"] "position") (dExN1 "InvalidText" "position" (dVar 0))) (dCons (d1 (gXFld ["InvalidPlaces", "InvalidEdit"] "place") (dExN1 "InvalidPlaces" "place" (dVar 0))) (dCons (d1 (gXFld ["InvalidPlaces", "InvalidEdit"] "place") (dExN1 "InvalidEdit" "place" (dVar 0))) dNil)))))
  (dSeq (dSet 2 (d2 gAdd (dVar 2) (dLst (dCons (d1 (gXFld ["InvalidLine"] "number") (dExN1 "InvalidLine" "number" (dVar 0))) (dCons (d1 (gXFld ["TooManyCases"] "limit") (dExN1 "TooManyCases" "limit" (dVar 0))) dNil)))))
  (dSeq (dSet 3 (dLst (dCons (d1 (gXFld ["InvalidProgram", "InvalidContract"] "reason") (dExN1 "InvalidProgram" "reason" (dVar 1))) (dCons (d1 (gXFld ["InvalidProgram", "InvalidContract"] "reason") (dExN1 "InvalidContract" "reason" (dVar 1))) (dCons (d1 (gXFld ["InvalidName", "NameTaken", "UnknownName"] "name") (dExN1 "InvalidName" "name" (dVar 1))) (dCons (d1 (gXFld ["TooLarge", "TooLong"] "what") (dExN1 "TooLarge" "what" (dVar 1))) dNil))))))
  (dSeq (dSet 3 (d2 gAdd (dVar 3) (dLst (dCons (d1 (gXFld ["TooLarge", "TooLong"] "what") (dExN1 "TooLong" "what" (dVar 1))) (dCons (d1 (gXFld ["InvalidName", "NameTaken", "UnknownName"] "name") (dExN1 "NameTaken" "name" (dVar 1))) (dCons (d1 (gXFld ["InvalidName", "NameTaken", "UnknownName"] "name") (dExN1 "UnknownName" "name" (dVar 1))) dNil))))))
  (dSeq (dIfS (dNot (dB (d1 gAll (dLst (dLc (iIt (dVar 2)) 4 dYes (dCall S__law_same (dCons (dVar 4) (dCons (dVar 0) dNil))))))))
    (dRet (dC (.bl false)))
    dNext)
  (dRet (d1 gAll (dLst (dLc (iIt (dVar 3)) 4 dYes (dCall S__law_same (dCons (dVar 4) (dCons (dVar 1) dNil)))))))))))
def b_law (S__law_reader : DF) (S__law_next : DF) (S__law_is : DF) (S__law_attributes : DF) : DS :=
  dSeq (dSet 1 (dCall S__law_reader (dCons (dVar 0) (dCons (dC (.int 0)) dNil))))
  (dSeq (dSet 2 (d2 gMns (dCall S__law_next (dCons (dVar 1) (dCons (dC (.int 10000)) dNil))) (dC (.int 9))))
  (dSeq (dSet 3 (dC (.str "")))
  (dSeq (dFor (iR1 (d2 gAdd (dC (.int 1)) (dCall S__law_next (dCons (dVar 1) (dCons (dC (.int 12)) dNil))))) 4
    (dSet 3 (d2 gAdd (dVar 3) (d2 gIx (d1 gUpper (dC (.str "abcxyz0189 _-("))) (dCall S__law_next (dCons (dVar 1) (dCons (dC (.int 14)) dNil)))))))
  (dSeq (dSet 5 (dLst (dCons (dExN1 "InvalidText" "position" (dVar 2)) (dCons (dExN1 "InvalidProgram" "reason" (dVar 3)) (dCons (dExN1 "InvalidContract" "reason" (dVar 3)) (dCons (dExN0 "InvalidChange") (dCons (dExN0 "InvalidStream") dNil)))))))
  (dSeq (dSet 5 (d2 gAdd (dVar 5) (dLst (dCons (dExN1 "InvalidPlaces" "place" (dVar 2)) (dCons (dExN1 "InvalidEdit" "place" (dVar 2)) (dCons (dExN1 "InvalidLine" "number" (dVar 2)) (dCons (dExN1 "InvalidName" "name" (dVar 3)) (dCons (dExN0 "Mismatch") dNil))))))))
  (dSeq (dSet 5 (d2 gAdd (dVar 5) (dLst (dCons (dExN1 "TooLarge" "what" (dVar 3)) (dCons (dExN1 "TooLong" "what" (dVar 3)) (dCons (dExN1 "TooManyCases" "limit" (dVar 2)) (dCons (dExN1 "NameTaken" "name" (dVar 3)) (dCons (dExN1 "UnknownName" "name" (dVar 3)) dNil))))))))
  (dSeq (dSet 5 (d2 gAdd (dVar 5) (dLst (dCons (dExN0 "NothingToUndo") (dCons (dExN0 "NothingToRedo") dNil)))))
  (dSeq (dFor (iR1 (dC (.int 17))) 4
    (dIfS (dNot (dTru (dCall S__law_is (dCons (d2 gIx (dVar 5) (dVar 4)) (dCons (dVar 4) dNil)))))
      (dRet (dC (.bl false)))
      dNext))
  (dRet (dAndV (dB (dCall S__law_attributes (dCons (dVar 2) (dCons (dVar 3) dNil)))) (d2 gEq (d1 (gXFld ["InvalidText"] "position") (d2 gIx (dVar 5) (dC (.int 0)))) (dVar 2))))))))))))
end K75
namespace Dl
open PySem L2
theorem any_strs (ys : List Str) (a : Str) : ((ys.map D.str).any fun z => deq z (.str a)) = decide (a ∈ ys) := by
  induction ys with
  | nil => rfl
  | cons b l ih =>
    rw [List.map_cons, List.any_cons, ih, deq_str]
    by_cases h1 : b = a
    · subst h1; simp
    · have h2 : ¬ a = b := fun e => h1 e.symm
      simp [h1, h2]
theorem eo_strsT {ys : List Str} (hy : ∀ y ∈ ys, lays y = true) : Eo 1 (.tup (ys.map D.str)) := eo_tup fun d hd => by
  obtain ⟨y, h1, rfl⟩ := List.mem_map.mp hd
  exact eo_str 0 y (hy y h1)
theorem gIn_strT (neg : Bool) {a : Str} {ys : List Str} (ha : lays a = true) (hy : ∀ y ∈ ys, lays y = true) (Q : D → Prop) : gIn neg (.str a) (.tup (ys.map D.str)) Q = Q (.bl (if neg then !decide (a ∈ ys) else decide (a ∈ ys))) := propext ⟨fun h => by
  have := h.2.2
  rwa [any_strs] at this, fun h => ⟨(eo_str 0 a ha).ok, (eo_strsT hy).ok, by rwa [any_strs]⟩⟩
theorem gIn_t2 (a b c : Str) (Q : D → Prop) (ha : lays a = true) (hb : lays b = true) (hc : lays c = true) : gIn false (.str a) (.tup [.str b, .str c]) Q = Q (.bl (decide (a = b) || decide (a = c))) := by
  have := gIn_strT false (ys := [b, c]) ha (fun y m => by
    simp only [List.mem_cons, List.not_mem_nil, or_false] at m
    rcases m with rfl | rfl <;> assumption) Q
  rw [show (D.tup [.str b, .str c]) = .tup ([b, c].map D.str) from rfl, this]
  simp
theorem gIn_t3 (a b c d : Str) (Q : D → Prop) (ha : lays a = true) (hb : lays b = true) (hc : lays c = true) (hd : lays d = true) : gIn false (.str a) (.tup [.str b, .str c, .str d]) Q = Q (.bl (decide (a = b) || (decide (a = c) || decide (a = d)))) := by
  have := gIn_strT false (ys := [b, c, d]) ha (fun y m => by
    simp only [List.mem_cons, List.not_mem_nil, or_false] at m
    rcases m with rfl | rfl | rfl <;> assumption) Q
  rw [show (D.tup [.str b, .str c, .str d]) = .tup ([b, c, d].map D.str) from rfl, this]
  simp
end Dl
open PySem L2 Dl in
local macro_rules | `(tactic| walk_at "dl") => `(tactic| simp (decide := true) only [dSeq, dSet, dSetN, dIfS, dRet, dRetV, dRetN, dExpr, dBreak, dCont, dNext, dFrz, frz, dApp, dExt, dExtA, dSetIx, dFor, dForB, dAsg, dVar, dVarQ, dC, dImm, dLst, d1, d2, n1, n2, dNil, dCons, dTup, dCall, dCallQ, dMeth, dMake, dSetF, dFldI, dFldV, dRaise0, dRaise1, dTry, dB, dTru, dNot, dAnd, dOr, dAndV, dOrV, dNotV, dIf, dSl, nSl, oNo, oSome, iIt, iR1, iR2, iStrD, gItems_lst, gItems_tup, gItems_scr, dLc, dYes, dRd, kD, kI, kSu, DK.xq, gLen_lst, gLen_tup, gLen_scr, gListN_lst, gListN_tup, gTuple_lst, gTuple_tup, gRevN, gCat_lst, gSlN_lst, gSl_lst, gSl_tup, gSl_str, bTup_tup, setAll, gEq_bl, gNe_bl, cut_t1, cut_t2, cut_t3, cut_f1, gIx_rd0, gIx_rd1, gIx_rd2, gEq_int, gNe_int, dIndexL, dExIs, dExFld, putD, List.getElem?_cons_zero, List.getElem?_cons_succ, List.set_cons_zero, List.set_cons_succ, if_true, if_false, Bool.false_eq_true, ite_true, ite_false, decide_true, decide_false, Bool.not_true, Bool.not_false, true_and, and_true, gAdd_int, gAdd_str, gAdd_lst, gAdd_tup, gMns_int, gI2_int, gCmp_int, gNeg_int, gIsN_non, gNotN_non, gTru_non, gTru_bl, gTru_int, gTru_lst, gTru_tup, gInt_int, gInt_bl, gEq_strL, gNe_strL, gStr_int, gMin_int, gMax_int, gIsi_int_non, gIsi_int_bl, gIsi_int_int, gIsi_int_str, gIsi_int_tup, gIsi_int_lst, gIsi_bool_non, gIsi_bool_bl, gIsi_bool_int, gIsi_bool_str, gIsi_bool_tup, gIsi_bool_lst, gIsi_str_non, gIsi_str_bl, gIsi_str_int, gIsi_str_str, gIsi_str_tup, gIsi_str_lst, gIsi_tuple_non, gIsi_tuple_bl, gIsi_tuple_int, gIsi_tuple_str, gIsi_tuple_tup, gIsi_tuple_lst, gIsi_list_non, gIsi_list_bl, gIsi_list_int, gIsi_list_str, gIsi_list_tup, gIsi_list_lst, gIsi2_lt_non, gIsi2_lt_bl, gIsi2_lt_int, gIsi2_lt_str, gIsi2_lt_tup, gIsi2_lt_lst, isNon_non, isNon_bl, isNon_int, isNon_str, isNon_tup, isNon_lst, gIx_tup0, gIx_lst0, gIx_tup1, gIx_lst1, gIx_tup2, gIx_lst2, gIx_tup3, gIx_lst3, gIx_tup4, gIx_lst4, gIx_tup5, gIx_lst5, gIx_tup6, gIx_lst6, gIx_tup7, gIx_lst7, ex_is, ex_fl, lk_hd, gIn_t2, gIn_t3, or_true, or_false, true_or, false_or, Bool.or_true, Bool.or_false, Bool.true_or, Bool.false_or, lay_0, lay_1, lay_2, lay_3, lay_4, lay_5, lay_6, lay_7, lay_8, lay_9, lay_10, lay_11, lay_12, lay_13, lay_14, lay_15, lay_16, lay_17, lay_18, lay_19, lay_20, lay_21, lay_22, lay_23, lay_24, lay_25, lay_26, lay_27, lay_28, lay_29, lay_30, lay_31, lay_32, lay_33, lay_34, lay_35, lay_36, lay_37, lay_38, lay_39, lay_40, lay_41, lay_42, lay_43, lay_44, lay_45, lay_46, lay_47, lay_48, lay_49, lay_50, lay_51, lay_52, lay_53, lay_54, lay_55, lay_56, lay_57, lay_58, lay_59, lay_60, lay_61, lay_62, lay_63, lay_64, lay_65, lay_66, lay_67, lay_68, lay_69, lay_70, lay_71, lay_72, lay_73, lay_74, lay_75, lay_76, lay_77, lay_78, lay_79, lay_80, lay_81, lay_82, lay_83, lay_84, lay_85, lay_86, lay_87, lay_88, lay_89, lay_90, lay_91, lay_92, lay_93, lay_94, lay_95, lay_96, lay_97, lay_98, lay_99, lay_100, lay_101, lay_102, lay_103, lay_104, lay_105, lay_106, lay_107, lay_108, lay_109, lay_110, lay_111, lay_112, lay_113, lay_114, lay_115, lay_116, lay_117, lay_118, lay_119, lay_120, lay_121, lay_122, lay_123, lay_124, lay_125, lay_126, lay_127, lay_128, lay_129, lay_130, lay_131, lay_132, lay_133, lay_134, lay_135, lay_136, lay_137, lay_138, lay_139, lay_140, lay_141, lay_142, lay_143, lay_144, lay_145, lay_146, lay_147, lay_148, lay_149, lay_150, lay_151, lay_152, lay_153, lay_154, lay_155, lay_156, lay_157, lay_158, lay_159, lay_160, lay_161, lay_162, lay_163, lay_164, lay_165, lay_166, lay_167, lay_168, lay_169, lay_170])
namespace K75
open PySem L2 Dl
open _root_.Expr hiding lays
theorem xIs {cs : List Str} {isa : Str → Bool} {c : Str} {fs : List (Str × D)} {Q : D → Prop} (h : c ∈ cs) : gIsX cs isa (.exc c fs) Q = Q (.bl (isa c)) := propext ⟨fun z => z.2, fun z => ⟨h, z⟩⟩
def S__law_reader : DF := fun ds Q _ => ∃ ns : List Int, ds = [.scr ns, .int 0] ∧ Q .rd
theorem p__law_reader (ds : List D) (Qd : D → Prop) (Xq : XQ) (h : S__law_reader ds Qd Xq) : b__law_reader (kD Qd Xq) (startD 3 ds) := by
  obtain ⟨ns, rfl, h⟩ := h
  show b__law_reader (kD Qd Xq) [.fz (.scr ns), .fz (.int 0), .un]
  have fin : ∀ a : Int, dRet (dRd (dCons (dVar 2) (dCons (dC (.int 0)) (dCons (d2 gMns (dVar 2) (d2 gPow (dC (.int 10)) (dC (.int 18)))) dNil)))) (kD Qd Xq) [.fz (.scr ns), .fz (.int 0), .fz (.int a)] := fun a => by
    walk_at "dl"
    exact ⟨⟨by decide, by decide, by decide⟩, ⟨a, 0, _, rfl⟩, h⟩
  unfold b__law_reader
  by_cases hk : 0 < (ns.length : Int)
  · walk_at "dl"
    rw [if_pos (decide_eq_true hk)]
    obtain ⟨a, e, _⟩ := atI_in (Int.le_refl 0) hk
    rw [gIx_scr e]
    exact fin a
  · walk_at "dl"
    rw [if_neg (by simpa using hk)]
    exact fin 0
def S__law_same : DF := fun ds Q _ => ∃ d, ds = [d, d] ∧ ((∃ i, d = .int i) ∨ ∃ s, d = .str s ∧ lays s = true) ∧ Q (.bl true)
theorem p__law_same (ds : List D) (Qd : D → Prop) (Xq : XQ) (h : S__law_same ds Qd Xq) : b__law_same (kD Qd Xq) (startD 2 ds) := by
  obtain ⟨d, rfl, hd, h⟩ := h
  show b__law_same (kD Qd Xq) [.fz d, .fz d]
  rcases hd with ⟨i, rfl⟩ | ⟨s, rfl, hs⟩
  · unfold b__law_same
    walk_at "dl"
    exact h
  · unfold b__law_same
    walk_at "dl"
    rw [gEq_strL _ _ _ hs hs]
    simpa using h
def Ins : List Str := ["InvalidText", "InvalidProgram", "InvalidContract", "InvalidChange", "InvalidStream", "InvalidPlaces", "InvalidEdit", "InvalidLine", "InvalidName", "Mismatch"]
def Ots : List Str := ["TooLarge", "TooLong", "TooManyCases", "NameTaken", "UnknownName", "NothingToUndo", "NothingToRedo"]
def S__law_inputs : DF := fun ds Q _ => ∃ c fs, ds = [.exc c fs] ∧ c ∈ XCs ∧ Q (.lst (Ins.map fun y => .bl (isaF c y)))
theorem p__law_inputs (ds : List D) (Qd : D → Prop) (Xq : XQ) (h : S__law_inputs ds Qd Xq) : b__law_inputs (kD Qd Xq) (startD 2 ds) := by
  obtain ⟨c, fs, rfl, hc, h⟩ := h
  show b__law_inputs (kD Qd Xq) [.fz (.exc c fs), .un]
  unfold b__law_inputs
  unfold Ins at h
  walk_at "dl"
  simp only [xIs hc]
  refine ⟨?_, ?_, h⟩ <;> (rw [sizeLine_eq]; simp only [List.length_append, List.length_cons, List.length_nil]; decide)
def S__law_others : DF := fun ds Q _ => ∃ c fs, ds = [.exc c fs] ∧ c ∈ XCs ∧ Q (.lst (Ots.map fun y => .bl (isaF c y)))
theorem p__law_others (ds : List D) (Qd : D → Prop) (Xq : XQ) (h : S__law_others ds Qd Xq) : b__law_others (kD Qd Xq) (startD 2 ds) := by
  obtain ⟨c, fs, rfl, hc, h⟩ := h
  show b__law_others (kD Qd Xq) [.fz (.exc c fs), .un]
  unfold b__law_others
  unfold Ots at h
  walk_at "dl"
  simp only [xIs hc]
  refine ⟨?_, ?_, h⟩ <;> (rw [sizeLine_eq]; simp only [List.length_append, List.length_cons, List.length_nil]; decide)
def xc (k : Nat) : Str := XCs.getD k ""
theorem xc_mem {k : Nat} (h : k < 17) : xc k ∈ XCs := by
  have : ∀ k < 17, xc k ∈ XCs := by decide +kernel
  exact this k h
theorem xc_is {k : Nat} (h : k < 17) : isaF (xc k) "MendError" = true ∧ isaF (xc k) "InvalidInput" = decide (k < 10) ∧ isaF (xc k) "BoundError" = decide (9 < k ∧ k < 13) ∧ isaF (xc k) "DeskError" = decide (12 < k) ∧ (Ins ++ Ots).map (isaF (xc k)) = (List.range 17).map fun j => decide (j = k) := by
  have : ∀ k < 17, isaF (xc k) "MendError" = true ∧ isaF (xc k) "InvalidInput" = decide (k < 10) ∧ isaF (xc k) "BoundError" = decide (9 < k ∧ k < 13) ∧ isaF (xc k) "DeskError" = decide (12 < k) ∧ (Ins ++ Ots).map (isaF (xc k)) = (List.range 17).map fun j => decide (j = k) := by decide +kernel
  exact this k h
def S__law_is : DF := fun ds Q _ => ∃ (k : Nat) (fs : List (Str × D)), ds = [.exc (xc k) fs, .int (k : Int)] ∧ k < 17 ∧ Q (.bl true)
theorem p__law_is (ds : List D) (Qd : D → Prop) (Xq : XQ) (h : S__law_is ds Qd Xq) : b__law_is S__law_inputs S__law_others (kD Qd Xq) (startD 4 ds) := by
  obtain ⟨k, fs, rfl, hk, h⟩ := h
  show b__law_is S__law_inputs S__law_others (kD Qd Xq) [.fz (.exc (xc k) fs), .fz (.int (k : Int)), .un, .un]
  obtain ⟨i1, i2, i3, i4, i5⟩ := xc_is hk
  have hc := xc_mem hk
  unfold b__law_is
  walk_at "dl"
  simp only [xIs hc, i1, i2, i3, i4]
  walk_at "dl"
  have e5 : (Ins.map fun y => D.bl (isaF (xc k) y)) ++ (Ots.map fun y => D.bl (isaF (xc k) y)) = (List.range 17).map (fun j => D.bl (decide (j = k))) := by
    rw [← List.map_append]
    have := congrArg (List.map D.bl) i5
    rw [List.map_map, List.map_map] at this
    exact this
  have rest : ∀ (xq : XQ) (ρ : En), ρ[1]? = some (.fz (.int (k : Int))) → 3 < ρ.length → S__law_inputs [.exc (xc k) fs] (fun x => S__law_others [.exc (xc k) fs] (fun y => gAdd x y fun x => lcLoop dYes (d2 gEq (dVar 3) (dVar 1)) 3 ρ (fun ds => gEq x (.lst ds) fun d => Qd d) (rng 0 (Int.toNat 17)) []) xq) xq := fun xq ρ hρ h4 => by
    refine ⟨_, _, rfl, hc, _, _, rfl, hc, ?_⟩
    show gAdd (.lst _) (.lst _) _
    rw [gAdd_lst]
    refine ⟨by rw [sizeLine_eq, List.length_map, List.length_map]; decide, ?_⟩
    rw [e5]
    refine lc_map (fun j : Nat => D.int (0 + (j : Int))) (List.range 17) (fun j => .bl (decide (j = k))) (fun j _ xq' Q q => ?_) ?_
    · have h1 : (ρ.set 3 (.fz (D.int (0 + (j : Int)))))[1]? = some (.fz (.int (k : Int))) := by rw [List.getElem?_set_ne (by decide)]; exact hρ
      have h3 : (ρ.set 3 (.fz (D.int (0 + (j : Int)))))[3]? = some (.fz (D.int (0 + (j : Int)))) := by rw [List.getElem?_set_self h4]
      unfold d2 dVar
      rw [h3]
      show (match (ρ.set 3 (.fz (D.int (0 + (j : Int)))))[1]? with | some (S.fz d) => gEq (.int (0 + (j : Int))) d Q | x => False)
      rw [h1]
      show gEq (.int (0 + (j : Int))) (.int (k : Int)) Q
      rw [gEq_int]
      have : decide ((0 : Int) + (j : Int) = (k : Int)) = decide (j = k) := by simp only [decide_eq_decide]; omega
      rw [this]
      exact q
    · refine gEq_self (n := 2) ?_ (by decide) h
      unfold eqB
      refine eqL_of fun d hd => ?_
      obtain ⟨j, _, rfl⟩ := List.mem_map.mp hd
      unfold eqB; rfl
  have d1' : decide ((k : Int) < 10) = decide (k < 10) := by simp only [decide_eq_decide]; omega
  have d2' : decide ((9 : Int) < (k : Int)) = decide (9 < k) := by simp only [decide_eq_decide]; omega
  have d3' : decide ((k : Int) < 13) = decide (k < 13) := by simp only [decide_eq_decide]; omega
  have d4' : decide ((12 : Int) < (k : Int)) = decide (12 < k) := by simp only [decide_eq_decide]; omega
  rw [d1', d2', d3', d4']
  have go : ∀ (a b c : Bool) (Q : D → Prop), Q (.bl false) → gNe (.lst [.bl a, .bl b, .bl c]) (.lst [.bl a, .bl b, .bl c]) Q := fun a b c Q q => by
    refine gNe_self (n := 2) ?_ (by decide) q
    unfold eqB
    refine eqL_of fun d hd => ?_
    simp only [List.mem_cons, List.not_mem_nil, or_false] at hd
    rcases hd with rfl | rfl | rfl <;> (unfold eqB; rfl)
  by_cases h9 : 9 < k
  · rw [if_pos (decide_eq_true h9), show decide (9 < k ∧ k < 13) = decide (k < 13) by simp [h9]]
    refine go _ _ _ _ ?_
    exact rest _ _ rfl (by show 3 < 4; omega)
  · rw [if_neg (by simp [h9]), show decide (9 < k ∧ k < 13) = false by simp [h9]]
    refine go _ _ _ _ ?_
    exact rest _ _ rfl (by show 3 < 4; omega)
def S__law_attributes : DF := fun ds Q _ => ∃ (n : Int) (w : Str), ds = [.int n, .str w] ∧ lays w = true ∧ Q (.bl true)
theorem xFl {cs : List Str} {f c : Str} {d : D} {Q : D → Prop} (h : c ∈ cs) : gXFld cs f (.exc c [(f, d)]) Q = Q d := propext ⟨fun z => by
  obtain ⟨_, d', e, q⟩ := z
  simp [List.lookup] at e
  subst e
  exact q, fun z => ⟨h, d, by simp [List.lookup], z⟩⟩
theorem p__law_attributes (ds : List D) (Qd : D → Prop) (Xq : XQ) (h : S__law_attributes ds Qd Xq) : b__law_attributes S__law_same (kD Qd Xq) (startD 5 ds) := by
  obtain ⟨n, w, rfl, hw, h⟩ := h
  show b__law_attributes S__law_same (kD Qd Xq) [.fz (.int n), .fz (.str w), .un, .un, .un]
  unfold b__law_attributes
  unfold dExN1
  walk_at "dl"
  simp (decide := true) only [xFl]
  simp only [List.cons_append, List.nil_append, List.length_cons, List.length_nil]
  have sl : sizeLine = 16777216 := sizeLine_eq
  refine ⟨by rw [sl]; decide, by rw [sl]; decide, by rw [sl]; decide, ?_⟩
  show lcLoop _ _ _ _ _ ((List.range 5).map fun _ => D.int n) []
  refine lc_map (fun _ : Nat => D.int n) (List.range 5) (fun _ => .bl true) (fun j _ xq' Q q => ?_) ?_
  · walk_at "dl"
    exact ⟨_, rfl, .inl ⟨n, rfl⟩, q⟩
  · rw [gAll_map (fun _ => true), List.all_eq_true.mpr (fun _ _ => rfl)]
    walk_at "dl"
    show lcLoop _ _ _ _ _ ((List.range 7).map fun _ => D.str w) []
    refine lc_map (fun _ : Nat => D.str w) (List.range 7) (fun _ => .bl true) (fun j _ xq' Q q => ?_) ?_
    · walk_at "dl"
      exact ⟨_, rfl, .inr ⟨w, rfl, hw⟩, q⟩
    · rw [gAll_map (fun _ => true), List.all_eq_true.mpr (fun _ _ => rfl)]
      exact h
theorem lay_iff (s : Str) : lays s = true ↔ ∀ c ∈ s.cps.toList, c < 0x110000 := by
  show s.cps.all (· < 0x110000) = true ↔ _
  rw [← Array.all_toList, List.all_eq_true]
  simp only [decide_eq_true_eq]
theorem lay_app {s t : Str} (hs : lays s = true) (ht : lays t = true) : lays (s ++ t) = true := by
  rw [lay_iff] at *
  intro c hc
  have : (s ++ t).cps.toList = s.cps.toList ++ t.cps.toList := by show (s.cps ++ t.cps).toList = _; simp
  rw [this] at hc
  rcases List.mem_append.mp hc with hc | hc
  · exact hs c hc
  · exact ht c hc
theorem len_app (s t : Str) : (s ++ t).length = s.length + t.length := by show (s.cps ++ t.cps).size = _; simp; rfl
def mkL (n : Int) (w : Str) : List D := [.exc "InvalidText" [("position", .int n)], .exc "InvalidProgram" [("reason", .str w)], .exc "InvalidContract" [("reason", .str w)], .exc "InvalidChange" [], .exc "InvalidStream" [], .exc "InvalidPlaces" [("place", .int n)], .exc "InvalidEdit" [("place", .int n)], .exc "InvalidLine" [("number", .int n)], .exc "InvalidName" [("name", .str w)], .exc "Mismatch" [], .exc "TooLarge" [("what", .str w)], .exc "TooLong" [("what", .str w)], .exc "TooManyCases" [("limit", .int n)], .exc "NameTaken" [("name", .str w)], .exc "UnknownName" [("name", .str w)], .exc "NothingToUndo" [], .exc "NothingToRedo" []]
theorem mk_get {n : Int} {w : Str} {k : Nat} (h : k < 17) : ∃ fs, (mkL n w)[k]? = some (.exc (xc k) fs) := by
  rcases (show k = 0 ∨ k = 1 ∨ k = 2 ∨ k = 3 ∨ k = 4 ∨ k = 5 ∨ k = 6 ∨ k = 7 ∨ k = 8 ∨ k = 9 ∨ k = 10 ∨ k = 11 ∨ k = 12 ∨ k = 13 ∨ k = 14 ∨ k = 15 ∨ k = 16 by omega) with rfl | rfl | rfl | rfl | rfl | rfl | rfl | rfl | rfl | rfl | rfl | rfl | rfl | rfl | rfl | rfl | rfl <;> exact ⟨_, rfl⟩
theorem up_lay : lays (Txt.upper "abcxyz0189 _-(") = true := by decide +kernel
theorem p_law (ds : List D) (Qd : D → Prop) (Xq : XQ) (h : S_law ds Qd Xq) : b_law S__law_reader S_next S__law_is S__law_attributes (kD Qd Xq) (startD 6 ds) := by
  obtain ⟨ns, rfl, _, h⟩ := h
  show b_law S__law_reader S_next S__law_is S__law_attributes (kD Qd Xq) [.fz (.scr ns), .un, .un, .un, .un, .un]
  unfold b_law dExN0 dExN1
  walk_at "dl"
  refine ⟨ns, rfl, ?_⟩
  refine ⟨10000, rfl, by decide, by decide, fun l l0 l1 => ?_⟩
  walk_at "dl"
  refine ⟨12, rfl, by decide, by decide, fun y y0 y1 => ?_⟩
  walk_at "dl"
  refine ⟨by omega, by omega, ?_⟩
  refine for_rng (fun j ρ => ∃ (w : Str) (s4 : S), ρ = [.fz (.scr ns), .fz .rd, .fz (.int (l - 9)), .fz (.str w), s4, .un] ∧ lays w = true ∧ w.length ≤ j) ⟨"", _, rfl, by decide +kernel, by decide +kernel⟩ (fun j ρ N hj hi hN => ?_) (fun ρ hi => ?_)
  · obtain ⟨w, s4, rfl, lw, wl⟩ := hi
    walk_at "dl"
    unfold gUpper
    walk_at "dl"
    refine ⟨14, rfl, by decide, by decide, fun i i0 i1 => ?_⟩
    have hl : (Txt.upper "abcxyz0189 _-(").cps.toList.length = 14 := by decide +kernel
    obtain ⟨c, e, hc⟩ := atI_in (l := (Txt.upper "abcxyz0189 _-(").cps.toList) i0 (by rw [hl]; exact i1)
    show _ ∧ (match atI (Txt.upper "abcxyz0189 _-(").cps.toList i with | some c => _ | none => False)
    rw [e]
    refine ⟨by decide +kernel, ?_⟩
    show gAdd (.str w) (.str _) _
    rw [gAdd_str]
    have l1 : (⟨#[c]⟩ : Str).length = 1 := rfl
    have lc : lays ⟨#[c]⟩ = true := by
      have := (lay_iff _).mp up_lay c hc
      rw [lay_iff]
      intro x hx
      have : x = c := by simpa using hx
      rw [this]; assumption
    refine ⟨by rw [l1, sizeLine_eq]; omega, hN _ ⟨_, _, rfl, lay_app lw lc, ?_⟩⟩
    rw [len_app, l1]
    omega
  · obtain ⟨w, s4, rfl, lw, wl⟩ := hi
    walk_at "dl"
    simp only [List.cons_append, List.nil_append, List.length_cons, List.length_nil]
    have sl : sizeLine = 16777216 := sizeLine_eq
    refine ⟨by rw [sl]; decide, by rw [sl]; decide, by rw [sl]; decide, ?_⟩
    refine for_rng (fun j ρ => ∃ s4, ρ = [.fz (.scr ns), .fz .rd, .fz (.int (l - 9)), .fz (.str w), s4, .fz (.lst (mkL (l - 9) w))]) ⟨_, rfl⟩ (fun j ρ N hj hi hN => ?_) (fun ρ hi => ?_)
    · obtain ⟨s4, rfl⟩ := hi
      have hj : j < 17 := hj
      obtain ⟨fs, e⟩ := mk_get (n := l - 9) (w := w) hj
      have e' : atI (mkL (l - 9) w) (0 + (j : Int)) = some (.exc (xc j) fs) := by
        rw [Int.zero_add, atI_nat]
        exact e
      walk_at "dl"
      rw [gIx_lst e']
      refine ⟨j, fs, by rw [Int.zero_add], hj, ?_⟩
      walk_at "dl"
      exact hN _ ⟨_, rfl⟩
    · obtain ⟨s4, rfl⟩ := hi
      walk_at "dl"
      refine ⟨_, _, rfl, lw, ?_⟩
      walk_at "dl"
      have e0 : gIx (.lst (mkL (l - 9) w)) (.int 0) = fun Q => Q (.exc "InvalidText" [("position", .int (l - 9))]) := by
        funext Q
        exact gIx_lst (atI_0 _ _) Q
      rw [e0]
      show gXFld ["InvalidText"] "position" (.exc "InvalidText" [("position", .int (l - 9))]) _
      rw [xFl (by decide), gEq_int, decide_eq_true rfl]
      exact h
end K75
namespace K75
open PySem L2 Dl PyProof.Rows Rnd
section
variable {P : Program} {w : World} {K : PySem.W.Frag} {mg : Str → Option Value} {base : Heap} {C : Str → Addr}
theorem sc__law_reader : FnScope ["script", "k", "cell"] ["script", "k"] (defScope st__law_reader) := ⟨rfl, rfl, rfl, by decide +kernel, rfl, by decide +kernel, by decide +kernel⟩
theorem c__law_reader {f : Addr} {fd : FuncData} {k : Nat} {S : DF} (F : FunD K "_law_reader" "_law_reader" (defArgs st__law_reader) (defBody st__law_reader) (defScope st__law_reader) [] [] f fd) (gf : mg "_law_reader" = some (.ref f)) (hbl : ∀ n, bl0 n = true → mg n = none) (kc : KC K mg C TB)
    (len : ∀ ds Q Xq, S ds Q Xq → ds.length = 2) (spec : ∀ ds Qd Xq, S ds Qd Xq → b__law_reader (kD Qd Xq) (startD 3 ds)) : Cal P w K mg base C (k + 1) "_law_reader" S := by
  refine dfn F gf sc__law_reader (FunD.bindsN F fun _ _ _ _ _ _ us hl => match us, hl with | [_, _], _ => rfl) hbl len (fun cdv A outer s H E g => ?_) spec
  exact (css_cons (cs_set 2 sc__law_reader.nd (ce_ifx (ct_lt (CE.q (ce_var (pv 1))) (CE.q (ce_len g.toGE (CE.q (ce_var (pv 0)))))) (ce_ix (CE.q (ce_var (pv 0))) (CE.q (ce_var (pv 1)))) ce_int))
  (css_one (cs_ret (CN.rd (cn_lst (ca_cons (ce_var (pv 2)) (ca_cons ce_int (ca_cons (ce_sub (CE.q (ce_var (pv 2))) (CE.q (ce_pow (CE.q ce_int) (CE.q ce_int)))) ca_nil))))))))
theorem sc__law_next : FnScope ["reader", "size", "k", "rest", "mixed"] ["reader", "size"] (defScope st__law_next) := ⟨rfl, rfl, rfl, by decide +kernel, rfl, by decide +kernel, by decide +kernel⟩
theorem c__law_next {f : Addr} {fd : FuncData} {k : Nat} {S : DF} (F : FunD K "_law_next" "_law_next" (defArgs st__law_next) (defBody st__law_next) (defScope st__law_next) [] [] f fd) (gf : mg "_law_next" = some (.ref f)) (hbl : ∀ n, bl0 n = true → mg n = none) (kc : KC K mg C TB)
    (len : ∀ ds Q Xq, S ds Q Xq → ds.length = 2) (spec : ∀ ds Qd Xq, S ds Qd Xq → b__law_next (kD Qd Xq) (startD 5 ds)) : Cal P w K mg base C (k + 1) "_law_next" S := by
  refine dfn F gf sc__law_next (FunD.bindsN F fun _ _ _ _ _ _ us hl => match us, hl with | [_, _], _ => rfl) hbl len (fun cdv A outer s H E g => ?_) spec
  exact (css_cons (cs_set 2 sc__law_next.nd (ce_ix (CE.q (ce_var (pv 0))) (CE.q ce_int)))
  (css_cons (cs_setix 0 (pv 0) (ce_add (CE.q (ce_var (pv 2))) (CE.q ce_int)) (CE.q ce_int))
  (css_cons (cs_if (CW.t (cw_and (ct_ge (CE.q (ce_ix (CE.q (ce_var (pv 0))) (CE.q ce_int))) (CE.q (ce_pow (CE.q ce_int) (CE.q ce_int)))) (cw_and1 (ct_gt (CE.q (ce_ix (CE.q (ce_var (pv 0))) (CE.q ce_int))) (CE.q ce_int)))))
    (css_cons (cs_set 3 sc__law_next.nd (ce_ix (CE.q (ce_var (pv 0))) (CE.q ce_int)))
    (css_cons (cs_setix 0 (pv 0) (ce_fdiv (CE.q (ce_var (pv 3))) (CE.q (ce_var (pv 1)))) (CE.q ce_int))
    (css_one (cs_ret (ce_mod (CE.q (ce_int1 g.toGE (CE.q (ce_var (pv 3))))) (CE.q (ce_var (pv 1))))))))
    css_nil)
  (css_cons (cs_set 4 sc__law_next.nd (ce_mod (CE.q (ce_int1 g.toGE (CE.q (ce_add (CE.q (ce_add (CE.q (ce_ix (CE.q (ce_var (pv 0))) (CE.q ce_int))) (CE.q (ce_mul (CE.q ce_int) (CE.q (ce_var (pv 2))))))) (CE.q ce_int))))) (CE.q ce_int)))
  (css_cons (cs_set 4 sc__law_next.nd (ce_mod (CE.q (ce_int1 g.toGE (CE.q (ce_mul (CE.q (ce_var (pv 4))) (CE.q (ce_add (CE.q (ce_var (pv 4))) (CE.q ce_int))))))) (CE.q ce_int)))
  (css_cons (cs_set 4 sc__law_next.nd (ce_mod (CE.q (ce_int1 g.toGE (CE.q (ce_add (CE.q (ce_mul (CE.q (ce_var (pv 4))) (CE.q (ce_add (CE.q (ce_var (pv 4))) (CE.q ce_int))))) (CE.q (ce_mul (CE.q ce_int) (CE.q (ce_var (pv 2))))))))) (CE.q ce_int)))
  (css_one (cs_ret (ce_mod (CE.q (ce_int1 g.toGE (CE.q (ce_fdiv (CE.q (ce_var (pv 4))) (CE.q ce_int))))) (CE.q (ce_var (pv 1))))))))))))
theorem sc__law_same : FnScope ["told", "due"] ["told", "due"] (defScope st__law_same) := ⟨rfl, rfl, rfl, by decide +kernel, rfl, by decide +kernel, by decide +kernel⟩
theorem c__law_same {f : Addr} {fd : FuncData} {k : Nat} {S : DF} (F : FunD K "_law_same" "_law_same" (defArgs st__law_same) (defBody st__law_same) (defScope st__law_same) [] [] f fd) (gf : mg "_law_same" = some (.ref f)) (hbl : ∀ n, bl0 n = true → mg n = none) (kc : KC K mg C TB)
    (len : ∀ ds Q Xq, S ds Q Xq → ds.length = 2) (spec : ∀ ds Qd Xq, S ds Qd Xq → b__law_same (kD Qd Xq) (startD 2 ds)) : Cal P w K mg base C (k + 1) "_law_same" S := by
  refine dfn F gf sc__law_same (FunD.bindsN F fun _ _ _ _ _ _ us hl => match us, hl with | [_, _], _ => rfl) hbl len (fun cdv A outer s H E g => ?_) spec
  exact (css_cons (cs_if (ct_b (CE.q (ce_isi ty_str boot_str g.toGE (CE.q (ce_var (pv 1))))))
    (css_one (cs_ret (ce_and (CE.q (ce_isi ty_str boot_str g.toGE (CE.q (ce_var (pv 0))))) (ce_and1 (ce_eq g.toGE (CE.q (ce_var (pv 0))) (CE.q (ce_var (pv 1))))))))
    css_nil)
  (css_one (cs_ret (ce_and (CE.q (ce_isi ty_int boot_int g.toGE (CE.q (ce_var (pv 0))))) (ce_and (CE.q (ce_not (CE.q (ce_isi ty_bool boot_bool g.toGE (CE.q (ce_var (pv 0))))))) (ce_and1 (ce_eq g.toGE (CE.q (ce_var (pv 0))) (CE.q (ce_var (pv 1))))))))))
theorem sc__law_inputs : FnScope ["e", "line"] ["e"] (defScope st__law_inputs) := ⟨rfl, rfl, rfl, by decide +kernel, rfl, by decide +kernel, by decide +kernel⟩
theorem c__law_inputs {f : Addr} {fd : FuncData} {k : Nat} {S : DF} (F : FunD K "_law_inputs" "_law_inputs" (defArgs st__law_inputs) (defBody st__law_inputs) (defScope st__law_inputs) [] [] f fd) (gf : mg "_law_inputs" = some (.ref f)) (hbl : ∀ n, bl0 n = true → mg n = none) (kc : KC K mg C TB)
    (len : ∀ ds Q Xq, S ds Q Xq → ds.length = 1) (spec : ∀ ds Qd Xq, S ds Qd Xq → b__law_inputs (kD Qd Xq) (startD 2 ds)) : Cal P w K mg base C (k + 1) "_law_inputs" S := by
  refine dfn F gf sc__law_inputs (FunD.bindsN F fun _ _ _ _ _ _ us hl => match us, hl with | [_], _ => rfl) hbl len (fun cdv A outer s H E g => ?_) spec
  exact (css_cons (cs_set 1 sc__law_inputs.nd (CN.own (cn_lst (ca_cons (ce_isX (cs := XCs) kc.isx kc.g g.toGE (CE.q (ce_var (pv 0)))) (ca_cons (ce_isX (cs := XCs) kc.isx kc.g g.toGE (CE.q (ce_var (pv 0)))) (ca_cons (ce_isX (cs := XCs) kc.isx kc.g g.toGE (CE.q (ce_var (pv 0)))) ca_nil))))))
  (css_cons (cs_set 1 sc__law_inputs.nd (ce_add (CE.q (ce_var (pv 1))) (CE.q (CN.own (cn_lst (ca_cons (ce_isX (cs := XCs) kc.isx kc.g g.toGE (CE.q (ce_var (pv 0)))) (ca_cons (ce_isX (cs := XCs) kc.isx kc.g g.toGE (CE.q (ce_var (pv 0)))) (ca_cons (ce_isX (cs := XCs) kc.isx kc.g g.toGE (CE.q (ce_var (pv 0)))) ca_nil))))))))
  (css_one (cs_ret (ce_add (CE.q (ce_var (pv 1))) (CE.q (CN.own (cn_lst (ca_cons (ce_isX (cs := XCs) kc.isx kc.g g.toGE (CE.q (ce_var (pv 0)))) (ca_cons (ce_isX (cs := XCs) kc.isx kc.g g.toGE (CE.q (ce_var (pv 0)))) (ca_cons (ce_isX (cs := XCs) kc.isx kc.g g.toGE (CE.q (ce_var (pv 0)))) (ca_cons (ce_isX (cs := XCs) kc.isx kc.g g.toGE (CE.q (ce_var (pv 0)))) ca_nil))))))))))))
theorem sc__law_others : FnScope ["e", "line"] ["e"] (defScope st__law_others) := ⟨rfl, rfl, rfl, by decide +kernel, rfl, by decide +kernel, by decide +kernel⟩
theorem c__law_others {f : Addr} {fd : FuncData} {k : Nat} {S : DF} (F : FunD K "_law_others" "_law_others" (defArgs st__law_others) (defBody st__law_others) (defScope st__law_others) [] [] f fd) (gf : mg "_law_others" = some (.ref f)) (hbl : ∀ n, bl0 n = true → mg n = none) (kc : KC K mg C TB)
    (len : ∀ ds Q Xq, S ds Q Xq → ds.length = 1) (spec : ∀ ds Qd Xq, S ds Qd Xq → b__law_others (kD Qd Xq) (startD 2 ds)) : Cal P w K mg base C (k + 1) "_law_others" S := by
  refine dfn F gf sc__law_others (FunD.bindsN F fun _ _ _ _ _ _ us hl => match us, hl with | [_], _ => rfl) hbl len (fun cdv A outer s H E g => ?_) spec
  exact (css_cons (cs_set 1 sc__law_others.nd (CN.own (cn_lst (ca_cons (ce_isX (cs := XCs) kc.isx kc.g g.toGE (CE.q (ce_var (pv 0)))) (ca_cons (ce_isX (cs := XCs) kc.isx kc.g g.toGE (CE.q (ce_var (pv 0)))) (ca_cons (ce_isX (cs := XCs) kc.isx kc.g g.toGE (CE.q (ce_var (pv 0)))) ca_nil))))))
  (css_cons (cs_set 1 sc__law_others.nd (ce_add (CE.q (ce_var (pv 1))) (CE.q (CN.own (cn_lst (ca_cons (ce_isX (cs := XCs) kc.isx kc.g g.toGE (CE.q (ce_var (pv 0)))) (ca_cons (ce_isX (cs := XCs) kc.isx kc.g g.toGE (CE.q (ce_var (pv 0)))) ca_nil)))))))
  (css_one (cs_ret (ce_add (CE.q (ce_var (pv 1))) (CE.q (CN.own (cn_lst (ca_cons (ce_isX (cs := XCs) kc.isx kc.g g.toGE (CE.q (ce_var (pv 0)))) (ca_cons (ce_isX (cs := XCs) kc.isx kc.g g.toGE (CE.q (ce_var (pv 0)))) ca_nil))))))))))
abbrev N__law_is : List Str := ["e", "number", "above", "k"]
theorem sc__law_is : FnScope ["e", "number", "above", "k"] ["e", "number"] (defScope st__law_is) := ⟨rfl, rfl, rfl, by decide +kernel, rfl, by decide +kernel, by decide +kernel⟩
theorem c__law_is {f : Addr} {fd : FuncData} {k : Nat} {S : DF} {S__law_inputs : DF} {S__law_others : DF} (F : FunD K "_law_is" "_law_is" (defArgs st__law_is) (defBody st__law_is) (defScope st__law_is) [] [] f fd) (gf : mg "_law_is" = some (.ref f)) (hbl : ∀ n, bl0 n = true → mg n = none) (kc : KC K mg C TB)
    (h__law_inputs : Cal P w K mg base C k "_law_inputs" S__law_inputs)
    (h__law_others : Cal P w K mg base C k "_law_others" S__law_others)
    (len : ∀ ds Q Xq, S ds Q Xq → ds.length = 2) (spec : ∀ ds Qd Xq, S ds Qd Xq → b__law_is S__law_inputs S__law_others (kD Qd Xq) (startD 4 ds)) : Cal P w K mg base C (k + 1) "_law_is" S := by
  refine dfn F gf sc__law_is (FunD.bindsN F fun _ _ _ _ _ _ us hl => match us, hl with | [_, _], _ => rfl) hbl len (fun cdv A outer s H E g => ?_) spec
  exact (css_cons (cs_if (CW.t (cw_or (ct_not (ct_b (CE.q (ce_isX (cs := XCs) kc.isx kc.g g.toGE (CE.q (ce_var (pv 0))))))) (cw_or1 (ct_not (ct_b (CE.q (ce_isXB (cs := XCs) kc.isve Boot.«ValueError» g.toGE (CE.q (ce_var (pv 0))))))))))
    (css_one (cs_ret ce_bl))
    css_nil)
  (css_cons (cs_set 2 sc__law_is.nd (CN.own (cn_lst (ca_cons (ce_isX (cs := XCs) kc.isx kc.g g.toGE (CE.q (ce_var (pv 0)))) (ca_cons (ce_isX (cs := XCs) kc.isx kc.g g.toGE (CE.q (ce_var (pv 0)))) (ca_cons (ce_isX (cs := XCs) kc.isx kc.g g.toGE (CE.q (ce_var (pv 0)))) ca_nil))))))
  (css_cons (cs_if (ct_ne g.toGE (CE.q (ce_var (pv 2))) (CE.q (CN.own (cn_lst (ca_cons (ce_lt (CE.q (ce_var (pv 1))) (CE.q ce_int)) (ca_cons (ce_and (CE.q (ce_lt (CE.q ce_int) (CE.q (ce_var (pv 1))))) (ce_and1 (ce_lt (CE.q (ce_var (pv 1))) (CE.q ce_int)))) (ca_cons (ce_lt (CE.q ce_int) (CE.q (ce_var (pv 1)))) ca_nil)))))))
    (css_one (cs_ret ce_bl))
    css_nil)
  (css_one (cs_ret (ce_eq g.toGE (CE.q (ce_add (CE.q (ce_call h__law_inputs g.toGE (ca_cons (ce_var (pv 0)) ca_nil) (Nat.le_refl _))) (CE.q (ce_call h__law_others g.toGE (ca_cons (ce_var (pv 0)) ca_nil) (Nat.le_refl _))))) (CE.q (CN.own (cn_lc g.toGE sc__law_is.nd (ci_r1 g.toGE (CE.q ce_int)) (by show blkC N__law_is (defScope st__law_is) _ _ = true; decide +kernel) (fun _ _ _ _ _ => pg_name (i := 3) sc__law_is.nd rfl (Or.inl rfl)) (fun s1 H1 Cc1 cl1 fp1 => cts_nil) (fun s1 H1 Cc1 cl1 fp1 => ce_eq (GE.blk g.toGE s1 H1 _ _ fp1) (CE.q (ce_var (pv 3))) (CE.q (ce_var (pv 1)))))))))))))
abbrev N__law_attributes : List Str := ["number", "word", "numbers", "words", "told"]
theorem sc__law_attributes : FnScope ["number", "word", "numbers", "words", "told"] ["number", "word"] (defScope st__law_attributes) := ⟨rfl, rfl, rfl, by decide +kernel, rfl, by decide +kernel, by decide +kernel⟩
theorem c__law_attributes {f : Addr} {fd : FuncData} {k : Nat} {S : DF} {S__law_same : DF} (F : FunD K "_law_attributes" "_law_attributes" (defArgs st__law_attributes) (defBody st__law_attributes) (defScope st__law_attributes) [] [] f fd) (gf : mg "_law_attributes" = some (.ref f)) (hbl : ∀ n, bl0 n = true → mg n = none) (kc : KC K mg C TB)
    (hx_InvalidText : Ex1 P w K mg base C "InvalidText" "position")
    (hx_InvalidPlaces : Ex1 P w K mg base C "InvalidPlaces" "place")
    (hx_InvalidEdit : Ex1 P w K mg base C "InvalidEdit" "place")
    (hx_InvalidLine : Ex1 P w K mg base C "InvalidLine" "number")
    (hx_TooManyCases : Ex1 P w K mg base C "TooManyCases" "limit")
    (hx_InvalidProgram : Ex1 P w K mg base C "InvalidProgram" "reason")
    (hx_InvalidContract : Ex1 P w K mg base C "InvalidContract" "reason")
    (hx_InvalidName : Ex1 P w K mg base C "InvalidName" "name")
    (hx_TooLarge : Ex1 P w K mg base C "TooLarge" "what")
    (hx_TooLong : Ex1 P w K mg base C "TooLong" "what")
    (hx_NameTaken : Ex1 P w K mg base C "NameTaken" "name")
    (hx_UnknownName : Ex1 P w K mg base C "UnknownName" "name")
    (h__law_same : Cal P w K mg base C k "_law_same" S__law_same)
    (len : ∀ ds Q Xq, S ds Q Xq → ds.length = 2) (spec : ∀ ds Qd Xq, S ds Qd Xq → b__law_attributes S__law_same (kD Qd Xq) (startD 5 ds)) : Cal P w K mg base C (k + 3) "_law_attributes" S := by
  refine dfn F gf sc__law_attributes (FunD.bindsN F fun _ _ _ _ _ _ us hl => match us, hl with | [_, _], _ => rfl) hbl len (fun cdv A outer s H E g => ?_) spec
  exact (css_cons (cs_set 2 sc__law_attributes.nd (CN.own (cn_lst (ca_cons (ce_xFld (cs := ["InvalidText"]) kc.xfl (CE.q (ce_exN1 hx_InvalidText g.toGE (ce_var (pv 0)) (by omega)))) (ca_cons (ce_xFld (cs := ["InvalidPlaces", "InvalidEdit"]) kc.xfl (CE.q (ce_exN1 hx_InvalidPlaces g.toGE (ce_var (pv 0)) (by omega)))) (ca_cons (ce_xFld (cs := ["InvalidPlaces", "InvalidEdit"]) kc.xfl (CE.q (ce_exN1 hx_InvalidEdit g.toGE (ce_var (pv 0)) (by omega)))) ca_nil))))))
  (css_cons (cs_set 2 sc__law_attributes.nd (ce_add (CE.q (ce_var (pv 2))) (CE.q (CN.own (cn_lst (ca_cons (ce_xFld (cs := ["InvalidLine"]) kc.xfl (CE.q (ce_exN1 hx_InvalidLine g.toGE (ce_var (pv 0)) (by omega)))) (ca_cons (ce_xFld (cs := ["TooManyCases"]) kc.xfl (CE.q (ce_exN1 hx_TooManyCases g.toGE (ce_var (pv 0)) (by omega)))) ca_nil)))))))
  (css_cons (cs_set 3 sc__law_attributes.nd (CN.own (cn_lst (ca_cons (ce_xFld (cs := ["InvalidProgram", "InvalidContract"]) kc.xfl (CE.q (ce_exN1 hx_InvalidProgram g.toGE (ce_var (pv 1)) (by omega)))) (ca_cons (ce_xFld (cs := ["InvalidProgram", "InvalidContract"]) kc.xfl (CE.q (ce_exN1 hx_InvalidContract g.toGE (ce_var (pv 1)) (by omega)))) (ca_cons (ce_xFld (cs := ["InvalidName", "NameTaken", "UnknownName"]) kc.xfl (CE.q (ce_exN1 hx_InvalidName g.toGE (ce_var (pv 1)) (by omega)))) (ca_cons (ce_xFld (cs := ["TooLarge", "TooLong"]) kc.xfl (CE.q (ce_exN1 hx_TooLarge g.toGE (ce_var (pv 1)) (by omega)))) ca_nil)))))))
  (css_cons (cs_set 3 sc__law_attributes.nd (ce_add (CE.q (ce_var (pv 3))) (CE.q (CN.own (cn_lst (ca_cons (ce_xFld (cs := ["TooLarge", "TooLong"]) kc.xfl (CE.q (ce_exN1 hx_TooLong g.toGE (ce_var (pv 1)) (by omega)))) (ca_cons (ce_xFld (cs := ["InvalidName", "NameTaken", "UnknownName"]) kc.xfl (CE.q (ce_exN1 hx_NameTaken g.toGE (ce_var (pv 1)) (by omega)))) (ca_cons (ce_xFld (cs := ["InvalidName", "NameTaken", "UnknownName"]) kc.xfl (CE.q (ce_exN1 hx_UnknownName g.toGE (ce_var (pv 1)) (by omega)))) ca_nil))))))))
  (css_cons (cs_if (ct_not (ct_b (CE.q (ce_all g.toGE (CE.q (CN.own (cn_lc g.toGE sc__law_attributes.nd (ci_it (ce_var (pv 2))) (by show blkC N__law_attributes (defScope st__law_attributes) _ _ = true; decide +kernel) (fun _ _ _ _ _ => pg_name (i := 4) sc__law_attributes.nd rfl (Or.inl rfl)) (fun s1 H1 Cc1 cl1 fp1 => cts_nil) (fun s1 H1 Cc1 cl1 fp1 => ce_call h__law_same (GE.blk g.toGE s1 H1 _ _ fp1) (ca_cons (ce_var (pv 4)) (ca_cons (ce_var (pv 0)) ca_nil)) (Nat.le_add_right _ _)))))))))
    (css_one (cs_ret ce_bl))
    css_nil)
  (css_one (cs_ret (ce_all g.toGE (CE.q (CN.own (cn_lc g.toGE sc__law_attributes.nd (ci_it (ce_var (pv 3))) (by show blkC N__law_attributes (defScope st__law_attributes) _ _ = true; decide +kernel) (fun _ _ _ _ _ => pg_name (i := 4) sc__law_attributes.nd rfl (Or.inl rfl)) (fun s1 H1 Cc1 cl1 fp1 => cts_nil) (fun s1 H1 Cc1 cl1 fp1 => ce_call h__law_same (GE.blk g.toGE s1 H1 _ _ fp1) (ca_cons (ce_var (pv 4)) (ca_cons (ce_var (pv 1)) ca_nil)) (Nat.le_add_right _ _)))))))))))))
theorem sc_law : FnScope ["script", "reader", "number", "word", "k", "made"] ["script"] (defScope st_law) := ⟨rfl, rfl, rfl, by decide +kernel, rfl, by decide +kernel, by decide +kernel⟩
theorem c_law {f : Addr} {fd : FuncData} {k : Nat} {S : DF} {S__law_reader : DF} {S__law_next : DF} {S__law_is : DF} {S__law_attributes : DF} (F : FunD K "law" "law" (defArgs st_law) (defBody st_law) (defScope st_law) [] [] f fd) (hbl : ∀ n, bl0 n = true → mg n = none) (kc : KC K mg C TB)
    (h__law_reader : Cal P w K mg base C k "_law_reader" S__law_reader)
    (h__law_next : Cal P w K mg base C k "_law_next" S__law_next)
    (hx_InvalidText : Ex1 P w K mg base C "InvalidText" "position")
    (hx_InvalidProgram : Ex1 P w K mg base C "InvalidProgram" "reason")
    (hx_InvalidContract : Ex1 P w K mg base C "InvalidContract" "reason")
    (hx_InvalidPlaces : Ex1 P w K mg base C "InvalidPlaces" "place")
    (hx_InvalidEdit : Ex1 P w K mg base C "InvalidEdit" "place")
    (hx_InvalidLine : Ex1 P w K mg base C "InvalidLine" "number")
    (hx_InvalidName : Ex1 P w K mg base C "InvalidName" "name")
    (hx_TooLarge : Ex1 P w K mg base C "TooLarge" "what")
    (hx_TooLong : Ex1 P w K mg base C "TooLong" "what")
    (hx_TooManyCases : Ex1 P w K mg base C "TooManyCases" "limit")
    (hx_NameTaken : Ex1 P w K mg base C "NameTaken" "name")
    (hx_UnknownName : Ex1 P w K mg base C "UnknownName" "name")
    (h__law_is : Cal P w K mg base C k "_law_is" S__law_is)
    (h__law_attributes : Cal P w K mg base C k "_law_attributes" S__law_attributes)
    (len : ∀ ds Q Xq, S ds Q Xq → ds.length = 1) (spec : ∀ ds Qd Xq, S ds Qd Xq → b_law S__law_reader S__law_next S__law_is S__law_attributes (kD Qd Xq) (startD 6 ds)) : FnOk P w K mg base (L2.CX P w) (k + 3) f fd ["script"] (spD ⟨K, C⟩ S) := by
  refine dfnF F sc_law hbl len (fun cdv A outer s H E g => ?_) spec
  exact (css_cons (cs_set 1 sc_law.nd (ce_call h__law_reader g.toGE (ca_cons (ce_var (pv 0)) (ca_cons ce_int ca_nil)) (Nat.le_add_right _ _)))
  (css_cons (cs_set 2 sc_law.nd (ce_sub (CE.q (ce_call h__law_next g.toGE (ca_cons (ce_var (pv 1)) (ca_cons ce_int ca_nil)) (Nat.le_add_right _ _))) (CE.q ce_int)))
  (css_cons (cs_set 3 sc_law.nd ce_str)
  (css_cons (cs_for g (pg_name (i := 4) sc_law.nd rfl (by first | exact Or.inl rfl | exact Or.inr rfl)) (ci_r1 g.toGE (CE.q (ce_add (CE.q ce_int) (CE.q (ce_call h__law_next g.toGE (ca_cons (ce_var (pv 1)) (ca_cons ce_int ca_nil)) (Nat.le_add_right _ _))))))
    (css_one (cs_set 3 sc_law.nd (ce_add (CE.q (ce_var (pv 3))) (CE.q (ce_ix (CE.q (ce_upper (CE.q ce_str))) (CE.q (ce_call h__law_next g.toGE (ca_cons (ce_var (pv 1)) (ca_cons ce_int ca_nil)) (Nat.le_add_right _ _)))))))))
  (css_cons (cs_set 5 sc_law.nd (CN.own (cn_lst (ca_cons (ce_exN1 hx_InvalidText g.toGE (ce_var (pv 2)) (by omega)) (ca_cons (ce_exN1 hx_InvalidProgram g.toGE (ce_var (pv 3)) (by omega)) (ca_cons (ce_exN1 hx_InvalidContract g.toGE (ce_var (pv 3)) (by omega)) (ca_cons (ce_exN0 kc.ex0 g.toGE) (ca_cons (ce_exN0 kc.ex0 g.toGE) ca_nil))))))))
  (css_cons (cs_set 5 sc_law.nd (ce_add (CE.q (ce_var (pv 5))) (CE.q (CN.own (cn_lst (ca_cons (ce_exN1 hx_InvalidPlaces g.toGE (ce_var (pv 2)) (by omega)) (ca_cons (ce_exN1 hx_InvalidEdit g.toGE (ce_var (pv 2)) (by omega)) (ca_cons (ce_exN1 hx_InvalidLine g.toGE (ce_var (pv 2)) (by omega)) (ca_cons (ce_exN1 hx_InvalidName g.toGE (ce_var (pv 3)) (by omega)) (ca_cons (ce_exN0 kc.ex0 g.toGE) ca_nil))))))))))
  (css_cons (cs_set 5 sc_law.nd (ce_add (CE.q (ce_var (pv 5))) (CE.q (CN.own (cn_lst (ca_cons (ce_exN1 hx_TooLarge g.toGE (ce_var (pv 3)) (by omega)) (ca_cons (ce_exN1 hx_TooLong g.toGE (ce_var (pv 3)) (by omega)) (ca_cons (ce_exN1 hx_TooManyCases g.toGE (ce_var (pv 2)) (by omega)) (ca_cons (ce_exN1 hx_NameTaken g.toGE (ce_var (pv 3)) (by omega)) (ca_cons (ce_exN1 hx_UnknownName g.toGE (ce_var (pv 3)) (by omega)) ca_nil))))))))))
  (css_cons (cs_set 5 sc_law.nd (ce_add (CE.q (ce_var (pv 5))) (CE.q (CN.own (cn_lst (ca_cons (ce_exN0 kc.ex0 g.toGE) (ca_cons (ce_exN0 kc.ex0 g.toGE) ca_nil)))))))
  (css_cons (cs_for g (pg_name (i := 4) sc_law.nd rfl (by first | exact Or.inl rfl | exact Or.inr rfl)) (ci_r1 g.toGE (CE.q ce_int))
    (css_one (cs_if (ct_not (ct_tru (CE.q (ce_call h__law_is g.toGE (ca_cons (ce_ix (CE.q (ce_var (pv 5))) (CE.q (ce_var (pv 4)))) (ca_cons (ce_var (pv 4)) ca_nil)) (Nat.le_add_right _ _)))))
      (css_one (cs_ret ce_bl))
      css_nil)))
  (css_one (cs_ret (ce_and (CE.q (ce_call h__law_attributes g.toGE (ca_cons (ce_var (pv 2)) (ca_cons (ce_var (pv 3)) ca_nil)) (Nat.le_add_right _ _))) (ce_and1 (ce_eq g.toGE (CE.q (ce_xFld (cs := ["InvalidText"]) kc.xfl (CE.q (ce_ix (CE.q (ce_var (pv 5))) (CE.q ce_int))))) (CE.q (ce_var (pv 2)))))))))))))))))
end
end K75
namespace K75
open PySem PySem.Spec PyProof.Rows L2 Dl Rnd
abbrev P : Program := PySem.Challenge.rw_allmends_k75_errors_by_position.prog
section
variable {w : World} {K : PySem.W.Frag} {h : Heap} {mg : Str → Option Value} {f : Addr}
theorem free_all (X : K.In h) (G : h.Ns mainGlobals mg) (c : He.SaysD fa fn K) (n : Str) (hn : bl0 n = true) : mg n = none := by
  have hm := of_decide_eq_true hn
  simp only [List.mem_cons, List.not_mem_nil, or_false] at hm
  rcases hm with rfl | rfl | rfl | rfl | rfl | rfl | rfl | rfl | rfl
  · exact He.free_ok X G (c.fact 8 (f := .free "ValueError") rfl)
  · exact He.free_ok X G (c.fact 9 (f := .free "all") rfl)
  · exact He.free_ok X G (c.fact 10 (f := .free "bool") rfl)
  · exact He.free_ok X G (c.fact 11 (f := .free "int") rfl)
  · exact He.free_ok X G (c.fact 12 (f := .free "isinstance") rfl)
  · exact He.free_ok X G (c.fact 13 (f := .free "len") rfl)
  · exact He.free_ok X G (c.fact 14 (f := .free "range") rfl)
  · exact He.free_ok X G (c.fact 15 (f := .free "str") rfl)
  · exact He.free_ok X G (c.fact 16 (f := .free "super") rfl)
set_option hygiene false in
open PySem L2 Dl in
local macro_rules | `(tactic| walk_at "len") => `(tactic| first | (rintro ⟨rfl, _⟩; rfl; done) | (rintro ⟨_, rfl, _⟩; rfl; done) | (rintro ⟨_, _, rfl, _⟩; rfl; done) | (rintro ⟨_, _, _, rfl, _⟩; rfl; done) | (rintro ⟨_, _, _, _, rfl, _⟩; rfl; done) | (rintro ⟨_, _, _, _, _, rfl, _⟩; rfl; done) | (rintro ⟨_, _, _, _, _, _, rfl, _⟩; rfl; done) | (rintro ⟨_, _, _, _, _, _, _, rfl, _⟩; rfl; done) | (rintro ⟨_, _, _, _, _, _, _, _, rfl, _⟩; rfl; done) | (rintro ⟨_, _, _, _, _, _, _, _, _, rfl, _⟩; rfl; done) | (rintro ⟨_, _, _, _, _, _, _, _, _, _, rfl, _⟩; rfl; done) | (rintro ⟨_, _, _, _, _, _, _, _, _, _, _, rfl, _⟩; rfl; done) | (rintro ⟨_, _, _, _, _, _, _, _, _, _, _, _, rfl, _⟩; rfl; done) | (rintro ⟨_, _, _, _, _, _, _, _, _, _, _, _, _, rfl, _⟩; rfl; done) | (rintro ⟨_, _, _, _, _, _, _, _, _, _, _, _, _, _, rfl, _⟩; rfl; done) | (rintro ⟨_, _, _, _, _, _, _, _, _, _, _, _, _, _, _, rfl, _⟩; rfl; done) | (rintro ⟨_, _, _, _, _, _, _, _, _, _, _, _, _, _, _, _, rfl, _⟩; rfl; done))
theorem facts (X : K.In h) (G : h.Ns mainGlobals mg) (hfa : mg ("law" : Str) = some (.ref f)) (c : SaysY fa fn TB xds PySem.Challenge.rw_allmends_k75_errors_by_position.prog K) :
    ∃ fd : FuncData, (∀ (s : Shared) (v : Value), BindsTo s fd ⟨[v], []⟩ [("script", v)]) ∧ ∀ base : Heap, K.In base → base.Ns mainGlobals mg → FnOk P w K mg base CX0 7 f fd ["script"] (spLaw K 63) := by
  have hbl := free_all X G c.d
  have kc := kc_of X G c.ct
  have hx_InvalidText : ∀ base : Heap, Ex1 P w K mg base (He.ga K) "InvalidText" "position" := fun base => exIn_of X G xs_InvalidText (c.xw 0 rfl) (c.xb (List.mem_of_getElem? (i := 0) rfl)) (by rfl) (hbl _ (by decide +kernel))
  have hx_InvalidProgram : ∀ base : Heap, Ex1 P w K mg base (He.ga K) "InvalidProgram" "reason" := fun base => exIn_of X G xs_InvalidProgram (c.xw 1 rfl) (c.xb (List.mem_of_getElem? (i := 1) rfl)) (by rfl) (hbl _ (by decide +kernel))
  have hx_InvalidContract : ∀ base : Heap, Ex1 P w K mg base (He.ga K) "InvalidContract" "reason" := fun base => exIn_of X G xs_InvalidContract (c.xw 2 rfl) (c.xb (List.mem_of_getElem? (i := 2) rfl)) (by rfl) (hbl _ (by decide +kernel))
  have hx_InvalidPlaces : ∀ base : Heap, Ex1 P w K mg base (He.ga K) "InvalidPlaces" "place" := fun base => exIn_of X G xs_InvalidPlaces (c.xw 3 rfl) (c.xb (List.mem_of_getElem? (i := 3) rfl)) (by rfl) (hbl _ (by decide +kernel))
  have hx_InvalidEdit : ∀ base : Heap, Ex1 P w K mg base (He.ga K) "InvalidEdit" "place" := fun base => exIn_of X G xs_InvalidEdit (c.xw 4 rfl) (c.xb (List.mem_of_getElem? (i := 4) rfl)) (by rfl) (hbl _ (by decide +kernel))
  have hx_InvalidLine : ∀ base : Heap, Ex1 P w K mg base (He.ga K) "InvalidLine" "number" := fun base => exIn_of X G xs_InvalidLine (c.xw 5 rfl) (c.xb (List.mem_of_getElem? (i := 5) rfl)) (by rfl) (hbl _ (by decide +kernel))
  have hx_InvalidName : ∀ base : Heap, Ex1 P w K mg base (He.ga K) "InvalidName" "name" := fun base => exIn_of X G xs_InvalidName (c.xw 6 rfl) (c.xb (List.mem_of_getElem? (i := 6) rfl)) (by rfl) (hbl _ (by decide +kernel))
  have hx_TooLarge : ∀ base : Heap, Ex1 P w K mg base (He.ga K) "TooLarge" "what" := fun base => exIn_of X G xs_TooLarge (c.xw 7 rfl) (c.xb (List.mem_of_getElem? (i := 7) rfl)) (by rfl) (hbl _ (by decide +kernel))
  have hx_TooLong : ∀ base : Heap, Ex1 P w K mg base (He.ga K) "TooLong" "what" := fun base => exIn_of X G xs_TooLong (c.xw 8 rfl) (c.xb (List.mem_of_getElem? (i := 8) rfl)) (by rfl) (hbl _ (by decide +kernel))
  have hx_TooManyCases : ∀ base : Heap, Ex1 P w K mg base (He.ga K) "TooManyCases" "limit" := fun base => exIn_of X G xs_TooManyCases (c.xw 9 rfl) (c.xb (List.mem_of_getElem? (i := 9) rfl)) (by rfl) (hbl _ (by decide +kernel))
  have hx_NameTaken : ∀ base : Heap, Ex1 P w K mg base (He.ga K) "NameTaken" "name" := fun base => exIn_of X G xs_NameTaken (c.xw 10 rfl) (c.xb (List.mem_of_getElem? (i := 10) rfl)) (by rfl) (hbl _ (by decide +kernel))
  have hx_UnknownName : ∀ base : Heap, Ex1 P w K mg base (He.ga K) "UnknownName" "name" := fun base => exIn_of X G xs_UnknownName (c.xw 11 rfl) (c.xb (List.mem_of_getElem? (i := 11) rfl)) (by rfl) (hbl _ (by decide +kernel))
  obtain ⟨fd__law_reader, F__law_reader⟩ := c.d.def_ 0 (d := d__law_reader) rfl
  have h__law_reader : ∀ base : Heap, Cal P w K mg base (He.ga K) 1 "_law_reader" S__law_reader := fun base => c__law_reader (k := 0) F__law_reader (He.glo_ok X G (c.d.fact 0 (f := .glo "_law_reader") rfl)) hbl kc  (fun ds Q Xq h => by first | (revert h; walk_at "len") | exact len__law_reader h) p__law_reader
  obtain ⟨fd__law_next, F__law_next⟩ := c.d.def_ 1 (d := d__law_next) rfl
  have h__law_next : ∀ base : Heap, Cal P w K mg base (He.ga K) 1 "_law_next" S_next := fun base => c__law_next (k := 0) F__law_next (He.glo_ok X G (c.d.fact 1 (f := .glo "_law_next") rfl)) hbl kc  (fun ds Q Xq h => by first | (revert h; walk_at "len") | exact len__law_next h) p_next
  obtain ⟨fd__law_same, F__law_same⟩ := c.d.def_ 2 (d := d__law_same) rfl
  have h__law_same : ∀ base : Heap, Cal P w K mg base (He.ga K) 1 "_law_same" S__law_same := fun base => c__law_same (k := 0) F__law_same (He.glo_ok X G (c.d.fact 2 (f := .glo "_law_same") rfl)) hbl kc  (fun ds Q Xq h => by first | (revert h; walk_at "len") | exact len__law_same h) p__law_same
  obtain ⟨fd__law_inputs, F__law_inputs⟩ := c.d.def_ 3 (d := d__law_inputs) rfl
  have h__law_inputs : ∀ base : Heap, Cal P w K mg base (He.ga K) 1 "_law_inputs" S__law_inputs := fun base => c__law_inputs (k := 0) F__law_inputs (He.glo_ok X G (c.d.fact 3 (f := .glo "_law_inputs") rfl)) hbl kc  (fun ds Q Xq h => by first | (revert h; walk_at "len") | exact len__law_inputs h) p__law_inputs
  obtain ⟨fd__law_others, F__law_others⟩ := c.d.def_ 4 (d := d__law_others) rfl
  have h__law_others : ∀ base : Heap, Cal P w K mg base (He.ga K) 1 "_law_others" S__law_others := fun base => c__law_others (k := 0) F__law_others (He.glo_ok X G (c.d.fact 4 (f := .glo "_law_others") rfl)) hbl kc  (fun ds Q Xq h => by first | (revert h; walk_at "len") | exact len__law_others h) p__law_others
  obtain ⟨fd__law_is, F__law_is⟩ := c.d.def_ 5 (d := d__law_is) rfl
  have h__law_is : ∀ base : Heap, Cal P w K mg base (He.ga K) 2 "_law_is" S__law_is := fun base => c__law_is (k := 1) F__law_is (He.glo_ok X G (c.d.fact 5 (f := .glo "_law_is") rfl)) hbl kc ((h__law_inputs base).mono (by decide)) ((h__law_others base).mono (by decide)) (fun ds Q Xq h => by first | (revert h; walk_at "len") | exact len__law_is h) p__law_is
  obtain ⟨fd__law_attributes, F__law_attributes⟩ := c.d.def_ 6 (d := d__law_attributes) rfl
  have h__law_attributes : ∀ base : Heap, Cal P w K mg base (He.ga K) 4 "_law_attributes" S__law_attributes := fun base => c__law_attributes (k := 1) F__law_attributes (He.glo_ok X G (c.d.fact 6 (f := .glo "_law_attributes") rfl)) hbl kc (hx_InvalidText base) (hx_InvalidPlaces base) (hx_InvalidEdit base) (hx_InvalidLine base) (hx_TooManyCases base) (hx_InvalidProgram base) (hx_InvalidContract base) (hx_InvalidName base) (hx_TooLarge base) (hx_TooLong base) (hx_NameTaken base) (hx_UnknownName base) ((h__law_same base).mono (by decide)) (fun ds Q Xq h => by first | (revert h; walk_at "len") | exact len__law_attributes h) p__law_attributes
  obtain ⟨fd, F⟩ := c.d.def_ 7 (d := d_law) rfl
  have e := hfa.symm.trans (He.glo_ok X G (c.d.fact 7 (f := .glo "law") rfl))
  cases e
  have b := FunD.bindsA (ps := ["script"]) F fun _ _ _ _ _ _ us hl => match us, hl with | [_], _ => rfl
  exact ⟨fd, fun s v => b s [v] rfl, fun base _ _ => law_fn (c_law (k := 4) (C := (He.ga K)) (S := S_law) F hbl kc ((h__law_reader base).mono (by decide)) ((h__law_next base).mono (by decide)) (hx_InvalidText base) (hx_InvalidProgram base) (hx_InvalidContract base) (hx_InvalidPlaces base) (hx_InvalidEdit base) (hx_InvalidLine base) (hx_InvalidName base) (hx_TooLarge base) (hx_TooLong base) (hx_TooManyCases base) (hx_NameTaken base) (hx_UnknownName base) ((h__law_is base).mono (by decide)) ((h__law_attributes base).mono (by decide)) (fun ds Q Xq h => by first | (revert h; walk_at "len") | exact len_law h) p_law) fun ns Qd hn q => ⟨ns, rfl, hn, q⟩⟩
end
end K75
open PySem PySem.W PySem.Calls PyProof.Rows
theorem PySem.Challenge.cw_allmends_k75_errors_by_position_holds : PySem.Challenge.rw_allmends_k75_errors_by_position.Holds := by
  w_on; o_law
  refine HandSHeadRun.head_any (r := OpenLaw.row PySem.Challenge.rw_allmends_k75_errors_by_position) (q := view (OpenLaw.row PySem.Challenge.rw_allmends_k75_errors_by_position).prog [30]) (H := K75.hk) (ob := K75.ob) (M := 6000) (loose := K75.loose) (d := HandSHeadRun.topDef (OpenLaw.row PySem.Challenge.rw_allmends_k75_errors_by_position).prog 30) (kwd := []) K75.ob_eq
    (by kernel_rfl) (fun s => by kernel_rfl) K75.run (by kernel_rfl) (by kernel_rfl) (by kernel_rfl) (by rfl) (by first | assumption | decide +kernel) (by decide +kernel) ⟨rfl, rfl, rfl, rfl, rfl, by decide +kernel⟩ ?hw ?hc
  case hw => w_witness2
  case hc =>
    refine L2.walk_ofE (l := PySem.Challenge.rw_allmends_k75_errors_by_position) (n := 63) (k := 7) (x := "script") (CX := L2.CX0) rfl (by decide) (by kernel_rfl) ⟨rfl, by decide, by decide⟩ ?F (fun _ _ _ _ z => z)
    intro w mg fa h Y G hmg0
    obtain ⟨K, KX, c⟩ := Y
    have hmg : mg ("law" : PySem.Str) = some (.ref fa) := by
      have e : (HandSHeadRun.topDef (OpenLaw.row PySem.Challenge.rw_allmends_k75_errors_by_position).prog 30).name = ("law" : PySem.Str) := by kernel_rfl
      rw [← e]
      exact hmg0
    obtain ⟨fd, hb, hF⟩ := K75.facts (w := w) KX G hmg c
    exact ⟨K, fd, Dl.spLaw K 63, KX, hb, fun H a ns hl _ hS => ⟨a, ns, rfl, hl, hS, fun _ _ e => e⟩, hF⟩
