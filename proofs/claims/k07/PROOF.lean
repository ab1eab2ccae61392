import PyProof.Rows.All
import Wide.All
import OpenK.AllK
import Wide.FinOn
import HandS.ForMost
import HandS.ForExc
import HandS.Deep
import HandS.IsInst
import HandS.Steps
import HandS.More
import HandS.ExcInit
import HandS.ExcValue
import HandS.ExcCtx
import HandS.TupAny
import HandS.Text
import HandS.Wide
import HandS.TryOnly
import HandS.ExcOwn
import HandS.Rev
import HandS.Defaults
import KE.SortData
import KE.KStateDown
import Lean
import HandS.Base
import HandS.Call
import HandS.Ends
import HandS.Words
import HandS.WordsExc
import HandS.Head0
import HandS.Head1
import HandS.Head2
import HandS.HeadEnd
import HandS.HeadHook1
import HandS.HeadHook2
import KE.KExcSuper
import HandS.ExcIs
import HandS.ExcField
import HandS.HotCalls
import HandS.Strs
import HandS.Conv
import PyProof.AutoSeq1
import PySem.Challenge.RW_allmends_k07_expression_there_and_back
import HandS.Flt
import HandS.MakeKw
import HandS.MakeKwOnly
import HandS.SortKw
import HandS.TupMul
import HandS.Codes
set_option Elab.async false
set_option linter.all false
set_option maxRecDepth 100000
set_option maxHeartbeats 4000000
set_option autoImplicit false
namespace Dl
open PySem PySem.Spec PyProof.Rows L2
inductive D where
  | non | bl (b : Bool) | int (i : Int) | str (s : Str) | tup (ds : List D) | lst (ds : List D) | scr (ns : List Int) | rd | ins (c : Str) (fs : List (Str × D)) | nms (ys : List Str) | any | dic (kvs : List (Key × D)) | fr (d : D) | raw (u : V) | exc (c : Str) (fs : List (Str × D)) | obj (c : Str) (kvs : List (Key × D))
def tupObj (its : List Value) : Obj := { cls := .type "tuple", data := .seq its.toArray }
abbrev St := L2.St
structure Kx where
  K : PySem.W.Frag
  C : Str → Addr
def ExAt (Γ : Kx) (G : Hp) (a : Addr) (c : Str) (vs : List (Str × V)) : Prop := (∃ dx, G a = some (exo a (Γ.C c) (some dx)) ∧ G dx = some (exd dx vs)) ∨ vs = [] ∧ G a = some (ExO (.ref (Γ.C c)) a)
theorem ExAt.mono {Γ : Kx} {G G' : Hp} {a : Addr} {c : Str} {vs : List (Str × V)} (g : Same G G') (h : ExAt Γ G a c vs) : ExAt Γ G' a c vs := by
  rcases h with ⟨dx, h1, h2⟩ | ⟨h1, h2⟩
  · exact .inl ⟨dx, g _ _ h1, g _ _ h2⟩
  · exact .inr ⟨h1, g _ _ h2⟩
section
variable (Γ : Kx) (G : Hp) (R : Addr → Prop)
mutual
def Rp : D → V → Prop
  | .non, v => v = .non
  | .bl b, v => v = .bl b
  | .int i, v => v = .int i
  | .str s, v => v = .str s
  | .tup ds, v => ∃ a vs, v = .ref a ∧ SqT Γ.K G a vs ∧ RpL ds vs
  | .lst ds, v => ∃ a vs, v = .ref a ∧ G a = some (.lst vs) ∧ RpL ds vs
  | .scr ns, v => ∃ a, v = .ref a ∧ SqL Γ.K G a (ns.map V.int)
  | .rd, v => ∃ a, v = .ref a ∧ R a
  | .ins c fs, v => ∃ a dx vs, v = .ref a ∧ G a = some (.ins (Γ.C c) dx vs) ∧ RpF fs vs
  | .nms ys, v => ∃ a its, v = .ref a ∧ G a = some (.frz (tupObj its) (.tup (ys.map V.str)))
  | .any, v => v ≠ .non
  | .dic kvs, v => ∃ a us, v = .ref a ∧ G a = some (.dK us) ∧ RpK kvs us
  | .fr d, v => v ≠ .non ∧ Rp d v
  | .raw u, v => v = u
  | .exc c fs, v => ∃ a vs, v = .ref a ∧ ExAt Γ G a c vs ∧ RpF fs vs
  | .obj _ _, v => v ≠ .non
def RpL : List D → List V → Prop
  | [], vs => vs = []
  | d :: ds, vs => ∃ v r, vs = v :: r ∧ Rp d v ∧ RpL ds r
def RpF : List (Str × D) → List (Str × V) → Prop
  | [], vs => vs = []
  | (x, d) :: ds, vs => ∃ v r, vs = (x, v) :: r ∧ Rp d v ∧ RpF ds r
def RpK : List (Key × D) → List (Key × V) → Prop
  | [], vs => vs = []
  | (x, d) :: ds, vs => ∃ v r, vs = (x, v) :: r ∧ Rp d v ∧ RpK ds r
end
end
def immB : D → Bool
  | .tup ds => go ds
  | .lst _ => false
  | .scr _ => false
  | .ins _ _ => false
  | .exc _ _ => false
  | .dic _ => false
  | .fr _ => false
  | .raw _ => false
  | .obj _ _ => false
  | _ => true
where go : List D → Bool
  | [] => true
  | d :: ds => immB d && go ds
theorem Same.seqT {K : PySem.W.Frag} {H H' : Hp} {a : Addr} {xs : List V} (e : Same H H') (h : SqT K H a xs) : SqT K H' a xs := by
  rcases h with (h | ⟨o, h⟩) | h
  · exact .inl (.inl (e _ _ h))
  · exact .inl (.inr ⟨o, e _ _ h⟩)
  · exact .inr h
section
variable {Γ : Kx} {G G' : Hp} {R R' : Addr → Prop}
mutual
theorem Rp.mono (g : Same G G') (r : ∀ a, R a → R' a) : ∀ (d : D) (v : V), Rp Γ G R d v → Rp Γ G' R' d v
  | .non, _, h => by unfold Rp at *; exact h
  | .bl _, _, h => by unfold Rp at *; exact h
  | .int _, _, h => by unfold Rp at *; exact h
  | .str _, _, h => by unfold Rp at *; exact h
  | .tup ds, v, h => by
    unfold Rp at *
    obtain ⟨a, vs, e, s, l⟩ := h
    exact ⟨a, vs, e, Same.seqT g s, RpL.mono g r ds vs l⟩
  | .lst ds, v, h => by
    unfold Rp at *
    obtain ⟨a, vs, e, s, l⟩ := h
    exact ⟨a, vs, e, g _ _ s, RpL.mono g r ds vs l⟩
  | .scr ns, v, h => by
    unfold Rp at *
    obtain ⟨a, e, s⟩ := h
    exact ⟨a, e, g.seq s⟩
  | .rd, v, h => by
    unfold Rp at *
    obtain ⟨a, e, h⟩ := h
    exact ⟨a, e, r a h⟩
  | .ins c fs, v, h => by
    unfold Rp at *
    obtain ⟨a, dx, vs, e, s, l⟩ := h
    exact ⟨a, dx, vs, e, g _ _ s, RpF.mono g r fs vs l⟩
  | .nms ys, v, h => by
    unfold Rp at *
    obtain ⟨a, its, e, s⟩ := h
    exact ⟨a, its, e, g _ _ s⟩
  | .any, v, h => by unfold Rp at *; exact h
  | .fr d, v, h => by unfold Rp at *; exact ⟨h.1, Rp.mono g r d v h.2⟩
  | .raw _, v, h => by unfold Rp at *; exact h
  | .obj _ _, v, h => by unfold Rp at *; exact h
  | .exc c fs, v, h => by
    unfold Rp at *
    obtain ⟨a, vs, e, s, l⟩ := h
    exact ⟨a, vs, e, s.mono g, RpF.mono g r fs vs l⟩
  | .dic kvs, v, h => by
    unfold Rp at *
    obtain ⟨a, us, e, s, l⟩ := h
    exact ⟨a, us, e, g _ _ s, RpK.mono g r kvs us l⟩
theorem RpL.mono (g : Same G G') (r : ∀ a, R a → R' a) : ∀ (ds : List D) (vs : List V), RpL Γ G R ds vs → RpL Γ G' R' ds vs
  | [], _, h => by unfold RpL at *; exact h
  | d :: ds, vs, h => by
    unfold RpL at *
    obtain ⟨v, q, e, h1, h2⟩ := h
    exact ⟨v, q, e, Rp.mono g r d v h1, RpL.mono g r ds q h2⟩
theorem RpF.mono (g : Same G G') (r : ∀ a, R a → R' a) : ∀ (ds : List (Str × D)) (vs : List (Str × V)), RpF Γ G R ds vs → RpF Γ G' R' ds vs
  | [], _, h => by unfold RpF at *; exact h
  | (x, d) :: ds, vs, h => by
    unfold RpF at *
    obtain ⟨v, q, e, h1, h2⟩ := h
    exact ⟨v, q, e, Rp.mono g r d v h1, RpF.mono g r ds q h2⟩
theorem RpK.mono (g : Same G G') (r : ∀ a, R a → R' a) : ∀ (ds : List (Key × D)) (vs : List (Key × V)), RpK Γ G R ds vs → RpK Γ G' R' ds vs
  | [], _, h => by unfold RpK at *; exact h
  | (x, d) :: ds, vs, h => by
    unfold RpK at *
    obtain ⟨v, q, e, h1, h2⟩ := h
    exact ⟨v, q, e, Rp.mono g r d v h1, RpK.mono g r ds q h2⟩
end
def Tups (G G' : Hp) : Prop := (∀ b xs, G b = some (.tup xs) → G' b = some (.tup xs)) ∧ ∀ b o u, G b = some (.frz o u) → G' b = some (.frz o u)
theorem Tups.seqT {K : PySem.W.Frag} {a : Addr} {xs : List V} (e : Tups G G') (h : SqT K G a xs) : SqT K G' a xs := by
  rcases h with (h | ⟨o, h⟩) | h
  · exact .inl (.inl (e.1 _ _ h))
  · exact .inl (.inr ⟨o, e.2 _ _ _ h⟩)
  · exact .inr h
mutual
theorem Rp.imm (g : Tups G G') (r : ∀ a, R a → R' a) : ∀ (d : D) (v : V), immB d = true → Rp Γ G R d v → Rp Γ G' R' d v
  | .non, _, _, h => by unfold Rp at *; exact h
  | .bl _, _, _, h => by unfold Rp at *; exact h
  | .int _, _, _, h => by unfold Rp at *; exact h
  | .str _, _, _, h => by unfold Rp at *; exact h
  | .tup ds, v, m, h => by
    unfold Rp at *
    obtain ⟨a, vs, e, s, l⟩ := h
    exact ⟨a, vs, e, g.seqT s, RpL.imm g r ds vs (by unfold immB at m; exact m) l⟩
  | .lst ds, v, m, h => by unfold immB at m; cases m
  | .rd, v, _, h => by
    unfold Rp at *
    obtain ⟨a, e, h⟩ := h
    exact ⟨a, e, r a h⟩
  | .scr _, v, m, h => by unfold immB at m; cases m
  | .ins c fs, v, m, h => by unfold immB at m; cases m
  | .exc c fs, v, m, h => by unfold immB at m; cases m
  | .nms ys, v, _, h => by
    unfold Rp at *
    obtain ⟨a, its, e, s⟩ := h
    exact ⟨a, its, e, g.2 _ _ _ s⟩
  | .any, v, _, h => by unfold Rp at *; exact h
  | .dic _, v, m, h => by unfold immB at m; cases m
  | .fr _, v, m, h => by unfold immB at m; cases m
  | .raw _, v, m, h => by unfold immB at m; cases m
  | .obj _ _, v, m, h => by unfold immB at m; cases m
theorem RpL.imm (g : Tups G G') (r : ∀ a, R a → R' a) : ∀ (ds : List D) (vs : List V), immB.go ds = true → RpL Γ G R ds vs → RpL Γ G' R' ds vs
  | [], _, _, h => by unfold RpL at *; exact h
  | d :: ds, vs, m, h => by
    unfold RpL at *
    unfold immB.go at m
    rw [Bool.and_eq_true] at m
    obtain ⟨v, q, e, h1, h2⟩ := h
    exact ⟨v, q, e, Rp.imm g r d v m.1 h1, RpL.imm g r ds q m.2 h2⟩
end
theorem RpL.len : ∀ {ds : List D} {vs : List V}, RpL Γ G R ds vs → ds.length = vs.length
  | [], _, h => by unfold RpL at h; subst h; rfl
  | d :: ds, vs, h => by
    unfold RpL at h
    obtain ⟨v, q, e, h1, h2⟩ := h
    subst e
    rw [List.length_cons, List.length_cons, RpL.len h2]
theorem RpL.get : ∀ {ds : List D} {vs : List V} {i : Nat} {d : D}, RpL Γ G R ds vs → ds[i]? = some d → ∃ v, vs[i]? = some v ∧ Rp Γ G R d v
  | [], _, _, _, h, e => by simp at e
  | d :: ds, vs, 0, d', h, e => by
    unfold RpL at h
    obtain ⟨v, q, e2, h1, h2⟩ := h
    subst e2
    simp at e
    subst e
    exact ⟨v, by simp, h1⟩
  | d :: ds, vs, i + 1, d', h, e => by
    unfold RpL at h
    obtain ⟨v, q, e2, h1, h2⟩ := h
    subst e2
    simp at e
    obtain ⟨v', a, b⟩ := RpL.get h2 e
    exact ⟨v', by simpa using a, b⟩
theorem RpL.cons {d : D} {v : V} {ds : List D} {vs : List V} (h : Rp Γ G R d v) (t : RpL Γ G R ds vs) : RpL Γ G R (d :: ds) (v :: vs) := by
  unfold RpL
  exact ⟨v, vs, rfl, h, t⟩
theorem RpL.nil : RpL Γ G R [] [] := by unfold RpL; rfl
theorem RpL.append : ∀ {ds es : List D} {vs us : List V}, RpL Γ G R ds vs → RpL Γ G R es us → RpL Γ G R (ds ++ es) (vs ++ us)
  | [], _, _, _, h, k => by unfold RpL at h; subst h; exact k
  | d :: ds, es, vs, us, h, k => by
    unfold RpL at h
    obtain ⟨v, q, e2, h1, h2⟩ := h
    subst e2
    exact RpL.cons h1 (RpL.append h2 k)
theorem RpL.of_get : ∀ {ds : List D} {vs : List V}, ds.length = vs.length → (∀ (i : Nat) d v, ds[i]? = some d → vs[i]? = some v → Rp Γ G R d v) → RpL Γ G R ds vs
  | [], vs, hl, _ => by
    have : vs = [] := List.eq_nil_of_length_eq_zero (by simpa using hl.symm)
    subst this
    exact RpL.nil
  | d :: ds, [], hl, _ => by simp at hl
  | d :: ds, v :: vs, hl, h => RpL.cons (h 0 d v (by simp) (by simp)) (RpL.of_get (by simpa using hl) fun i d' v' a b => h (i + 1) d' v' (by simpa using a) (by simpa using b))
end
def IsRd (H : Hp) (a : Addr) : Prop := ∃ c k r : Int, H a = some (.lst [.int c, .int k, .int r])
structure Gd (G : Hp) (R : Addr → Prop) (H : Hp) : Prop where
  sub : Same G H
  rd : ∀ a, R a → IsRd H a
  dis : ∀ a, R a → G a = none
def Stiff : HO → Prop
  | .tup _ => True
  | .frz _ _ => True
  | _ => False
structure Nx (G : Hp) (R : Addr → Prop) (H G' : Hp) (R' : Addr → Prop) (H' : Hp) : Prop where
  gg : Same G G'
  rr : ∀ a, R a → R' a
  gd : Gd G' R' H'
  ev : ∀ b o, H b = some o → ¬ R b → H' b = some o
  ex : ∀ b o, H b = some o → ∃ o', H' b = some o'
  fg : ∀ b o, G' b = some o → G b = some o ∨ H b = none ∨ Stiff o
  fr : ∀ b, R' b → R b ∨ H b = none
section
variable {G G1 G2 : Hp} {R R1 R2 : Addr → Prop} {H H1 H2 : Hp}
theorem Nx.refl (g : Gd G R H) : Nx G R H G R H := ⟨fun _ _ h => h, fun _ h => h, g, fun _ _ h _ => h, fun _ o h => ⟨o, h⟩, fun _ _ h => .inl h, fun _ h => .inl h⟩
theorem Nx.trans (a : Nx G R H G1 R1 H1) (b : Nx G1 R1 H1 G2 R2 H2) : Nx G R H G2 R2 H2 where
  gg := fun x o h => b.gg x o (a.gg x o h)
  rr := fun x h => b.rr x (a.rr x h)
  gd := b.gd
  ev := fun x o h n => b.ev x o (a.ev x o h n) fun r => (a.fr x r).elim n fun z => by rw [z] at h; cases h
  ex := fun x o h => by
    obtain ⟨o', h'⟩ := a.ex x o h
    exact b.ex x o' h'
  fg := fun x o h => by
    rcases b.fg x o h with z | z | z
    · exact a.fg x o z
    · refine .inr (.inl ?_)
      cases q : H x with
      | none => rfl
      | some u =>
        obtain ⟨u', q'⟩ := a.ex x u q
        rw [q'] at z; cases z
    · exact .inr (.inr z)
  fr := fun x h => by
    rcases b.fr x h with z | z
    · exact a.fr x z
    · refine .inr ?_
      cases q : H x with
      | none => rfl
      | some u =>
        obtain ⟨u', q'⟩ := a.ex x u q
        rw [q'] at z; cases z
theorem Gd.fresh (g : Gd G R H) {p : Addr} (h : H p = none) : G p = none ∧ ¬ R p :=
  ⟨g.sub.free h, fun r => by obtain ⟨c, k, q, e⟩ := g.rd p r; rw [h] at e; cases e⟩
theorem Nx.new (g : Gd G R H) {p : Addr} (o : HO) (h : H p = none) : Nx G R H G R (upd H p o) where
  gg := fun _ _ h => h
  rr := fun _ h => h
  gd := ⟨fun b u e => by rw [upd_ne (ne_of_none (g.sub b u e) h)]; exact g.sub b u e, fun a r => by
    obtain ⟨c, k, q, e⟩ := g.rd a r
    exact ⟨c, k, q, by rw [upd_ne (ne_of_none e h)]; exact e⟩, g.dis⟩
  ev := fun b u e _ => by rw [upd_ne (ne_of_none e h)]; exact e
  ex := fun b u e => ⟨u, by rw [upd_ne (ne_of_none e h)]; exact e⟩
  fg := fun _ _ h => .inl h
  fr := fun _ h => .inl h
theorem Nx.newG (g : Gd G R H) {p : Addr} (o : HO) (h : H p = none) : Nx G R H (upd G p o) R (upd H p o) where
  gg := fun b u e => by rw [upd_ne (ne_of_none e (g.fresh h).1)]; exact e
  rr := fun _ h => h
  gd := ⟨fun b u e => by
    by_cases hb : b = p
    · subst hb; rw [upd_same] at e ⊢; exact e
    · rw [upd_ne hb] at e ⊢; exact g.sub b u e, fun a r => by
    obtain ⟨c, k, q, e⟩ := g.rd a r
    exact ⟨c, k, q, by rw [upd_ne (ne_of_none e h)]; exact e⟩, fun a r => by
    have ne : a ≠ p := fun z => (g.fresh h).2 (by subst z; exact r)
    rw [upd_ne ne]; exact g.dis a r⟩
  ev := fun b u e _ => by rw [upd_ne (ne_of_none e h)]; exact e
  ex := fun b u e => ⟨u, by rw [upd_ne (ne_of_none e h)]; exact e⟩
  fg := fun b u e => by
    by_cases hb : b = p
    · subst hb; exact .inr (.inl h)
    · rw [upd_ne hb] at e; exact .inl e
  fr := fun _ h => .inl h
theorem Nx.freeze (n : Nx G R H G1 R1 H1) {p : Addr} {o : HO} (e : H1 p = some o) (g0 : G1 p = none) (r0 : ¬ R1 p) (h0 : H p = none) : Nx G R H (upd G1 p o) R1 H1 where
  gg := fun b u q => by rw [upd_ne (fun z => by subst z; have := n.gg _ _ q; rw [g0] at this; cases this)]; exact n.gg b u q
  rr := n.rr
  gd := ⟨fun b u q => by
    by_cases hb : b = p
    · subst hb; rw [upd_same] at q; cases q; exact e
    · rw [upd_ne hb] at q; exact n.gd.sub b u q, n.gd.rd, fun a r => by
    have ne : a ≠ p := fun z => r0 (by subst z; exact r)
    rw [upd_ne ne]; exact n.gd.dis a r⟩
  ev := n.ev
  ex := n.ex
  fg := fun b u q => by
    by_cases hb : b = p
    · subst hb; exact .inr (.inl h0)
    · rw [upd_ne hb] at q; exact n.fg b u q
  fr := n.fr
def stiffB : HO → Bool
  | .tup _ => true
  | .frz _ _ => true
  | _ => false
theorem stiff_of {o : HO} (h : stiffB o = true) : Stiff o := by
  cases o <;> first | exact True.intro | cases h
def satur (G H : Hp) : Hp := fun b => match G b with
  | some o => some o
  | none => match H b with
    | some o => if stiffB o = true then some o else none
    | none => none
theorem satur_same : Same G (satur G H) := fun b o e => by unfold satur; rw [e]
theorem satur_cases {b : Addr} {o : HO} (e : satur G H b = some o) : G b = some o ∨ (H b = some o ∧ stiffB o = true) := by
  unfold satur at e
  cases q : G b with
  | some u => rw [q] at e; cases e; exact .inl rfl
  | none =>
    rw [q] at e
    cases q2 : H b with
    | none => rw [q2] at e; cases e
    | some u =>
      rw [q2] at e
      simp only at e
      split at e
      · rename_i h
        cases e
        exact .inr ⟨rfl, h⟩
      · cases e
theorem satur_sub (h : Same G H) : Same (satur G H) H := fun b o e => (satur_cases e).elim (h b o) And.left
theorem satur_keep {b : Addr} {o : HO} (h : Same G H) (e : H b = some o) (t : stiffB o = true) : satur G H b = some o := by
  unfold satur
  cases q : G b with
  | some u => have := h b u q; rw [e] at this; cases this; rfl
  | none => rw [e]; simp only [t, if_true]
theorem satur_tups (h : Same G H) : Tups H (satur G H) := ⟨fun _ _ e => satur_keep h e rfl, fun _ _ _ e => satur_keep h e rfl⟩
theorem Gd.satur (g : Gd G R H) : Gd (satur G H) R H := ⟨satur_sub g.sub, g.rd, fun a r => by
  obtain ⟨c, k, q, e⟩ := g.rd a r
  cases z : Dl.satur G H a with
  | none => rfl
  | some u =>
    rcases satur_cases z with y | ⟨y, t⟩
    · rw [g.dis a r] at y; cases y
    · rw [e] at y; cases y; cases t⟩
theorem Nx.satur (n : Nx G R H G1 R1 H1) : Nx G R H (satur G1 H1) R1 H1 where
  gg := fun b u q => satur_same b u (n.gg b u q)
  rr := n.rr
  gd := n.gd.satur
  ev := n.ev
  ex := n.ex
  fg := fun b u q => by
    rcases satur_cases q with z | ⟨_, z⟩
    · exact n.fg b u z
    · exact .inr (.inr (stiff_of z))
  fr := n.fr
end
def keyS : Key → Str
  | .inr s => s
  | .inl _ => ""
def strK (vs : List (Key × V)) : List (Str × V) := vs.map fun p => (keyS p.1, p.2)
section
variable (Γ : Kx) (H0 G : Hp) (R : Addr → Prop) (H : Hp)
mutual
def Ow : D → V → List Addr → Prop
  | .lst ds, v, as => ∃ a vs bs, v = .ref a ∧ as = a :: bs ∧ H0 a = none ∧ G a = none ∧ ¬ R a ∧ H a = some (.lst vs) ∧ OwL ds vs bs
  | .dic ds, v, as => ∃ a vs bs, v = .ref a ∧ as = a :: bs ∧ H0 a = none ∧ G a = none ∧ ¬ R a ∧ H a = some (.dK vs) ∧ OwK ds vs bs
  | .tup ds, v, as => ∃ a vs, v = .ref a ∧ SqT Γ.K H a vs ∧ OwL ds vs as
  | .non, v, as => as = [] ∧ Rp Γ G R .non v
  | .bl b, v, as => as = [] ∧ Rp Γ G R (.bl b) v
  | .int b, v, as => as = [] ∧ Rp Γ G R (.int b) v
  | .str b, v, as => as = [] ∧ Rp Γ G R (.str b) v
  | .scr b, v, as => as = [] ∧ Rp Γ G R (.scr b) v
  | .rd, v, as => as = [] ∧ Rp Γ G R .rd v
  | .ins b c, v, as => as = [] ∧ Rp Γ G R (.ins b c) v
  | .exc b c, v, as => as = [] ∧ Rp Γ G R (.exc b c) v
  | .nms b, v, as => as = [] ∧ Rp Γ G R (.nms b) v
  | .any, v, as => as = [] ∧ Rp Γ G R .any v
  | .fr d, v, as => as = [] ∧ Rp Γ G R (.fr d) v
  | .raw u, v, as => as = [] ∧ Rp Γ G R (.raw u) v
  | .obj c ds, v, as => ∃ a dx vs bs, v = .ref a ∧ as = a :: bs ∧ H0 a = none ∧ G a = none ∧ ¬ R a ∧ H a = some (.ins (Γ.C c) dx (strK vs)) ∧ OwK ds vs bs
def OwL : List D → List V → List Addr → Prop
  | [], vs, as => vs = [] ∧ as = []
  | d :: ds, vs, as => ∃ v r bs cs, vs = v :: r ∧ as = bs ++ cs ∧ Ow d v bs ∧ OwL ds r cs
def OwK : List (Key × D) → List (Key × V) → List Addr → Prop
  | [], vs, as => vs = [] ∧ as = []
  | (x, d) :: ds, vs, as => ∃ v r bs cs, vs = (x, v) :: r ∧ as = bs ++ cs ∧ Ow d v bs ∧ OwK ds r cs
end
end
def Open : HO → Prop
  | .lst _ => True
  | .dK _ => True
  | .ins _ _ _ => True
  | _ => False
def Vis : HO → Prop
  | .lst _ => True
  | .dK _ => True
  | _ => False
theorem Vis.open {o : HO} (h : Vis o) : Open o := by cases o <;> first | exact trivial | exact h.elim
theorem Open.stiff {o : HO} (h : Open o) : ¬ Stiff o := by cases o <;> first | exact fun z => z | exact h.elim
section
variable {Γ : Kx} {H0 G G' : Hp} {R R' : Addr → Prop} {H H' : Hp}
structure Stays (G : Hp) (R : Addr → Prop) (H G' : Hp) (R' : Addr → Prop) (H' : Hp) (as : List Addr) : Prop where
  sl : ∀ a o, a ∈ as → H a = some o → Open o → G a = none → ¬ R a → H' a = some o ∧ G' a = none ∧ ¬ R' a
  st : ∀ a o, H a = some o → Stiff o → H' a = some o
  rd : ∀ a, R a → R' a
  gg : Same G G'
theorem Stays.sub {as bs : List Addr} (s : Stays G R H G' R' H' as) (h : ∀ a ∈ bs, a ∈ as) : Stays G R H G' R' H' bs := ⟨fun a vs m => s.sl a vs (h a m), s.st, s.rd, s.gg⟩
theorem seqT_stiff {K : PySem.W.Frag} {a : Addr} {vs : List V} (s : ∀ a o, H a = some o → Stiff o → H' a = some o) (h : SqT K H a vs) : SqT K H' a vs := by
  rcases h with (h | ⟨o, h⟩) | h
  · exact .inl (.inl (s _ _ h trivial))
  · exact .inl (.inr ⟨o, s _ _ h trivial⟩)
  · exact .inr h
mutual
theorem Ow.mono : ∀ (d : D) (v : V) (as : List Addr), Stays G R H G' R' H' as → Ow Γ H0 G R H d v as → Ow Γ H0 G' R' H' d v as
  | .lst ds, v, as, s, h => by
    unfold Ow at *
    obtain ⟨a, vs, bs, e, rfl, h0, g, r, hl, l⟩ := h
    obtain ⟨x, y, z⟩ := s.sl a _ (List.mem_cons_self ..) hl trivial g r
    exact ⟨a, vs, bs, e, rfl, h0, y, z, x, OwL.mono ds vs bs (s.sub fun b hb => List.mem_cons_of_mem _ hb) l⟩
  | .dic ds, v, as, s, h => by
    unfold Ow at *
    obtain ⟨a, vs, bs, e, rfl, h0, g, r, hl, l⟩ := h
    obtain ⟨x, y, z⟩ := s.sl a _ (List.mem_cons_self ..) hl trivial g r
    exact ⟨a, vs, bs, e, rfl, h0, y, z, x, OwK.mono ds vs bs (s.sub fun b hb => List.mem_cons_of_mem _ hb) l⟩
  | .tup ds, v, as, s, h => by
    unfold Ow at *
    obtain ⟨a, vs, e, q, l⟩ := h
    exact ⟨a, vs, e, seqT_stiff s.st q, OwL.mono ds vs as s l⟩
  | .non, v, as, s, h => by unfold Ow at *; exact ⟨h.1, Rp.mono s.gg s.rd _ _ h.2⟩
  | .bl b, v, as, s, h => by unfold Ow at *; exact ⟨h.1, Rp.mono s.gg s.rd _ _ h.2⟩
  | .int b, v, as, s, h => by unfold Ow at *; exact ⟨h.1, Rp.mono s.gg s.rd _ _ h.2⟩
  | .str b, v, as, s, h => by unfold Ow at *; exact ⟨h.1, Rp.mono s.gg s.rd _ _ h.2⟩
  | .scr b, v, as, s, h => by unfold Ow at *; exact ⟨h.1, Rp.mono s.gg s.rd _ _ h.2⟩
  | .rd, v, as, s, h => by unfold Ow at *; exact ⟨h.1, Rp.mono s.gg s.rd _ _ h.2⟩
  | .ins b c, v, as, s, h => by unfold Ow at *; exact ⟨h.1, Rp.mono s.gg s.rd _ _ h.2⟩
  | .exc b c, v, as, s, h => by unfold Ow at *; exact ⟨h.1, Rp.mono s.gg s.rd _ _ h.2⟩
  | .nms b, v, as, s, h => by unfold Ow at *; exact ⟨h.1, Rp.mono s.gg s.rd _ _ h.2⟩
  | .any, v, as, s, h => by unfold Ow at *; exact ⟨h.1, Rp.mono s.gg s.rd _ _ h.2⟩
  | .fr d, v, as, s, h => by unfold Ow at *; exact ⟨h.1, Rp.mono s.gg s.rd _ _ h.2⟩
  | .raw d, v, as, s, h => by unfold Ow at *; exact ⟨h.1, Rp.mono s.gg s.rd _ _ h.2⟩
  | .obj c ds, v, as, s, h => by
    unfold Ow at *
    obtain ⟨a, dx, vs, bs, e, rfl, h0, g, r, hl, l⟩ := h
    obtain ⟨x, y, z⟩ := s.sl a _ (List.mem_cons_self ..) hl trivial g r
    exact ⟨a, dx, vs, bs, e, rfl, h0, y, z, x, OwK.mono ds vs bs (s.sub fun b hb => List.mem_cons_of_mem _ hb) l⟩
theorem OwL.mono : ∀ (ds : List D) (vs : List V) (as : List Addr), Stays G R H G' R' H' as → OwL Γ H0 G R H ds vs as → OwL Γ H0 G' R' H' ds vs as
  | [], vs, as, s, h => by unfold OwL at *; exact h
  | d :: ds, vs, as, s, h => by
    unfold OwL at *
    obtain ⟨v, r, bs, cs, e, rfl, h1, h2⟩ := h
    exact ⟨v, r, bs, cs, e, rfl, Ow.mono d v bs (s.sub fun a m => List.mem_append_left _ m) h1, OwL.mono ds r cs (s.sub fun a m => List.mem_append_right _ m) h2⟩
theorem OwK.mono : ∀ (ds : List (Key × D)) (vs : List (Key × V)) (as : List Addr), Stays G R H G' R' H' as → OwK Γ H0 G R H ds vs as → OwK Γ H0 G' R' H' ds vs as
  | [], vs, as, s, h => by unfold OwK at *; exact h
  | (x, d) :: ds, vs, as, s, h => by
    unfold OwK at *
    obtain ⟨v, r, bs, cs, e, rfl, h1, h2⟩ := h
    exact ⟨v, r, bs, cs, e, rfl, Ow.mono d v bs (s.sub fun a m => List.mem_append_left _ m) h1, OwK.mono ds r cs (s.sub fun a m => List.mem_append_right _ m) h2⟩
end
mutual
theorem Ow.fresh : ∀ (d : D) (v : V) (as : List Addr), Ow Γ H0 G R H d v as → ∀ a ∈ as, H0 a = none ∧ G a = none ∧ ¬ R a ∧ ∃ o, H a = some o ∧ Open o
  | .lst ds, v, as, h, b, hb => by
    unfold Ow at h
    obtain ⟨a, vs, bs, e, rfl, h0, g, r, hl, l⟩ := h
    rcases List.mem_cons.mp hb with rfl | hb
    · exact ⟨h0, g, r, _, hl, trivial⟩
    · exact OwL.fresh ds vs bs l b hb
  | .dic ds, v, as, h, b, hb => by
    unfold Ow at h
    obtain ⟨a, vs, bs, e, rfl, h0, g, r, hl, l⟩ := h
    rcases List.mem_cons.mp hb with rfl | hb
    · exact ⟨h0, g, r, _, hl, trivial⟩
    · exact OwK.fresh ds vs bs l b hb
  | .tup ds, v, as, h, b, hb => by
    unfold Ow at h
    obtain ⟨a, vs, e, q, l⟩ := h
    exact OwL.fresh ds vs as l b hb
  | .non, v, as, h, x, hb => by unfold Ow at h; rw [h.1] at hb; exact absurd hb List.not_mem_nil
  | .bl b, v, as, h, x, hb => by unfold Ow at h; rw [h.1] at hb; exact absurd hb List.not_mem_nil
  | .int b, v, as, h, x, hb => by unfold Ow at h; rw [h.1] at hb; exact absurd hb List.not_mem_nil
  | .str b, v, as, h, x, hb => by unfold Ow at h; rw [h.1] at hb; exact absurd hb List.not_mem_nil
  | .scr b, v, as, h, x, hb => by unfold Ow at h; rw [h.1] at hb; exact absurd hb List.not_mem_nil
  | .rd, v, as, h, x, hb => by unfold Ow at h; rw [h.1] at hb; exact absurd hb List.not_mem_nil
  | .ins b c, v, as, h, x, hb => by unfold Ow at h; rw [h.1] at hb; exact absurd hb List.not_mem_nil
  | .exc b c, v, as, h, x, hb => by unfold Ow at h; rw [h.1] at hb; exact absurd hb List.not_mem_nil
  | .nms b, v, as, h, x, hb => by unfold Ow at h; rw [h.1] at hb; exact absurd hb List.not_mem_nil
  | .any, v, as, h, x, hb => by unfold Ow at h; rw [h.1] at hb; exact absurd hb List.not_mem_nil
  | .fr d, v, as, h, x, hb => by unfold Ow at h; rw [h.1] at hb; exact absurd hb List.not_mem_nil
  | .raw d, v, as, h, x, hb => by unfold Ow at h; rw [h.1] at hb; exact absurd hb List.not_mem_nil
  | .obj c ds, v, as, h, b, hb => by
    unfold Ow at h
    obtain ⟨a, dx, vs, bs, e, rfl, h0, g, r, hl, l⟩ := h
    rcases List.mem_cons.mp hb with rfl | hb
    · exact ⟨h0, g, r, _, hl, trivial⟩
    · exact OwK.fresh ds vs bs l b hb
theorem OwL.fresh : ∀ (ds : List D) (vs : List V) (as : List Addr), OwL Γ H0 G R H ds vs as → ∀ a ∈ as, H0 a = none ∧ G a = none ∧ ¬ R a ∧ ∃ o, H a = some o ∧ Open o
  | [], vs, as, h, b, hb => by unfold OwL at h; rw [h.2] at hb; exact absurd hb List.not_mem_nil
  | d :: ds, vs, as, h, b, hb => by
    unfold OwL at h
    obtain ⟨v, r, bs, cs, e, rfl, h1, h2⟩ := h
    rcases List.mem_append.mp hb with hb | hb
    · exact Ow.fresh d v bs h1 b hb
    · exact OwL.fresh ds r cs h2 b hb
theorem OwK.fresh : ∀ (ds : List (Key × D)) (vs : List (Key × V)) (as : List Addr), OwK Γ H0 G R H ds vs as → ∀ a ∈ as, H0 a = none ∧ G a = none ∧ ¬ R a ∧ ∃ o, H a = some o ∧ Open o
  | [], vs, as, h, b, hb => by unfold OwK at h; rw [h.2] at hb; exact absurd hb List.not_mem_nil
  | (x, d) :: ds, vs, as, h, b, hb => by
    unfold OwK at h
    obtain ⟨v, r, bs, cs, e, rfl, h1, h2⟩ := h
    rcases List.mem_append.mp hb with hb | hb
    · exact Ow.fresh d v bs h1 b hb
    · exact OwK.fresh ds r cs h2 b hb
end
end
inductive S where | un | fz (d : D) | op (ds : List D) | io (a : Addr) (c : Str) (fs : List (Str × D)) | ex (a : Addr) (d : Option Addr) (c : Str) (fs : List (Str × D)) | ow (v : V) (as : List Addr) (d : D) | se (d : D)
open Classical in
noncomputable def viewO (H0 G : Hp) (R : Addr → Prop) (H : Hp) : Hp := fun b => match H b with
  | some o => if G b = some o ∨ Stiff o ∨ (¬ R b ∧ H0 b ≠ none ∧ Vis o) then some o else none
  | none => none
theorem viewO_iff {H0 G : Hp} {R : Addr → Prop} {H : Hp} {b : Addr} {o : HO} : viewO H0 G R H b = some o ↔ H b = some o ∧ (G b = some o ∨ Stiff o ∨ (¬ R b ∧ H0 b ≠ none ∧ Vis o)) := by
  unfold viewO
  cases q : H b with
  | none => simp
  | some u =>
    simp only
    split
    · rename_i h
      refine ⟨fun e => ?_, fun e => e.1⟩
      cases e
      exact ⟨rfl, h⟩
    · rename_i h
      refine ⟨(fun e => nomatch e), fun ⟨e, z⟩ => ?_⟩
      cases e
      exact absurd z h
theorem viewO_same {H0 G : Hp} {R : Addr → Prop} {H : Hp} (g : Same G H) : Same G (viewO H0 G R H) := fun b o e => viewO_iff.mpr ⟨g b o e, .inl e⟩
def S.fpt : S → Option V → List Addr
  | .op _, some (.ref l) => [l]
  | .io a _ _, _ => [a]
  | .ow _ as _, _ => as
  | _, _ => []
abbrev En := List S
abbrev XQ := Str → List (Str × D) → Prop
abbrev DE := XQ → En → (D → Prop) → Prop
abbrev DT := XQ → En → (Bool → Prop) → Prop
abbrev DA := XQ → En → (List D → Prop) → Prop
structure DK where
  nx : En → Prop
  rt : D → En → Prop
  bk : En → Prop
  ct : En → Prop
  ex : Str → List (Str × D) → En → Prop
  ro : V → List Addr → D → En → Prop
abbrev DS := DK → En → Prop
def SlotOk (Γ : Kx) (H0 G : Hp) (R : Addr → Prop) (H : Hp) : S → Option V → Prop
  | .un, _ => True
  | .fz d, v => ∃ x, v = some x ∧ Rp Γ G R d x
  | .op ds, v => ∃ l vs, v = some (.ref l) ∧ H l = some (.lst vs) ∧ G l = none ∧ ¬ R l ∧ H0 l = none ∧ RpL Γ G R ds vs
  | .io a c fs, v => ∃ dx vs, v = some (.ref a) ∧ H a = some (.ins (Γ.C c) dx vs) ∧ G a = none ∧ ¬ R a ∧ H0 a = none ∧ RpF Γ G R fs vs
  | .ex a d _ fs, v => v = some (.ref a) ∧ ((fs = [] ∧ d = none) ∨ ∃ dd vs, d = some dd ∧ H dd = some (.xd vs) ∧ ¬ R dd ∧ RpF Γ G R fs vs)
  | .ow x as d, v => v = some x ∧ Ow Γ H0 G R H d x as ∧ as.Nodup
  | .se d, v => ∃ x, v = some x ∧ Rp Γ (viewO H0 G R H) R d x
structure Wd (Γ : Kx) (H0 G : Hp) (R : Addr → Prop) (H : Hp) (σ : St) (ρ : En) : Prop where
  gd : Gd G R H
  len : σ.length = ρ.length
  sl : ∀ (i : Nat) s, ρ[i]? = some s → ∃ v, σ[i]? = some v ∧ SlotOk Γ H0 G R H s v
  dj : ∀ (i j : Nat) (s t : S) v w a, i ≠ j → ρ[i]? = some s → ρ[j]? = some t → σ[i]? = some v → σ[j]? = some w → a ∈ s.fpt v → a ∈ t.fpt w → False
def cut (H : Hp) (as : List Addr) : Hp := fun b => if b ∈ as then none else H b
theorem cut_in {H : Hp} {as : List Addr} {a : Addr} (h : a ∈ as) : cut H as a = none := by unfold cut; rw [if_pos h]
theorem cut_out {H : Hp} {as : List Addr} {a : Addr} (h : a ∉ as) : cut H as a = H a := by unfold cut; rw [if_neg h]
theorem cut_some {H : Hp} {as : List Addr} {a : Addr} {o : HO} (h : cut H as a = some o) : a ∉ as ∧ H a = some o := by
  unfold cut at h
  split at h
  · cases h
  · rename_i n
    exact ⟨n, h⟩
def ExRep (Γ : Kx) (G : Hp) (R : Addr → Prop) (H : Hp) (c : Str) (fs : List (Str × D)) (cls : Value) (dx : Option Addr) : Prop :=
  cls = .ref (Γ.C c) ∧ ((fs = [] ∧ dx = none) ∨ (fs ≠ [] ∧ ∃ a vs, dx = some a ∧ H a = some (.xd vs) ∧ RpF Γ G R fs vs))
def Lk (Γ : Kx) (W : WX) (xq : XQ) (σ : St) (G : Hp) (R : Addr → Prop) (H : Hp) : Prop :=
  ∀ c fs G' R' H' cls dx, Nx G R H G' R' H' → xq c fs → ExRep Γ G' R' H' c fs cls dx → W cls dx σ H'
section
variable {Γ : Kx} {H0 G G1 : Hp} {R R1 : Addr → Prop} {H H1 : Hp} {σ : St} {ρ : En} {W : WX} {xq : XQ}
theorem Nx.openO (n : Nx G R H G1 R1 H1) {l : Addr} {o : HO} (h : H l = some o) (hs : ¬ Stiff o) (g : G l = none) (r : ¬ R l) : H1 l = some o ∧ G1 l = none ∧ ¬ R1 l := by
  have e := n.ev l _ h r
  refine ⟨e, ?_, fun z => (n.fr l z).elim r fun y => by rw [h] at y; cases y⟩
  cases q : G1 l with
  | none => rfl
  | some u =>
    rcases n.fg l u q with z | z | z
    · rw [g] at z; cases z
    · rw [h] at z; cases z
    · have := n.gd.sub l u q
      rw [e] at this
      cases this
      exact absurd z hs
theorem Nx.st {o : HO} {a : Addr} (n : Nx G R H G1 R1 H1) (h : H a = some o) (s : Stiff o) (g : Gd G R H) : H1 a = some o := n.ev a o h fun r => by
  obtain ⟨_, _, _, e⟩ := g.rd a r
  rw [h] at e
  cases e
  exact s.elim
theorem Nx.open_ (n : Nx G R H G1 R1 H1) {l : Addr} {vs : List V} (h : H l = some (.lst vs)) (g : G l = none) (r : ¬ R l) : H1 l = some (.lst vs) ∧ G1 l = none ∧ ¬ R1 l := by
  have e := n.ev l _ h r
  refine ⟨e, ?_, fun z => (n.fr l z).elim r fun y => by rw [h] at y; cases y⟩
  cases q : G1 l with
  | none => rfl
  | some o =>
    rcases n.fg l o q with z | z | z
    · rw [g] at z; cases z
    · rw [h] at z; cases z
    · have := n.gd.sub l o q
      rw [e] at this
      cases this
      exact z.elim
theorem viewO_nx (gd : Gd G R H) (n : Nx G R H G1 R1 H1) : Same (viewO H0 G R H) (viewO H0 G1 R1 H1) := fun b o e => by
  obtain ⟨h, z⟩ := viewO_iff.mp e
  rcases z with z | z | ⟨z1, z2, z3⟩
  · have := n.gg b o z
    exact viewO_iff.mpr ⟨n.gd.sub b o this, .inl this⟩
  · exact viewO_iff.mpr ⟨n.st h z gd, .inr (.inl z)⟩
  · exact viewO_iff.mpr ⟨n.ev b o h z1, .inr (.inr ⟨(fun y => (n.fr b y).elim z1 fun y => by rw [h] at y; cases y), z2, z3⟩)⟩
theorem viewO_upd {l : Addr} {o : HO} (h0 : H0 l = none) (g : G l = none) (hs : ∀ u, H l = some u → ¬ Stiff u) : Same (viewO H0 G R H) (viewO H0 G R (upd H l o)) := fun b u e => by
  obtain ⟨h, z⟩ := viewO_iff.mp e
  have ne : b ≠ l := fun q => by
    subst q
    rcases z with z | z | z
    · rw [g] at z; cases z
    · exact hs u h z
    · exact z.2.1 h0
  exact viewO_iff.mpr ⟨by rw [upd_ne ne]; exact h, z⟩
theorem SlotOk.nx (gd : Gd G R H) (n : Nx G R H G1 R1 H1) : ∀ {s : S} {v : Option V}, SlotOk Γ H0 G R H s v → SlotOk Γ H0 G1 R1 H1 s v
  | .un, _, _ => True.intro
  | .fz d, _, ⟨x, e, h⟩ => ⟨x, e, Rp.mono n.gg n.rr d x h⟩
  | .op ds, _, ⟨l, vs, e, h, g, r, h0, q⟩ => by
    obtain ⟨a, b, c⟩ := n.open_ h g r
    exact ⟨l, vs, e, a, b, c, h0, RpL.mono n.gg n.rr ds vs q⟩
  | .io a _ fs, _, ⟨dx, vs, e, h, g, r, h0, q⟩ => by
    obtain ⟨x, y, z⟩ := n.openO h (fun t => t) g r
    exact ⟨dx, vs, e, x, y, z, h0, RpF.mono n.gg n.rr fs vs q⟩
  | .ex _ _ _ fs, _, ⟨e, h⟩ => by
    refine ⟨e, h.imp id fun ⟨dd, vs, e1, e2, r, q⟩ => ⟨dd, vs, e1, n.ev dd _ e2 r, fun z => (n.fr dd z).elim r (fun y => by rw [e2] at y; cases y), RpF.mono n.gg n.rr fs vs q⟩⟩
  | .ow _ as d, _, ⟨e, h, nd⟩ => ⟨e, Ow.mono d _ as ⟨fun a o _ h s g r => n.openO h s.stiff g r, fun a o h s => n.st h s gd, n.rr, n.gg⟩ h, nd⟩
  | .se d, _, ⟨x, e, h⟩ => ⟨x, e, Rp.mono (viewO_nx gd n) n.rr d x h⟩
theorem Wd.nx (w : Wd Γ H0 G R H σ ρ) (n : Nx G R H G1 R1 H1) : Wd Γ H0 G1 R1 H1 σ ρ :=
  ⟨n.gd, w.len, fun i s e => by
    obtain ⟨v, e2, h⟩ := w.sl i s e
    exact ⟨v, e2, h.nx w.gd n⟩, w.dj⟩
theorem Lk.nx (k : Lk Γ W xq σ G R H) (n : Nx G R H G1 R1 H1) : Lk Γ W xq σ G1 R1 H1 := fun c fs G' R' H' cls dx m => k c fs G' R' H' cls dx (n.trans m)
end
def RpQ (Γ : Kx) (G : Hp) (R : Addr → Prop) (H : Hp) : D → V → Prop
  | .lst ds, v => ∃ a vs, v = .ref a ∧ (G a = some (.lst vs) ∨ (H a = some (.lst vs) ∧ G a = none ∧ ¬ R a)) ∧ RpL Γ G R ds vs
  | d, v => Rp Γ G R d v
section
variable {Γ : Kx} {G G1 : Hp} {R R1 : Addr → Prop} {H H1 : Hp}
theorem Rp.q {d : D} {v : V} (h : Rp Γ G R d v) : RpQ Γ G R H d v := by
  cases d <;> first | exact h | skip
  unfold Rp at h
  obtain ⟨a, vs, e, s, l⟩ := h
  exact ⟨a, vs, e, .inl s, l⟩
theorem RpQ.nx (n : Nx G R H G1 R1 H1) {d : D} {v : V} (h : RpQ Γ G R H d v) : RpQ Γ G1 R1 H1 d v := by
  cases d with
  | lst ds =>
    obtain ⟨a, vs, e, s, l⟩ := h
    refine ⟨a, vs, e, ?_, RpL.mono n.gg n.rr ds vs l⟩
    rcases s with s | ⟨a1, a2, a3⟩
    · exact .inl (n.gg _ _ s)
    · exact .inr (n.open_ a1 a2 a3)
  | _ => exact Rp.mono n.gg n.rr _ _ h
theorem RpQ.lst (g : Gd G R H) {ds : List D} {v : V} (h : RpQ Γ G R H (.lst ds) v) : ∃ a vs, v = .ref a ∧ H a = some (.lst vs) ∧ RpL Γ G R ds vs := by
  obtain ⟨a, vs, e, s, l⟩ := h
  rcases s with s | ⟨a1, a2, a3⟩
  · exact ⟨a, vs, e, g.sub _ _ s, l⟩
  · exact ⟨a, vs, e, a1, l⟩
theorem RpQ.scr (g : Gd G R H) {ns : List Int} {v : V} (h : RpQ Γ G R H (.scr ns) v) : ∃ a, v = .ref a ∧ SqL Γ.K H a (ns.map V.int) := by
  have h' : Rp Γ G R (.scr ns) v := h
  unfold Rp at h'
  obtain ⟨a, e, s⟩ := h'
  exact ⟨a, e, g.sub.seq s⟩
theorem RpQ.tup (g : Gd G R H) {ds : List D} {v : V} (h : RpQ Γ G R H (.tup ds) v) : ∃ a vs, v = .ref a ∧ SqT Γ.K H a vs ∧ RpL Γ G R ds vs := by
  have h' : Rp Γ G R (.tup ds) v := h
  unfold Rp at h'
  obtain ⟨a, vs, e, s, l⟩ := h'
  exact ⟨a, vs, e, Same.seqT g.sub s, l⟩
theorem RpQ.all (g : Gd G R H) {d : D} {v : V} (h : RpQ Γ G R H d v) : Rp Γ H R d v := by
  cases d with
  | lst ds =>
    obtain ⟨a, vs, e, s, l⟩ := h.lst g
    unfold Rp
    exact ⟨a, vs, e, s, RpL.mono g.sub (fun _ h => h) ds vs l⟩
  | _ => exact Rp.mono g.sub (fun _ h => h) _ _ h
theorem Rp.own (g : Gd G R H) {d : D} {v : V} (m : immB d = true) (h : Rp Γ H R d v) : Rp Γ (satur G H) R d v := Rp.imm (satur_tups g.sub) (fun _ h => h) d v m h
end
section
variable (Γ : Kx) (W : WX)
def JE (te : TE) (fe : DE) : Prop := ∀ (H0 G : Hp) (R : Addr → Prop) (H : Hp) (σ : St) (ρ : En) (xq : XQ) (Qd : D → Prop) (Q : VK), Wd Γ H0 G R H σ ρ → Lk Γ W xq σ G R H → fe xq ρ Qd →
  (∀ v G' R' H' d, Nx G R H G' R' H' → Rp Γ G' R' d v → Qd d → Q v H') → te σ H Q
def JQ (te : TE) (fe : DE) : Prop := ∀ (H0 G : Hp) (R : Addr → Prop) (H : Hp) (σ : St) (ρ : En) (xq : XQ) (Qd : D → Prop) (Q : VK), Wd Γ H0 G R H σ ρ → Lk Γ W xq σ G R H → fe xq ρ Qd →
  (∀ v G' R' H' d, Nx G R H G' R' H' → RpQ Γ G' R' H' d v → Qd d → Q v H') → te σ H Q
def JN (te : TE) (fe : DA) : Prop := ∀ (H0 G : Hp) (R : Addr → Prop) (H : Hp) (σ : St) (ρ : En) (xq : XQ) (Qd : List D → Prop) (Q : VK), Wd Γ H0 G R H σ ρ → Lk Γ W xq σ G R H → fe xq ρ Qd →
  (∀ l vs G' R' H' ds, Nx G R H G' R' H' → H' l = some (.lst vs) → G' l = none → ¬ R' l → H l = none → RpL Γ G' R' ds vs → Qd ds → Q (.ref l) H') → te σ H Q
def JT (tt : TT) (ft : DT) : Prop := ∀ (H0 G : Hp) (R : Addr → Prop) (H : Hp) (σ : St) (ρ : En) (xq : XQ) (Qd : Bool → Prop) (Q : Bool → Hp → Prop), Wd Γ H0 G R H σ ρ → Lk Γ W xq σ G R H → ft xq ρ Qd →
  (∀ b G' R' H', Nx G R H G' R' H' → Qd b → Q b H') → tt σ H Q
def JA (ta : TA) (fa : DA) : Prop := ∀ (H0 G : Hp) (R : Addr → Prop) (H : Hp) (σ : St) (ρ : En) (xq : XQ) (Qd : List D → Prop) (Q : List V → Hp → Prop), Wd Γ H0 G R H σ ρ → Lk Γ W xq σ G R H → fa xq ρ Qd →
  (∀ vs G' R' H' ds, Nx G R H G' R' H' → RpL Γ G' R' ds vs → Qd ds → Q vs H') → ta σ H Q
end
structure EndsOk (Γ : Kx) (W : WX) (G0 : Hp) (R0 : Addr → Prop) (H0 : Hp) (k : DK) (D : Ends) : Prop where
  nx : ∀ G R H σ ρ, Nx G0 R0 H0 G R H → Wd Γ H0 G R H σ ρ → k.nx ρ → D.nx σ H
  rt : ∀ v d G R H σ ρ, Nx G0 R0 H0 G R H → Wd Γ H0 G R H σ ρ → Rp Γ G R d v → k.rt d ρ → D.rt v H
  bk : ∀ G R H σ ρ, Nx G0 R0 H0 G R H → Wd Γ H0 G R H σ ρ → k.bk ρ → D.bk σ H
  ct : ∀ G R H σ ρ, Nx G0 R0 H0 G R H → Wd Γ H0 G R H σ ρ → k.ct ρ → D.ct σ H
  ex : ∀ c fs cls dx G R H σ ρ, Nx G0 R0 H0 G R H → Wd Γ H0 G R H σ ρ → k.ex c fs ρ → ExRep Γ G R H c fs cls dx → W cls dx σ H
  ro : ∀ v as d G R H σ ρ, Nx G0 R0 H0 G R (cut H as) → Wd Γ H0 G R (cut H as) σ ρ → Ow Γ H0 G R H d v as → as.Nodup → k.ro v as d ρ → D.rt v H
def JS (Γ : Kx) (W : WX) (ts : TS) (fs : DS) : Prop := ∀ (G0 : Hp) (R0 : Addr → Prop) (H0 G : Hp) (R : Addr → Prop) (H : Hp) (σ : St) (ρ : En) (k : DK) (D : Ends),
  Nx G0 R0 H0 G R H → Wd Γ H0 G R H σ ρ → EndsOk Γ W G0 R0 H0 k D → fs k ρ → ts D σ H
section
variable {Γ : Kx} {W : WX} {G0 G : Hp} {R0 R : Addr → Prop} {H0 H : Hp} {k : DK} {D : Ends} {σ : St} {ρ : En}
theorem EndsOk.lk (e : EndsOk Γ W G0 R0 H0 k D) (n : Nx G0 R0 H0 G R H) (w : Wd Γ H0 G R H σ ρ) : Lk Γ W (fun c fs => k.ex c fs ρ) σ G R H :=
  fun c fs G' R' H' cls dx m x r => e.ex c fs cls dx G' R' H' σ ρ (n.trans m) (w.nx m) x r
end
def dVar (i : Nat) : DE := fun _ ρ Q => match ρ[i]? with
  | some (.fz d) => Q d
  | _ => False
def dVarQ (i : Nat) : DE := fun _ ρ Q => match ρ[i]? with
  | some (.fz d) => Q d
  | some (.op ds) => Q (.lst ds)
  | _ => False
def dC (d : D) : DE := fun _ _ Q => Q d
section
variable {Γ : Kx} {W : WX} {te : TE} {fe : DE}
theorem JE.q (h : JE Γ W te fe) : JQ Γ W te fe := fun H0 G R H σ ρ xq Qd Q w x f k => h H0 G R H σ ρ xq Qd Q w x f fun v G' R' H' d n r q => k v G' R' H' d n r.q q
def dImm (fe : DE) : DE := fun xq ρ Q => fe xq ρ fun d => immB d = true ∧ Q d
theorem JQ.own (h : JQ Γ W te fe) : JE Γ W te (dImm fe) := fun H0 G R H σ ρ xq Qd Q w x f k =>
  h H0 G R H σ ρ xq _ Q w x f fun v G' R' H' d n r q => k v _ R' H' d n.satur (Rp.own n.gd q.1 (r.all n.gd)) q.2
def dLst (fa : DA) : DE := fun xq ρ Q => fa xq ρ fun ds => Q (.lst ds)
theorem JN.e {fa : DA} (h : JN Γ W te fa) : JE Γ W te (dLst fa) := fun H0 G R H σ ρ xq Qd Q w x f k =>
  h H0 G R H σ ρ xq _ Q w x f fun l vs G' R' H' ds n e g r h0 rl q => by
    have n2 : Nx G R H (upd G' l (.lst vs)) R' H' := n.freeze e g r h0
    refine k (.ref l) _ R' H' (.lst ds) n2 ?_ q
    unfold Rp
    have g2 : Same G' (upd G' l (.lst vs)) := fun b u z => by rw [upd_ne (ne_of_none z g)]; exact z
    exact ⟨l, vs, rfl, upd_same, RpL.mono g2 (fun _ h => h) ds vs rl⟩
theorem je_var {i : Nat} : JE Γ W (tVar i) (dVar i) := fun H0 G R H σ ρ xq Qd Q w x f k => by
  unfold dVar at f
  split at f
  · rename_i d e
    obtain ⟨v, e2, y, rfl, r⟩ := w.sl i _ e
    exact ⟨y, e2, k y G R H d (Nx.refl w.gd) r f⟩
  · exact f.elim
theorem jq_var {i : Nat} : JQ Γ W (tVar i) (dVarQ i) := fun H0 G R H σ ρ xq Qd Q w x f k => by
  unfold dVarQ at f
  split at f
  · rename_i d e
    obtain ⟨v, e2, y, rfl, r⟩ := w.sl i _ e
    exact ⟨y, e2, k y G R H d (Nx.refl w.gd) r.q f⟩
  · rename_i ds e
    obtain ⟨v, e2, l, vs, rfl, h, g, r, h0, rl⟩ := w.sl i _ e
    exact ⟨.ref l, e2, k _ G R H (.lst ds) (Nx.refl w.gd) ⟨l, vs, rfl, .inr ⟨h, g, r⟩, rl⟩ f⟩
  · exact f.elim
theorem je_int {i : Int} : JE Γ W (tC (.int i)) (dC (.int i)) := fun H0 G R H σ ρ xq Qd Q w x f k => k _ G R H _ (Nx.refl w.gd) (by unfold Rp; rfl) f
theorem je_str {s : Str} : JE Γ W (tC (.str s)) (dC (.str s)) := fun H0 G R H σ ρ xq Qd Q w x f k => k _ G R H _ (Nx.refl w.gd) (by unfold Rp; rfl) f
theorem je_bl {b : Bool} : JE Γ W (tC (.bl b)) (dC (.bl b)) := fun H0 G R H σ ρ xq Qd Q w x f k => k _ G R H _ (Nx.refl w.gd) (by unfold Rp; rfl) f
end
end Dl
namespace Dl
open PySem PySem.Spec PyProof.Rows L2
section
variable (Γ : Kx)
def U1 (r : V → Hp → VK → Prop) (g : D → (D → Prop) → Prop) : Prop := ∀ (G : Hp) (R : Addr → Prop) (H : Hp) (d : D) (v : V) (Qd : D → Prop) (Q : VK), Gd G R H → RpQ Γ G R H d v → g d Qd →
  (∀ w G' R' H' c, Nx G R H G' R' H' → Rp Γ G' R' c w → Qd c → Q w H') → r v H Q
def U2 (r : R2) (g : D → D → (D → Prop) → Prop) : Prop := ∀ (G : Hp) (R : Addr → Prop) (H : Hp) (d e : D) (v u : V) (Qd : D → Prop) (Q : VK), Gd G R H → RpQ Γ G R H d v → RpQ Γ G R H e u → g d e Qd →
  (∀ w G' R' H' c, Nx G R H G' R' H' → Rp Γ G' R' c w → Qd c → Q w H') → r v u H Q
def N1 (r : V → Hp → VK → Prop) (g : D → (List D → Prop) → Prop) : Prop := ∀ (G : Hp) (R : Addr → Prop) (H : Hp) (d : D) (v : V) (Qd : List D → Prop) (Q : VK), Gd G R H → RpQ Γ G R H d v → g d Qd →
  (∀ l vs G' R' H' ds, Nx G R H G' R' H' → H' l = some (.lst vs) → G' l = none → ¬ R' l → H l = none → RpL Γ G' R' ds vs → Qd ds → Q (.ref l) H') → r v H Q
def N2 (r : R2) (g : D → D → (List D → Prop) → Prop) : Prop := ∀ (G : Hp) (R : Addr → Prop) (H : Hp) (d e : D) (v u : V) (Qd : List D → Prop) (Q : VK), Gd G R H → RpQ Γ G R H d v → RpQ Γ G R H e u → g d e Qd →
  (∀ l vs G' R' H' ds, Nx G R H G' R' H' → H' l = some (.lst vs) → G' l = none → ¬ R' l → H l = none → RpL Γ G' R' ds vs → Qd ds → Q (.ref l) H') → r v u H Q
end
def d1 (g : D → (D → Prop) → Prop) (fa : DE) : DE := fun xq ρ Q => fa xq ρ fun x => g x Q
def d2 (g : D → D → (D → Prop) → Prop) (fa fb : DE) : DE := fun xq ρ Q => fa xq ρ fun x => fb xq ρ fun y => g x y Q
def n1 (g : D → (List D → Prop) → Prop) (fa : DE) : DA := fun xq ρ Q => fa xq ρ fun x => g x Q
def n2 (g : D → D → (List D → Prop) → Prop) (fa fb : DE) : DA := fun xq ρ Q => fa xq ρ fun x => fb xq ρ fun y => g x y Q
section
variable {Γ : Kx} {W : WX} {ta tb : TE} {fa fb : DE}
theorem je_op {r : R2} {g : D → D → (D → Prop) → Prop} (u : U2 Γ r g) (a : JQ Γ W ta fa) (b : JQ Γ W tb fb) : JE Γ W (tOp r ta tb) (d2 g fa fb) := fun H0 G R H σ ρ xq Qd Q w x f k =>
  a H0 G R H σ ρ xq _ _ w x f fun v1 G1 R1 H1 d1 n1 r1 q1 => b H0 G1 R1 H1 σ ρ xq _ _ (w.nx n1) (x.nx n1) q1 fun v2 G2 R2 H2 d2 n2 r2 q2 =>
    u G2 R2 H2 d1 d2 v1 v2 Qd Q n2.gd (r1.nx n2) r2 q2 fun w' G' R' H' c n r q => k w' G' R' H' c ((n1.trans n2).trans n) r q
theorem jn_op {r : R2} {g : D → D → (List D → Prop) → Prop} (u : N2 Γ r g) (a : JQ Γ W ta fa) (b : JQ Γ W tb fb) : JN Γ W (tOp r ta tb) (n2 g fa fb) := fun H0 G R H σ ρ xq Qd Q w x f k =>
  a H0 G R H σ ρ xq _ _ w x f fun v1 G1 R1 H1 d1 n1 r1 q1 => b H0 G1 R1 H1 σ ρ xq _ _ (w.nx n1) (x.nx n1) q1 fun v2 G2 R2 H2 d2 n2 r2 q2 =>
    u G2 R2 H2 d1 d2 v1 v2 Qd Q n2.gd (r1.nx n2) r2 q2 fun l vs G' R' H' ds n e g z h r q => k l vs G' R' H' ds ((n1.trans n2).trans n) e g z (by
      cases y : H l with
      | none => rfl
      | some o =>
        obtain ⟨o', e'⟩ := (n1.trans n2).ex l o y
        rw [h] at e'; cases e') r q
theorem je_cb1 {r : List V → Hp → VK → Prop} {g : D → (D → Prop) → Prop} (u : U1 Γ (fun v H Q => r [v] H Q) g) (a : JQ Γ W ta fa) : JE Γ W (tCB r (tCons ta tNil)) (d1 g fa) := fun H0 G R H σ ρ xq Qd Q w x f k =>
  a H0 G R H σ ρ xq _ _ w x f fun v1 G1 R1 H1 d1 n1 r1 q1 => u G1 R1 H1 d1 v1 Qd Q n1.gd r1 q1 fun w' G' R' H' c n r q => k w' G' R' H' c (n1.trans n) r q
theorem jn_cb1 {r : List V → Hp → VK → Prop} {g : D → (List D → Prop) → Prop} (u : N1 Γ (fun v H Q => r [v] H Q) g) (a : JQ Γ W ta fa) : JN Γ W (tCB r (tCons ta tNil)) (n1 g fa) := fun H0 G R H σ ρ xq Qd Q w x f k =>
  a H0 G R H σ ρ xq _ _ w x f fun v1 G1 R1 H1 d1 n1 r1 q1 => u G1 R1 H1 d1 v1 Qd Q n1.gd r1 q1 fun l vs G' R' H' ds n e g z h r q => k l vs G' R' H' ds (n1.trans n) e g z (by
      cases y : H l with
      | none => rfl
      | some o =>
        obtain ⟨o', e'⟩ := n1.ex l o y
        rw [h] at e'; cases e') r q
theorem je_cb2 {r : List V → Hp → VK → Prop} {g : D → D → (D → Prop) → Prop} (u : U2 Γ (fun v u H Q => r [v, u] H Q) g) (a : JQ Γ W ta fa) (b : JQ Γ W tb fb) : JE Γ W (tCB r (tCons ta (tCons tb tNil))) (d2 g fa fb) :=
  je_op (r := fun v u H Q => r [v, u] H Q) u a b
end
theorem JQ.imp {Γ : Kx} {W : WX} {te : TE} {fe fe' : DE} (h : JQ Γ W te fe) (i : ∀ xq ρ Q, fe' xq ρ Q → fe xq ρ Q) : JQ Γ W te fe' := fun H0 G R H σ ρ xq Qd Q w x f k => h H0 G R H σ ρ xq Qd Q w x (i _ _ _ f) k
theorem JE.imp {Γ : Kx} {W : WX} {te : TE} {fe fe' : DE} (h : JE Γ W te fe) (i : ∀ xq ρ Q, fe' xq ρ Q → fe xq ρ Q) : JE Γ W te fe' := fun H0 G R H σ ρ xq Qd Q w x f k => h H0 G R H σ ρ xq Qd Q w x (i _ _ _ f) k
section
variable {Γ : Kx} {G : Hp} {R : Addr → Prop} {H : Hp} {v : V}
theorem RpQ.int {i : Int} (h : RpQ Γ G R H (.int i) v) : v = .int i := by
  have h' : Rp Γ G R (.int i) v := h
  unfold Rp at h'; exact h'
theorem RpQ.bl {i : Bool} (h : RpQ Γ G R H (.bl i) v) : v = .bl i := by
  have h' : Rp Γ G R (.bl i) v := h
  unfold Rp at h'; exact h'
theorem RpQ.str {i : Str} (h : RpQ Γ G R H (.str i) v) : v = .str i := by
  have h' : Rp Γ G R (.str i) v := h
  unfold Rp at h'; exact h'
theorem RpQ.non (h : RpQ Γ G R H .non v) : v = .non := by
  have h' : Rp Γ G R .non v := h
  unfold Rp at h'; exact h'
theorem rp_int {i : Int} : Rp Γ G R (.int i) (.int i) := by unfold Rp; rfl
theorem rp_bl {i : Bool} : Rp Γ G R (.bl i) (.bl i) := by unfold Rp; rfl
theorem rp_str {i : Str} : Rp Γ G R (.str i) (.str i) := by unfold Rp; rfl
theorem rp_non : Rp Γ G R .non .non := by unfold Rp; rfl
theorem new_tup (g : Gd G R H) {ds : List D} {vs : List V} (r : RpL Γ G R ds vs) {Qd : D → Prop} {Q : VK} (q : Qd (.tup ds)) (k : ∀ w G' R' H' c, Nx G R H G' R' H' → Rp Γ G' R' c w → Qd c → Q w H') :
    ∀ p, H p = none → Q (.ref p) (upd H p (.tup vs)) := fun p hp => by
  refine k (.ref p) (upd G p (.tup vs)) R _ (.tup ds) (Nx.newG g _ hp) ?_ q
  unfold Rp
  exact ⟨p, vs, rfl, SqT.of upd_same, RpL.mono (Nx.newG g _ hp).gg (fun _ h => h) ds vs r⟩
theorem new_lst (g : Gd G R H) {ds : List D} {vs : List V} (r : RpL Γ G R ds vs) {Qd : D → Prop} {Q : VK} (q : Qd (.lst ds)) (k : ∀ w G' R' H' c, Nx G R H G' R' H' → Rp Γ G' R' c w → Qd c → Q w H') :
    ∀ p, H p = none → Q (.ref p) (upd H p (.lst vs)) := fun p hp => by
  refine k (.ref p) (upd G p (.lst vs)) R _ (.lst ds) (Nx.newG g _ hp) ?_ q
  unfold Rp
  exact ⟨p, vs, rfl, upd_same, RpL.mono (Nx.newG g _ hp).gg (fun _ h => h) ds vs r⟩
theorem new_open (g : Gd G R H) {ds : List D} {vs : List V} (r : RpL Γ G R ds vs) {Qd : List D → Prop} {Q : VK} (q : Qd ds)
    (k : ∀ l vs G' R' H' ds, Nx G R H G' R' H' → H' l = some (.lst vs) → G' l = none → ¬ R' l → H l = none → RpL Γ G' R' ds vs → Qd ds → Q (.ref l) H') :
    ∀ p, H p = none → Q (.ref p) (upd H p (.lst vs)) := fun p hp => k p vs G R _ ds (Nx.new g _ hp) upd_same (g.fresh hp).1 (g.fresh hp).2 hp r q
end
def gI2 (C : Int → Int → Prop) (o : Int → Int → D) (x y : D) (Q : D → Prop) : Prop := match x, y with
  | .int i, .int j => C i j ∧ Q (o i j)
  | _, _ => False
theorem u2_int {Γ : Kx} {C : Int → Int → Prop} {o : Int → Int → Int} : U2 Γ (rI C fun i j => .int (o i j)) (gI2 C fun i j => .int (o i j)) := fun G R H d e v u Qd Q gd r1 r2 g k => by
  unfold gI2 at g
  split at g
  · exact ⟨_, _, r1.int, r2.int, g.1, k _ G R H _ (Nx.refl gd) rp_int g.2⟩
  · exact g.elim
def gMns (x y : D) (Q : D → Prop) : Prop := match x, y with
  | .int i, .int j => Q (.int (i - j))
  | _, _ => False
theorem u2_sub {Γ : Kx} : U2 Γ (rI0 fun i j => .int (i - j)) gMns := fun G R H d e v u Qd Q gd r1 r2 g k => by
  unfold gMns at g
  split at g
  · exact ⟨_, _, r1.int, r2.int, k _ G R H _ (Nx.refl gd) rp_int g⟩
  · exact g.elim
def gAdd (x y : D) (Q : D → Prop) : Prop := match x, y with
  | .int i, .int j => Q (.int (i + j))
  | .str s, .str t => s.length + t.length ≤ sizeLine ∧ Q (.str (s ++ t))
  | .lst a, .lst b => a.length + b.length ≤ sizeLine ∧ Q (.lst (a ++ b))
  | .tup a, .tup b => a.length + b.length ≤ sizeLine ∧ Q (.tup (a ++ b))
  | _, _ => False
def rAddAll (K : PySem.W.Frag) : R2 := fun x y H Q => ((rI0 fun i j => .int (i + j)) x y H Q ∨ (∃ i j, x = .str i ∧ y = .str j ∧ i.length + j.length ≤ sizeLine ∧ Q (.str (i ++ j)) H)) ∨ (rCat x y H Q ∨ rCatA K x y H Q)
theorem opR_or {X : Cx} {f : Value → Value → Sem Value} {r r' : R2} (h : OpR X f r) (h' : OpR X f r') : OpR X f (fun x y H Q => r x y H Q ∨ r' x y H Q) := fun pins s σ H x y v u Q I rx ry q =>
  q.elim (h pins s σ H x y v u Q I rx ry) (h' pins s σ H x y v u Q I rx ry)
theorem op_addAll {X : Cx} : OpR X (binaryOp .Add) (rAddAll X.K) := opR_or (opR_or op_add op_add_str) (opR_or op_cat op_catA)
theorem u2_add {Γ : Kx} : U2 Γ (rAddAll Γ.K) gAdd := fun G R H d e v u Qd Q gd r1 r2 g k => by
  unfold gAdd at g
  split at g
  · exact .inl (.inl ⟨_, _, r1.int, r2.int, k _ G R H _ (Nx.refl gd) rp_int g⟩)
  · exact .inl (.inr ⟨_, _, r1.str, r2.str, g.1, k _ G R H _ (Nx.refl gd) rp_str g.2⟩)
  · obtain ⟨a, vs, e1, h1, l1⟩ := r1.lst gd
    obtain ⟨b, us, e2, h2, l2⟩ := r2.lst gd
    exact .inr (.inl ⟨a, b, vs, us, e1, e2, h1, h2, by rw [← l1.len, ← l2.len]; exact g.1, new_lst gd (l1.append l2) g.2 k⟩)
  · obtain ⟨a, vs, e1, h1, l1⟩ := r1.tup gd
    obtain ⟨b, us, e2, h2, l2⟩ := r2.tup gd
    refine .inr (.inr ⟨a, b, vs, us, e1, e2, h1, h2, by rw [← l1.len, ← l2.len]; exact g.1, fun z => ?_, fun _ z => ?_, fun _ _ => new_tup gd (l1.append l2) g.2 k⟩)
    · subst z
      have r2' : Rp Γ G R (.tup _) u := r2
      have z2 := l1.len
      rw [List.length_nil] at z2
      have z3 := List.eq_nil_of_length_eq_zero z2
      subst z3
      rw [← e2]
      exact k u G R H _ (Nx.refl gd) r2' (by simpa using g.2)
    · subst z
      have r1' : Rp Γ G R (.tup _) v := r1
      have z2 := l2.len
      rw [List.length_nil] at z2
      have z3 := List.eq_nil_of_length_eq_zero z2
      subst z3
      rw [← e1]
      exact k v G R H _ (Nx.refl gd) r1' (by simpa using g.2)
  · exact g.elim
def gCat (x y : D) (Q : List D → Prop) : Prop := match x, y with
  | .lst a, .lst b => a.length + b.length ≤ sizeLine ∧ Q (a ++ b)
  | _, _ => False
theorem n2_cat {Γ : Kx} : N2 Γ rCat gCat := fun G R H d e v u Qd Q gd r1 r2 g k => by
  unfold gCat at g
  split at g
  · obtain ⟨a, vs, e1, h1, l1⟩ := r1.lst gd
    obtain ⟨b, us, e2, h2, l2⟩ := r2.lst gd
    exact ⟨a, b, vs, us, e1, e2, h1, h2, by rw [← l1.len, ← l2.len]; exact g.1, new_open gd (l1.append l2) g.2 k⟩
  · exact g.elim
def gCmp (p : Int → Int → Bool) (x y : D) (Q : D → Prop) : Prop := match x, y with
  | .int i, .int j => Q (.bl (p i j))
  | _, _ => False
theorem u2_cmp {Γ : Kx} {p : Int → Int → Bool} : U2 Γ (rI0 fun i j => .bl (p i j)) (gCmp p) := fun G R H d e v u Qd Q gd r1 r2 g k => by
  unfold gCmp at g
  split at g
  · exact ⟨_, _, r1.int, r2.int, k _ G R H _ (Nx.refl gd) rp_bl g⟩
  · exact g.elim
def gNeg (x : D) (Q : D → Prop) : Prop := match x with
  | .int i => Q (.int (-i))
  | _ => False
mutual
def py : D → Option PyData
  | .non => some .none
  | .bl b => some (.bool b)
  | .int i => some (.int i)
  | .str s => some (.str s)
  | .tup ds => (pyL ds).map .tuple
  | .lst ds => (pyL ds).map .list
  | _ => none
def pyL : List D → Option (List PyData)
  | [] => some []
  | d :: ds => match py d, pyL ds with
    | some p, some ps => some (p :: ps)
    | _, _ => none
end
section
variable {Γ : Kx} {G : Hp} {R : Addr → Prop}
mutual
theorem Rp.dp : ∀ (d : D) (v : V) (p : PyData), Rp Γ G R d v → py d = some p → Dp Γ.K G v p
  | .non, v, p, h, e => by unfold Rp at h; unfold py at e; cases e; subst h; exact .non
  | .bl b, v, p, h, e => by unfold Rp at h; unfold py at e; cases e; subst h; exact .bl b
  | .int b, v, p, h, e => by unfold Rp at h; unfold py at e; cases e; subst h; exact .int b
  | .str b, v, p, h, e => by unfold Rp at h; unfold py at e; cases e; subst h; exact .str b
  | .tup ds, v, p, h, e => by
    unfold Rp at h
    unfold py at e
    obtain ⟨a, vs, rfl, s, l⟩ := h
    cases q : pyL ds with
    | none => rw [q] at e; cases e
    | some ps => rw [q] at e; cases e; exact .tup s (RpL.dp ds vs ps l q)
  | .lst ds, v, p, h, e => by
    unfold Rp at h
    unfold py at e
    obtain ⟨a, vs, rfl, s, l⟩ := h
    cases q : pyL ds with
    | none => rw [q] at e; cases e
    | some ps => rw [q] at e; cases e; exact .lst (SqL.of s) (RpL.dp ds vs ps l q)
  | .scr _, _, _, _, e => by unfold py at e; cases e
  | .rd, _, _, _, e => by unfold py at e; cases e
  | .ins _ _, _, _, _, e => by unfold py at e; cases e
  | .exc _ _, _, _, _, e => by unfold py at e; cases e
  | .nms _, _, _, _, e => by unfold py at e; cases e
theorem RpL.dp : ∀ (ds : List D) (vs : List V) (ps : List PyData), RpL Γ G R ds vs → pyL ds = some ps → DpAll Γ.K G vs ps
  | [], vs, ps, h, e => by unfold RpL at h; unfold pyL at e; cases e; subst h; exact .nil
  | d :: ds, vs, ps, h, e => by
    unfold RpL at h
    unfold pyL at e
    obtain ⟨v, r, rfl, h1, h2⟩ := h
    cases q1 : py d with
    | none => rw [q1] at e; cases e
    | some p =>
      cases q2 : pyL ds with
      | none => rw [q1, q2] at e; cases e
      | some ps' => rw [q1, q2] at e; cases e; exact .cons (Rp.dp d v p h1 q1) (RpL.dp ds r ps' h2 q2)
end
end
def eqOk (d : D) : Bool := match py d with
  | some p => SeqAt.shaped p
  | none => false
def deq (d e : D) : Bool := match py d, py e with
  | some p, some q => PyData.eqv p q
  | _, _ => false
def gEq (x y : D) (Q : D → Prop) : Prop := eqOk x = true ∧ eqOk y = true ∧ Q (.bl (deq x y))
def gNe (x y : D) (Q : D → Prop) : Prop := eqOk x = true ∧ eqOk y = true ∧ Q (.bl (!deq x y))
theorem eqOk_py {d : D} (h : eqOk d = true) : ∃ p, py d = some p ∧ SeqAt.shaped p = true := by
  unfold eqOk at h
  split at h
  · exact ⟨_, by assumption, h⟩
  · cases h
theorem u2_eq {Γ : Kx} : U2 Γ (rEqD Γ.K) gEq := fun G R H d e v u Qd Q gd r1 r2 g k => by
  obtain ⟨g1, g2, g3⟩ := g
  obtain ⟨p, e1, s1⟩ := eqOk_py g1
  obtain ⟨q, e2, s2⟩ := eqOk_py g2
  refine ⟨p, q, Rp.dp d v p (r1.all gd) e1, Rp.dp e u q (r2.all gd) e2, s1, s2, ?_⟩
  unfold deq at g3
  rw [e1, e2] at g3
  exact k _ G R H _ (Nx.refl gd) rp_bl g3
theorem u2_ne {Γ : Kx} : U2 Γ (rNeD Γ.K) gNe := fun G R H d e v u Qd Q gd r1 r2 g k => by
  obtain ⟨g1, g2, g3⟩ := g
  obtain ⟨p, e1, s1⟩ := eqOk_py g1
  obtain ⟨q, e2, s2⟩ := eqOk_py g2
  refine ⟨p, q, Rp.dp d v p (r1.all gd) e1, Rp.dp e u q (r2.all gd) e2, s1, s2, ?_⟩
  unfold deq at g3
  rw [e1, e2] at g3
  exact k _ G R H _ (Nx.refl gd) rp_bl g3
end Dl
namespace Dl
open PySem PySem.Spec PyProof.Rows L2
def rInT (K : PySem.W.Frag) (neg : Bool) : R2 := fun x y H Q => ∃ d ds, Dp K H x d ∧ Dp K H y (.tuple ds) ∧ SeqAt.shaped d = true ∧ SeqAt.shaped (.tuple ds) = true ∧ Q (.bl (if neg then !(ds.any fun z => PyData.eqv z d) else ds.any fun z => PyData.eqv z d)) H
theorem op_inT {X : Cx} (hu : X.A.units + 65 < cLine) : OpR X (compareOp .In) (rInT X.K false) := by
  intro pins s σ H x y v u Q I rx ry h
  obtain ⟨d, ds, hd, he, sd, se, q⟩ := h
  obtain ⟨as, r1⟩ := Dp.reads I d x v hd rx
  obtain ⟨bs, r2⟩ := Dp.reads I (.tuple ds) y u he ry
  exact SeqAt.in_tuple_reads r2 r1 (SeqAt.canLay_of_shaped se)
    (SeqAt.canLay_of_shaped sd) (room_in_shaped sd hu)
    ⟨.bl _, H, I, rfl, q⟩
theorem op_notInT {X : Cx} (hu : X.A.units + 65 < cLine) : OpR X (compareOp .NotIn) (rInT X.K true) := by
  intro pins s σ H x y v u Q I rx ry h
  obtain ⟨d, ds, hd, he, sd, se, q⟩ := h
  obtain ⟨as, r1⟩ := Dp.reads I d x v hd rx
  obtain ⟨bs, r2⟩ := Dp.reads I (.tuple ds) y u he ry
  exact SeqAt.notIn_tuple_reads r2 r1 (SeqAt.canLay_of_shaped se)
    (SeqAt.canLay_of_shaped sd) (room_in_shaped sd hu)
    ⟨.bl _, H, I, rfl, q⟩
def rInStr (neg : Bool) : R2 := fun x y H Q => ∃ i j, x = .str i ∧ y = .str j ∧ Q (.bl (if neg then !(!(Builtin.Str.occurrences j i 0 j.length 1).isEmpty) else !(Builtin.Str.occurrences j i 0 j.length 1).isEmpty)) H
def rInAll (K : PySem.W.Frag) : R2 := fun x y H Q => rInStr false x y H Q ∨ (rInD K x y H Q ∨ rInT K false x y H Q)
def rNotInAll (K : PySem.W.Frag) : R2 := fun x y H Q => rInStr true x y H Q ∨ (rNotInD K x y H Q ∨ rInT K true x y H Q)
theorem op_inAll {X : Cx} (hu : X.A.units + 65 < cLine) : OpR X (compareOp .In) (rInAll X.K) := opR_or op_in_str (opR_or (op_inD hu) (op_inT hu))
theorem op_notInAll {X : Cx} (hu : X.A.units + 65 < cLine) : OpR X (compareOp .NotIn) (rNotInAll X.K) := opR_or op_notIn_str (opR_or (op_notInD hu) (op_notInT hu))
def strIn (s t : Str) : Bool := !(Builtin.Str.occurrences t s 0 t.length 1).isEmpty
def gIn (neg : Bool) (x y : D) (Q : D → Prop) : Prop := match x, y with
  | .str s, .str t => Q (.bl (if neg then !strIn s t else strIn s t))
  | x, .lst ds => eqOk x = true ∧ eqOk (.lst ds) = true ∧ Q (.bl (if neg then !(ds.any fun z => deq z x) else ds.any fun z => deq z x))
  | x, .tup ds => eqOk x = true ∧ eqOk (.tup ds) = true ∧ Q (.bl (if neg then !(ds.any fun z => deq z x) else ds.any fun z => deq z x))
  | _, _ => False
theorem pyL_any {x : D} {p : PyData} (e : py x = some p) : ∀ {ds : List D} {ps : List PyData}, pyL ds = some ps → (ps.any fun z => PyData.eqv z p) = ds.any fun z => deq z x
  | [], ps, h => by unfold pyL at h; cases h; rfl
  | d :: ds, ps, h => by
    unfold pyL at h
    cases q1 : py d with
    | none => rw [q1] at h; cases h
    | some q =>
      cases q2 : pyL ds with
      | none => rw [q1, q2] at h; cases h
      | some qs =>
        rw [q1, q2] at h
        cases h
        rw [List.any_cons, List.any_cons, pyL_any e q2]
        unfold deq
        rw [q1, e]
theorem u2_in {Γ : Kx} : U2 Γ (rInAll Γ.K) (gIn false) := fun G R H d e v u Qd Q gd r1 r2 g k => by
  unfold gIn at g
  split at g
  · exact .inl ⟨_, _, r1.str, r2.str, k _ G R H _ (Nx.refl gd) rp_bl g⟩
  · obtain ⟨g1, g2, g3⟩ := g
    obtain ⟨p, e1, s1⟩ := eqOk_py g1
    obtain ⟨q, e2, s2⟩ := eqOk_py g2
    have r2' := Rp.dp _ u q (r2.all gd) e2
    unfold py at e2
    cases z : pyL _ with
    | none => rw [z] at e2; cases e2
    | some ps =>
      rw [z] at e2
      cases e2
      refine .inr (.inl ⟨p, ps, Rp.dp _ v p (r1.all gd) e1, r2', s1, s2, ?_⟩)
      rw [pyL_any e1 z]
      exact k _ G R H _ (Nx.refl gd) rp_bl g3
  · obtain ⟨g1, g2, g3⟩ := g
    obtain ⟨p, e1, s1⟩ := eqOk_py g1
    obtain ⟨q, e2, s2⟩ := eqOk_py g2
    have r2' := Rp.dp _ u q (r2.all gd) e2
    unfold py at e2
    cases z : pyL _ with
    | none => rw [z] at e2; cases e2
    | some ps =>
      rw [z] at e2
      cases e2
      refine .inr (.inr ⟨p, ps, Rp.dp _ v p (r1.all gd) e1, r2', s1, s2, ?_⟩)
      rw [pyL_any e1 z]
      exact k _ G R H _ (Nx.refl gd) rp_bl g3
  · exact g.elim
theorem u2_notIn {Γ : Kx} : U2 Γ (rNotInAll Γ.K) (gIn true) := fun G R H d e v u Qd Q gd r1 r2 g k => by
  unfold gIn at g
  split at g
  · exact .inl ⟨_, _, r1.str, r2.str, k _ G R H _ (Nx.refl gd) rp_bl g⟩
  · obtain ⟨g1, g2, g3⟩ := g
    obtain ⟨p, e1, s1⟩ := eqOk_py g1
    obtain ⟨q, e2, s2⟩ := eqOk_py g2
    have r2' := Rp.dp _ u q (r2.all gd) e2
    unfold py at e2
    cases z : pyL _ with
    | none => rw [z] at e2; cases e2
    | some ps =>
      rw [z] at e2
      cases e2
      refine .inr (.inl ⟨p, ps, Rp.dp _ v p (r1.all gd) e1, r2', s1, s2, ?_⟩)
      rw [pyL_any e1 z]
      exact k _ G R H _ (Nx.refl gd) rp_bl g3
  · obtain ⟨g1, g2, g3⟩ := g
    obtain ⟨p, e1, s1⟩ := eqOk_py g1
    obtain ⟨q, e2, s2⟩ := eqOk_py g2
    have r2' := Rp.dp _ u q (r2.all gd) e2
    unfold py at e2
    cases z : pyL _ with
    | none => rw [z] at e2; cases e2
    | some ps =>
      rw [z] at e2
      cases e2
      refine .inr (.inr ⟨p, ps, Rp.dp _ v p (r1.all gd) e1, r2', s1, s2, ?_⟩)
      rw [pyL_any e1 z]
      exact k _ G R H _ (Nx.refl gd) rp_bl g3
  · exact g.elim
def isNon : D → Bool
  | .non => true
  | .raw u => decide (u = V.non)
  | _ => false
theorem isNon_of {Γ : Kx} {G : Hp} {R : Addr → Prop} {H : Hp} {d : D} {v : V} (r : RpQ Γ G R H d v) : decide (v = V.non) = isNon d := by
  cases d with
  | non => rw [r.non]; rfl
  | bl b => rw [r.bl]; rfl
  | int b => rw [r.int]; rfl
  | str b => rw [r.str]; rfl
  | lst ds => obtain ⟨a, vs, e, _⟩ := r; rw [e]; rfl
  | tup ds =>
    have r' : Rp Γ G R (.tup ds) v := r
    unfold Rp at r'
    obtain ⟨a, vs, e, _⟩ := r'; rw [e]; rfl
  | scr ds =>
    have r' : Rp Γ G R (.scr ds) v := r
    unfold Rp at r'
    obtain ⟨a, e, _⟩ := r'; rw [e]; rfl
  | rd =>
    have r' : Rp Γ G R .rd v := r
    unfold Rp at r'
    obtain ⟨a, e, _⟩ := r'; rw [e]; rfl
  | ins c fs =>
    have r' : Rp Γ G R (.ins c fs) v := r
    unfold Rp at r'
    obtain ⟨a, dx, vs, e, _⟩ := r'; rw [e]; rfl
  | exc c fs =>
    have r' : Rp Γ G R (.exc c fs) v := r
    unfold Rp at r'
    obtain ⟨a, vs, e, _⟩ := r'; rw [e]; rfl
  | nms ys =>
    have r' : Rp Γ G R (.nms ys) v := r
    unfold Rp at r'
    obtain ⟨a, its, e, _⟩ := r'; rw [e]; rfl
  | any =>
    have r' : Rp Γ G R .any v := r
    unfold Rp at r'
    exact decide_eq_false r'
  | dic kvs =>
    have r' : Rp Γ G R (.dic kvs) v := r
    unfold Rp at r'
    obtain ⟨a, us, e, _⟩ := r'; rw [e]; rfl
  | fr d =>
    have r' : Rp Γ G R (.fr d) v := r
    unfold Rp at r'
    exact decide_eq_false r'.1
  | raw u =>
    have r' : Rp Γ G R (.raw u) v := r
    unfold Rp at r'
    rw [r']; rfl
  | obj c kvs =>
    have r' : Rp Γ G R (.obj c kvs) v := r
    unfold Rp at r'
    exact decide_eq_false r'
section
variable {Γ : Kx} {G : Hp} {R : Addr → Prop}
theorem atI_map {α β : Type} {xs : List α} {ys : List β} {i : Int} {x : α} (hl : xs.length = ys.length) (h : atI xs i = some x) : ∃ j : Nat, xs[j]? = some x ∧ ∀ y, ys[j]? = some y → atI ys i = some y := by
  unfold atI at h
  cases q : ixN xs.length i with
  | none => rw [q] at h; cases h
  | some j =>
    rw [q] at h
    refine ⟨j, h, fun y hy => ?_⟩
    unfold atI
    rw [← hl, q]
    exact hy
theorem RpL.atI {ds : List D} {vs : List V} {i : Int} {d : D} (r : RpL Γ G R ds vs) (h : atI ds i = some d) : ∃ v, L2.atI vs i = some v ∧ Rp Γ G R d v := by
  obtain ⟨j, e, f⟩ := atI_map r.len h
  obtain ⟨v, e2, q⟩ := r.get e
  exact ⟨v, f v e2, q⟩
theorem RpL.take : ∀ {ds : List D} {vs : List V} (n : Nat), RpL Γ G R ds vs → RpL Γ G R (ds.take n) (vs.take n)
  | [], _, n, h => by unfold RpL at h; subst h; simp only [List.take_nil]; exact RpL.nil
  | d :: ds, vs, 0, _ => by simp only [List.take_zero]; exact RpL.nil
  | d :: ds, vs, n + 1, h => by
    unfold RpL at h
    obtain ⟨v, r, rfl, h1, h2⟩ := h
    exact RpL.cons h1 (RpL.take n h2)
theorem RpL.drop : ∀ {ds : List D} {vs : List V} (n : Nat), RpL Γ G R ds vs → RpL Γ G R (ds.drop n) (vs.drop n)
  | [], _, n, h => by unfold RpL at h; subst h; simp only [List.drop_nil]; exact RpL.nil
  | d :: ds, vs, 0, h => h
  | d :: ds, vs, n + 1, h => by
    unfold RpL at h
    obtain ⟨v, r, rfl, h1, h2⟩ := h
    exact RpL.drop n h2
end
def gIx (x y : D) (Q : D → Prop) : Prop := match x, y with
  | .lst ds, .int i => match atI ds i with
    | some d => Q d
    | none => False
  | .tup ds, .int i => match atI ds i with
    | some d => Q d
    | none => False
  | .str s, .int i => s.length ≤ sizeLine ∧ match atI s.cps.toList i with
    | some c => Q (.str ⟨#[c]⟩)
    | none => False
  | .scr ns, .int i => match atI ns i with
    | some n => Q (.int n)
    | none => False
  | .nms ys, .int i => match atI ys i with
    | some y => Q (.str y)
    | none => False
  | .rd, .int i => 0 ≤ i ∧ i < 3 ∧ ∀ n : Int, Q (.int n)
  | _, _ => False
theorem u2_ix {Γ : Kx} : U2 Γ (rIx Γ.K) gIx := fun G R H d e v u Qd Q gd r1 r2 g k => by
  unfold gIx at g
  split at g
  · obtain ⟨a, vs, e1, h1, l1⟩ := r1.lst gd
    split at g
    · rename_i q
      obtain ⟨w, e2, rw'⟩ := l1.atI q
      exact .inl ⟨a, vs, _, w, e1, r2.int, SqL.of h1, e2, k w G R H _ (Nx.refl gd) rw' g⟩
    · exact g.elim
  · obtain ⟨a, vs, e1, h1, l1⟩ := r1.tup gd
    split at g
    · rename_i q
      obtain ⟨w, e2, rw'⟩ := l1.atI q
      exact .inr (.inl ⟨a, vs, _, w, e1, r2.int, h1, e2, k w G R H _ (Nx.refl gd) rw' g⟩)
    · exact g.elim
  · obtain ⟨g1, g⟩ := g
    split at g
    · rename_i q
      exact .inr (.inr ⟨_, _, _, r1.str, r2.int, g1, q, k _ G R H _ (Nx.refl gd) rp_str g⟩)
    · exact g.elim
  · obtain ⟨a, e1, h1⟩ := r1.scr gd
    split at g
    · rename_i ns i _ n q
      obtain ⟨j, e2, f⟩ := atI_map (ys := ns.map V.int) (by simp) q
      exact .inl ⟨a, _, _, .int n, e1, r2.int, h1, f (.int n) (by rw [List.getElem?_map, e2]; rfl), k _ G R H _ (Nx.refl gd) rp_int g⟩
    · exact g.elim
  · split at g
    · rename_i ys i _ n q
      obtain ⟨j, e2, f⟩ := atI_map (ys := ys.map V.str) (by simp) q
      have r1' : Rp Γ G R (.nms ys) v := r1
      unfold Rp at r1'
      obtain ⟨a, its, e1, h1⟩ := r1'
      exact .inr (.inl ⟨a, _, _, .str n, e1, r2.int, .inl (.inr ⟨_, gd.sub _ _ h1⟩), f (.str n) (by rw [List.getElem?_map, e2]; rfl), k _ G R H _ (Nx.refl gd) rp_str g⟩)
    · exact g.elim
  · rename_i i
    have r1' : Rp Γ G R .rd v := r1
    unfold Rp at r1'
    obtain ⟨a, e1, ra⟩ := r1'
    obtain ⟨x0, x1, x2, e⟩ := gd.rd a ra
    obtain ⟨g1, g2, g3⟩ := g
    have hz : ∃ n : Int, atI [V.int x0, V.int x1, V.int x2] i = some (.int n) := by
      have : i = 0 ∨ i = 1 ∨ i = 2 := by omega
      rcases this with rfl | rfl | rfl
      · exact ⟨x0, rfl⟩
      · exact ⟨x1, rfl⟩
      · exact ⟨x2, rfl⟩
    obtain ⟨n, hn⟩ := hz
    exact .inl ⟨a, _, _, .int n, e1, r2.int, SqL.of e, hn, k _ G R H _ (Nx.refl gd) rp_int (g3 n)⟩
  · exact g.elim
def cutD {α : Type} (xs : List α) (lo hi : Option Int) : List α := (xs.drop (HT.sIx xs.length 0 lo)).take (HT.sIx xs.length xs.length hi - HT.sIx xs.length 0 lo)
theorem RpL.cut {Γ : Kx} {G : Hp} {R : Addr → Prop} {ds : List D} {vs : List V} (lo hi : Option Int) (r : RpL Γ G R ds vs) : RpL Γ G R (cutD ds lo hi) (cutV vs lo hi) := by
  unfold cutD cutV
  rw [r.len]
  exact (r.drop _).take _
def rSlAll (K : PySem.W.Frag) : V → Option Int → Option Int → Hp → VK → Prop := fun x lo hi H Q => rSlL K x lo hi H Q ∨ (rSlA K x lo hi H Q ∨ rSlS x lo hi H Q)
theorem sl_all {X : Cx} : SlR X (rSlAll X.K) := sl_list.or (sl_tupA.or sl_str)
def gSl (x : D) (lo hi : Option Int) (Q : D → Prop) : Prop := match x with
  | .lst ds => Q (.lst (cutD ds lo hi))
  | .tup ds => Q (.tup (cutD ds lo hi))
  | .str s => s.length ≤ sizeLine ∧ Q (.str (cutS s lo hi))
  | _ => False
theorem cut_whole {α : Type} {xs : List α} {lo hi : Option Int} (h : HT.sIx xs.length 0 lo = 0 ∧ HT.sIx xs.length xs.length hi = xs.length) : cutD xs lo hi = xs := by
  unfold cutD
  rw [h.1, h.2]
  simp
def gSlN (x : D) (lo hi : Option Int) (Q : List D → Prop) : Prop := match x with
  | .lst ds => Q (cutD ds lo hi)
  | _ => False
abbrev DO := XQ → En → (Option Int → Prop) → Prop
def JO (Γ : Kx) (W : WX) (to : TO) (fo : DO) : Prop := ∀ (H0 G : Hp) (R : Addr → Prop) (H : Hp) (σ : St) (ρ : En) (xq : XQ) (Qd : Option Int → Prop) (Q : Option Int → Hp → Prop), Wd Γ H0 G R H σ ρ → Lk Γ W xq σ G R H → fo xq ρ Qd →
  (∀ o G' R' H', Nx G R H G' R' H' → Qd o → Q o H') → to σ H Q
def oNo : DO := fun _ _ Q => Q none
def oSome (fe : DE) : DO := fun xq ρ Q => fe xq ρ fun d => match d with
  | .int i => Q (some i)
  | _ => False
section
variable {Γ : Kx} {W : WX} {te : TE} {fe : DE} {tl th : TO} {fl fh : DO}
theorem jo_no : JO Γ W tNoPart oNo := fun H0 G R H σ ρ xq Qd Q w x f k => k none G R H (Nx.refl w.gd) f
theorem jo_some (a : JQ Γ W te fe) : JO Γ W (tPart te) (oSome fe) := fun H0 G R H σ ρ xq Qd Q w x f k =>
  a H0 G R H σ ρ xq _ _ w x f fun v G' R' H' d n r q => by
    cases d <;> first | exact q.elim | skip
    exact ⟨_, r.int, k _ G' R' H' n q⟩
theorem je_sl (a : JQ Γ W te fe) (b : JO Γ W tl fl) (c : JO Γ W th fh) : JE Γ W (tSl (rSlAll Γ.K) te tl th) (fun xq ρ Q => fe xq ρ fun x => fl xq ρ fun lo => fh xq ρ fun hi => gSl x lo hi Q) := fun H0 G R H σ ρ xq Qd Q w x f k =>
  a H0 G R H σ ρ xq _ _ w x f fun v G1 R1 H1 d n1 r1 q1 => b H0 G1 R1 H1 σ ρ xq _ _ (w.nx n1) (x.nx n1) q1 fun lo G2 R2 H2 n2 q2 => c H0 G2 R2 H2 σ ρ xq _ _ ((w.nx n1).nx n2) ((x.nx n1).nx n2) q2 fun hi G3 R3 H3 n3 g => by
    have n := (n1.trans n2).trans n3
    have r3 := (r1.nx n2).nx n3
    have k' : ∀ w G' R' H' c, Nx G3 R3 H3 G' R' H' → Rp Γ G' R' c w → Qd c → Q w H' := fun w' G' R' H' c m => k w' G' R' H' c (n.trans m)
    unfold gSl at g
    split at g
    · obtain ⟨a, vs, e1, h1, l1⟩ := r3.lst n3.gd
      exact .inl ⟨a, vs, e1, SqL.of h1, new_lst n3.gd (l1.cut lo hi) g k'⟩
    · obtain ⟨a, vs, e1, h1, l1⟩ := r3.tup n3.gd
      refine .inr (.inl ⟨a, vs, e1, h1, fun z => ?_, fun _ => new_tup n3.gd (l1.cut lo hi) g k'⟩)
      rw [← l1.len] at z
      rw [cut_whole z] at g
      rw [← e1]
      exact k' v G3 R3 H3 _ (Nx.refl n3.gd) r3 g
    · exact .inr (.inr ⟨_, r3.str, g.1, k' _ G3 R3 H3 _ (Nx.refl n3.gd) rp_str g.2⟩)
    · exact g.elim
end
def gLen (x : D) (Q : D → Prop) : Prop := match x with
  | .lst ds => Q (.int ds.length)
  | .tup ds => Q (.int ds.length)
  | .scr ns => Q (.int ns.length)
  | .str s => s.length ≤ sizeLine ∧ Q (.int s.length)
  | .nms ys => Q (.int ys.length)
  | _ => False
theorem u1_len {Γ : Kx} : U1 Γ (fun v H Q => ∃ x n, [v] = [x] ∧ LenV Γ.K x H n ∧ Q (.int n) H) gLen := fun G R H d v Qd Q gd r1 g k => by
  unfold gLen at g
  split at g
  · obtain ⟨a, vs, e1, h1, l1⟩ := r1.lst gd
    exact ⟨v, _, rfl, by rw [e1]; exact .inl ⟨vs, SqL.of h1, l1.len⟩, k _ G R H _ (Nx.refl gd) rp_int g⟩
  · obtain ⟨a, vs, e1, h1, l1⟩ := r1.tup gd
    exact ⟨v, _, rfl, by rw [e1]; exact .inr ⟨vs, h1, l1.len⟩, k _ G R H _ (Nx.refl gd) rp_int g⟩
  · obtain ⟨a, e1, h1⟩ := r1.scr gd
    exact ⟨v, _, rfl, by rw [e1]; exact .inl ⟨_, h1, by rw [List.length_map]⟩, k _ G R H _ (Nx.refl gd) rp_int g⟩
  · exact ⟨v, _, rfl, by rw [r1.str]; exact ⟨g.1, rfl⟩, k _ G R H _ (Nx.refl gd) rp_int g.2⟩
  · rename_i ys
    have r1' : Rp Γ G R (.nms ys) v := r1
    unfold Rp at r1'
    obtain ⟨a, its, e1, h1⟩ := r1'
    exact ⟨v, _, rfl, by rw [e1]; exact .inr ⟨ys.map V.str, .inl (.inr ⟨_, gd.sub _ _ h1⟩), (List.length_map ..).symm⟩, k _ G R H _ (Nx.refl gd) rp_int g⟩
  · exact g.elim
def gInt (x : D) (Q : D → Prop) : Prop := match x with
  | .int i => Q (.int i)
  | .bl b => Q (.int (if b then 1 else 0))
  | _ => False
theorem u1_int {Γ : Kx} : U1 Γ (fun v H Q => (∃ i, [v] = [V.int i] ∧ Q (.int i) H) ∨ ∃ k, [v] = [V.bl k] ∧ Q (.int (if k then 1 else 0)) H) gInt := fun G R H d v Qd Q gd r1 g k => by
  unfold gInt at g
  split at g
  · exact .inl ⟨_, by rw [r1.int], k _ G R H _ (Nx.refl gd) rp_int g⟩
  · exact .inr ⟨_, by rw [r1.bl], k _ G R H _ (Nx.refl gd) rp_int g⟩
  · exact g.elim
def gStr (x : D) (Q : D → Prop) : Prop := match x with
  | .int i => i.natAbs.log2 < 1920 ∧ Q (.str (toString i))
  | _ => False
theorem u1_str {Γ : Kx} : U1 Γ (fun v H Q => ∃ i : Int, [v] = [V.int i] ∧ i.natAbs.log2 < 1920 ∧ Q (.str (toString i)) H) gStr := fun G R H d v Qd Q gd r1 g k => by
  unfold gStr at g
  split at g
  · exact ⟨_, by rw [r1.int], g.1, k _ G R H _ (Nx.refl gd) rp_str g.2⟩
  · exact g.elim
def gMin (x y : D) (Q : D → Prop) : Prop := match x, y with
  | .int i, .int j => Q (.int (if j < i then j else i))
  | _, _ => False
def gMax (x y : D) (Q : D → Prop) : Prop := match x, y with
  | .int i, .int j => Q (.int (if j > i then j else i))
  | _, _ => False
theorem u2_max {Γ : Kx} : U2 Γ (fun v u H Q => ∃ i j, [v, u] = [V.int i, V.int j] ∧ Q (.int (if j > i then j else i)) H) gMax := fun G R H d e v u Qd Q gd r1 r2 g k => by
  unfold gMax at g
  split at g
  · exact ⟨_, _, by rw [r1.int, r2.int], k _ G R H _ (Nx.refl gd) rp_int g⟩
  · exact g.elim
def gListN (x : D) (Q : List D → Prop) : Prop := match x with
  | .lst ds => Q ds
  | .tup ds => Q ds
  | _ => False
theorem n1_list {Γ : Kx} : N1 Γ (fun v H Q => ∃ p ys, [v] = [V.ref p] ∧ (SqL Γ.K H p ys ∨ SqT Γ.K H p ys) ∧ ∀ l, H l = none → Q (.ref l) (upd H l (.lst ys))) gListN := fun G R H d v Qd Q gd r1 g k => by
  unfold gListN at g
  split at g
  · obtain ⟨a, vs, e1, h1, l1⟩ := r1.lst gd
    exact ⟨a, vs, by rw [e1], .inl (SqL.of h1), new_open gd l1 g k⟩
  · obtain ⟨a, vs, e1, h1, l1⟩ := r1.tup gd
    exact ⟨a, vs, by rw [e1], .inr h1, new_open gd l1 g k⟩
  · exact g.elim
def gTuple (x : D) (Q : D → Prop) : Prop := match x with
  | .lst ds => Q (.tup ds)
  | .tup ds => Q (.tup ds)
  | _ => False
def bls : List D → Option (List Bool)
  | [] => some []
  | .bl b :: ds => (bls ds).map (b :: ·)
  | _ :: _ => none
theorem bls_of {Γ : Kx} {G : Hp} {R : Addr → Prop} : ∀ {ds : List D} {vs : List V} {bs : List Bool}, RpL Γ G R ds vs → bls ds = some bs → vs = bs.map V.bl
  | [], vs, bs, h, e => by unfold RpL at h; unfold bls at e; cases e; subst h; rfl
  | .bl b :: ds, vs, bs, h, e => by
    unfold RpL at h
    obtain ⟨v, r, rfl, h1, h2⟩ := h
    unfold bls at e
    cases q : bls ds with
    | none => rw [q] at e; cases e
    | some bs' =>
      rw [q] at e
      cases e
      unfold Rp at h1
      rw [h1, bls_of h2 q]
      rfl
  | .non :: _, _, _, _, e => by unfold bls at e; cases e
  | .int _ :: _, _, _, _, e => by unfold bls at e; cases e
  | .str _ :: _, _, _, _, e => by unfold bls at e; cases e
  | .tup _ :: _, _, _, _, e => by unfold bls at e; cases e
  | .lst _ :: _, _, _, _, e => by unfold bls at e; cases e
  | .scr _ :: _, _, _, _, e => by unfold bls at e; cases e
  | .rd :: _, _, _, _, e => by unfold bls at e; cases e
  | .ins _ _ :: _, _, _, _, e => by unfold bls at e; cases e
  | .exc _ _ :: _, _, _, _, e => by unfold bls at e; cases e
  | .nms _ :: _, _, _, _, e => by unfold bls at e; cases e
def gAll (x : D) (Q : D → Prop) : Prop := match x with
  | .lst ds => match bls ds with
    | some bs => Q (.bl (bs.all id))
    | none => False
  | _ => False
theorem u1_all {Γ : Kx} : U1 Γ (fun v H Q => rAll Γ.K [v] H Q) gAll := fun G R H d v Qd Q gd r1 g k => by
  unfold gAll at g
  split at g
  · obtain ⟨a, vs, e1, h1, l1⟩ := r1.lst gd
    split at g
    · rename_i bs e
      exact ⟨a, bs, by rw [e1], by rw [← bls_of l1 e]; exact SqL.of h1, k _ G R H _ (Nx.refl gd) rp_bl g⟩
    · exact g.elim
  · exact g.elim
end Dl
namespace Dl
open PySem PySem.Spec PyProof.Rows L2
def dNil : DA := fun _ _ Q => Q []
def dCons (fa : DE) (fr : DA) : DA := fun xq ρ Q => fa xq ρ fun x => fr xq ρ fun xs => Q (x :: xs)
def dTup (fa : DA) : DE := fun xq ρ Q => fa xq ρ fun ds => Q (.tup ds)
section
variable {Γ : Kx} {W : WX} {te : TE} {fe : DE} {ta : TA} {fa : DA}
theorem ja_nil : JA Γ W tNil dNil := fun H0 G R H σ ρ xq Qd Q w x f k => k [] G R H [] (Nx.refl w.gd) RpL.nil f
inductive Cnt : TA → Nat → Prop
  | nil : Cnt tNil 0
  | cons {te : TE} {ta : TA} {n : Nat} : Cnt ta n → Cnt (tCons te ta) (n + 1)
def JAn (Γ : Kx) (W : WX) (ta : TA) (fa : DA) (n : Nat) : Prop := ∀ (H0 G : Hp) (R : Addr → Prop) (H : Hp) (σ : St) (ρ : En) (xq : XQ) (Qd : List D → Prop) (Q : List V → Hp → Prop), Wd Γ H0 G R H σ ρ → Lk Γ W xq σ G R H → fa xq ρ Qd →
  (∀ vs G' R' H' ds, Nx G R H G' R' H' → RpL Γ G' R' ds vs → vs.length = n → Qd ds → Q vs H') → ta σ H Q
theorem jan_nil : JAn Γ W tNil dNil 0 := fun H0 G R H σ ρ xq Qd Q w x f k => k [] G R H [] (Nx.refl w.gd) RpL.nil rfl f
theorem jan_cons {n : Nat} (a : JE Γ W te fe) (b : JAn Γ W ta fa n) : JAn Γ W (tCons te ta) (dCons fe fa) (n + 1) := fun H0 G R H σ ρ xq Qd Q w x f k =>
  a H0 G R H σ ρ xq _ _ w x f fun v1 G1 R1 H1 d1 n1 r1 q1 => b H0 G1 R1 H1 σ ρ xq _ _ (w.nx n1) (x.nx n1) q1 fun vs G2 R2 H2 ds n2 r2 l q2 =>
    k (v1 :: vs) G2 R2 H2 (d1 :: ds) (n1.trans n2) (RpL.cons (Rp.mono n2.gg n2.rr d1 v1 r1) r2) (by rw [List.length_cons, l]) q2
theorem JAn.a {n : Nat} (h : JAn Γ W ta fa n) : JA Γ W ta fa := fun H0 G R H σ ρ xq Qd Q w x f k => h H0 G R H σ ρ xq Qd Q w x f fun vs G' R' H' ds n r _ q => k vs G' R' H' ds n r q
theorem je_tup {n : Nat} (a : JAn Γ W ta fa n) (hn : n ≤ sizeLine) : JE Γ W (tTup ta) (dTup fa) := fun H0 G R H σ ρ xq Qd Q w x f k =>
  a H0 G R H σ ρ xq _ _ w x f fun vs G1 R1 H1 ds n1 r1 l q => ⟨by rw [l]; exact hn, new_tup n1.gd r1 q fun w' G' R' H' c n2 r2 q2 => k w' G' R' H' c (n1.trans n2) r2 q2⟩
theorem jn_lst {n : Nat} (a : JAn Γ W ta fa n) (hn : n ≤ sizeLine) : JN Γ W (tLst ta) fa := fun H0 G R H σ ρ xq Qd Q w x f k =>
  a H0 G R H σ ρ xq _ _ w x f fun vs G1 R1 H1 ds n1 r1 l q => ⟨by rw [l]; exact hn, new_open n1.gd r1 q fun l us G' R' H' es n2 e g z h r2 q2 => k l us G' R' H' es (n1.trans n2) e g z (by
      cases y : H l with
      | none => rfl
      | some o =>
        obtain ⟨o', e'⟩ := n1.ex l o y
        rw [h] at e'; cases e') r2 q2⟩
end
abbrev DF := List D → (D → Prop) → XQ → Prop
def spD (Γ : Kx) (S : DF) : Sp := fun vs H Q E => ∃ (G : Hp) (R : Addr → Prop) (ds : List D) (Qd : D → Prop) (Xq : XQ), Gd G R H ∧ RpL Γ G R ds vs ∧ S ds Qd Xq ∧
  (∀ v G' R' H' d, Nx G R H G' R' H' → Rp Γ G' R' d v → Qd d → Q v H') ∧ ∀ c fs G' R' H' cls dx, Nx G R H G' R' H' → Xq c fs → ExRep Γ G' R' H' c fs cls dx → E cls dx H'
def dCall (S : DF) (fa : DA) : DE := fun xq ρ Q => fa xq ρ fun ds => S ds Q xq
section
variable {Γ : Kx} {W : WX} {ta : TA} {fa : DA}
theorem je_call {S : DF} (a : JA Γ W ta fa) : JE Γ W (tCallS (spD Γ S) (WE W) ta) (dCall S fa) := fun H0 G R H σ ρ xq Qd Q w x f k =>
  a H0 G R H σ ρ xq _ _ w x f fun vs G1 R1 H1 ds n1 r1 q1 => ⟨G1, R1, ds, Qd, xq, n1.gd, r1, q1, fun v G' R' H' d n r q => k v G' R' H' d (n1.trans n) r q,
    fun c fs G' R' H' cls dx n => x.nx n1 c fs G' R' H' cls dx n⟩
def immF : List (Str × D) → Bool
  | [] => true
  | (_, d) :: fs => immB d && immF fs
theorem RpF.imm {G G' : Hp} {R R' : Addr → Prop} (g : Tups G G') (r : ∀ a, R a → R' a) : ∀ (fs : List (Str × D)) (vs : List (Str × V)), immF fs = true → RpF Γ G R fs vs → RpF Γ G' R' fs vs
  | [], _, _, h => by unfold RpF at *; exact h
  | (x, d) :: fs, vs, m, h => by
    unfold RpF at *
    unfold immF at m
    rw [Bool.and_eq_true] at m
    obtain ⟨v, q, e, h1, h2⟩ := h
    exact ⟨v, q, e, Rp.imm g r d v m.1 h1, RpF.imm g r fs q m.2 h2⟩
def dCallQ (S : DF) (fa : DA) : DE := fun xq ρ Q => fa xq ρ fun ds => S ds (fun d => immB d = true ∧ Q d) fun c fs => immF fs = true ∧ xq c fs
end
def dB (fe : DE) : DT := fun xq ρ Q => fe xq ρ fun d => match d with
  | .bl b => Q b
  | _ => False
def gTru (d : D) (Q : Bool → Prop) : Prop := match d with
  | .non => Q false
  | .bl b => Q b
  | .int i => Q (i != 0)
  | .str s => s.length ≤ sizeLine ∧ Q ((s.length : Int) != 0)
  | .lst ds => Q (!ds.isEmpty)
  | .tup ds => Q (!ds.isEmpty)
  | _ => False
def dTru (fe : DE) : DT := fun xq ρ Q => fe xq ρ fun d => gTru d Q
def dNot (ft : DT) : DT := fun xq ρ Q => ft xq ρ fun b => Q (!b)
def dAnd (fa fb : DT) : DT := fun xq ρ Q => fa xq ρ fun b => if b = true then fb xq ρ Q else Q false
def dOr (fa fb : DT) : DT := fun xq ρ Q => fa xq ρ fun b => if b = true then Q true else fb xq ρ Q
def dAndV (fa : DT) (fb : DE) : DE := fun xq ρ Q => fa xq ρ fun b => if b = true then fb xq ρ Q else Q (.bl false)
def dOrV (fa : DT) (fb : DE) : DE := fun xq ρ Q => fa xq ρ fun b => if b = true then Q (.bl true) else fb xq ρ Q
def dNotV (fa : DT) : DE := fun xq ρ Q => fa xq ρ fun b => Q (.bl (!b))
def dIf (ft : DT) (fa fb : DE) : DE := fun xq ρ Q => ft xq ρ fun b => if b = true then fa xq ρ Q else fb xq ρ Q
section
variable {Γ : Kx} {W : WX} {ta tb : TE} {fa fb : DE} {t1 t2 : TT} {f1 f2 : DT}
theorem jt_b (a : JQ Γ W ta fa) : JT Γ W (tB ta) (dB fa) := fun H0 G R H σ ρ xq Qd Q w x f k =>
  a H0 G R H σ ρ xq _ _ w x f fun v G' R' H' d n r q => by
    cases d <;> first | exact q.elim | skip
    exact ⟨_, r.bl, k _ G' R' H' n q⟩
theorem tru_of {G : Hp} {R : Addr → Prop} {H : Hp} {d : D} {v : V} {Qd : Bool → Prop} (g : Gd G R H) (r : RpQ Γ G R H d v) (q : gTru d Qd) : ∃ k, TruV Γ.K v H k ∧ Qd k := by
  unfold gTru at q
  split at q
  · exact ⟨false, by rw [r.non]; exact rfl, q⟩
  · exact ⟨_, by rw [r.bl]; exact rfl, q⟩
  · exact ⟨_, by rw [r.int]; exact rfl, q⟩
  · exact ⟨_, by rw [r.str]; exact ⟨q.1, rfl⟩, q.2⟩
  · obtain ⟨a, vs, e1, h1, l1⟩ := r.lst g
    refine ⟨_, by rw [e1]; exact .inl ⟨vs, SqL.of h1, rfl⟩, ?_⟩
    have z := l1.len
    rename_i ds
    have : vs.isEmpty = ds.isEmpty := by cases ds <;> cases vs <;> first | rfl | (simp at z)
    rw [this]; exact q
  · obtain ⟨a, vs, e1, h1, l1⟩ := r.tup g
    refine ⟨_, by rw [e1]; exact .inr (.inl ⟨vs, h1, rfl⟩), ?_⟩
    have z := l1.len
    rename_i ds
    have : vs.isEmpty = ds.isEmpty := by cases ds <;> cases vs <;> first | rfl | (simp at z)
    rw [this]; exact q
  · exact q.elim
theorem jt_tru (a : JQ Γ W ta fa) : JT Γ W (fun σ H Q => ta σ H fun x H' => ∃ k, TruV Γ.K x H' k ∧ Q k H') (dTru fa) := fun H0 G R H σ ρ xq Qd Q w x f k =>
  a H0 G R H σ ρ xq _ _ w x f fun v G' R' H' d n r q => by
    obtain ⟨b, h1, h2⟩ := tru_of n.gd r q
    exact ⟨b, h1, k b G' R' H' n h2⟩
theorem jt_not (a : JT Γ W t1 f1) : JT Γ W (tNot t1) (dNot f1) := fun H0 G R H σ ρ xq Qd Q w x f k =>
  a H0 G R H σ ρ xq _ _ w x f fun b G' R' H' n q => k (!b) G' R' H' n q
theorem jt_and (a : JT Γ W t1 f1) (b : JT Γ W t2 f2) : JT Γ W (tAnd t1 t2) (dAnd f1 f2) := fun H0 G R H σ ρ xq Qd Q w x f k =>
  a H0 G R H σ ρ xq _ _ w x f fun c G' R' H' n q => by
    cases c with
    | true => exact b H0 G' R' H' σ ρ xq _ _ (w.nx n) (x.nx n) q fun c' G2 R2 H2 n2 q2 => k c' G2 R2 H2 (n.trans n2) q2
    | false => exact k false G' R' H' n q
theorem jt_or (a : JT Γ W t1 f1) (b : JT Γ W t2 f2) : JT Γ W (tOr t1 t2) (dOr f1 f2) := fun H0 G R H σ ρ xq Qd Q w x f k =>
  a H0 G R H σ ρ xq _ _ w x f fun c G' R' H' n q => by
    cases c with
    | true => exact k true G' R' H' n q
    | false => exact b H0 G' R' H' σ ρ xq _ _ (w.nx n) (x.nx n) q fun c' G2 R2 H2 n2 q2 => k c' G2 R2 H2 (n.trans n2) q2
theorem je_andV (a : JQ Γ W ta fa) (b : JE Γ W tb fb) : JE Γ W (tAndV ta tb) (dAndV (dB fa) fb) := fun H0 G R H σ ρ xq Qd Q w x f k =>
  a H0 G R H σ ρ xq _ _ w x f fun v G' R' H' d n r q => by
    cases d <;> first | exact q.elim | skip
    rename_i c
    refine ⟨c, r.bl, ?_⟩
    cases c with
    | true => exact b H0 G' R' H' σ ρ xq _ _ (w.nx n) (x.nx n) q fun v2 G2 R2 H2 d2 n2 r2 q2 => k v2 G2 R2 H2 d2 (n.trans n2) r2 q2
    | false => exact k _ G' R' H' _ n rp_bl q
theorem je_orV (a : JQ Γ W ta fa) (b : JE Γ W tb fb) : JE Γ W (tOrV ta tb) (dOrV (dB fa) fb) := fun H0 G R H σ ρ xq Qd Q w x f k =>
  a H0 G R H σ ρ xq _ _ w x f fun v G' R' H' d n r q => by
    cases d <;> first | exact q.elim | skip
    rename_i c
    refine ⟨c, r.bl, ?_⟩
    cases c with
    | true => exact k _ G' R' H' _ n rp_bl q
    | false => exact b H0 G' R' H' σ ρ xq _ _ (w.nx n) (x.nx n) q fun v2 G2 R2 H2 d2 n2 r2 q2 => k v2 G2 R2 H2 d2 (n.trans n2) r2 q2
theorem je_notV (a : JQ Γ W ta fa) : JE Γ W (tNotV ta) (dNotV (dB fa)) := fun H0 G R H σ ρ xq Qd Q w x f k =>
  a H0 G R H σ ρ xq _ _ w x f fun v G' R' H' d n r q => by
    cases d <;> first | exact q.elim | skip
    exact ⟨_, r.bl, k _ G' R' H' _ n rp_bl q⟩
end
def ItOk (Γ : Kx) (G : Hp) (R : Addr → Prop) (J : It) (ds : List D) : Prop := ∀ (i : Nat) (G' : Hp) (R' : Addr → Prop) (H' : Hp), Same G G' → (∀ a, R a → R' a) → Gd G' R' H' →
  (i < ds.length → J.go i H') ∧ (∀ d, ds[i]? = some d → ∀ x H'', J.yld i H' x H'' → ∃ G'', Nx G' R' H' G'' R' H'' ∧ Rp Γ G'' R' d x) ∧ (ds.length ≤ i → J.stop i H')
def JI (Γ : Kx) (W : WX) (wi : TI) (fi : DA) : Prop := ∀ (H0 G : Hp) (R : Addr → Prop) (H : Hp) (σ : St) (ρ : En) (xq : XQ) (Qd : List D → Prop) (Q : It → Hp → Prop), Wd Γ H0 G R H σ ρ → Lk Γ W xq σ G R H → fi xq ρ Qd →
  (∀ J G' R' H' ds, Nx G R H G' R' H' → ItOk Γ G' R' J ds → Qd ds → Q J H') → wi σ H Q
end Dl
namespace Dl
open PySem PySem.Spec PyProof.Rows L2
section
variable {X : Cx} {tg : Expr}
theorem it_list {pins : List (Addr × Obj)} {σ : St} {H : Hp} {s : Shared} {R : It → Hp → Prop} {a : Addr} {xs : List V} (I : Inv X pins σ H s) (hq : SqL X.K H a xs) (q : R (Itl X.K a) H) :
    wpAny (model X.prog X.w) X.A (pyIter (.ref a)) (PIE X pins σ tg R) X.xe s := by
  obtain ⟨its, rv, p, hz⟩ := I.list hq
  refine wpAny_pyIter_list p.isList ?_
  have J := I.kept (t' := s.toks) (fun b o e => Heap.get?_push_of_some { cls := .type "list_iterator", data := .fields #[.ref a, .int 0 0] } e)
  exact ⟨_, [s.heap.objs.size], _, _, H, rfl, J, turn_list a _,
    ⟨_, Heap.get?_push_size _ rfl, rfl, rfl⟩,
    fun b hb => (List.mem_singleton.mp hb) ▸ I.fpOk (Nat.le_refl _) (I.hok.fresh (Nat.le_refl _)), q⟩
theorem it_tup {pins : List (Addr × Obj)} {σ : St} {H : Hp} {s : Shared} {R : It → Hp → Prop} {a : Addr} {xs : List V} (I : Inv X pins σ H s) (hq : SqT X.K H a xs) (q : R (Itt X.K a) H) :
    wpAny (model X.prog X.w) X.A (pyIter (.ref a)) (PIE X pins σ tg R) X.xe s := by
  obtain ⟨its, rv, p, hz⟩ := I.tuple hq
  refine wpAny_pyIter_tuple (show s.heap.IsTuple a its.toArray from p) ?_
  have J := I.kept (t' := s.toks) (fun b o e => Heap.get?_push_of_some { cls := .type "tuple_iterator", data := .fields #[.ref a, .int 0 0] } e)
  exact ⟨_, [s.heap.objs.size], _, _, H, rfl, J, turn_tuple a _,
    ⟨_, Heap.get?_push_size _ rfl, rfl, rfl⟩,
    fun b hb => (List.mem_singleton.mp hb) ▸ I.fpOk (Nat.le_refl _) (I.hok.fresh (Nat.le_refl _)), q⟩
def iSeq (K : PySem.W.Frag) (te : TE) : TI := fun σ H R => te σ H fun x H1 =>
  (∃ a, x = .ref a ∧ (∃ xs, SqL K H1 a xs) ∧ R (Itl K a) H1) ∨ ∃ a, x = .ref a ∧ (∃ xs, SqT K H1 a xs) ∧ R (Itt K a) H1
theorem pi_seq {l : Expr} {tl : TE} (hl : PE X l tl) : PI X tg l (iSeq X.K tl) := by
  refine ⟨fun pins s σ H R I h => ?_⟩
  refine thn (hl.run pins s σ H _ I h) fun v s1 ⟨x, H1, I1, r1, q1⟩ => ?_
  rcases q1 with ⟨a, e, ⟨xs, hq⟩, q⟩ | ⟨a, e, ⟨xs, hq⟩, q⟩
  · subst e; cases r1
    exact it_list I1 hq q
  · subst e; cases r1
    exact it_tup I1 hq q
end
def gItems (d : D) (Q : List D → Prop) : Prop := match d with
  | .lst ds => Q ds
  | .tup ds => Q ds
  | .scr ns => Q (ns.map D.int)
  | _ => False
def iIt (fe : DE) : DA := fun xq ρ Q => fe xq ρ fun d => gItems d Q
def rng (lo : Int) (n : Nat) : List D := (List.range n).map fun (i : Nat) => D.int (lo + (i : Int))
def iR1 (fe : DE) : DA := fun xq ρ Q => fe xq ρ fun d => match d with
  | .int j => -(2 ^ 62) ≤ j ∧ j < 2 ^ 62 ∧ Q (rng 0 j.toNat)
  | _ => False
def iR2 (fe fe' : DE) : DA := fun xq ρ Q => fe xq ρ fun d => fe' xq ρ fun d' => match d, d' with
  | .int i, .int j => (-(2 ^ 62) ≤ i ∧ i < 2 ^ 62 ∧ -(2 ^ 62) ≤ j ∧ j < 2 ^ 62) ∧ Q (rng i (j - i).toNat)
  | _, _ => False
def iStrD (fe : DE) : DA := fun xq ρ Q => fe xq ρ fun d => match d with
  | .str s => Q (s.cps.toList.map fun c => D.str ⟨#[c]⟩)
  | _ => False
section
variable {Γ : Kx} {W : WX} {te te' : TE} {fe fe' : DE} {G : Hp} {R : Addr → Prop}
theorem it_l {a : Addr} {vs : List V} {ds : List D} (h : ∀ (G' : Hp) (R' : Addr → Prop) (H' : Hp), Same G G' → (∀ a, R a → R' a) → Gd G' R' H' → SqL Γ.K H' a vs) (r : RpL Γ G R ds vs) : ItOk Γ G R (Itl Γ.K a) ds := fun i G' R' H' g rr gd => by
  have s := h G' R' H' g rr gd
  refine ⟨fun hi => ?_, fun d e x H'' y => ?_, fun hi => ⟨vs, s, by rw [← r.len]; exact hi⟩⟩
  · have hi' : i < vs.length := by rw [← r.len]; exact hi
    exact ⟨vs, vs[i], s, List.getElem?_eq_getElem hi'⟩
  · obtain ⟨eH, y⟩ := y
    subst eH
    obtain ⟨v, e1, q⟩ := r.get e
    have e2 := y vs s
    rw [e1] at e2
    cases e2
    exact ⟨G', Nx.refl gd, Rp.mono g rr d _ q⟩
theorem it_t {a : Addr} {vs : List V} {ds : List D} (h : SqT Γ.K G a vs) (r : RpL Γ G R ds vs) : ItOk Γ G R (Itt Γ.K a) ds := fun i G' R' H' g rr gd => by
  have s := Same.seqT gd.sub (Same.seqT g h)
  refine ⟨fun hi => ?_, fun d e x H'' y => ?_, fun hi => ⟨vs, s, by rw [← r.len]; exact hi⟩⟩
  · have hi' : i < vs.length := by rw [← r.len]; exact hi
    exact ⟨vs, vs[i], s, List.getElem?_eq_getElem hi'⟩
  · obtain ⟨eH, y⟩ := y
    subst eH
    obtain ⟨v, e1, q⟩ := r.get e
    have e2 := y vs s
    rw [e1] at e2
    cases e2
    exact ⟨G', Nx.refl gd, Rp.mono g rr d _ q⟩
theorem rng_get {lo : Int} {n i : Nat} {d : D} (h : (rng lo n)[i]? = some d) : i < n ∧ d = .int (lo + i) := by
  have hi : i < n := by
    have := (List.getElem?_eq_some_iff.mp h).1
    unfold rng at this
    simpa using this
  unfold rng at h
  rw [List.getElem?_map, List.getElem?_range hi] at h
  exact ⟨hi, (Option.some.inj h).symm⟩
theorem rng_len {lo : Int} {n : Nat} : (rng lo n).length = n := by unfold rng; simp
theorem it_r {lo : Int} {n : Nat} : ItOk Γ G R (Itr lo n) (rng lo n) := fun i G' R' H' g rr gd => by
  refine ⟨fun hi => ?_, fun d e x H'' y => ?_, fun hi => ?_⟩
  · rw [rng_len] at hi; exact hi
  · obtain ⟨eH, y⟩ := y
    subst eH
    obtain ⟨_, e2⟩ := rng_get e
    rw [e2, y]
    exact ⟨G', Nx.refl gd, rp_int⟩
  · rw [rng_len] at hi; exact hi
theorem ji_it (a : JE Γ W te fe) : JI Γ W (iSeq Γ.K te) (iIt fe) := fun H0 G R H σ ρ xq Qd Q w x f k =>
  a H0 G R H σ ρ xq _ _ w x f fun v G' R' H' d n r q => by
    unfold gItems at q
    split at q
    · unfold Rp at r
      obtain ⟨a, vs, e1, h1, l1⟩ := r
      exact .inl ⟨a, e1, ⟨vs, SqL.of (n.gd.sub _ _ h1)⟩, k _ G' R' H' _ n (it_l (fun G2 R2 H2 g rr gd => SqL.of (gd.sub _ _ (g _ _ h1))) l1) q⟩
    · unfold Rp at r
      obtain ⟨a, vs, e1, h1, l1⟩ := r
      exact .inr ⟨a, e1, ⟨vs, Same.seqT n.gd.sub h1⟩, k _ G' R' H' _ n (it_t h1 l1) q⟩
    · unfold Rp at r
      obtain ⟨a, e1, h1⟩ := r
      rename_i ns
      refine .inl ⟨a, e1, ⟨_, n.gd.sub.seq h1⟩, k _ G' R' H' _ n (it_l (vs := ns.map V.int) (fun G2 R2 H2 g rr gd => gd.sub.seq (g.seq h1)) ?_) q⟩
      refine RpL.of_get (by simp) fun i d v e1 e2 => ?_
      rw [List.getElem?_map] at e1 e2
      cases z : ns[i]? with
      | none => rw [z] at e1; cases e1
      | some m => rw [z] at e1 e2; cases e1; cases e2; exact rp_int
    · exact q.elim
theorem ji_r1 (a : JQ Γ W te fe) : JI Γ W (iRng1 (tCons te tNil)) (iR1 fe) := fun H0 G R H σ ρ xq Qd Q w x f k =>
  a H0 G R H σ ρ xq _ _ w x f fun v G' R' H' d n r q => by
    cases d <;> first | exact q.elim | skip
    rename_i j
    obtain ⟨q1, q2, q3⟩ := q
    exact ⟨j, by rw [r.int], q1, q2, k _ G' R' H' _ n it_r q3⟩
theorem ji_r2 (a : JQ Γ W te fe) (b : JQ Γ W te' fe') : JI Γ W (iRng2 (tCons te (tCons te' tNil))) (iR2 fe fe') := fun H0 G R H σ ρ xq Qd Q w x f k =>
  a H0 G R H σ ρ xq _ _ w x f fun v G1 R1 H1 d n1 r1 q1 => b H0 G1 R1 H1 σ ρ xq _ _ (w.nx n1) (x.nx n1) q1 fun v2 G2 R2 H2 d2 n2 r2 q => by
    cases d <;> cases d2 <;> first | exact q.elim | skip
    rename_i i j
    exact ⟨i, j, by rw [(r1.nx n2).int, r2.int], q.1, k _ G2 R2 H2 _ (n1.trans n2) it_r q.2⟩
end
section
variable {Γ : Kx} {H0 G : Hp} {R : Addr → Prop} {H : Hp} {σ : St} {ρ : En}
theorem Wd.set (w : Wd Γ H0 G R H σ ρ) (i : Nat) {v : Option V} {s : S} (h : SlotOk Γ H0 G R H s v)
    (hd : ∀ a, a ∈ s.fpt v → ∀ (j : Nat) t u, j ≠ i → ρ[j]? = some t → σ[j]? = some u → a ∈ t.fpt u → False) : Wd Γ H0 G R H (σ.set i v) (ρ.set i s) := by
  refine ⟨w.gd, by rw [List.length_set, List.length_set]; exact w.len, fun j t e => ?_, fun j m s1 s2 v1 v2 a hjm e1 e2 e3 e4 o1 o2 => ?_⟩
  · by_cases hj : i = j
    · subst hj
      have hl : i < ρ.length := by
        have := (List.getElem?_eq_some_iff.mp e).1
        rwa [List.length_set] at this
      rw [List.getElem?_set_self hl] at e
      cases e
      exact ⟨v, List.getElem?_set_self (by rw [w.len]; exact hl), h⟩
    · rw [List.getElem?_set_ne hj] at e
      obtain ⟨u, e2, q⟩ := w.sl j t e
      exact ⟨u, by rw [List.getElem?_set_ne hj]; exact e2, q⟩
  · by_cases hj : i = j
    · subst hj
      have hl : i < ρ.length := by
        have := (List.getElem?_eq_some_iff.mp e1).1
        rwa [List.length_set] at this
      rw [List.getElem?_set_self hl] at e1
      rw [List.getElem?_set_self (by rw [w.len]; exact hl)] at e3
      rw [List.getElem?_set_ne hjm] at e2 e4
      cases Option.some.inj e1
      cases Option.some.inj e3
      exact hd a o1 m s2 v2 (Ne.symm hjm) e2 e4 o2
    · by_cases hm : i = m
      · subst hm
        have hl : i < ρ.length := by
          have := (List.getElem?_eq_some_iff.mp e2).1
          rwa [List.length_set] at this
        rw [List.getElem?_set_self hl] at e2
        rw [List.getElem?_set_self (by rw [w.len]; exact hl)] at e4
        rw [List.getElem?_set_ne hj] at e1 e3
        cases Option.some.inj e2
        cases Option.some.inj e4
        exact hd a o2 j s1 v1 hjm e1 e3 o1
      · rw [List.getElem?_set_ne hj] at e1 e3
        rw [List.getElem?_set_ne hm] at e2 e4
        exact w.dj j m s1 s2 v1 v2 a hjm e1 e2 e3 e4 o1 o2
theorem Wd.fz (w : Wd Γ H0 G R H σ ρ) (i : Nat) {v : V} {d : D} (h : Rp Γ G R d v) : Wd Γ H0 G R H (σ.set i (some v)) (ρ.set i (.fz d)) :=
  w.set i ⟨v, rfl, h⟩ fun _ e => absurd e List.not_mem_nil
theorem Wd.un (w : Wd Γ H0 G R H σ ρ) (i : Nat) (v : Option V) : Wd Γ H0 G R H (σ.set i v) (ρ.set i .un) := w.set i True.intro fun _ e => absurd e List.not_mem_nil
theorem Wd.mutO (w : Wd Γ H0 G R H σ ρ) {i : Nat} {s s' : S} {l : Addr} {o : HO} (e : ρ[i]? = some s) (so : s.fpt (some (.ref l)) = [l]) (so' : s'.fpt (some (.ref l)) = [l]) (eσ : σ[i]? = some (some (.ref l))) (hx : ∀ u, H l = some u → ¬ Stiff u ∧ ∀ vs, u ≠ .xd vs) (g : G l = none) (r : ¬ R l) (h0 : H0 l = none)
    (new : SlotOk Γ H0 G R (upd H l o) s' (some (.ref l))) : Wd Γ H0 G R (upd H l o) σ (ρ.set i s') := by
  have gd : Gd G R (upd H l o) := ⟨fun b u q => by rw [upd_ne (ne_of_none q g)]; exact w.gd.sub b u q, fun a q => by
    have ne : a ≠ l := fun z => r (by subst z; exact q)
    obtain ⟨c, k, m, y⟩ := w.gd.rd a q
    exact ⟨c, k, m, by rw [upd_ne ne]; exact y⟩, w.gd.dis⟩
  have hi : i < ρ.length := (List.getElem?_eq_some_iff.mp e).1
  have ml : l ∈ s.fpt (some (.ref l)) := by rw [so]; exact List.mem_singleton.mpr rfl
  refine ⟨gd, by rw [List.length_set]; exact w.len, fun j t q => ?_, fun j m s1 s2 v1 v2 a hjm e1 e2 e3 e4 o1 o2 => ?_⟩
  · by_cases hj : i = j
    · subst hj
      rw [List.getElem?_set_self hi] at q
      cases q
      exact ⟨_, eσ, new⟩
    · rw [List.getElem?_set_ne hj] at q
      obtain ⟨u, e2, y⟩ := w.sl j t q
      refine ⟨u, e2, ?_⟩
      have far : ∀ a, a ∈ t.fpt u → a ≠ l := fun a m z => by subst z; exact w.dj i j s t _ u a hj e q eσ e2 ml m
      cases t with
      | un => exact True.intro
      | fz d => exact y
      | op es =>
        obtain ⟨a, us, rfl, y1, y2, y3, y4, y5⟩ := y
        have ne : a ≠ l := far a (List.mem_singleton.mpr rfl)
        exact ⟨a, us, rfl, by rw [upd_ne ne]; exact y1, y2, y3, y4, y5⟩
      | io a c fs =>
        obtain ⟨dx, us, rfl, y1, y2, y3, y4, y5⟩ := y
        have ne : a ≠ l := far a (List.mem_singleton.mpr rfl)
        exact ⟨dx, us, rfl, by rw [upd_ne ne]; exact y1, y2, y3, y4, y5⟩
      | ex a d c fs =>
        obtain ⟨y1, y2⟩ := y
        refine ⟨y1, y2.imp id fun ⟨dd, vs, z1, z2, z3⟩ => ⟨dd, vs, z1, ?_, z3⟩⟩
        rw [upd_ne (fun z => (hx _ (by rw [← z]; exact z2)).2 vs rfl)]
        exact z2
      | ow v as d =>
        obtain ⟨y1, y2, y3⟩ := y
        refine ⟨y1, Ow.mono d v as ⟨fun a o m h _ g r => ⟨by rw [upd_ne (far a m)]; exact h, g, r⟩, fun a o h s => ?_, fun _ h => h, fun _ _ h => h⟩ y2, y3⟩
        rw [upd_ne (fun z => (hx _ (by rw [← z]; exact h)).1 s)]
        exact h
      | se d =>
        obtain ⟨x, y1, y2⟩ := y
        exact ⟨x, y1, Rp.mono (viewO_upd h0 g fun u e => (hx u e).1) (fun _ h => h) d x y2⟩
  · by_cases hj : i = j
    · subst hj
      rw [List.getElem?_set_self hi] at e1
      rw [List.getElem?_set_ne hjm] at e2
      cases Option.some.inj e1
      rw [eσ] at e3
      cases Option.some.inj e3
      rw [so'] at o1
      rw [List.mem_singleton] at o1
      subst o1
      exact w.dj i m s s2 _ v2 a hjm e e2 eσ e4 ml o2
    · rw [List.getElem?_set_ne hj] at e1
      by_cases hm : i = m
      · subst hm
        rw [List.getElem?_set_self hi] at e2
        cases Option.some.inj e2
        rw [eσ] at e4
        cases Option.some.inj e4
        rw [so'] at o2
        rw [List.mem_singleton] at o2
        subst o2
        exact w.dj i j s s1 _ v1 a (Ne.symm hjm) e e1 eσ e3 ml o1
      · rw [List.getElem?_set_ne hm] at e2
        exact w.dj j m s1 s2 v1 v2 a hjm e1 e2 e3 e4 o1 o2
theorem Wd.mut (w : Wd Γ H0 G R H σ ρ) {i : Nat} {ds ds' : List D} {l : Addr} {vs vs' : List V} (e : ρ[i]? = some (.op ds)) (eσ : σ[i]? = some (some (.ref l))) (hl : H l = some (.lst vs)) (g : G l = none) (r : ¬ R l) (h0 : H0 l = none)
    (h : RpL Γ G R ds' vs') : Wd Γ H0 G R (upd H l (.lst vs')) σ (ρ.set i (.op ds')) :=
  w.mutO e rfl rfl eσ (fun u z => by rw [hl] at z; cases z; exact ⟨fun t => t, fun _ t => nomatch t⟩) g r h0 ⟨l, vs', rfl, upd_same, g, r, h0, h⟩
end
section
variable {G0 G G1 : Hp} {R0 R R1 : Addr → Prop} {H0 H H1 : Hp}
theorem Nx.mutO (n : Nx G0 R0 H0 G R H) {l : Addr} {o : HO} (g : G l = none) (r : ¬ R l) (h0 : H0 l = none) : Nx G0 R0 H0 G R (upd H l o) where
  gg := n.gg
  rr := n.rr
  gd := ⟨fun b o q => by rw [upd_ne (ne_of_none q g)]; exact n.gd.sub b o q, fun a q => by
    have ne : a ≠ l := fun z => r (by subst z; exact q)
    obtain ⟨c, k, m, y⟩ := n.gd.rd a q
    exact ⟨c, k, m, by rw [upd_ne ne]; exact y⟩, n.gd.dis⟩
  ev := fun b o q z => by rw [upd_ne (ne_of_none q h0)]; exact n.ev b o q z
  ex := fun b o q => by rw [upd_ne (ne_of_none q h0)]; exact n.ex b o q
  fg := n.fg
  fr := n.fr
theorem Nx.mut (n : Nx G0 R0 H0 G R H) {l : Addr} {vs' : List V} (g : G l = none) (r : ¬ R l) (h0 : H0 l = none) : Nx G0 R0 H0 G R (upd H l (.lst vs')) := n.mutO g r h0
theorem Nx.base (n : Nx G0 R0 H0 G R H) : Nx G R H0 G R H := ⟨fun _ _ h => h, fun _ h => h, n.gd, fun b o e r => n.ev b o e fun z => r (n.rr b z), n.ex, fun _ _ h => .inl h, fun _ h => .inl h⟩
theorem Nx.rebase (n : Nx G0 R0 H0 G R H) (m : Nx G R H0 G1 R1 H1) : Nx G0 R0 H0 G1 R1 H1 where
  gg := fun b o h => m.gg b o (n.gg b o h)
  rr := fun b h => m.rr b (n.rr b h)
  gd := m.gd
  ev := fun b o e r => m.ev b o e fun z => (n.fr b z).elim r fun y => by rw [y] at e; cases e
  ex := m.ex
  fg := fun b o h => by
    rcases m.fg b o h with z | z | z
    · exact n.fg b o z
    · exact .inr (.inl z)
    · exact .inr (.inr z)
  fr := fun b h => by
    rcases m.fr b h with z | z
    · exact n.fr b z
    · exact .inr z
theorem Nx.free0 (n : Nx G0 R0 H0 G R H) {l : Addr} (h : H l = none) : H0 l = none := by
  cases q : H0 l with
  | none => rfl
  | some o =>
    obtain ⟨o', e⟩ := n.ex l o q
    rw [h] at e; cases e
end
def lcLoop (ft : DT) (fe : DE) (i : Nat) (ρ : En) (Q : List D → Prop) : List D → List D → Prop
  | [], acc => Q acc
  | d :: ds, acc => ft (fun _ _ => False) (ρ.set i (.fz d)) fun b => if b = true then fe (fun _ _ => False) (ρ.set i (.fz d)) fun y => lcLoop ft fe i ρ Q ds (acc ++ [y]) else lcLoop ft fe i ρ Q ds acc
def dLc (fi : DA) (i : Nat) (ft : DT) (fe : DE) : DA := fun xq ρ Q => fi xq ρ fun ds => ds.length ≤ sizeLine ∧ lcLoop ft fe i (ρ.set i .un) Q ds []
def dYes : DT := fun _ _ Q => Q true
section
variable {Γ : Kx} {W : WX} {wi : TI} {fi : DA} {tt : TT} {ft : DT} {te : TE} {fe : DE} {i : Nat}
theorem jt_yes : JT Γ W tYes dYes := fun H0 G R H σ ρ xq Qd Q w x f k => k true G R H (Nx.refl w.gd) f
theorem Lk.no {σ : St} {G : Hp} {R : Addr → Prop} {H : Hp} : Lk Γ (fun _ _ _ _ => False) (fun _ _ => False) σ G R H := fun _ _ _ _ _ _ _ _ z _ => z
theorem jn_lc (a : JI Γ W wi fi) (b : JT Γ (fun _ _ _ _ => False) tt ft) (c : JE Γ (fun _ _ _ _ => False) te fe) : JN Γ W (tLc wi (gName i) tt te [i]) (dLc fi i ft fe) := fun H0 G R H σ ρ xq Qd Q w x f k =>
  a H0 G R H σ ρ xq _ _ w x f fun J G1 R1 H1 ds n1 io q A0 hD => by
    obtain ⟨hz, q⟩ := q
    have hn : H A0 = none := by
      cases y : H A0 with
      | none => rfl
      | some o =>
        obtain ⟨o', e'⟩ := n1.ex A0 o y
        rw [hD] at e'; cases e'
    refine ⟨fun j m H2 => m = ds.length - j ∧ j ≤ ds.length ∧ ∃ (G2 : Hp) (R2 : Addr → Prop) (acc : List D) (vs : List V), Nx G1 R1 H1 G2 R2 H2 ∧ H2 A0 = some (.lst vs) ∧ G2 A0 = none ∧ ¬ R2 A0 ∧ RpL Γ G2 R2 acc vs ∧ acc.length ≤ j ∧ lcLoop ft fe i (ρ.set i .un) Qd (ds.drop j) acc,
      ⟨ds.length, by simp, Nat.zero_le _, G1, R1, [], [], Nx.new n1.gd _ hD, upd_same, (n1.gd.fresh hD).1, (n1.gd.fresh hD).2, RpL.nil, Nat.le_refl _, q⟩, ?_⟩
    rintro j m H2 ⟨rfl, hj, G2, R2, acc, vs, n2, e2, g2, r2, l2, z2, q2⟩
    obtain ⟨i1, i2, i3⟩ := io j G2 R2 H2 n2.gg n2.rr n2.gd
    by_cases hlt : j < ds.length
    · refine .inr ⟨i1 hlt, fun H3 => j + 1 ≤ ds.length ∧ ∃ (G2 : Hp) (R2 : Addr → Prop) (acc : List D) (vs : List V), Nx G1 R1 H1 G2 R2 H3 ∧ H3 A0 = some (.lst vs) ∧ G2 A0 = none ∧ ¬ R2 A0 ∧ RpL Γ G2 R2 acc vs ∧ acc.length ≤ j + 1 ∧ lcLoop ft fe i (ρ.set i .un) Qd (ds.drop (j + 1)) acc,
        fun H3 p => ⟨ds.length - (j + 1), by omega, rfl, p.1, p.2⟩, fun xv H3 y => ?_⟩
      obtain ⟨G3, n3, r3⟩ := i2 ds[j] (List.getElem?_eq_getElem hlt) xv H3 y
      rw [List.drop_eq_getElem_cons hlt] at q2
      have w3 : Wd Γ H0 G3 R2 H3 (wipe σ [i]) (ρ.set i .un) := ((((w.nx n1).nx n2).nx n3).un i none)
      have w4 : Wd Γ H0 G3 R2 H3 ((wipe σ [i]).set i (some xv)) ((ρ.set i .un).set i (.fz ds[j])) := w3.fz i r3
      refine ⟨?_, ?_⟩
      · show ((wipe σ [i]).set i (some xv)).set i none = (σ.set i none)
        unfold wipe wipe
        rw [List.set_set, List.set_set]
      · have q2' : ft (fun _ _ => False) ((ρ.set i .un).set i (.fz ds[j])) fun b => if b = true then fe (fun _ _ => False) ((ρ.set i .un).set i (.fz ds[j])) fun y => lcLoop ft fe i (ρ.set i .un) Qd (ds.drop (j + 1)) (acc ++ [y]) else lcLoop ft fe i (ρ.set i .un) Qd (ds.drop (j + 1)) acc := q2
        obtain ⟨o3, p3, s3⟩ := n3.open_ e2 g2 r2
        refine b H0 G3 R2 H3 _ _ _ _ _ w4 Lk.no q2' fun bb G4 R4 H4 n4 q4 => ?_
        obtain ⟨o4, p4, s4⟩ := n4.open_ o3 p3 s3
        cases bb with
        | true =>
          refine c H0 G4 R4 H4 _ _ _ _ _ (w4.nx n4) Lk.no q4 fun yv G5 R5 H5 d5 n5 r5 q5 => ?_
          obtain ⟨o5, p5, s5⟩ := n5.open_ o4 p4 s4
          have nn := (((n2.trans n3).trans n4).trans n5)
          have gg := (n3.gg.trans n4.gg).trans n5.gg
          have ll := RpL.mono gg (fun a h => n5.rr a (n4.rr a (n3.rr a h))) acc vs l2
          have hlen := ll.len
          refine ⟨vs, o5, by omega, by omega, G5, R5, acc ++ [d5], vs ++ [yv], nn.mut p5 s5 hD, upd_same, p5, s5, ll.append (RpL.cons r5 RpL.nil), by rw [List.length_append]; simp; omega, q5⟩
        | false =>
          have nn := ((n2.trans n3).trans n4)
          exact ⟨by omega, G4, R4, acc, vs, nn, o4, p4, s4, RpL.mono (n3.gg.trans n4.gg) (fun a h => n4.rr a (n3.rr a h)) acc vs l2, by omega, q4⟩
    · have e : j = ds.length := by omega
      subst e
      rw [List.drop_length] at q2
      exact .inl ⟨i3 (Nat.le_refl _), k A0 vs G2 R2 H2 acc (n1.trans n2) e2 g2 r2 hn l2 q2⟩
end
end Dl
namespace Dl
open PySem PySem.Spec PyProof.Rows L2
def DK.xq (k : DK) (ρ : En) : XQ := fun c fs => k.ex c fs ρ
def dNext : DS := fun k ρ => k.nx ρ
def dSeq (f1 f2 : DS) : DS := fun k ρ => f1 { k with nx := f2 k } ρ
def dSet (i : Nat) (fe : DE) : DS := fun k ρ => fe (k.xq ρ) ρ fun d => k.nx (ρ.set i (.fz d))
def dSetN (i : Nat) (fa : DA) : DS := fun k ρ => fa (k.xq ρ) ρ fun ds => k.nx (ρ.set i (.op ds))
def dIfS (ft : DT) (f1 f2 : DS) : DS := fun k ρ => ft (k.xq ρ) ρ fun b => if b = true then f1 k ρ else f2 k ρ
def dRet (fe : DE) : DS := fun k ρ => fe (k.xq ρ) ρ fun d => k.rt d ρ
def dRetV (i : Nat) : DS := fun k ρ => match ρ[i]? with
  | some (.fz d) => k.rt d ρ
  | some (.op ds) => k.rt (.lst ds) (ρ.set i (.fz (.lst ds)))
  | _ => False
def dRetN : DS := fun k ρ => k.rt .non ρ
def dExpr (fe : DE) : DS := fun k ρ => fe (k.xq ρ) ρ fun _ => k.nx ρ
def dBreak : DS := fun k ρ => k.bk ρ
def dCont : DS := fun k ρ => k.ct ρ
def frz (i : Nat) (ρ : En) : En := match ρ[i]? with
  | some (.op ds) => ρ.set i (.fz (.lst ds))
  | _ => ρ
def dFrz (i : Nat) (f : DS) : DS := fun k ρ => f k (frz i ρ)
def dApp (i : Nat) (fe : DE) : DS := fun k ρ => match ρ[i]? with
  | some (.op ds) => fe (k.xq ρ) ρ fun d => ds.length < sizeLine ∧ k.nx (ρ.set i (.op (ds ++ [d])))
  | _ => False
def dExt (i : Nat) (fe : DE) : DS := fun k ρ => match ρ[i]? with
  | some (.op ds) => fe (k.xq ρ) ρ fun d => match d with
    | .lst es => ds.length + es.length ≤ sizeLine ∧ k.nx (ρ.set i (.op (ds ++ es)))
    | _ => False
  | _ => False
def forLoop (fb : DS) (i : Nat) (k : DK) : List D → En → Prop
  | [], ρ => k.nx ρ
  | d :: ds, ρ => fb { k with nx := forLoop fb i k ds, ct := forLoop fb i k ds, bk := k.nx } (ρ.set i (.fz d))
def dFor (fi : DA) (i : Nat) (fb : DS) : DS := fun k ρ => fi (k.xq ρ) ρ fun ds => forLoop fb i k ds ρ
def whileN (ft : DT) (fb : DS) (k : DK) : Nat → En → Prop
  | 0, _ => False
  | n + 1, ρ => ft (k.xq ρ) ρ fun b => if b = true then fb { k with nx := whileN ft fb k n, ct := whileN ft fb k n, bk := k.nx } ρ else k.nx ρ
def dWhile (ft : DT) (fb : DS) : DS := fun k ρ => ∃ n, whileN ft fb k n ρ
theorem Wd.ownThere {Γ : Kx} {H0 G : Hp} {R : Addr → Prop} {H : Hp} {σ : St} {ρ : En} {j : Nat} {t : S} {v : Option V} {l : Addr} (w : Wd Γ H0 G R H σ ρ) (e : ρ[j]? = some t) (eσ : σ[j]? = some v) (m : l ∈ t.fpt v) : (∃ o, H l = some o ∧ ¬ Stiff o) ∧ G l = none ∧ ¬ R l ∧ H0 l = none := by
  obtain ⟨v', e5, y⟩ := w.sl j _ e
  rw [eσ] at e5
  cases e5
  cases t with
  | un => exact absurd m List.not_mem_nil
  | fz _ => exact absurd m List.not_mem_nil
  | ex _ _ _ _ => exact absurd m List.not_mem_nil
  | se _ => exact absurd m List.not_mem_nil
  | op es =>
    obtain ⟨b, us, rfl, y1, y2, y3, y4, _⟩ := y
    rw [List.mem_singleton.mp m]
    exact ⟨⟨_, y1, fun t => t⟩, y2, y3, y4⟩
  | io b c fs =>
    obtain ⟨dx, us, rfl, y1, y2, y3, y4, _⟩ := y
    rw [List.mem_singleton.mp m]
    exact ⟨⟨_, y1, fun t => t⟩, y2, y3, y4⟩
  | ow x as d =>
    obtain ⟨h0, g, r, o, ho, op⟩ := Ow.fresh d x as y.2.1 l m
    exact ⟨⟨o, ho, op.stiff⟩, g, r, h0⟩
theorem Wd.ownNew {Γ : Kx} {H0 G : Hp} {R : Addr → Prop} {H : Hp} {σ : St} {ρ : En} {j : Nat} {t : S} {v : Option V} {l : Addr} (w : Wd Γ H0 G R H σ ρ) (e : ρ[j]? = some t) (eσ : σ[j]? = some v) (hn : H l = none) (m : l ∈ t.fpt v) : False := by
  obtain ⟨⟨o, ho, _⟩, _⟩ := w.ownThere e eσ m
  rw [hn] at ho; cases ho
section
variable {Γ : Kx} {W : WX} {te : TE} {fe : DE} {fa : DA} {ts t1 t2 : TS} {fs f1 f2 : DS} {tt : TT} {ft : DT} {i : Nat}
theorem js_next : JS Γ W tNext dNext := fun G0 R0 H0 G R H σ ρ k D n w e f => e.nx G R H σ ρ n w f
theorem js_seq (a : JS Γ W t1 f1) (b : JS Γ W t2 f2) : JS Γ W (tSeq t1 t2) (dSeq f1 f2) := fun G0 R0 H0 G R H σ ρ k D n w e f =>
  a G0 R0 H0 G R H σ ρ { k with nx := f2 k } _ n w ⟨fun G1 R1 H1 σ1 ρ1 n1 w1 q => b G0 R0 H0 G1 R1 H1 σ1 ρ1 k D n1 w1 e q, e.rt, e.bk, e.ct, e.ex, e.ro⟩ f
theorem js_set (a : JE Γ W te fe) : JS Γ W (tAsg te (gName i)) (dSet i fe) := fun G0 R0 H0 G R H σ ρ k D n w e f =>
  a H0 G R H σ ρ _ _ _ w (e.lk n w) f fun v G' R' H' d m r q => e.nx G' R' H' _ _ (n.trans m) ((w.nx m).fz i r) q
theorem js_setN (a : JN Γ W te fa) : JS Γ W (tAsg te (gName i)) (dSetN i fa) := fun G0 R0 H0 G R H σ ρ k D n w e f =>
  a H0 G R H σ ρ _ _ _ w (e.lk n w) f fun l vs G' R' H' ds m h g z hn r q => e.nx G' R' H' _ _ (n.trans m)
    ((w.nx m).set i (s := .op ds) ⟨l, vs, rfl, h, g, z, n.free0 hn, r⟩ fun a m2 j t u hj e3 e4 m3 => by
      rw [List.mem_singleton.mp m2] at m3
      exact w.ownNew e3 e4 hn m3) q
theorem js_if (c : JT Γ W tt ft) (a : JS Γ W t1 f1) (b : JS Γ W t2 f2) : JS Γ W (tIfS tt t1 t2) (dIfS ft f1 f2) := fun G0 R0 H0 G R H σ ρ k D n w e f =>
  c H0 G R H σ ρ _ _ _ w (e.lk n w) f fun d G' R' H' m q => by
    cases d with
    | true => exact a G0 R0 H0 G' R' H' σ ρ k D (n.trans m) (w.nx m) e q
    | false => exact b G0 R0 H0 G' R' H' σ ρ k D (n.trans m) (w.nx m) e q
theorem js_ret (a : JE Γ W te fe) : JS Γ W (tRet te) (dRet fe) := fun G0 R0 H0 G R H σ ρ k D n w e f =>
  a H0 G R H σ ρ _ _ _ w (e.lk n w) f fun v G' R' H' d m r q => e.rt v d G' R' H' σ ρ (n.trans m) (w.nx m) r q
theorem js_break : JS Γ W tBreak dBreak := fun G0 R0 H0 G R H σ ρ k D n w e f => e.bk G R H σ ρ n w f
theorem Wd.frzO {H0 G : Hp} {R : Addr → Prop} {H : Hp} {σ : St} {ρ : En} {s : S} {d : D} {l : Addr} {o : HO} (w : Wd Γ H0 G R H σ ρ) (e : ρ[i]? = some s) (so : l ∈ s.fpt (some (.ref l))) (eσ : σ[i]? = some (some (.ref l))) (h : H l = some o) (g : G l = none) (z : ¬ R l)
    (new : Rp Γ (upd G l o) R d (.ref l)) : Wd Γ H0 (upd G l o) R H σ (ρ.set i (.fz d)) := by
  have gg : Same G (upd G l o) := fun b u z => by rw [upd_ne (ne_of_none z g)]; exact z
  have hi : i < ρ.length := (List.getElem?_eq_some_iff.mp e).1
  refine ⟨⟨fun b u q => ?_, w.gd.rd, fun a q => ?_⟩, by rw [List.length_set]; exact w.len, fun j t q => ?_, fun j m s1 s2 v1 v2 a hjm e1 e2 e3 e4 o1 o2 => ?_⟩
  · by_cases hb : b = l
    · subst hb; rw [upd_same] at q; cases q; exact h
    · rw [upd_ne hb] at q; exact w.gd.sub b u q
  · have ne : a ≠ l := fun y => z (by subst y; exact q)
    rw [upd_ne ne]; exact w.gd.dis a q
  · by_cases hj : i = j
    · subst hj
      rw [List.getElem?_set_self hi] at q
      cases q
      exact ⟨_, eσ, .ref l, rfl, new⟩
    · rw [List.getElem?_set_ne hj] at q
      obtain ⟨u, e2, y⟩ := w.sl j t q
      refine ⟨u, e2, ?_⟩
      have far : ∀ a, a ∈ t.fpt u → a ≠ l := fun a m z => by subst z; exact w.dj i j s t _ u a hj e q eσ e2 so m
      cases t with
      | un => exact True.intro
      | fz d => obtain ⟨x, y1, y2⟩ := y; exact ⟨x, y1, Rp.mono gg (fun _ h => h) d x y2⟩
      | op es =>
        obtain ⟨a, us, rfl, y1, y2, y3, y4, y5⟩ := y
        have ne : a ≠ l := far a (List.mem_singleton.mpr rfl)
        exact ⟨a, us, rfl, y1, by rw [upd_ne ne]; exact y2, y3, y4, RpL.mono gg (fun _ h => h) es us y5⟩
      | io a c fs =>
        obtain ⟨dx, us, rfl, y1, y2, y3, y4, y5⟩ := y
        have ne : a ≠ l := far a (List.mem_singleton.mpr rfl)
        exact ⟨dx, us, rfl, y1, by rw [upd_ne ne]; exact y2, y3, y4, RpF.mono gg (fun _ h => h) fs us y5⟩
      | ex a d c fs =>
        obtain ⟨y1, y2⟩ := y
        exact ⟨y1, y2.imp id fun ⟨dd, vs, z1, z2, z3, z5⟩ => ⟨dd, vs, z1, z2, z3, RpF.mono gg (fun _ h => h) fs vs z5⟩⟩
      | ow v as d =>
        obtain ⟨y1, y2, y3⟩ := y
        exact ⟨y1, Ow.mono d v as ⟨fun a o m h _ g r => ⟨h, by rw [upd_ne (far a m)]; exact g, r⟩, fun a o h s => h, fun _ h => h, gg⟩ y2, y3⟩
      | se d =>
        obtain ⟨x, y1, y2⟩ := y
        refine ⟨x, y1, Rp.mono (fun b u e => ?_) (fun _ h => h) d x y2⟩
        obtain ⟨e1, e2⟩ := viewO_iff.mp e
        exact viewO_iff.mpr ⟨e1, e2.imp (fun z => gg b u z) id⟩
  · by_cases hj : i = j
    · subst hj
      rw [List.getElem?_set_self hi] at e1
      cases e1
      exact absurd o1 List.not_mem_nil
    · rw [List.getElem?_set_ne hj] at e1
      by_cases hm : i = m
      · subst hm
        rw [List.getElem?_set_self hi] at e2
        cases e2
        exact absurd o2 List.not_mem_nil
      · rw [List.getElem?_set_ne hm] at e2
        exact w.dj j m s1 s2 v1 v2 a hjm e1 e2 e3 e4 o1 o2
theorem Wd.frz {H0 G : Hp} {R : Addr → Prop} {H : Hp} {σ : St} {ρ : En} {ds : List D} {l : Addr} {vs : List V} (w : Wd Γ H0 G R H σ ρ) (e : ρ[i]? = some (.op ds)) (eσ : σ[i]? = some (some (.ref l))) (h : H l = some (.lst vs)) (g : G l = none) (z : ¬ R l) (r : RpL Γ G R ds vs) :
    Wd Γ H0 (upd G l (.lst vs)) R H σ (ρ.set i (.fz (.lst ds))) := by
  refine w.frzO e (List.mem_singleton.mpr rfl) eσ h g z ?_
  unfold Rp
  exact ⟨l, vs, rfl, upd_same, RpL.mono (fun b u z => by rw [upd_ne (ne_of_none z g)]; exact z) (fun _ h => h) ds vs r⟩
theorem js_retV : JS Γ W (tRet (tVar i)) (dRetV i) := fun G0 R0 H0 G R H σ ρ k D n w e f => by
  unfold dRetV at f
  split at f
  · rename_i d q
    obtain ⟨v, e2, y, rfl, r⟩ := w.sl i _ q
    exact ⟨y, e2, e.rt y d G R H σ ρ n w r f⟩
  · rename_i ds q
    obtain ⟨v, e2, l, vs, rfl, h, g, z, h0, r⟩ := w.sl i _ q
    have m := n.freeze h g z h0
    refine ⟨.ref l, e2, e.rt _ (.lst ds) _ R H σ _ m (w.frz q e2 h g z r) ?_ f⟩
    unfold Rp
    have gg : Same G (upd G l (.lst vs)) := fun b u z => by rw [upd_ne (ne_of_none z g)]; exact z
    exact ⟨l, vs, rfl, upd_same, RpL.mono gg (fun _ h => h) ds vs r⟩
  · exact f.elim
theorem js_frz (a : JS Γ W ts fs) : JS Γ W ts (dFrz i fs) := fun G0 R0 H0 G R H σ ρ k D n w e f => by
  unfold dFrz Dl.frz at f
  split at f
  · rename_i ds q
    obtain ⟨v, e2, l, vs, rfl, h, g, z, h0, r⟩ := w.sl i _ q
    exact a G0 R0 H0 _ R H σ _ k D (n.freeze h g z h0) (w.frz q e2 h g z r) e f
  · exact a G0 R0 H0 G R H σ ρ k D n w e f
theorem js_app (a : JE Γ W te fe) : JS Γ W (tDrop (tBM Γ.K "list" rAppend (tVar i) (tCons te tNil))) (dApp i fe) := fun G0 R0 H0 G R H σ ρ k D n w e f => by
  unfold dApp at f
  split at f
  · rename_i ds q
    obtain ⟨v, e2, l, vs, rfl, h, g, z, h0, r⟩ := w.sl i _ q
    refine ⟨.ref l, e2, .inl ⟨rfl, vs, SqL.of h⟩, a H0 G R H σ ρ _ _ _ w (e.lk n w) f fun v G' R' H' d m r' q' => ?_⟩
    obtain ⟨h', g', z'⟩ := m.open_ h g z
    have rl := RpL.mono m.gg m.rr ds vs r
    refine ⟨l, vs, v, rfl, rfl, h', by rw [← rl.len]; exact q'.1, ?_⟩
    exact e.nx G' R' _ _ _ ((n.trans m).mut g' z' h0) ((w.nx m).mut q e2 h' g' z' h0 (rl.append (RpL.cons r' RpL.nil))) q'.2
  · exact f.elim
theorem js_for {wi : TI} {fi : DA} (a : JI Γ W wi fi) (b : JS Γ W ts fs) : JS Γ W (tFor wi (gName i) ts) (dFor fi i fs) := fun G0 R0 H0 G R H σ ρ k D n w e f =>
  a H0 G R H σ ρ _ _ _ w (e.lk n w) f fun J G1 R1 H1 ds n1 io q => by
    have nb := (n.trans n1)
    refine ⟨fun j m σ2 H2 => m = ds.length - j ∧ j ≤ ds.length ∧ ∃ (G2 : Hp) (R2 : Addr → Prop) (ρ2 : En), Nx G1 R1 H0 G2 R2 H2 ∧ Wd Γ H0 G2 R2 H2 σ2 ρ2 ∧ forLoop fs i k (ds.drop j) ρ2,
      ⟨ds.length, by simp, Nat.zero_le _, G1, R1, ρ, nb.base, w.nx n1, q⟩, ?_⟩
    rintro j m σ2 H2 ⟨rfl, hj, G2, R2, ρ2, n2, w2, q2⟩
    obtain ⟨i1, i2, i3⟩ := io j G2 R2 H2 n2.gg n2.rr n2.gd
    by_cases hlt : j < ds.length
    · rw [List.drop_eq_getElem_cons hlt] at q2
      refine .inr ⟨i1 hlt, fun σ3 H3 => j + 1 ≤ ds.length ∧ ∃ (G2 : Hp) (R2 : Addr → Prop) (ρ2 : En), Nx G1 R1 H0 G2 R2 H3 ∧ Wd Γ H0 G2 R2 H3 σ3 ρ2 ∧ forLoop fs i k (ds.drop (j + 1)) ρ2,
        fun σ3 H3 p => ⟨ds.length - (j + 1), by omega, rfl, p.1, p.2⟩, fun xv H3 y => ?_⟩
      obtain ⟨G3, n3, r3⟩ := i2 ds[j] (List.getElem?_eq_getElem hlt) xv H3 y
      refine b G1 R1 H0 G3 R2 H3 _ _ { k with nx := forLoop fs i k (ds.drop (j + 1)), ct := forLoop fs i k (ds.drop (j + 1)), bk := k.nx } _ (n2.trans n3) ((w2.nx n3).fz i r3) ⟨?_, ?_, ?_, ?_, ?_, ?_⟩ q2
      · exact fun G4 R4 H4 σ4 ρ4 n4 w4 q4 => ⟨by omega, G4, R4, ρ4, n4, w4, q4⟩
      · exact fun v d G4 R4 H4 σ4 ρ4 n4 w4 r4 q4 => e.rt v d G4 R4 H4 σ4 ρ4 (nb.rebase n4) w4 r4 q4
      · exact fun G4 R4 H4 σ4 ρ4 n4 w4 q4 => e.nx G4 R4 H4 σ4 ρ4 (nb.rebase n4) w4 q4
      · exact fun G4 R4 H4 σ4 ρ4 n4 w4 q4 => ⟨by omega, G4, R4, ρ4, n4, w4, q4⟩
      · exact fun c fs' cls dx G4 R4 H4 σ4 ρ4 n4 w4 q4 => e.ex c fs' cls dx G4 R4 H4 σ4 ρ4 (nb.rebase n4) w4 q4
      · exact fun v as d G4 R4 H4 σ4 ρ4 n4 w4 r4 nd q4 => e.ro v as d G4 R4 H4 σ4 ρ4 (nb.rebase n4) w4 r4 nd q4
    · have z : j = ds.length := by omega
      subst z
      rw [List.drop_length] at q2
      exact .inl ⟨i3 (Nat.le_refl _), e.nx G2 R2 H2 σ2 ρ2 (nb.rebase n2) w2 q2⟩
theorem js_while (c : JT Γ W tt ft) (b : JS Γ W ts fs) : JS Γ W (tWhile tt ts) (dWhile ft fs) := fun G0 R0 H0 G R H σ ρ k D n w e ⟨m0, f⟩ => by
  refine ⟨fun m σ2 H2 => ∃ (G2 : Hp) (R2 : Addr → Prop) (ρ2 : En), Nx G0 R0 H0 G2 R2 H2 ∧ Wd Γ H0 G2 R2 H2 σ2 ρ2 ∧ whileN ft fs k m ρ2, ⟨m0, G, R, ρ, n, w, f⟩, ?_⟩
  rintro m σ2 H2 ⟨G2, R2, ρ2, n2, w2, q2⟩
  cases m with
  | zero => exact q2.elim
  | succ m =>
    refine c H0 G2 R2 H2 σ2 ρ2 _ _ _ w2 (e.lk n2 w2) q2 fun d G3 R3 H3 n3 q3 => ?_
    cases d with
    | true =>
      refine ⟨fun σ4 H4 => ∃ (G2 : Hp) (R2 : Addr → Prop) (ρ2 : En), Nx G0 R0 H0 G2 R2 H4 ∧ Wd Γ H0 G2 R2 H4 σ4 ρ2 ∧ whileN ft fs k m ρ2, fun σ4 H4 p => ⟨m, Nat.lt_succ_self m, p⟩, ?_⟩
      refine b G0 R0 H0 G3 R3 H3 σ2 ρ2 { k with nx := whileN ft fs k m, ct := whileN ft fs k m, bk := k.nx } _ (n2.trans n3) (w2.nx n3) ⟨?_, e.rt, e.nx, ?_, e.ex, e.ro⟩ q3
      · exact fun G4 R4 H4 σ4 ρ4 n4 w4 q4 => ⟨G4, R4, ρ4, n4, w4, q4⟩
      · exact fun G4 R4 H4 σ4 ρ4 n4 w4 q4 => ⟨G4, R4, ρ4, n4, w4, q4⟩
    | false => exact e.nx G3 R3 H3 σ2 ρ2 (n2.trans n3) (w2.nx n3) q3
end
section
variable (X : Cx) (C : Str → Addr) (W : WX)
def CE (e : Expr) (fe : DE) : Prop := ∃ te, PE X e te ∧ JE ⟨X.K, C⟩ W te fe
def CQ (e : Expr) (fe : DE) : Prop := ∃ te, PE X e te ∧ JQ ⟨X.K, C⟩ W te fe
def CN (e : Expr) (fa : DA) : Prop := ∃ te, PE X e te ∧ JN ⟨X.K, C⟩ W te fa
def CT (e : Expr) (ft : DT) : Prop := ∃ tt, PT X e tt ∧ JT ⟨X.K, C⟩ W tt ft
def CW (e : Expr) (ft : DT) : Prop := ∃ tt, PW X e tt ∧ JT ⟨X.K, C⟩ W tt ft
def CA (es : List Expr) (fa : DA) (n : Nat) : Prop := ∃ ta, PA X es ta ∧ JAn ⟨X.K, C⟩ W ta fa n
def CO (e : Option Expr) (fo : DO) : Prop := ∃ to, PO X e to ∧ JO ⟨X.K, C⟩ W to fo
def CI (tg iter : Expr) (fi : DA) : Prop := ∃ wi, PI X tg iter wi ∧ JI ⟨X.K, C⟩ W wi fi
def CS (st : Stmt) (fs : DS) : Prop := ∃ ts, PS X st ts ∧ JS ⟨X.K, C⟩ W ts fs
def CSs (st : List Stmt) (fs : DS) : Prop := ∃ ts, PSs X st ts ∧ JS ⟨X.K, C⟩ W ts fs
end
structure GE (X : Cx) (W : WX) (k : Nat) (bl : Str → Bool) : Prop where
  calm : X.calm = true
  room : Room k X.A
  tk : L2N.Takes X W
  bl : ∀ x, bl x = true → X.mg x = none
structure GS (X : Cx) (W : WX) (k : Nat) (bl : Str → Bool) : Prop extends GE X W k bl where
  own : PassesOwn (model X.prog X.w) X.A X.env X.xe
theorem GE.hu {X : Cx} {W : WX} {k : Nat} {bl : Str → Bool} (g : GE X W k bl) : X.A.units + 65 < cLine := by have := g.room.un; omega
theorem GE.hu64 {X : Cx} {W : WX} {k : Nat} {bl : Str → Bool} (g : GE X W k bl) : X.A.units + 64 < cLine := by have := g.room.un; omega
theorem GE.blk {X : Cx} {W : WX} {k : Nat} {bl : Str → Bool} (g : GE X W k bl) (s : Shared) (H : Hp) (scope : Scope) (cenv : PySem.Env) (fp : List Addr) : GE (X.blk s H scope cenv fp) (fun _ _ _ _ => False) k bl :=
  ⟨g.calm, g.room, fun _ _ ⟨_, _, _, _, _, _, _, _, _, _, _, _, _, _, _, _, w⟩ => w.elim, g.bl⟩
end Dl
namespace Dl
open PySem PySem.Spec PyProof.Rows L2
section
variable {X : Cx} {C : Str → Addr} {W : WX} {k j : Nat} {bl : Str → Bool} {a b c e : Expr} {es : List Expr} {fa fb fc fe : DE} {fs : DA} {ft f1 f2 : DT} {pos p p1 p2 : Pos} {n i : Nat}
theorem CE.q (h : CE X C W e fe) : CQ X C W e fe := let ⟨t, p, q⟩ := h; ⟨t, p, q.q⟩
theorem CN.own (h : CN X C W e fs) : CE X C W e (dLst fs) := let ⟨t, p, q⟩ := h; ⟨t, p, q.e⟩
theorem CN.q (h : CN X C W e fs) : CQ X C W e (dLst fs) := h.own.q
theorem CQ.own (h : CQ X C W e fe) : CE X C W e (dImm fe) := let ⟨t, p, q⟩ := h; ⟨t, p, q.own⟩
theorem ce_var (h : PE X e (tVar i)) : CE X C W e (dVar i) := ⟨_, h, je_var⟩
theorem cq_var (h : PE X e (tVar i)) : CQ X C W e (dVarQ i) := ⟨_, h, jq_var⟩
theorem ce_int {z : Int} {m : Nat} : CE X C W (.Constant (.int z) m pos) (dC (.int z)) := ⟨_, pe_int, je_int⟩
theorem ce_str {z : Str} {m : Nat} : CE X C W (.Constant (.str z) m pos) (dC (.str z)) := ⟨_, pe_str, je_str⟩
theorem ce_bl {z : Bool} {m : Nat} : CE X C W (.Constant (.bool z) m pos) (dC (.bl z)) := ⟨_, pe_bl, je_bl⟩
theorem ce_add (h : CQ X C W a fa) (h' : CQ X C W b fb) : CE X C W (.BinOp a .Add b pos) (d2 gAdd fa fb) := let ⟨_, p, q⟩ := h; let ⟨_, p', q'⟩ := h'; ⟨_, pe_op op_addAll p p', je_op u2_add q q'⟩
theorem cn_cat (h : CQ X C W a fa) (h' : CQ X C W b fb) : CN X C W (.BinOp a .Add b pos) (n2 gCat fa fb) := let ⟨_, p, q⟩ := h; let ⟨_, p', q'⟩ := h'; ⟨_, pe_op op_cat p p', jn_op n2_cat q q'⟩
theorem ce_sub (h : CQ X C W a fa) (h' : CQ X C W b fb) : CE X C W (.BinOp a .Sub b pos) (d2 gMns fa fb) := let ⟨_, p, q⟩ := h; let ⟨_, p', q'⟩ := h'; ⟨_, pe_op op_sub p p', je_op u2_sub q q'⟩
theorem ce_mul (h : CQ X C W a fa) (h' : CQ X C W b fb) : CE X C W (.BinOp a .Mult b pos) (d2 (gI2 CMul fun i j => .int (i * j)) fa fb) := let ⟨_, p, q⟩ := h; let ⟨_, p', q'⟩ := h'; ⟨_, pe_op op_mul p p', je_op u2_int q q'⟩
theorem ce_fdiv (h : CQ X C W a fa) (h' : CQ X C W b fb) : CE X C W (.BinOp a .FloorDiv b pos) (d2 (gI2 CDiv fun i j => .int (i / j)) fa fb) := let ⟨_, p, q⟩ := h; let ⟨_, p', q'⟩ := h'; ⟨_, pe_op op_fdiv p p', je_op u2_int q q'⟩
theorem ce_mod (h : CQ X C W a fa) (h' : CQ X C W b fb) : CE X C W (.BinOp a .Mod b pos) (d2 (gI2 (fun _ j => 0 < j) fun i j => .int (i % j)) fa fb) := let ⟨_, p, q⟩ := h; let ⟨_, p', q'⟩ := h'; ⟨_, pe_op op_mod p p', je_op u2_int q q'⟩
theorem ce_pow (h : CQ X C W a fa) (h' : CQ X C W b fb) : CE X C W (.BinOp a .Pow b pos) (d2 (gI2 CPow fun i j => .int (i ^ j.toNat)) fa fb) := let ⟨_, p, q⟩ := h; let ⟨_, p', q'⟩ := h'; ⟨_, pe_op op_pow p p', je_op u2_int q q'⟩
theorem ce_cmpR {op : CmpOp} {r : R2} {g : D → D → (D → Prop) → Prop} (ho : OpR X (compareOp op) r) (u : U2 ⟨X.K, C⟩ r g) (hm : behindInMarks op b = false) (h : CQ X C W a fa) (h' : CQ X C W b fb) : CE X C W (.Compare a [op] [b] pos) (d2 g fa fb) :=
  let ⟨_, p, q⟩ := h; let ⟨_, p', q'⟩ := h'; ⟨_, pe_cmpR ho p p' hm, je_op u q q'⟩
theorem ct_cmpR {op : CmpOp} {r : R2} {g : D → D → (D → Prop) → Prop} (ho : OpR X (compareOp op) r) (u : U2 ⟨X.K, C⟩ r g) (hm : behindInMarks op b = false) (h : CQ X C W a fa) (h' : CQ X C W b fb) : CT X C W (.Compare a [op] [b] pos) (dB (d2 g fa fb)) :=
  let ⟨_, p, q⟩ := h; let ⟨_, p', q'⟩ := h'; ⟨_, pt_cmpR ho p p' hm, jt_b (je_op u q q').q⟩
abbrev gLt := gCmp fun i j => decide (i < j)
abbrev gLe := gCmp fun i j => decide (i ≤ j)
abbrev gGt := gCmp fun i j => decide (j < i)
abbrev gGe := gCmp fun i j => decide (j ≤ i)
theorem ce_lt (h : CQ X C W a fa) (h' : CQ X C W b fb) : CE X C W (.Compare a [.Lt] [b] pos) (d2 gLt fa fb) := ce_cmpR op_lt u2_cmp (nomark _) h h'
theorem ce_le (h : CQ X C W a fa) (h' : CQ X C W b fb) : CE X C W (.Compare a [.LtE] [b] pos) (d2 gLe fa fb) := ce_cmpR op_le u2_cmp (nomark _) h h'
theorem ct_lt (h : CQ X C W a fa) (h' : CQ X C W b fb) : CT X C W (.Compare a [.Lt] [b] pos) (dB (d2 gLt fa fb)) := ct_cmpR op_lt u2_cmp (nomark _) h h'
theorem ct_gt (h : CQ X C W a fa) (h' : CQ X C W b fb) : CT X C W (.Compare a [.Gt] [b] pos) (dB (d2 gGt fa fb)) := ct_cmpR op_gt u2_cmp (nomark _) h h'
theorem ct_ge (h : CQ X C W a fa) (h' : CQ X C W b fb) : CT X C W (.Compare a [.GtE] [b] pos) (dB (d2 gGe fa fb)) := ct_cmpR op_ge u2_cmp (nomark _) h h'
theorem ce_eq (g : GE X W k bl) (h : CQ X C W a fa) (h' : CQ X C W b fb) : CE X C W (.Compare a [.Eq] [b] pos) (d2 gEq fa fb) := ce_cmpR (op_eqD g.hu64) u2_eq (nomark _) h h'
theorem ce_ne (g : GE X W k bl) (h : CQ X C W a fa) (h' : CQ X C W b fb) : CE X C W (.Compare a [.NotEq] [b] pos) (d2 gNe fa fb) := ce_cmpR (op_neD g.hu64) u2_ne (nomark _) h h'
theorem ct_eq (g : GE X W k bl) (h : CQ X C W a fa) (h' : CQ X C W b fb) : CT X C W (.Compare a [.Eq] [b] pos) (dB (d2 gEq fa fb)) := ct_cmpR (op_eqD g.hu64) u2_eq (nomark _) h h'
theorem ct_ne (g : GE X W k bl) (h : CQ X C W a fa) (h' : CQ X C W b fb) : CT X C W (.Compare a [.NotEq] [b] pos) (dB (d2 gNe fa fb)) := ct_cmpR (op_neD g.hu64) u2_ne (nomark _) h h'
theorem ct_in (g : GE X W k bl) (h : CQ X C W a fa) (h' : CQ X C W b fb) (hm : behindInMarks .In b = false := by with_unfolding_all rfl) : CT X C W (.Compare a [.In] [b] pos) (dB (d2 (gIn false) fa fb)) := ct_cmpR (op_inAll g.hu) u2_in hm h h'
theorem ct_b (h : CQ X C W e fe) (he : ∀ whole, isTrue e X.env whole = (do let v ← whole; standAt e.pos; holding [v] (truthy v)) := by intro _; rfl) : CT X C W e (dB fe) := let ⟨_, p, q⟩ := h; ⟨_, pt_val p he, jt_b q⟩
theorem ct_tru (h : CQ X C W e fe) (he : ∀ whole, isTrue e X.env whole = (do let v ← whole; standAt e.pos; holding [v] (truthy v)) := by intro _; rfl) : CT X C W e (dTru fe) := let ⟨_, p, q⟩ := h; ⟨_, pt_truth p he, jt_tru q⟩
theorem ct_not (h : CT X C W a f1) : CT X C W (.UnaryOp .Not a pos) (dNot f1) := let ⟨_, p, q⟩ := h; ⟨_, pt_not p, jt_not q⟩
theorem cw_and1 (h : CT X C W a f1) : CW X C W (.BoolOp .And [a] pos) f1 := let ⟨_, p, q⟩ := h; ⟨_, pw_and1 p, q⟩
theorem cw_and (h : CT X C W a f1) (h' : CW X C W (.BoolOp .And (b :: es) pos) f2) : CW X C W (.BoolOp .And (a :: b :: es) pos) (dAnd f1 f2) := let ⟨_, p, q⟩ := h; let ⟨_, p', q'⟩ := h'; ⟨_, pw_and p p', jt_and q q'⟩
theorem cw_or1 (h : CT X C W a f1) : CW X C W (.BoolOp .Or [a] pos) f1 := let ⟨_, p, q⟩ := h; ⟨_, pw_or1 p, q⟩
theorem cw_or (h : CT X C W a f1) (h' : CW X C W (.BoolOp .Or (b :: es) pos) f2) : CW X C W (.BoolOp .Or (a :: b :: es) pos) (dOr f1 f2) := let ⟨_, p, q⟩ := h; let ⟨_, p', q'⟩ := h'; ⟨_, pw_or p p', jt_or q q'⟩
theorem CW.t (h : CW X C W e ft) : CT X C W e ft := let ⟨_, p, q⟩ := h; ⟨_, p.pt, q⟩
theorem ce_and1 {op : BoolOp} (h : CE X C W a fa) : CE X C W (.BoolOp op [a] pos) fa := let ⟨_, p, q⟩ := h; ⟨_, pe_one p, q⟩
theorem ce_and (h : CQ X C W a fa) (h' : CE X C W (.BoolOp .And (b :: es) pos) fb) : CE X C W (.BoolOp .And (a :: b :: es) pos) (dAndV (dB fa) fb) := let ⟨_, p, q⟩ := h; let ⟨_, p', q'⟩ := h'; ⟨_, pe_and p p', je_andV q q'⟩
theorem ce_or (h : CQ X C W a fa) (h' : CE X C W (.BoolOp .Or (b :: es) pos) fb) : CE X C W (.BoolOp .Or (a :: b :: es) pos) (dOrV (dB fa) fb) := let ⟨_, p, q⟩ := h; let ⟨_, p', q'⟩ := h'; ⟨_, pe_or p p', je_orV q q'⟩
theorem ce_not (h : CQ X C W a fa) : CE X C W (.UnaryOp .Not a pos) (dNotV (dB fa)) := let ⟨_, p, q⟩ := h; ⟨_, pe_not p, je_notV q⟩
theorem ce_ix (h : CQ X C W a fa) (h' : CQ X C W b fb) (hp : PlainIx b := by exact fun _ _ => rfl) : CE X C W (.Subscript a b pos) (d2 gIx fa fb) := let ⟨_, p, q⟩ := h; let ⟨_, p', q'⟩ := h'; ⟨_, pe_ix ix_seq p p' hp, je_op u2_ix q q'⟩
theorem co_no : CO X C W none oNo := ⟨_, po_none, jo_no⟩
theorem co_some (h : CQ X C W e fe) : CO X C W (some e) (oSome fe) := let ⟨_, p, q⟩ := h; ⟨_, po_some p, jo_some q⟩
def dSl (fe : DE) (fl fh : DO) : DE := fun xq ρ Q => fe xq ρ fun x => fl xq ρ fun lo => fh xq ρ fun hi => gSl x lo hi Q
def nSl (fe : DE) (fl fh : DO) : DA := fun xq ρ Q => fe xq ρ fun x => fl xq ρ fun lo => fh xq ρ fun hi => gSlN x lo hi Q
theorem ce_sl {lo hi : Option Expr} {fl fh : DO} (h : CQ X C W a fa) (h1 : CO X C W lo fl) (h2 : CO X C W hi fh) : CE X C W (.Subscript a (.Slice lo hi none p2) pos) (dSl fa fl fh) := let ⟨_, p, q⟩ := h; let ⟨_, p', q'⟩ := h1; let ⟨_, p2, q2⟩ := h2; ⟨_, pe_slice sl_all p p' p2, je_sl q q' q2⟩
theorem ca_nil : CA X C W [] dNil 0 := ⟨_, pa_nil, jan_nil⟩
theorem ca_cons (h : CE X C W e fe) (h' : CA X C W es fs n) (hs : starEach (e :: es) X.env = (false, eval e X.env) :: starEach es X.env := by rfl) : CA X C W (e :: es) (dCons fe fs) (n + 1) := let ⟨_, p, q⟩ := h; let ⟨_, p', q'⟩ := h'; ⟨_, pa_cons p p' hs, jan_cons q q'⟩
theorem ce_tup {z : Nat} (h : CA X C W es fs n) (hn : n ≤ sizeLine := by rw [sizeLine_eq]; decide) : CE X C W (.Tuple es z pos) (dTup fs) := let ⟨_, p, q⟩ := h; ⟨_, pe_tup p, je_tup q hn⟩
theorem cn_lst (h : CA X C W es fs n) (hn : n ≤ sizeLine := by rw [sizeLine_eq]; decide) : CN X C W (.List es pos) fs := let ⟨_, p, q⟩ := h; ⟨_, pe_lst p, jn_lst q hn⟩
theorem ce_b1 (g : GE X W k bl) {x : Str} {id : String} {r : List V → Hp → VK → Prop} {gg : D → (D → Prop) → Prop} (hc : CallR X (.builtin id) r) (u : U1 ⟨X.K, C⟩ (fun v H Q => r [v] H Q) gg) (hv : bootBuiltins x = some (.builtin id)) (hb : bl x = true) (h : CQ X C W a fa) (hg : Gl X x) (hn : x ≠ "__name__") (hdb : (x == ("__debug__" : Str)) = false) (he : starEach [a] X.env = (false, eval a X.env) :: starEach [] X.env) : CE X C W (.Call (.Name x p) [a] [] pos) (d1 gg fa) :=
  let ⟨_, p, q⟩ := h; ⟨_, pe_callB hc hg (g.bl _ hb) hv (pa_cons p pa_nil he) hn hdb he rfl, je_cb1 u q⟩
theorem ce_t1 (g : GE X W k bl) {x : Str} {T : String} {r : List V → Hp → VK → Prop} {gg : D → (D → Prop) → Prop} (hc : CallR X (.type T) r) (u : U1 ⟨X.K, C⟩ (fun v H Q => r [v] H Q) gg) (hv : bootBuiltins x = some (.type T)) (hb : bl x = true) (h : CQ X C W a fa) (hg : Gl X x) (hn : x ≠ "__name__") (hdb : (x == ("__debug__" : Str)) = false) (he : starEach [a] X.env = (false, eval a X.env) :: starEach [] X.env) : CE X C W (.Call (.Name x p) [a] [] pos) (d1 gg fa) :=
  let ⟨_, p, q⟩ := h; ⟨_, pe_callTy hc hg (g.bl _ hb) hv (pa_cons p pa_nil he) hn hdb he rfl, je_cb1 u q⟩
theorem ce_len (g : GE X W k bl) (h : CQ X C W a fa) (hb : bl "len" = true := by decide +kernel) (hg : Gl X "len" := by rfl) (he : starEach [a] X.env = (false, eval a X.env) :: starEach [] X.env := by rfl) : CE X C W (.Call (.Name "len" p) [a] [] pos) (d1 gLen fa) := ce_b1 g call_len u1_len boot_len hb h hg (by decide) (by decide) he
theorem ce_int1 (g : GE X W k bl) (h : CQ X C W a fa) (hb : bl "int" = true := by decide +kernel) (hg : Gl X "int" := by rfl) (he : starEach [a] X.env = (false, eval a X.env) :: starEach [] X.env := by rfl) : CE X C W (.Call (.Name "int" p) [a] [] pos) (d1 gInt fa) := ce_t1 g call_int1 u1_int boot_int hb h hg (by decide) (by decide) he
theorem ce_str1 (g : GE X W k bl) (h : CQ X C W a fa) (hb : bl "str" = true := by decide +kernel) (hg : Gl X "str" := by rfl) (he : starEach [a] X.env = (false, eval a X.env) :: starEach [] X.env := by rfl) : CE X C W (.Call (.Name "str" p) [a] [] pos) (d1 gStr fa) := ce_t1 g call_str_int u1_str boot_str hb h hg (by decide) (by decide) he
theorem ce_all (g : GE X W k bl) (h : CQ X C W a fa) (hb : bl "all" = true := by decide +kernel) (hg : Gl X "all" := by rfl) (he : starEach [a] X.env = (false, eval a X.env) :: starEach [] X.env := by rfl) : CE X C W (.Call (.Name "all" p) [a] [] pos) (d1 gAll fa) := ce_b1 g (cr_all g.calm) u1_all boot_all hb h hg (by decide) (by decide) he
theorem cn_list (g : GE X W k bl) (h : CQ X C W a fa) (hb : bl "list" = true := by decide +kernel) (hg : Gl X "list" := by rfl) (he : starEach [a] X.env = (false, eval a X.env) :: starEach [] X.env := by rfl) : CN X C W (.Call (.Name "list" p) [a] [] pos) (n1 gListN fa) :=
  let ⟨_, p, q⟩ := h; ⟨_, pe_callTy call_list_of hg (g.bl _ hb) boot_list (pa_cons p pa_nil he) (by decide) (by decide) he rfl, jn_cb1 n1_list q⟩
theorem ce_max (g : GE X W k bl) (h : CQ X C W a fa) (h' : CQ X C W b fb) (hb : bl "max" = true := by decide +kernel) (hg : Gl X "max" := by rfl) (he : starEach [a, b] X.env = (false, eval a X.env) :: starEach [b] X.env := by rfl) (he' : starEach [b] X.env = (false, eval b X.env) :: starEach [] X.env := by rfl) (hpl : (backTo pos (starEach [b] X.env)).any (·.1) = false := by rfl) : CE X C W (.Call (.Name "max" p) [a, b] [] pos) (d2 gMax fa fb) :=
  let ⟨_, p, q⟩ := h; let ⟨_, p', q'⟩ := h'; ⟨_, pe_callB (call_max2 g.calm) hg (g.bl _ hb) boot_max (pa_cons p (pa_cons p' pa_nil he') he) (by decide) (by decide) he hpl, je_cb2 u2_max q q'⟩
end
def dty : D → String
  | .non => "NoneType"
  | .bl _ => "bool"
  | .int _ => "int"
  | .str _ => "str"
  | .tup _ => "tuple"
  | .lst _ => "list"
  | .scr _ => "list"
  | .rd => "list"
  | .ins _ _ => "?"
  | .exc _ _ => "?"
  | .nms _ => "tuple"
  | .any => "?"
  | .dic _ => "?"
  | .fr _ => "?"
  | .raw _ => "?"
  | .obj _ _ => "?"
def kty (t T : String) : Bool := t == T || (t == "bool" && T == "int")
def gIsi (T : String) (d : D) (Q : D → Prop) : Prop := match d with
  | .ins _ _ => False
  | .exc _ _ => False
  | .rd => False
  | .any => False
  | .dic _ => False
  | .fr _ => False
  | .raw _ => False
  | .obj _ _ => False
  | d => Q (.bl (kty (dty d) T))
def Ty5 (T : String) : Prop := ∀ t ∈ ["NoneType", "bool", "int", "str", "tuple", "list"], L2.kitB t T = some (kty t T)
theorem ty_int : Ty5 "int" := by unfold Ty5; decide +kernel
theorem ty_bool : Ty5 "bool" := by unfold Ty5; decide +kernel
theorem ty_str : Ty5 "str" := by unfold Ty5; decide +kernel
theorem ty_tuple : Ty5 "tuple" := by unfold Ty5; decide +kernel
theorem sqT_ty {K : PySem.W.Frag} {H : Hp} {a : Addr} {vs : List V} (h : SqT K H a vs) : TyX K H (.ref a) (.type "tuple") := by
  rcases h with (h | ⟨o, h⟩) | ⟨o, its, n, h, c, _⟩
  · exact .base (.tup h)
  · exact .fTuple h
  · exact .kTuple h c
theorem sqL_ty {K : PySem.W.Frag} {H : Hp} {a : Addr} {vs : List V} (h : SqL K H a vs) : TyX K H (.ref a) (.type "list") := by
  rcases h with (h | ⟨o, h⟩) | ⟨o, its, n, h, c, _⟩
  · exact .base (.lst h)
  · exact .base (.frz h)
  · exact .kList h c
theorem RpQ.ty {Γ : Kx} {G : Hp} {R : Addr → Prop} {H : Hp} {d : D} {v : V} (g : Gd G R H) (r : RpQ Γ G R H d v) (h1 : ∀ c fs, d ≠ .ins c fs ∧ d ≠ .exc c fs) (h2 : d ≠ .rd) (h3 : d ≠ .any) (h4 : (∀ kvs, d ≠ .dic kvs) ∧ (∀ x, d ≠ .fr x) ∧ (∀ x, d ≠ .raw x) ∧ ∀ c x, d ≠ .obj c x) : TyX Γ.K H v (.type (dty d)) := by
  cases d with
  | non => rw [r.non]; exact .base .non
  | bl b => rw [r.bl]; exact .base (.bl b)
  | int b => rw [r.int]; exact .base (.int b)
  | str b => rw [r.str]; exact .base (.str b)
  | tup ds => obtain ⟨a, vs, e, s, _⟩ := r.tup g; rw [e]; exact sqT_ty s
  | lst ds => obtain ⟨a, vs, e, s, _⟩ := r.lst g; rw [e]; exact sqL_ty (SqL.of s)
  | scr ds => obtain ⟨a, e, s⟩ := r.scr g; rw [e]; exact sqL_ty s
  | rd => exact absurd rfl h2
  | any => exact absurd rfl h3
  | dic kvs => exact absurd rfl (h4.1 kvs)
  | fr x => exact absurd rfl (h4.2.1 x)
  | raw x => exact absurd rfl (h4.2.2.1 x)
  | obj c x => exact absurd rfl (h4.2.2.2 c x)
  | ins c fs => exact absurd rfl (h1 c fs).1
  | exc c fs => exact absurd rfl (h1 c fs).2
  | nms ys =>
    have r' : Rp Γ G R (.nms ys) v := r
    unfold Rp at r'
    obtain ⟨a, its, e, s⟩ := r'
    rw [e]
    exact sqT_ty (.inl (.inr ⟨_, g.sub _ _ s⟩))
theorem dty_mem {d : D} (h1 : ∀ c fs, d ≠ .ins c fs ∧ d ≠ .exc c fs) (h3 : d ≠ .any) (h4 : (∀ kvs, d ≠ .dic kvs) ∧ (∀ x, d ≠ .fr x) ∧ (∀ x, d ≠ .raw x) ∧ ∀ c x, d ≠ .obj c x) : dty d ∈ ["NoneType", "bool", "int", "str", "tuple", "list"] := by
  cases d <;> first | (simp [dty]; done) | exact absurd rfl (h1 _ _).1 | exact absurd rfl (h1 _ _).2 | exact absurd rfl h3 | exact absurd rfl (h4.1 _) | exact absurd rfl (h4.2.1 _) | exact absurd rfl (h4.2.2.1 _) | exact absurd rfl (h4.2.2.2 _ _)
theorem u1_isi {Γ : Kx} {T : String} (t : Ty5 T) : U1 Γ (fun v H Q => rIsi Γ.K [v, .ty T] H Q) (gIsi T) := fun G R H d v Qd Q gd r1 g k => by
  have hi : (∀ c fs, d ≠ .ins c fs ∧ d ≠ .exc c fs) ∧ d ≠ .rd ∧ d ≠ .any ∧ ((∀ kvs, d ≠ .dic kvs) ∧ (∀ x, d ≠ .fr x) ∧ (∀ x, d ≠ .raw x) ∧ ∀ c x, d ≠ .obj c x) ∧ Qd (.bl (kty (dty d) T)) := by
    cases d <;> first | exact g.elim | exact ⟨(fun c fs => ⟨(fun e => nomatch e), (fun e => nomatch e)⟩), (fun e => nomatch e), (fun e => nomatch e), ⟨(fun _ e => nomatch e), (fun _ e => nomatch e), (fun _ e => nomatch e), (fun _ _ e => nomatch e)⟩, g⟩
  obtain ⟨h1, h2, h3, h4, g⟩ := hi
  exact ⟨v, .ty T, _, _, _, rfl, .ty T, r1.ty gd h1 h2 h3 h4, kit_ty (t _ (dty_mem h1 h3 h4)), k _ G R H _ (Nx.refl gd) rp_bl g⟩
theorem je_isi {Γ : Kx} {W : WX} {te : TE} {fe : DE} {T : String} (t : Ty5 T) (a : JQ Γ W te fe) : JE Γ W (tCB (rIsi Γ.K) (tCons te (tCons (tC (.ty T)) tNil))) (d1 (gIsi T) fe) := fun H0 G R H σ ρ xq Qd Q w x f k =>
  a H0 G R H σ ρ xq _ _ w x f fun v1 G1 R1 H1 d1 n1 r1 q1 => u1_isi t G1 R1 H1 d1 v1 Qd Q n1.gd r1 q1 fun w' G' R' H' c n r q => k w' G' R' H' c (n1.trans n) r q
section
variable {X : Cx} {C : Str → Addr} {W : WX} {k j : Nat} {bl : Str → Bool} {a b c e : Expr} {fa : DE} {pos p p1 p2 : Pos}
theorem ce_isi {x : Str} {T : String} (t : Ty5 T) (hT : bootBuiltins x = some (.type T)) (g : GE X W k bl) (h : CQ X C W a fa) (hb : bl "isinstance" = true := by decide +kernel) (hbT : bl x = true := by decide +kernel) (hg : Gl X "isinstance" := by rfl) (hgT : Gl X x := by rfl) (hn : x ≠ "__name__" := by decide) (hd : (x == ("__debug__" : Str)) = false := by decide)
    (he : starEach [a, .Name x p2] X.env = (false, eval a X.env) :: starEach [.Name x p2] X.env := by rfl) (he' : starEach [.Name x p2] X.env = (false, eval (.Name x p2) X.env) :: starEach [] X.env := by rfl) (hpl : (backTo pos (starEach [.Name x p2] X.env)).any (·.1) = false := by rfl) : CE X C W (.Call (.Name "isinstance" p) [a, .Name x p2] [] pos) (d1 (gIsi T) fa) :=
  let ⟨_, p, q⟩ := h; ⟨_, pe_callB call_isi hg (g.bl _ hb) boot_isinstance (pa_cons p (pa_cons (pe_bltn (v := .ty T) hgT (g.bl _ hbT) hT rfl hn hd) pa_nil he') he) (by decide) (by decide) he hpl, je_isi t q⟩
end
end Dl
namespace Dl
open PySem PySem.Spec PyProof.Rows L2
abbrev W0 : WX := fun _ _ _ _ => False
def tOf (Γ : Kx) (W : WX) (fe : DE) : TE := fun σ H Q => ∃ (H0 G : Hp) (R : Addr → Prop) (ρ : En) (xq : XQ) (Qd : D → Prop), Wd Γ H0 G R H σ ρ ∧ Lk Γ W xq σ G R H ∧ fe xq ρ Qd ∧ ∀ v G' R' H' d, Nx G R H G' R' H' → Rp Γ G' R' d v → Qd d → Q v H'
def tTof (Γ : Kx) (W : WX) (ft : DT) : TT := fun σ H Q => ∃ (H0 G : Hp) (R : Addr → Prop) (ρ : En) (xq : XQ) (Qd : Bool → Prop), Wd Γ H0 G R H σ ρ ∧ Lk Γ W xq σ G R H ∧ ft xq ρ Qd ∧ ∀ b G' R' H', Nx G R H G' R' H' → Qd b → Q b H'
section
variable {X : Cx} {C : Str → Addr} {W : WX} {k j : Nat} {bl : Str → Bool} {a b c e : Expr} {es : List Expr} {fa fb fc fe : DE} {fs : DA} {ft f1 f2 : DT} {pos p p1 p2 : Pos} {n i : Nat}
theorem CE.canon (h : CE X C W e fe) : PE X e (tOf ⟨X.K, C⟩ W fe) := let ⟨t, p, q⟩ := h; ⟨fun pins s σ H Q I ⟨H0, G, R, ρ, xq, Qd, w, x, f, z⟩ => p.run pins s σ H Q I (q H0 G R H σ ρ xq Qd Q w x f z)⟩
theorem je_of {Γ : Kx} : JE Γ W (tOf Γ W fe) fe := fun H0 G R H σ ρ xq Qd Q w x f z => ⟨H0, G, R, ρ, xq, Qd, w, x, f, z⟩
theorem jt_of {Γ : Kx} : JT Γ W (tTof Γ W ft) ft := fun H0 G R H σ ρ xq Qd Q w x f z => ⟨H0, G, R, ρ, xq, Qd, w, x, f, z⟩
def CTs (X : Cx) (C : Str → Addr) (W : WX) (ifs : List Expr) (ft : DT) : Prop := ∃ tt, PTs X ifs tt ∧ JT ⟨X.K, C⟩ W tt ft
theorem cts_nil : CTs X C W [] dYes := ⟨_, pts_nil, jt_yes⟩
theorem cts_one (h : CT X C W e ft) : CTs X C W [e] ft := let ⟨_, p, q⟩ := h; ⟨_, pts_one p, q⟩
theorem CTs.canon (h : CTs X C W es ft) : PTs X es (tTof ⟨X.K, C⟩ W ft) := let ⟨t, p, q⟩ := h; ⟨fun pins s σ H Q I ⟨H0, G, R, ρ, xq, Qd, w, x, f, z⟩ => p.run pins s σ H Q I (q H0 G R H σ ρ xq Qd Q w x f z)⟩
variable {tg iter elt : Expr} {fi : DA}
theorem ci_it (h : CE X C W iter fe) : CI X C W tg iter (iIt fe) := let ⟨_, p, q⟩ := h; ⟨_, pi_seq p, ji_it q⟩
theorem ci_r1 (g : GE X W k bl) (h : CQ X C W a fa) (hb : bl "range" = true := by decide +kernel) (hg : Gl X "range" := by rfl) (hs : starEach [a] X.env = [(false, eval a X.env)] := by rfl) : CI X C W tg (.Call (.Name "range" p) [a] [] pos) (iR1 fa) :=
  let ⟨_, p, q⟩ := h; ⟨_, pi_range1 hg (g.bl _ hb) (pa_cons p pa_nil hs) hs, ji_r1 q⟩
theorem ci_r2 (g : GE X W k bl) (h : CQ X C W a fa) (h' : CQ X C W b fb) (hb : bl "range" = true := by decide +kernel) (hg : Gl X "range" := by rfl) (hs : starEach [a, b] X.env = [(false, eval a X.env), (false, eval b X.env)] := by rfl) (hs2 : starEach [b] X.env = [(false, eval b X.env)] := by rfl) : CI X C W tg (.Call (.Name "range" p) [a, b] [] pos) (iR2 fa fb) :=
  let ⟨_, p, q⟩ := h; let ⟨_, p', q'⟩ := h'; ⟨_, pi_range2 hg (g.bl _ hb) (pa_cons p (pa_cons p' pa_nil hs2) (by rw [hs, hs2])) hs hs2, ji_r2 q q'⟩
variable {ifs : List Expr} {scope : Scope} {x y : Str} {xp py spos : Pos}
theorem cn_lc (g : GE X W k bl) (hN : X.N.Nodup) (hi : CI X C W (.Name x xp) iter fi) (ok : blkC X.N X.env.scope scope [(x, i)] = true)
    (hg : ∀ (s : Shared) (H : Hp) (Cc : Addr) (cl : List (Str × Addr)) (fp : List Addr), PG (X.blk s H scope (compEnvC scope cl Cc X.env) fp) (.Name x xp) (gName i))
    (ht : ∀ (s : Shared) (H : Hp) (Cc : Addr) (cl : List (Str × Addr)) (fp : List Addr), CTs (X.blk s H scope (compEnvC scope cl Cc X.env) fp) C W0 ifs ft)
    (he : ∀ (s : Shared) (H : Hp) (Cc : Addr) (cl : List (Str × Addr)) (fp : List Addr), CE (X.blk s H scope (compEnvC scope cl Cc X.env) fp) C W0 elt fe) (hs : ∀ x, foldedSetIterable iter X.env x = pure x := by intro _; rfl) :
    CN X C W (.ListComp elt [⟨.Name x xp, iter, ifs, 0⟩] scope pos) (dLc fi i ft fe) :=
  let ⟨_, p, q⟩ := hi; ⟨_, pe_lc g.calm hN p (blkOk_by ok) hg (fun s H Cc cl fp => (ht s H Cc cl fp).canon) (fun s H Cc cl fp => (he s H Cc cl fp).canon) hs, jn_lc q jt_of je_of⟩
structure Cal (P : Program) (w : World) (K : PySem.W.Frag) (mg : Str → Option Value) (base : Heap) (C : Str → Addr) (k : Nat) (x : Str) (S : DF) : Prop where
  ex : ∃ (f : Addr) (fd : FuncData) (ps : List Str), FnOk P w K mg base (L2N.CX P w) k f fd ps (spD ⟨K, C⟩ S) ∧ mg x = some (.ref f) ∧ PySem.W.keepIn K (.ref f) = true ∧ Binds K fd ps []
theorem spD_imp {Γ : Kx} {S S' : DF} (h : ∀ ds Q Xq, S' ds Q Xq → S ds Q Xq) (vs : List V) (H : Hp) (Q : VK) (E : XK) (s : spD Γ S' vs H Q E) : spD Γ S vs H Q E := by
  obtain ⟨G, R, ds, Qd, Xq, g, r, s, k1, k2⟩ := s
  exact ⟨G, R, ds, Qd, Xq, g, r, h _ _ _ s, k1, k2⟩
theorem Cal.imp {P : Program} {w : World} {K : PySem.W.Frag} {mg : Str → Option Value} {base : Heap} {S S' : DF} (c : Cal P w K mg base C k x S) (h : ∀ ds Q Xq, S' ds Q Xq → S ds Q Xq) : Cal P w K mg base C k x S' :=
  let ⟨f, fd, ps, F, m, kp, b⟩ := c.ex
  ⟨f, fd, ps, F.imp (spD_imp h), m, kp, b⟩
theorem Cal.mono {P : Program} {w : World} {K : PySem.W.Frag} {mg : Str → Option Value} {base : Heap} {S : DF} (c : Cal P w K mg base C k x S) (h : k ≤ j) : Cal P w K mg base C j x S :=
  let ⟨f, fd, ps, F, m, kp, b⟩ := c.ex
  ⟨f, fd, ps, F.mono h, m, kp, b⟩
theorem ce_call {S : DF} (c : Cal X.prog X.w X.K X.mg X.base C k x S) (g : GE X W j bl) (h : CA X C W (e :: es) fs n) (hk : k ≤ j := by decide) (hg : Gl X x := by rfl)
    (hdb : (x == ("__debug__" : Str)) = false := by decide) (he : starEach (e :: es) X.env = (false, eval e X.env) :: starEach es X.env := by rfl) (hpl : (backTo pos (starEach es X.env)).any (·.1) = false := by rfl) : CE X C W (.Call (.Name x p) (e :: es) [] pos) (dCall S fs) :=
  let ⟨f, fd, ps, F, m, kp, b⟩ := c.ex
  let ⟨_, p, q⟩ := h
  ⟨_, pe_callS F (g.room.mono hk) hg m kp b (fun σ => L2N.passAt g.tk σ) p hdb he hpl, je_call q.a⟩
variable {st : Stmt} {sts s1 s2 : List Stmt} {g1 g2 : DS}
theorem css_nil : CSs X C W [] dNext := ⟨_, pss_nil, js_next⟩
theorem css_cons (h : CS X C W st g1) (h' : CSs X C W sts g2) : CSs X C W (st :: sts) (dSeq g1 g2) := let ⟨_, p, q⟩ := h; let ⟨_, p', q'⟩ := h'; ⟨_, pss_cons p p', js_seq q q'⟩
theorem css_one (h : CS X C W st g1) : CSs X C W [st] g1 := let ⟨_, p, q⟩ := h; ⟨_, pss_one p, q⟩
theorem css_frz (i : Nat) (h : CSs X C W sts g1) : CSs X C W sts (dFrz i g1) := let ⟨_, p, q⟩ := h; ⟨_, p, js_frz q⟩
theorem cs_break : CS X C W (.Break pos) dBreak := ⟨_, ps_break, js_break⟩
theorem cs_set (i : Nat) (hN : X.N.Nodup) (h : CE X C W e fe) (hi : X.N[i]? = some x := by rfl) (hx : Loc X.env.scope x := by first | exact Or.inl rfl | exact Or.inr rfl) (hs : swapsWith e (some (.Name x p)) pos.line X.env = pure false := by rfl) (hf : X.fn x = true ∨ X.env.scope.names.lookup x = some .local := by first | exact .inl rfl | exact .inr rfl) :
    CS X C W (.Assign [.Name x p] e pos) (dSet i fe) := let ⟨_, p, q⟩ := h; ⟨_, ps_set hN hi hx p hs hf, js_set q⟩
theorem cs_setN (i : Nat) (hN : X.N.Nodup) (h : CN X C W e fs) (hi : X.N[i]? = some x := by rfl) (hx : Loc X.env.scope x := by first | exact Or.inl rfl | exact Or.inr rfl) (hs : swapsWith e (some (.Name x p)) pos.line X.env = pure false := by rfl) (hf : X.fn x = true ∨ X.env.scope.names.lookup x = some .local := by first | exact .inl rfl | exact .inr rfl) :
    CS X C W (.Assign [.Name x p] e pos) (dSetN i fs) := let ⟨_, p, q⟩ := h; ⟨_, ps_set hN hi hx p hs hf, js_setN q⟩
theorem cs_lc {j : Nat} (g : GE X W k bl) (i : Nat) (hN : X.N.Nodup) (hi : CI X C W (.Name x xp) iter fi) (ok : blkC X.N X.env.scope scope [(x, j)] = true)
    (hg : ∀ (s : Shared) (H : Hp) (Cc : Addr) (cl : List (Str × Addr)) (fp : List Addr), PG (X.blk s H scope (compEnvC scope cl Cc X.env) fp) (.Name x xp) (gName j))
    (ht : ∀ (s : Shared) (H : Hp) (Cc : Addr) (cl : List (Str × Addr)) (fp : List Addr), CTs (X.blk s H scope (compEnvC scope cl Cc X.env) fp) C W0 ifs ft)
    (he : ∀ (s : Shared) (H : Hp) (Cc : Addr) (cl : List (Str × Addr)) (fp : List Addr), CE (X.blk s H scope (compEnvC scope cl Cc X.env) fp) C W0 elt fe)
    (hy : X.N[i]? = some y := by rfl) (hyl : X.env.scope.names.lookup y = some .local := by rfl) (hsw : swapsWith (.ListComp elt [⟨.Name x xp, iter, ifs, 0⟩] scope pos) (some (.Name y py)) spos.line X.env = pure true := by exact sw_true rfl rfl rfl (by decide +kernel)) (hs : ∀ x, foldedSetIterable iter X.env x = pure x := by intro _; rfl) :
    CS X C W (.Assign [.Name y py] (.ListComp elt [⟨.Name x xp, iter, ifs, 0⟩] scope pos) spos) (dSet i (dLst (dLc fi j ft fe))) :=
  let ⟨_, p, q⟩ := hi; ⟨_, ps_setLc g.calm hN hy hyl hsw p (blkOk_by ok) hg (fun s H Cc cl fp => (ht s H Cc cl fp).canon) (fun s H Cc cl fp => (he s H Cc cl fp).canon) hs, js_set (jn_lc q jt_of je_of).e⟩
theorem cs_ret (h : CE X C W e fe) : CS X C W (.Return (some e) pos) (dRet fe) := let ⟨_, p, q⟩ := h; ⟨_, ps_ret p, js_ret q⟩
theorem cs_retv (h : PE X e (tVar i)) : CS X C W (.Return (some e) pos) (dRetV i) := ⟨_, ps_ret h, js_retV⟩
theorem cs_if (h : CT X C W c ft) (h1 : CSs X C W s1 g1) (h2 : CSs X C W s2 g2) : CS X C W (.If c s1 s2 pos) (dIfS ft g1 g2) := let ⟨_, p, q⟩ := h; let ⟨_, p', q'⟩ := h1; let ⟨_, p2, q2⟩ := h2; ⟨_, ps_if p p' p2, js_if q q' q2⟩
theorem cs_for (g : GS X W k bl) (hg : PG X tg (gName i)) (hi : CI X C W tg iter fi) (hb : CSs X C W s1 g1) (hs : ∀ x, foldedSetIterable iter X.env x = pure x := by intro _; rfl) : CS X C W (.For tg iter s1 [] pos) (dFor fi i g1) :=
  let ⟨_, p, q⟩ := hi; let ⟨_, p', q'⟩ := hb; ⟨_, ps_for g.own g.calm p hg p' hs, js_for q q'⟩
theorem cs_while (g : GS X W k bl) (h : CT X C W c ft) (hb : CSs X C W s1 g1) : CS X C W (.While c s1 [] pos) (dWhile ft g1) := let ⟨_, p, q⟩ := h; let ⟨_, p', q'⟩ := hb; ⟨_, ps_while g.own p p', js_while q q'⟩
theorem cs_app {o : Expr} {apos cpos : Pos} (i : Nat) (ho : PE X o (tVar i)) (h : CE X C W e fe) (hbase : attributeBase o "append" X.env (eval o X.env) = eval o X.env := by rfl)
    (hfew : ((backTo cpos (starEach [e] X.env)).all (fun x => !x.1) && (backToKw cpos (keywordEach [] X.env)).all (fun x => x.1.isSome) && decide (([e] : List Expr).length + ([] : List Keyword).length + (if ([] : List Keyword).isEmpty then 0 else 1) < 30)) = true := by rfl)
    (hline : (apos.endLine == cpos.line) = true := by rfl) (hs : starEach [e] X.env = (false, eval e X.env) :: starEach [] X.env := by rfl) (hsw : swapsWith (.Call (.Attribute o "append" apos) [e] [] cpos) none pos.line X.env = pure false := by rfl) :
    CS X C W (.Expr (.Call (.Attribute o "append" apos) [e] [] cpos) pos) (dApp i fe) :=
  let ⟨_, p, q⟩ := h; ⟨_, ps_expr (pe_bm PySem.F.plainAttrs_list PySem.F.slot_list_append PySem.F.type_list_append mt_append ho (pa_cons p pa_nil hs) hbase hfew hline hs rfl) hsw, js_app q⟩
end
def kD (Qd : D → Prop) (Xq : XQ) : DK := ⟨fun _ => Qd .non, fun d _ => Qd d, fun _ => False, fun _ => False, fun c fs _ => Xq c fs, fun _ _ _ _ => False⟩
def startD (n : Nat) (ds : List D) : En := ds.map S.fz ++ List.replicate (n - ds.length) S.un
abbrev cxD (P : Program) (w : World) (K : PySem.W.Frag) (mg : Str → Option Value) (base : Heap) (N : List Str) (x : Str) (sc : Scope) (f : Addr) (cdv : Value) (A : Around) (outer : List PySem.Env) (s : Shared) (H : Hp) (E : XK) : Cx := cxOf (L2N.CX P w) P w K mg base N x sc f cdv A outer s H E
abbrev wD (E : XK) : WX := fun cls d _ H => E cls d H
theorem start_wd {Γ : Kx} {G : Hp} {R : Addr → Prop} {H : Hp} {N : List Str} {ds : List D} {vs : List V} (g : Gd G R H) (r : RpL Γ G R ds vs) (hl : ds.length ≤ N.length) : Wd Γ H G R H (L2.start N vs) (startD N.length ds) := by
  have e := r.len
  unfold L2.start startD
  refine ⟨g, by simp [e], fun i s q => ?_, fun i j s1 s2 v1 v2 l hij q1 q2 _ _ o1 _ => ?_⟩
  · by_cases hi : i < ds.length
    · rw [List.getElem?_append_left (by simpa using hi), List.getElem?_map, List.getElem?_eq_getElem hi] at q
      cases q
      obtain ⟨v, e2, r2⟩ := r.get (List.getElem?_eq_getElem hi)
      refine ⟨some v, ?_, v, rfl, r2⟩
      rw [List.getElem?_append_left (by rw [List.length_map]; omega), List.getElem?_map, e2]
      rfl
    · rw [List.getElem?_append_right (by simpa using hi)] at q
      have hs : s = .un := List.eq_of_mem_replicate (List.mem_of_getElem? q)
      subst hs
      have hlt := (List.getElem?_eq_some_iff.mp q).1
      simp only [List.length_map, List.length_replicate] at hlt
      refine ⟨none, ?_, True.intro⟩
      rw [List.getElem?_append_right (by rw [List.length_map]; omega), List.length_map, ← e]
      rw [List.getElem?_replicate, if_pos (by omega)]
  · exfalso
    have m := List.mem_of_getElem? q1
    rcases List.mem_append.mp m with m | m
    · obtain ⟨d, _, z⟩ := List.mem_map.mp m
      subst z; exact absurd o1 List.not_mem_nil
    · have := List.eq_of_mem_replicate m
      subst this; exact absurd o1 List.not_mem_nil
theorem dfnF {P : Program} {w : World} {K : PySem.W.Frag} {mg : Str → Option Value} {base : Heap} {C : Str → Addr} {bl : Str → Bool} {x : Str} {params : Arguments} {body : List Stmt} {sc : Scope} {N ps : List Str} {f : Addr} {fd : FuncData} {k : Nat} {S : DF} {fs : DS}
    (F : FunD K x x params body sc [] [] f fd) (Sc : FnScope N ps sc) (hbl : ∀ n, bl n = true → mg n = none) (len : ∀ ds Q Xq, S ds Q Xq → ds.length = ps.length)
    (hbody : ∀ (cdv : Value) (A : Around) (outer : List PySem.Env) (s : Shared) (H : Hp) (E : XK), GS (cxD P w K mg base N x sc f cdv A outer s H E) (wD E) k bl → CSs (cxD P w K mg base N x sc f cdv A outer s H E) C (wD E) body fs)
    (spec : ∀ ds Qd Xq, S ds Qd Xq → fs (kD Qd Xq) (startD N.length ds)) : FnOk P w K mg base (L2N.CX P w) (k + 1) f fd ps (spD ⟨K, C⟩ S) := by
  refine F.ok Sc (fun vs H Q E h => ?_) (fun cdv A outer s H vs Q E hr h => ?_)
  · obtain ⟨G, R, ds, Qd, Xq, g, r, q, _⟩ := h
    rw [← r.len]
    exact len _ _ _ q
  · obtain ⟨G, R, ds, Qd, Xq, g, r, q, h1, h2⟩ := h
    have gs : GS (cxD P w K mg base N x sc f cdv A outer s H E) (wD E) k bl := ⟨⟨rfl, hr, L2N.takes_of rfl rfl rfl rfl, hbl⟩, passes_of rfl⟩
    obtain ⟨t, p, j⟩ := hbody cdv A outer s H E gs
    refine ⟨t, p, ?_⟩
    have hl : ds.length ≤ N.length := by
      rw [len _ _ _ q]
      have := congrArg List.length Sc.pre
      rw [List.length_take] at this
      omega
    refine j G R H G R H _ _ (kD Qd Xq) _ (Nx.refl g) (start_wd g r hl) ⟨?_, ?_, ?_, ?_, ?_, ?_⟩ (spec ds Qd Xq q)
    · exact fun G' R' H' σ ρ n _ z => h1 .non G' R' H' .non n rp_non z
    · exact fun v d G' R' H' _ _ n _ r' z => h1 v G' R' H' d n r' z
    · exact fun _ _ _ _ _ _ _ z => z.elim
    · exact fun _ _ _ _ _ _ _ z => z.elim
    · exact fun c fs' cls dx G' R' H' σ ρ n _ z e => h2 c fs' G' R' H' cls dx n z e
    · exact fun _ _ _ _ _ _ _ _ _ _ _ _ z => z.elim
theorem dfn {P : Program} {w : World} {K : PySem.W.Frag} {mg : Str → Option Value} {base : Heap} {C : Str → Addr} {bl : Str → Bool} {x : Str} {params : Arguments} {body : List Stmt} {sc : Scope} {N ps : List Str} {f : Addr} {fd : FuncData} {k : Nat} {S : DF} {fs : DS}
    (F : FunD K x x params body sc [] [] f fd) (gf : mg x = some (.ref f)) (Sc : FnScope N ps sc) (hb : Binds K fd ps []) (hbl : ∀ n, bl n = true → mg n = none) (len : ∀ ds Q Xq, S ds Q Xq → ds.length = ps.length)
    (hbody : ∀ (cdv : Value) (A : Around) (outer : List PySem.Env) (s : Shared) (H : Hp) (E : XK), GS (cxD P w K mg base N x sc f cdv A outer s H E) (wD E) k bl → CSs (cxD P w K mg base N x sc f cdv A outer s H E) C (wD E) body fs)
    (spec : ∀ ds Qd Xq, S ds Qd Xq → fs (kD Qd Xq) (startD N.length ds)) : Cal P w K mg base C (k + 1) x S :=
  ⟨f, fd, ps, dfnF F Sc hbl len hbody spec, gf, F.kp, hb⟩
end Dl
namespace Dl
open PySem PySem.Spec PyProof.Rows L2
def dRd (fa : DA) : DE := fun xq ρ Q => fa xq ρ fun ds => (∃ a b c : Int, ds = [.int a, .int b, .int c]) ∧ Q .rd
theorem je_rd {Γ : Kx} {W : WX} {te : TE} {fa : DA} (h : JN Γ W te fa) : JE Γ W te (dRd fa) := fun H0 G R H σ ρ xq Qd Q w x f k =>
  h H0 G R H σ ρ xq _ Q w x f fun l vs G' R' H' ds n e g r h0 rl q => by
    obtain ⟨⟨a, b, c, rfl⟩, q⟩ := q
    have hv : vs = [.int a, .int b, .int c] := by
      unfold RpL at rl
      obtain ⟨v1, r1, rfl, p1, rl⟩ := rl
      unfold RpL at rl
      obtain ⟨v2, r2, rfl, p2, rl⟩ := rl
      unfold RpL at rl
      obtain ⟨v3, r3, rfl, p3, rl⟩ := rl
      unfold RpL at rl
      subst rl
      unfold Rp at p1 p2 p3
      rw [p1, p2, p3]
    subst hv
    refine k (.ref l) G' (fun a => R' a ∨ a = l) H' .rd ⟨n.gg, fun a z => .inl (n.rr a z), ⟨n.gd.sub, fun a z => ?_, fun a z => ?_⟩, n.ev, n.ex, n.fg, fun a z => ?_⟩ ?_ q
    · rcases z with z | rfl
      · exact n.gd.rd a z
      · exact ⟨_, _, _, e⟩
    · rcases z with z | rfl
      · exact n.gd.dis a z
      · exact g
    · rcases z with z | rfl
      · exact n.fr a z
      · exact .inr h0
    · unfold Rp
      exact ⟨l, rfl, .inr rfl⟩
theorem CN.rd {X : Cx} {C : Str → Addr} {W : WX} {e : Expr} {fs : DA} (h : CN X C W e fs) : CE X C W e (dRd fs) := let ⟨t, p, q⟩ := h; ⟨t, p, je_rd q⟩
def dSetIx (s : Nat) (fi fe : DE) : DS := fun k ρ => fe (k.xq ρ) ρ fun d => match ρ[s]? with
  | some (.op ds) => fi (k.xq ρ) ρ fun i => match i with
    | .int z => match ixN ds.length z with
      | some j => k.nx (ρ.set s (.op (ds.set j d)))
      | none => False
    | _ => False
  | some (.fz .rd) => fi (k.xq ρ) ρ fun i => match i, d with
    | .int z, .int _ => 0 ≤ z ∧ z < 3 ∧ k.nx ρ
    | _, _ => False
  | _ => False
theorem RpL.set {Γ : Kx} {G : Hp} {R : Addr → Prop} {ds : List D} {vs : List V} {d : D} {v : V} (r : RpL Γ G R ds vs) (h : Rp Γ G R d v) (j : Nat) : RpL Γ G R (ds.set j d) (vs.set j v) := by
  refine RpL.of_get (by simp [r.len]) fun i d' v' e1 e2 => ?_
  have hl := r.len
  by_cases hj : j = i
  · subst hj
    have hi : j < ds.length := by
      have := (List.getElem?_eq_some_iff.mp e1).1
      rwa [List.length_set] at this
    rw [List.getElem?_set_self hi] at e1
    rw [List.getElem?_set_self (by omega)] at e2
    cases e1
    cases e2
    exact h
  · rw [List.getElem?_set_ne hj] at e1 e2
    obtain ⟨u, e3, q⟩ := r.get e1
    rw [e2] at e3
    cases e3
    exact q
theorem Nx.turn {G0 G : Hp} {R0 R : Addr → Prop} {H0 H : Hp} (n : Nx G0 R0 H0 G R H) {a : Addr} {x y z : Int} (r : R a) : Nx G0 R0 H0 G R (upd H a (.lst [.int x, .int y, .int z])) where
  gg := n.gg
  rr := n.rr
  gd := ⟨fun b o q => by rw [upd_ne (ne_of_none q (n.gd.dis a r))]; exact n.gd.sub b o q, fun b q => by
    by_cases hb : b = a
    · subst hb; exact ⟨x, y, z, upd_same⟩
    · obtain ⟨c, k, m, e⟩ := n.gd.rd b q
      exact ⟨c, k, m, by rw [upd_ne hb]; exact e⟩, n.gd.dis⟩
  ev := fun b o q nb => by
    have ne : b ≠ a := fun e => by
      subst e
      rcases n.fr b r with h | h
      · exact nb h
      · rw [h] at q; cases q
    rw [upd_ne ne]; exact n.ev b o q nb
  ex := fun b o q => by
    by_cases hb : b = a
    · subst hb; exact ⟨_, upd_same⟩
    · rw [upd_ne hb]; exact n.ex b o q
  fg := n.fg
  fr := n.fr
theorem Wd.turn {Γ : Kx} {H0 G : Hp} {R : Addr → Prop} {H : Hp} {σ : St} {ρ : En} (w : Wd Γ H0 G R H σ ρ) {a : Addr} {x y z : Int} (r : R a) : Wd Γ H0 G R (upd H a (.lst [.int x, .int y, .int z])) σ ρ := by
  refine ⟨(Nx.turn (Nx.refl w.gd) r).gd, w.len, fun i s e => ?_, w.dj⟩
  obtain ⟨v, e2, q⟩ := w.sl i s e
  refine ⟨v, e2, ?_⟩
  cases s with
  | un => exact True.intro
  | fz d => exact q
  | op ds =>
    obtain ⟨l, vs, rfl, h, g, nr, h0, rl⟩ := q
    have ne : l ≠ a := fun e => nr (by subst e; exact r)
    exact ⟨l, vs, rfl, by rw [upd_ne ne]; exact h, g, nr, h0, rl⟩
  | io l c fs =>
    obtain ⟨dx, vs, rfl, h, g, nr, h0, rl⟩ := q
    have ne : l ≠ a := fun e => nr (by subst e; exact r)
    exact ⟨dx, vs, rfl, by rw [upd_ne ne]; exact h, g, nr, h0, rl⟩
  | ex l d c fs =>
    obtain ⟨y1, y2⟩ := q
    refine ⟨y1, y2.imp id fun ⟨dd, vs, z1, z2, z3, z4⟩ => ⟨dd, vs, z1, ?_, z3, z4⟩⟩
    rw [upd_ne (fun e => z3 (by subst e; exact r))]
    exact z2
  | ow x as d =>
    obtain ⟨y1, y2, y3⟩ := q
    refine ⟨y1, Ow.mono d x as ⟨fun b o _ h _ g nr => ⟨by rw [upd_ne (fun e => nr (by subst e; exact r))]; exact h, g, nr⟩, fun b o h s => ?_, fun _ h => h, fun _ _ h => h⟩ y2, y3⟩
    rw [upd_ne (fun e => by
      subst e
      obtain ⟨_, _, _, z⟩ := w.gd.rd b r
      rw [h] at z
      cases z
      exact s.elim)]
    exact h
  | se d =>
    obtain ⟨x, y1, y2⟩ := q
    refine ⟨x, y1, Rp.mono (fun b u e => ?_) (fun _ h => h) d x y2⟩
    obtain ⟨e1, e2⟩ := viewO_iff.mp e
    refine viewO_iff.mpr ⟨?_, e2⟩
    rw [upd_ne (fun q => by
      subst q
      rcases e2 with z | z | z
      · rw [w.gd.dis b r] at z; cases z
      · obtain ⟨_, _, _, y⟩ := w.gd.rd b r
        rw [e1] at y
        cases y
        exact z.elim
      · exact z.1 r)]
    exact e1
theorem js_setIx {Γ : Kx} {W : WX} {te ti : TE} {fe fi : DE} {s : Nat} (a : JE Γ W te fe) (b : JQ Γ W ti fi) : JS Γ W (tAsg te (L2.gSub (tVar s) ti rSetL)) (dSetIx s fi fe) := fun G0 R0 H0 G R H σ ρ k D n w e f =>
  a H0 G R H σ ρ _ _ _ w (e.lk n w) f fun v G1 R1 H1 d n1 r1 q1 => by
    have w1 := w.nx n1
    split at q1
    · rename_i ds q
      obtain ⟨v2, e2, l, vs, rfl, h, g, nr, h0, rl⟩ := w1.sl s _ q
      refine ⟨.ref l, e2, b H0 G1 R1 H1 σ ρ _ _ _ w1 (e.lk (n.trans n1) w1) q1 fun vi G2 R2 H2 di n2 r2 q2 => ?_⟩
      obtain ⟨h', g', nr'⟩ := n2.open_ h g nr
      have rl2 := RpL.mono n2.gg n2.rr ds vs rl
      cases di <;> first | exact q2.elim | skip
      rename_i z
      have q2' : match ixN ds.length z with
        | some j => k.nx (List.set ρ s (S.op (ds.set j d)))
        | none => False := q2
      cases hj : ixN ds.length z with
      | none => rw [hj] at q2'; exact q2'.elim
      | some j =>
        rw [hj] at q2'
        refine ⟨l, vs, z, j, rfl, r2.int, h', by rw [← rl2.len]; exact hj, ?_⟩
        exact e.nx G2 R2 _ _ _ (((n.trans n1).trans n2).mut g' nr' h0) ((w1.nx n2).mut q e2 h' g' nr' h0 (rl2.set (Rp.mono n2.gg n2.rr d v r1) j)) q2'
    · rename_i q
      obtain ⟨v2, e2, y, rfl, ry⟩ := w1.sl s _ q
      unfold Rp at ry
      obtain ⟨l, rfl, ra⟩ := ry
      refine ⟨.ref l, e2, b H0 G1 R1 H1 σ ρ _ _ _ w1 (e.lk (n.trans n1) w1) q1 fun vi G2 R2 H2 di n2 r2 q2 => ?_⟩
      split at q2
      · rename_i z y
        obtain ⟨z0, z3, q3⟩ := q2
        have rv : v = .int y := by
          have := r1
          unfold Rp at this
          exact this
        subst rv
        have ra2 := n2.rr l ra
        obtain ⟨x0, x1, x2, hl⟩ := n2.gd.rd l ra2
        have hj : ixN 3 z = some z.toNat := by
          unfold ixN
          rw [if_pos z0, if_pos (by omega)]
        refine ⟨l, _, z, z.toNat, rfl, r2.int, hl, hj, ?_⟩
        have hs : ∃ a b c : Int, [V.int x0, V.int x1, V.int x2].set z.toNat (.int y) = [.int a, .int b, .int c] := by
          have : z = 0 ∨ z = 1 ∨ z = 2 := by omega
          rcases this with rfl | rfl | rfl
          · exact ⟨y, x1, x2, rfl⟩
          · exact ⟨x0, y, x2, rfl⟩
          · exact ⟨x0, x1, y, rfl⟩
        obtain ⟨a', b', c', hs⟩ := hs
        rw [hs]
        exact e.nx G2 R2 _ _ _ (((n.trans n1).trans n2).turn ra2) ((w1.nx n2).turn ra2) q3
      · exact q2.elim
    · exact q1.elim
theorem cs_setix {X : Cx} {C : Str → Addr} {W : WX} {o i e : Expr} {fi fe : DE} {pos p2 : Pos} (s : Nat) (ho : PE X o (tVar s)) (h : CE X C W e fe) (h' : CQ X C W i fi)
    (ha : ∀ v, assign (.Subscript o i p2) X.env v = (do
      let ov ← holding [v] (eval o X.env)
      let iv ← holding [v, ov] (eval i X.env)
      standAt p2
      holding [v, ov, iv] (setItem ov iv v)
      release [v, ov, iv] []) := by intro _; rfl)
    (hs : swapsWithSole [.Subscript o i p2] e pos.line X.env = pure false := by rfl) (hw : swappedStores [.Subscript o i p2] e X.env = pure none := by rfl)
    (h1 : (assignEach [.Subscript o i p2] X.env).map (·.2) = [assign (.Subscript o i p2) X.env] := by rfl) : CS X C W (.Assign [.Subscript o i p2] e pos) (dSetIx s fi fe) :=
  let ⟨_, p, q⟩ := h; let ⟨_, p', q'⟩ := h'; ⟨_, ps_asg p (pg_sub ho p' set_list ha) hs hw h1, js_setIx q q'⟩
end Dl
namespace Dl
open PySem PySem.Spec PyProof.Rows PySem.W PySem.SeqAt PySem.Calls
section
variable {prog : Program} {w : World} {A : Around} {E : Value → Shared → Prop} {s : Shared}
theorem oneLt_tuple {xs ys : List PyData} {a b : Value} {as bs : List Addr} {Q : Bool → Shared → Prop} (ra : Reads s.heap a (.tuple xs) as) (rb : Reads s.heap b (.tuple ys) bs) (hal : alikeAll xs ys = true)
    (hu : A.units + min (PyData.tuple xs).depth (PyData.tuple ys).depth < cLine) (hq : Q (dataLt (.tuple xs) (.tuple ys)) s) : wpAny (model prog w) A (oneLt' true a b) Q E s := by
  cases ra with
  | @tuple l o vs n _ as₁ h1 h2 h3 h4 =>
    cases rb with
    | @tuple l' o' vs' n' _ bs₁ k1 k2 k3 k4 =>
      have n1 : vs.size = xs.length := by simpa using ReadsAll.length _ _ _ h4
      have n2 : vs'.size = ys.length := by simpa using ReadsAll.length _ _ _ k4
      rw [dataLt_tuple, ← firstLt_toks xs ys hal, ← n1, ← n2] at hq
      rw [oneLt'_eq]
      simp only [if_true]
      refine wpAny_bind (wpAny_cRoomFor (room_here hu) ?_)
      obtain ⟨cls, dd, data, sl⟩ := o
      obtain ⟨cls2, dd2, data2, sl2⟩ := o'
      simp only at h2 h3 k2 k3
      subst h2 h3 k2 k3
      refine wpAny_bind (wpAny_callSpecialIfBound?_slot (T := "tuple") ⟨_, h1, rfl⟩ F.slot_tuple_lt (call_meets F.slot_tuple_lt ⟨_, h1, rfl⟩ F.entry_tuple_lt (F.args_tuple_lt_2 _ _) (SeqAt.tuple_ltAt l l' vs vs' n n' dd dd2 sl sl2 (pairEq xs ys) (fun j => dataLt (xs.getD j .none) (ys.getD j .none))) ⟨h1, k1, fun j j1 j2 => ?_, fun j j1 j2 hj => ?_, ?_⟩))
      · have := eqAt_alikeAll xs ys A.in1 s vs.toList vs'.toList _ _ h4 k4 hal (room_in hu) j (by simpa using j1) (by simpa using j2)
        simpa using this
      · have := rcLt_alikeAll xs ys A.in1 s vs.toList vs'.toList _ _ h4 k4 hal (room_in hu) j (by simpa using j1) (by simpa using j2) hj
        simpa using this
      · exact wpAny_truthy_bool hq
def neT : PyData → Bool
  | .tuple (_ :: _) => true
  | _ => false
end
section
variable {M : Model} {A : Around} {E : Value → Shared → Prop} {s : Shared}
theorem mix_firsts : ∀ {vs : List Value} {ds : List PyData}, EachIs (fun v d => ∃ as, Reads s.heap v d as) vs ds → (∀ d ∈ ds, ∃ xs, d = .tuple xs) → ∃ os : List (Option Value), os.map Option.isSome = ds.map neT ∧ ∀ {Q : List (Option Value) → Shared → Prop}, Q os s → wpAny M A (vs.mapM firstOfTuple') Q E s
  | _, _, .nil, _ => ⟨[], rfl, fun h => by rw [List.mapM_nil]; exact wpAny_pure h⟩
  | _, _, .cons (b := d) ⟨as, r⟩ t, ht => by
    obtain ⟨os, e, k⟩ := mix_firsts t fun d hd => ht d (List.mem_cons_of_mem _ hd)
    obtain ⟨xs, rfl⟩ := ht d (List.mem_cons_self ..)
    cases r with
    | @tuple l o vs n _ as₁ h1 h2 h3 h4 =>
      refine ⟨vs[0]? :: os, ?_, fun {Q} h => ?_⟩
      · rw [List.map_cons, List.map_cons, e]
        congr 1
        have n1 : vs.size = xs.length := by simpa using ReadsAll.length _ _ _ h4
        cases xs with
        | nil =>
          have : vs[0]? = none := by rw [Array.getElem?_eq_none_iff]; rw [n1]; exact Nat.le_refl _
          rw [this]
          rfl
        | cons x xs =>
          have h0 : 0 < vs.size := by rw [n1]; exact Nat.succ_pos _
          rw [Array.getElem?_eq_getElem h0]
          rfl
      · rw [List.mapM_cons]
        refine wpAny_bind ?_
        rw [kas_first_eq]
        refine wpAny_bind (Looks.here (show Looks M s.heap (typeOf (.ref l)) o.cls from (Looks.ld h1).andThen .now) ?_)
        rw [h2, if_neg (by first | decide | simp)]
        refine wpAny_bind (listItems_at h1 h3 (wpAny_pure ?_))
        exact wpAny_bind (k (Q := fun bs s' => wpAny M A (pure (vs[0]? :: bs)) Q E s') (wpAny_pure h))
theorem mix_kind {vs : List Value} {d0 : PyData} {ds : List PyData} {Q : SortKind → Shared → Prop} (e : EachIs (fun v d => ∃ as, Reads s.heap v d as) vs (d0 :: ds)) (ht : ∀ d ∈ d0 :: ds, ∃ xs, d = .tuple xs) (hm : ∃ d ∈ d0 :: ds, neT d = false)
    (h : Q (if neT d0 = true then general' else oneType') s) : wpAny M A (keyKind' vs.toArray) Q E s := by
  obtain ⟨os, eo, k⟩ := mix_firsts (M := M) (A := A) (E := E) e ht
  obtain ⟨o0, or, rfl⟩ : ∃ o0 or, os = o0 :: or := by
    cases os with
    | nil => simp at eo
    | cons a b => exact ⟨a, b, rfl⟩
  rw [List.map_cons, List.map_cons] at eo
  have e0 : o0.isSome = neT d0 := (List.cons.inj eo).1
  rw [kat_kind_eq, List.mapM_toArray, map_eq_pure_bind]
  refine wpAny_bind (wpAny_bind (k (wpAny_pure ?_)))
  have hall : ¬ ((o0 :: or).toArray.all fun x => x.isSome) = true := by
    intro q
    simp only [List.all_toArray, List.all_eq_true] at q
    obtain ⟨d, hd, hn⟩ := hm
    have : neT d ∈ (d0 :: ds).map neT := List.mem_map.mpr ⟨d, hd, rfl⟩
    rw [List.map_cons, ← eo, ← List.map_cons (f := Option.isSome)] at this
    obtain ⟨o, ho, he⟩ := List.mem_map.mp this
    rw [q o ho, hn] at he
    cases he
  rw [if_neg hall]
  have h0 : ((o0 :: or).toArray[0]?.bind id).isSome = neT d0 := by rw [← e0]; simp
  rw [h0]
  cases hd : neT d0 with
  | true =>
    rw [hd, if_pos rfl] at h
    simp only [if_true]
    exact wpAny_pure h
  | false =>
    rw [hd, if_neg Bool.false_ne_true] at h
    simp only [Bool.false_eq_true, if_false]
    rw [oneTypeOnly'_eq, List.mapM_toArray, map_eq_pure_bind]
    have hT : ∀ v ∈ vs, Looks M s.heap (typeOf v) (Value.type "tuple") := fun v hv => by
      obtain ⟨d, hd, as, r⟩ := e.left v hv
      obtain ⟨xs, rfl⟩ := ht d hd
      exact looks_reads r
    refine wpAny_bind (wpAny_bind (wpAny_bind (kas_mapM (r := Value.type "tuple") _ (fun v hv Q' hq => (hT v hv).here hq) (wpAny_pure ?_))))
    have hall2 : ((List.map (fun _ => Value.type "tuple") vs).toArray.all fun x => x == Value.type "tuple") = true := by
      simp only [List.all_toArray, List.all_map, List.all_eq_true]
      intro _ _
      exact beq_self_eq_true _
    have hv : ∃ v vr, vs = v :: vr := by
      cases e with
      | cons _ _ => exact ⟨_, _, rfl⟩
    obtain ⟨v, vr, rfl⟩ := hv
    have h0' : (List.map (fun _ => Value.type "tuple") (v :: vr)).toArray[0]? = some (Value.type "tuple") := by simp
    rw [h0']
    simp only [hall2, if_true]
    exact wpAny_pure (wpAny_pure h)
end
def Sortable2 (ds : List PyData) : Prop := Sortable ds ∨ ∀ d, d ∈ ds → ∃ xs, d = .tuple xs
theorem SortsAt.any {prog : Program} {w : World} {A : Around} {s : Shared} {vs : List Value} {ds : List PyData} (e : EachIs (fun v d => ∃ as, Reads s.heap v d as) vs ds) (hal : AllAlike ds) (hk : Sortable2 ds) (hu : ∀ d, d ∈ ds → A.units + d.depth < cLine) : SortsAt prog w A s (dataKind s.heap ds) vs := by
  rcases hk with hk | ht
  · exact SortsAt.data e hal hk hu
  by_cases hm : ∃ d ∈ ds, neT d = false
  · have room : ∀ {d d' : PyData}, d ∈ ds → A.units + min d.depth d'.depth < cLine := fun {d d'} hd => Nat.lt_of_le_of_lt (Nat.add_le_add_left (Nat.min_le_left _ _) _) (hu d hd)
    refine ⟨fun v hv => ?_, ?_⟩
    · obtain ⟨d, hd, as, r⟩ := e.left v hv
      exact ⟨_, dataKind_some hal hd r⟩
    · obtain ⟨d0, dr, rfl⟩ : ∃ d0 dr, ds = d0 :: dr := by
        obtain ⟨d, hd, _⟩ := hm
        cases ds with
        | nil => exact absurd hd List.not_mem_nil
        | cons a b => exact ⟨a, b, rfl⟩
      refine ⟨if neT d0 = true then general' else oneType', ?_, fun h2 E Q hq => mix_kind e ht hm hq⟩
      intro E x y a b Q ha hb hq
      obtain ⟨d, as, hd, ra, rfl⟩ := dataKind_inv ha
      obtain ⟨d', as', hd', rb, rfl⟩ := dataKind_inv hb
      have hdd := hal d hd d' hd'
      have hroom := room (d' := d') hd
      split
      · show wpAny _ _ (oneLt' false x y) _ _ _
        refine oneLt_alike (fun q => nomatch q) ra rb hdd ?_ hroom hq
        obtain ⟨xs, rfl⟩ := ht d hd
        exact fun q => nomatch q
      · rw [keyLt'_oneType]
        obtain ⟨xs, rfl⟩ := ht d hd
        obtain ⟨ys, rfl⟩ := ht d' hd'
        exact oneLt_tuple ra rb (by simpa [alike] using hdd) hroom hq
  · refine SortsAt.data e hal (.inl fun d hd => ?_) hu
    obtain ⟨xs, rfl⟩ := ht d hd
    cases xs with
    | nil => exact absurd ⟨_, hd, rfl⟩ hm
    | cons x xs => exact ⟨x, xs, rfl⟩
end Dl
namespace Dl
open PySem PySem.Spec PyProof.Rows L2
abbrev gMul := gI2 CMul fun i j => .int (i * j)
abbrev gFdiv := gI2 CDiv fun i j => .int (i / j)
abbrev gMod := gI2 (fun _ j => 0 < j) fun i j => .int (i % j)
abbrev gPow := gI2 CPow fun i j => .int (i ^ j.toNat)
def gRevN (x : D) (Q : List D → Prop) : Prop := match x with
  | .lst ds => Q ds.reverse
  | _ => False
def pyD (d : D) : PyData := (py d).getD .none
def dle : D → D → Bool := PySem.W.dataLe false pyD
structure SortOk (ds : List D) : Prop where
  ok : ∀ d ∈ ds, eqOk d = true
  al : PySem.W.AllAlike (ds.map pyD)
  so : Sortable2 (ds.map pyD)
end Dl
namespace Dl
open PySem L2
def Eo (n : Nat) (d : D) : Prop := ∃ p, py d = some p ∧ p.canLay0 = true ∧ p.depth ≤ n
theorem Eo.ok {n : Nat} {d : D} (h : Eo n d) (hn : n ≤ 64 := by omega) : eqOk d = true := by
  obtain ⟨p, e, c, dp⟩ := h
  unfold eqOk
  rw [e]
  show SeqAt.shaped p = true
  unfold SeqAt.shaped
  rw [c, decide_eq_true (Nat.le_trans dp hn)]
  rfl
theorem Eo.mono {n m : Nat} {d : D} (h : Eo n d) (hn : n ≤ m) : Eo m d := let ⟨p, e, c, dp⟩ := h; ⟨p, e, c, Nat.le_trans dp hn⟩
theorem eo_int (n : Nat) (i : Int) : Eo n (.int i) := ⟨.int i, by unfold py; rfl, by simp [PyData.canLay0], by simp [PyData.depth]⟩
theorem eo_str (n : Nat) (s : Str) (h : (PyData.str s).canLay0 = true) : Eo n (.str s) := ⟨.str s, by unfold py; rfl, h, by simp [PyData.depth]⟩
theorem eo_all {n : Nat} : ∀ {ds : List D}, (∀ d ∈ ds, Eo n d) → ∃ ps, pyL ds = some ps ∧ PyData.canLayAll0 ps = true ∧ PyData.depthAll ps ≤ n
  | [], _ => ⟨[], by unfold pyL; rfl, by simp [PyData.canLayAll0], by simp [PyData.depthAll]⟩
  | d :: ds, h => by
    obtain ⟨p, e, c, dp⟩ := h d (List.mem_cons_self ..)
    obtain ⟨ps, e2, c2, dp2⟩ := eo_all fun x hx => h x (List.mem_cons_of_mem _ hx)
    refine ⟨p :: ps, by unfold pyL; rw [e, e2], by simp [PyData.canLayAll0, c, c2], ?_⟩
    simp only [PyData.depthAll]
    omega
theorem eo_tup {n : Nat} {ds : List D} (h : ∀ d ∈ ds, Eo n d) : Eo (n + 1) (.tup ds) := by
  obtain ⟨ps, e, c, dp⟩ := eo_all h
  refine ⟨.tuple ps, by unfold py; rw [e]; rfl, by simp [PyData.canLay0, c], ?_⟩
  simp only [PyData.depth]
  omega
theorem eo_lst {n : Nat} {ds : List D} (h : ∀ d ∈ ds, Eo n d) : Eo (n + 1) (.lst ds) := by
  obtain ⟨ps, e, c, dp⟩ := eo_all h
  refine ⟨.list ps, by unfold py; rw [e]; rfl, by simp [PyData.canLay0, c], ?_⟩
  simp only [PyData.depth]
  omega
def deqL : List D → List D → Bool
  | [], [] => true
  | x :: xs, y :: ys => deq x y && deqL xs ys
  | _, _ => false
theorem deq_py {n : Nat} {d e : D} {p q : PyData} (h : py d = some p) (h' : py e = some q) : deq d e = PyData.eqv p q := by
  unfold deq; rw [h, h']
theorem deqL_py : ∀ {ds es : List D} {ps qs : List PyData}, pyL ds = some ps → pyL es = some qs → deqL ds es = PyData.eqvAll ps qs
  | [], [], ps, qs, h, h' => by unfold pyL at h h'; cases h; cases h'; simp [deqL, PyData.eqvAll]
  | [], e :: es, ps, qs, h, h' => by
    unfold pyL at h h'
    cases h
    cases q1 : py e <;> cases q2 : pyL es <;> rw [q1, q2] at h' <;> cases h'
    simp [deqL, PyData.eqvAll]
  | d :: ds, [], ps, qs, h, h' => by
    unfold pyL at h h'
    cases h'
    cases q1 : py d <;> cases q2 : pyL ds <;> rw [q1, q2] at h <;> cases h
    simp [deqL, PyData.eqvAll]
  | d :: ds, e :: es, ps, qs, h, h' => by
    unfold pyL at h h'
    cases q1 : py d <;> cases q2 : pyL ds <;> rw [q1, q2] at h <;> cases h
    cases q3 : py e <;> cases q4 : pyL es <;> rw [q3, q4] at h' <;> cases h'
    simp only [deqL, PyData.eqvAll]
    rw [deq_py (n := 0) q1 q3, deqL_py q2 q4]
theorem deq_tup {n m : Nat} {ds es : List D} (h : ∀ d ∈ ds, Eo n d) (h' : ∀ d ∈ es, Eo m d) : deq (.tup ds) (.tup es) = deqL ds es := by
  obtain ⟨ps, e, _⟩ := eo_all h
  obtain ⟨qs, e', _⟩ := eo_all h'
  rw [deq_py (n := 0) (d := .tup ds) (e := .tup es) (p := .tuple ps) (q := .tuple qs) (by unfold py; rw [e]; rfl) (by unfold py; rw [e']; rfl), deqL_py e e']
  simp [PyData.eqv]
theorem deq_lst {n m : Nat} {ds es : List D} (h : ∀ d ∈ ds, Eo n d) (h' : ∀ d ∈ es, Eo m d) : deq (.lst ds) (.lst es) = deqL ds es := by
  obtain ⟨ps, e, _⟩ := eo_all h
  obtain ⟨qs, e', _⟩ := eo_all h'
  rw [deq_py (n := 0) (d := .lst ds) (e := .lst es) (p := .list ps) (q := .list qs) (by unfold py; rw [e]; rfl) (by unfold py; rw [e']; rfl), deqL_py e e']
  simp [PyData.eqv]
theorem deq_int (i j : Int) : deq (.int i) (.int j) = decide (i = j) := by
  rw [deq_py (n := 0) (p := .int i) (q := .int j) (by unfold py; rfl) (by unfold py; rfl)]
  simp only [PyData.eqv]
  by_cases h : i = j <;> simp [h]
theorem deq_str (i j : Str) : deq (.str i) (.str j) = decide (i = j) := by
  rw [deq_py (n := 0) (p := .str i) (q := .str j) (by unfold py; rfl) (by unfold py; rfl)]
  simp only [PyData.eqv]
  by_cases h : i = j <;> simp [h]
structure Enc {α : Type} [DecidableEq α] (f : α → D) (n : Nat) : Prop where
  eo : ∀ a, Eo n (f a)
  eq : ∀ a b, deq (f a) (f b) = decide (a = b)
section
variable {α β : Type} [DecidableEq α] [DecidableEq β] {f : α → D} {g : β → D} {n m : Nat}
theorem enc_int : Enc D.int 0 := ⟨fun i => eo_int 0 i, deq_int⟩
theorem Enc.mono (h : Enc f n) (hn : n ≤ m) : Enc f m := ⟨fun a => (h.eo a).mono hn, h.eq⟩
theorem Enc.all (h : Enc f n) (l : List α) : ∀ d ∈ l.map f, Eo n d := fun d hd => by
  obtain ⟨a, _, rfl⟩ := List.mem_map.mp hd
  exact h.eo a
theorem Enc.deqL (h : Enc f n) : ∀ l k : List α, deqL (l.map f) (k.map f) = decide (l = k)
  | [], [] => rfl
  | [], _ :: _ => rfl
  | _ :: _, [] => rfl
  | a :: l, b :: k => by
    show (deq (f a) (f b) && Dl.deqL (l.map f) (k.map f)) = _
    rw [h.eq, Enc.deqL h l k]
    by_cases h1 : a = b <;> by_cases h2 : l = k <;> simp [h1, h2]
theorem Enc.tup (h : Enc f n) : Enc (fun l : List α => D.tup (l.map f)) (n + 1) := ⟨fun l => eo_tup (h.all l), fun l k => by rw [deq_tup (h.all l) (h.all k), h.deqL]⟩
theorem Enc.lst (h : Enc f n) : Enc (fun l : List α => D.lst (l.map f)) (n + 1) := ⟨fun l => eo_lst (h.all l), fun l k => by rw [deq_lst (h.all l) (h.all k), h.deqL]⟩
theorem Enc.any (h : Enc f n) (l : List α) (a : α) : ((l.map f).any fun z => deq z (f a)) = decide (a ∈ l) := by
  induction l with
  | nil => rfl
  | cons b l ih =>
    rw [List.map_cons, List.any_cons, ih, h.eq]
    by_cases h1 : b = a
    · subst h1; simp
    · have h2 : ¬ a = b := fun e => h1 e.symm
      simp [h1, h2]
end
structure Ord {α : Type} (f : α → D) (le : α → α → Bool) (n : Nat) : Prop where
  eo : ∀ a, Eo n (f a)
  al : ∀ a b, PySem.W.alike (pyD (f a)) (pyD (f b)) = true
  le : ∀ a b, dle (f a) (f b) = le a b
section
variable {α : Type} {f : α → D} {le : α → α → Bool} {n : Nat}
end
abbrev tI (l : List Int) : D := .tup (l.map .int)
abbrev lI (l : List Int) : D := .lst (l.map .int)
end Dl
namespace Dl
open PySem L2
theorem for_ind {α : Type} (f : α → D) {fb : DS} {i : Nat} {k : DK} {ρ : En} (l : List α) (Inv : List α → List α → En → Prop) (h0 : Inv [] l ρ)
    (step : ∀ pre a post ρ (N : En → Prop), l = pre ++ a :: post → Inv pre (a :: post) ρ → (∀ ρ', Inv (pre ++ [a]) post ρ' → N ρ') → fb { k with nx := N, ct := N, bk := k.nx } (ρ.set i (.fz (f a))))
    (hend : ∀ ρ, Inv l [] ρ → k.nx ρ) : forLoop fb i k (l.map f) ρ := by
  have go : ∀ (post pre : List α) (ρ : En), l = pre ++ post → Inv pre post ρ → forLoop fb i k (post.map f) ρ := by
    intro post
    induction post with
    | nil =>
      intro pre ρ e h
      rw [List.append_nil] at e
      subst e
      exact hend ρ h
    | cons a post ih =>
      intro pre ρ e h
      rw [List.map_cons]
      unfold forLoop
      exact step pre a post ρ _ e h fun ρ' h' => ih (pre ++ [a]) ρ' (by rw [e]; simp) h'
  exact go l [] ρ rfl h0
theorem for_rng {fb : DS} {i : Nat} {k : DK} {ρ : En} {lo : Int} {n : Nat} (Inv : Nat → En → Prop) (h0 : Inv 0 ρ)
    (step : ∀ j ρ (N : En → Prop), j < n → Inv j ρ → (∀ ρ', Inv (j + 1) ρ' → N ρ') → fb { k with nx := N, ct := N, bk := k.nx } (ρ.set i (.fz (.int (lo + (j : Int))))))
    (hend : ∀ ρ, Inv n ρ → k.nx ρ) : forLoop fb i k (rng lo n) ρ := by
  unfold rng
  refine for_ind (fun (j : Nat) => D.int (lo + (j : Int))) (List.range n) (fun pre post ρ => Inv pre.length ρ ∧ pre.length + post.length = n) ⟨h0, by simp⟩ (fun pre a post ρ N e h hN => ?_) (fun ρ h => ?_)
  · have ha : a = pre.length := by
      have h1 : (List.range n)[pre.length]? = some a := by rw [e]; simp
      have h2 : pre.length < n := by have := h.2; simp at this; omega
      rw [List.getElem?_range h2] at h1
      exact (Option.some.inj h1).symm
    subst ha
    have h2 : pre.length < n := by have := h.2; simp at this; omega
    exact step pre.length ρ N h2 h.1 fun ρ' h' => hN ρ' ⟨by simpa using h', by have := h.2; simp at this ⊢; omega⟩
  · have := h.1
    rw [List.length_range] at this
    exact hend ρ this
def Is (fe : DE) (ρ : En) (d : D) : Prop := ∀ xq Q, Q d → fe xq ρ Q
def IsT (ft : DT) (ρ : En) (b : Bool) : Prop := ∀ xq (Q : Bool → Prop), Q b → ft xq ρ Q
theorem isT_yes {ρ : En} : IsT dYes ρ true := fun _ _ q => q
theorem lc_ind {α : Type} (f : α → D) {ft : DT} {fe : DE} {i : Nat} {ρ : En} {Q : List D → Prop} (l : List α) (t : α → Bool) (g : α → D) (ht : ∀ a ∈ l, IsT ft (ρ.set i (.fz (f a))) (t a)) (he : ∀ a ∈ l, t a = true → Is fe (ρ.set i (.fz (f a))) (g a))
    (h : Q ((l.filter t).map g)) : lcLoop ft fe i ρ Q (l.map f) [] := by
  have go : ∀ (l : List α) (acc : List D), (∀ a ∈ l, IsT ft (ρ.set i (.fz (f a))) (t a)) → (∀ a ∈ l, t a = true → Is fe (ρ.set i (.fz (f a))) (g a)) → Q (acc ++ (l.filter t).map g) → lcLoop ft fe i ρ Q (l.map f) acc := by
    intro l
    induction l with
    | nil => intro acc _ _ h; simpa [lcLoop] using h
    | cons a l ih =>
      intro acc ht he h
      rw [List.map_cons]
      unfold lcLoop
      refine ht a (List.mem_cons_self ..) _ _ ?_
      cases q : t a with
      | true =>
        rw [if_pos rfl]
        refine he a (List.mem_cons_self ..) q _ _ (ih _ (fun b hb => ht b (List.mem_cons_of_mem _ hb)) (fun b hb => he b (List.mem_cons_of_mem _ hb)) ?_)
        rw [List.filter_cons_of_pos q, List.map_cons] at h
        simpa using h
      | false =>
        rw [if_neg Bool.false_ne_true]
        refine ih _ (fun b hb => ht b (List.mem_cons_of_mem _ hb)) (fun b hb => he b (List.mem_cons_of_mem _ hb)) ?_
        rw [List.filter_cons_of_neg (by simp [q])] at h
        exact h
  exact go l [] ht he (by simpa using h)
theorem lc_map {α : Type} (f : α → D) {fe : DE} {i : Nat} {ρ : En} {Q : List D → Prop} (l : List α) (g : α → D) (he : ∀ a ∈ l, Is fe (ρ.set i (.fz (f a))) (g a)) (h : Q (l.map g)) : lcLoop dYes fe i ρ Q (l.map f) [] :=
  lc_ind f l (fun _ => true) g (fun _ _ => isT_yes) (fun a ha _ => he a ha) (by rw [List.filter_eq_self.mpr fun _ _ => rfl]; exact h)
theorem lc_some {fe : DE} {i : Nat} {ρ : En} {Q : List D → Prop} (ds : List D) (P : D → Prop) (he : ∀ d ∈ ds, ∀ Q', (∀ y, P y → Q' y) → fe (fun _ _ => False) (ρ.set i (.fz d)) Q') (h : ∀ ys : List D, ys.length = ds.length → (∀ y ∈ ys, P y) → Q ys) : lcLoop dYes fe i ρ Q ds [] := by
  have go : ∀ (ds acc : List D), (∀ d ∈ ds, ∀ Q', (∀ y, P y → Q' y) → fe (fun _ _ => False) (ρ.set i (.fz d)) Q') → (∀ ys : List D, ys.length = ds.length → (∀ y ∈ ys, P y) → Q (acc ++ ys)) → lcLoop dYes fe i ρ Q ds acc := by
    intro ds
    induction ds with
    | nil => intro acc _ h; simpa [lcLoop] using h [] rfl (by simp)
    | cons d ds ih =>
      intro acc he h
      unfold lcLoop
      refine isT_yes _ _ ?_
      rw [if_pos rfl]
      refine he d (List.mem_cons_self ..) _ fun y hy => ih _ (fun b hb => he b (List.mem_cons_of_mem _ hb)) fun ys hl hp => ?_
      have := h (y :: ys) (by simp [hl]) fun z hz => by
        rcases List.mem_cons.mp hz with rfl | hz
        · exact hy
        · exact hp z hz
      simpa using this
  exact go ds [] he (by simpa using h)
theorem atI_nth {α : Type} {l : List α} {i : Nat} (h : i < l.length) : atI l (i : Int) = some l[i] := atI_nat (List.getElem?_eq_getElem h)
theorem atI_map' {α β : Type} (f : α → β) (l : List α) (i : Int) : atI (l.map f) i = (atI l i).map f := by
  unfold atI
  rw [List.length_map]
  cases ixN l.length i with
  | none => rfl
  | some j => show (l.map f)[j]? = (l[j]?).map f; rw [List.getElem?_map]
theorem atI_in {α : Type} {l : List α} {i : Int} (h0 : 0 ≤ i) (h1 : i < l.length) : ∃ a, atI l i = some a ∧ a ∈ l := by
  have hl : i.toNat < l.length := by omega
  refine ⟨l[i.toNat], ?_, List.getElem_mem hl⟩
  have := atI_nth hl
  rwa [show ((i.toNat : Nat) : Int) = i by omega] at this
def S_next : DF := fun ds Q _ => ∃ size : Int, ds = [.rd, .int size] ∧ 0 < size ∧ size < 1073741824 ∧ ∀ n : Int, 0 ≤ n → n < size → Q (.int n)
def S_reader : DF := fun ds Q _ => ∃ c : Int, ds = [.int c] ∧ Q .rd
def S_cell : DF := fun ds Q _ => ∃ (ns : List Int) (k : Int), ds = [.scr ns, .int k] ∧ 0 ≤ k ∧ ∀ n : Int, Q (.int n)
theorem S_next.len {ds : List D} {Q : D → Prop} {Xq : XQ} (h : S_next ds Q Xq) : ds.length = 2 := by obtain ⟨_, rfl, _⟩ := h; rfl
theorem S_reader.len {ds : List D} {Q : D → Prop} {Xq : XQ} (h : S_reader ds Q Xq) : ds.length = 1 := by obtain ⟨_, rfl, _⟩ := h; rfl
theorem S_cell.len {ds : List D} {Q : D → Prop} {Xq : XQ} (h : S_cell ds Q Xq) : ds.length = 2 := by obtain ⟨_, _, rfl, _⟩ := h; rfl
end Dl
namespace Dl
open PySem L2
theorem gIx_rd0 (Q : D → Prop) : gIx .rd (.int 0) Q = ∀ n : Int, Q (.int n) := propext ⟨fun h => h.2.2, fun h => ⟨by decide, by decide, h⟩⟩
theorem gIx_rd1 (Q : D → Prop) : gIx .rd (.int 1) Q = ∀ n : Int, Q (.int n) := propext ⟨fun h => h.2.2, fun h => ⟨by decide, by decide, h⟩⟩
theorem gIx_rd2 (Q : D → Prop) : gIx .rd (.int 2) Q = ∀ n : Int, Q (.int n) := propext ⟨fun h => h.2.2, fun h => ⟨by decide, by decide, h⟩⟩
theorem gIx_lst {ds : List D} {i : Int} {d : D} (h : atI ds i = some d) (Q : D → Prop) : gIx (.lst ds) (.int i) Q = Q d := by show (match atI ds i with | some d => Q d | none => False) = Q d; rw [h]
theorem gIx_tup {ds : List D} {i : Int} {d : D} (h : atI ds i = some d) (Q : D → Prop) : gIx (.tup ds) (.int i) Q = Q d := by show (match atI ds i with | some d => Q d | none => False) = Q d; rw [h]
theorem gIx_scr {ns : List Int} {i : Int} {n : Int} (h : atI ns i = some n) (Q : D → Prop) : gIx (.scr ns) (.int i) Q = Q (.int n) := by show (match atI ns i with | some n => Q (.int n) | none => False) = Q (.int n); rw [h]
theorem gEq_int (i j : Int) (Q : D → Prop) : gEq (.int i) (.int j) Q = Q (.bl (decide (i = j))) := propext ⟨fun h => by have := h.2.2; rwa [deq_int] at this, fun h => ⟨(eo_int 0 i).ok, (eo_int 0 j).ok, by rwa [deq_int]⟩⟩
theorem gNe_int (i j : Int) (Q : D → Prop) : gNe (.int i) (.int j) Q = Q (.bl (!decide (i = j))) := propext ⟨fun h => by have := h.2.2; rwa [deq_int] at this, fun h => ⟨(eo_int 0 i).ok, (eo_int 0 j).ok, by rwa [deq_int]⟩⟩
theorem gIn_tI (neg : Bool) (a : Int) (w : List Int) (Q : D → Prop) : gIn neg (.int a) (tI w) Q = Q (.bl (if neg then !decide (a ∈ w) else decide (a ∈ w))) := propext ⟨fun h => by
  have := h.2.2
  rwa [enc_int.any w a] at this, fun h => ⟨(eo_int 0 a).ok, ((enc_int.tup).eo w).ok, by rwa [enc_int.any w a]⟩⟩
theorem gIn_lI (neg : Bool) (a : Int) (w : List Int) (Q : D → Prop) : gIn neg (.int a) (lI w) Q = Q (.bl (if neg then !decide (a ∈ w) else decide (a ∈ w))) := propext ⟨fun h => by
  have := h.2.2
  rwa [enc_int.any w a] at this, fun h => ⟨(eo_int 0 a).ok, ((enc_int.lst).eo w).ok, by rwa [enc_int.any w a]⟩⟩
end Dl
namespace Dl
open PySem L2
theorem bls_map {α : Type} (g : α → Bool) (l : List α) : bls (l.map fun a => D.bl (g a)) = some (l.map g) := by
  induction l with
  | nil => rfl
  | cons a l ih => rw [List.map_cons]; unfold bls; rw [ih]; rfl
theorem gAll_map {α : Type} (g : α → Bool) (l : List α) (Q : D → Prop) : gAll (.lst (l.map fun a => D.bl (g a))) Q = Q (.bl (l.all g)) := by
  unfold gAll
  dsimp only
  rw [bls_map]
  dsimp only
  rw [List.all_map]
  rfl
theorem gIsi_tup (ds : List D) (Q : D → Prop) : gIsi "tuple" (.tup ds) Q = Q (.bl true) := by
  have : kty (dty (.tup ds)) "tuple" = true := by show kty "tuple" "tuple" = true; decide +kernel
  show Q (.bl (kty (dty (.tup ds)) "tuple")) = _
  rw [this]
theorem gIsi_int (i : Int) (Q : D → Prop) : gIsi "int" (.int i) Q = Q (.bl true) := by
  have : kty (dty (.int i)) "int" = true := by show kty "int" "int" = true; decide +kernel
  show Q (.bl (kty (dty (.int i)) "int")) = _
  rw [this]
theorem gIsi_bool (i : Int) (Q : D → Prop) : gIsi "bool" (.int i) Q = Q (.bl false) := by
  have : kty (dty (.int i)) "bool" = false := by show kty "int" "bool" = false; decide +kernel
  show Q (.bl (kty (dty (.int i)) "bool")) = _
  rw [this]
theorem gLen_lst (ds : List D) (Q : D → Prop) : gLen (.lst ds) Q = Q (.int ds.length) := rfl
theorem gLen_tup (ds : List D) (Q : D → Prop) : gLen (.tup ds) Q = Q (.int ds.length) := rfl
theorem gLen_scr (ds : List Int) (Q : D → Prop) : gLen (.scr ds) Q = Q (.int ds.length) := rfl
theorem gItems_lst (ds : List D) (Q : List D → Prop) : gItems (.lst ds) Q = Q ds := rfl
theorem gItems_tup (ds : List D) (Q : List D → Prop) : gItems (.tup ds) Q = Q ds := rfl
theorem gItems_scr (ds : List Int) (Q : List D → Prop) : gItems (.scr ds) Q = Q (ds.map D.int) := rfl
theorem gTuple_lst (ds : List D) (Q : D → Prop) : gTuple (.lst ds) Q = Q (.tup ds) := rfl
theorem gTuple_tup (ds : List D) (Q : D → Prop) : gTuple (.tup ds) Q = Q (.tup ds) := rfl
theorem gListN_lst (ds : List D) (Q : List D → Prop) : gListN (.lst ds) Q = Q ds := rfl
theorem gListN_tup (ds : List D) (Q : List D → Prop) : gListN (.tup ds) Q = Q ds := rfl
def S_law : DF := fun ds Q _ => ∃ ns : List Int, ds = [.scr ns] ∧ ns.length ≤ 63 ∧ Q (.bl true)
end Dl
namespace Dl
open PySem PySem.Spec PyProof.Rows L2
def spLaw (K : PySem.W.Frag) (n : Nat) : Sp := fun vs H Q _ => ∃ (a : Addr) (ns : List Int), vs = [.ref a] ∧ ns.length ≤ n ∧ SqL K H a (ns.map V.int) ∧ ∀ v H', v = .bl true → Q v H'
theorem law_fn {P : Program} {w : World} {K : PySem.W.Frag} {mg : Str → Option Value} {base : Heap} {C : Str → Addr} {k n : Nat} {f : Addr} {fd : FuncData} {y : Str} {S : DF} (F : FnOk P w K mg base (L2N.CX P w) k f fd [y] (spD ⟨K, C⟩ S))
    (h : ∀ (ns : List Int) (Qd : D → Prop), ns.length ≤ n → Qd (.bl true) → S [.scr ns] Qd fun _ _ => False) : FnOk P w K mg base CX0 k f fd [y] (spLaw K n) := by
  refine ⟨fun vs H Q E s => ?_, fun A outer s H args us vs Q E hr he hbt hv hs => ?_⟩
  · obtain ⟨a, ns, rfl, _⟩ := s
    rfl
  · obtain ⟨a, ns, rfl, hn, hq, hQ⟩ := hs
    refine codeAny_mono (F.run A outer s H args us [.ref a] Q (fun _ _ _ => False) hr he hbt hv ⟨H, fun _ => False, [.scr ns], fun d => d = .bl true, fun _ _ => False, ⟨fun _ _ q => q, fun _ z => z.elim, fun _ z => z.elim⟩, RpL.cons ?_ RpL.nil, h ns _ hn rfl, ?_, ?_⟩) fun r s' z => ?_
    · unfold Rp
      exact ⟨a, rfl, hq⟩
    · intro v G' R' H' d _ r e
      subst e
      unfold Rp at r
      exact hQ v H' r
    · exact fun _ _ _ _ _ _ _ _ z => z.elim
    · unfold CR at z ⊢
      split at z
      · exact z
      · exact z.elim
      · obtain ⟨_, _, _, _, _, _, _, _, _, _, _, _, z⟩ := z
        exact z.elim
end Dl
namespace Dl
open PySem PySem.Spec PyProof.Rows L2
section
variable {Γ : Kx} {G : Hp} {R : Addr → Prop}
theorem RpF.lookup {f : Str} : ∀ {fs : List (Str × D)} {vs : List (Str × V)} {d : D}, RpF Γ G R fs vs → fs.lookup f = some d → ∃ v, vs.lookup f = some v ∧ Rp Γ G R d v
  | [], _, _, _, e => by cases e
  | (x, d0) :: fs, vs, d, h, e => by
    unfold RpF at h
    obtain ⟨v, r, rfl, h1, h2⟩ := h
    by_cases q : f = x
    · subst q
      rw [lookup_cons_self] at e
      cases e
      exact ⟨v, lookup_cons_self, h1⟩
    · have hb : (f == x) = false := beq_eq_false_iff_ne.mpr q
      have e' : fs.lookup f = some d := by simpa [List.lookup, hb] using e
      obtain ⟨u, a, b⟩ := RpF.lookup h2 e'
      exact ⟨u, by simpa [List.lookup, hb] using a, b⟩
where lookup_cons_self {α : Type} {f : Str} {a : α} {l : List (Str × α)} : ((f, a) :: l).lookup f = some a := by simp [List.lookup]
theorem RpF.len : ∀ {fs : List (Str × D)} {vs : List (Str × V)}, RpF Γ G R fs vs → fs.length = vs.length
  | [], _, h => by unfold RpF at h; subst h; rfl
  | (x, d0) :: fs, vs, h => by
    unfold RpF at h
    obtain ⟨v, r, rfl, h1, h2⟩ := h
    simp [RpF.len h2]
end
def putD (f : Str) (d : D) : List (Str × D) → List (Str × D)
  | [] => [(f, d)]
  | (g, x) :: r => if g = f then (g, d) :: r else (g, x) :: putD f d r
theorem RpF.put {Γ : Kx} {G : Hp} {R : Addr → Prop} {f : Str} {d : D} {v : V} (h : Rp Γ G R d v) : ∀ {fs : List (Str × D)} {vs : List (Str × V)}, RpF Γ G R fs vs → RpF Γ G R (putD f d fs) (putF f v vs)
  | [], _, k => by
    unfold RpF at k
    subst k
    unfold putD putF RpF
    exact ⟨v, [], rfl, h, by unfold RpF; rfl⟩
  | (x, d0) :: fs, vs, k => by
    unfold RpF at k
    obtain ⟨u, r, rfl, h1, h2⟩ := k
    unfold putD putF
    by_cases q : x = f
    · rw [if_pos q, if_pos q]
      unfold RpF
      exact ⟨v, r, rfl, h, h2⟩
    · rw [if_neg q, if_neg q]
      unfold RpF
      exact ⟨u, _, rfl, h1, RpF.put h h2⟩
def FldOk (K : PySem.W.Frag) (C : Str → Addr) (cs : List Str) (f : Str) : Prop := ∀ c ∈ cs, Cls K (C c) ∧ NoAttr K (C c) f
theorem RpQ.ins {Γ : Kx} {G : Hp} {R : Addr → Prop} {H : Hp} {c : Str} {fs : List (Str × D)} {v : V} (g : Gd G R H) (r : RpQ Γ G R H (.ins c fs) v) : ∃ a dx vs, v = .ref a ∧ H a = some (.ins (Γ.C c) dx vs) ∧ RpF Γ G R fs vs := by
  have r' : Rp Γ G R (.ins c fs) v := r
  unfold Rp at r'
  obtain ⟨a, dx, vs, e, h, f⟩ := r'
  exact ⟨a, dx, vs, e, g.sub _ _ h, f⟩
def dSetF (i : Nat) (cs : List Str) (f : Str) (fe : DE) : DS := fun k ρ => fe (k.xq ρ) ρ fun d => match ρ[i]? with
  | some (.io a c fs) => c ∈ cs ∧ fs.length < 999 ∧ k.nx (ρ.set i (.io a c (putD f d fs)))
  | _ => False
section
variable {Γ : Kx} {W : WX} {te : TE} {fe : DE} {i : Nat} {cs : List Str} {f : Str}
theorem js_setF (k : FldOk Γ.K Γ.C cs f) (a : JE Γ W te fe) : JS Γ W (sFld Γ.K (tVar i) te f) (dSetF i cs f fe) := fun G0 R0 H0 G R H σ ρ kk D n w e fz =>
  a H0 G R H σ ρ _ _ _ w (e.lk n w) fz fun v G1 R1 H1 d n1 r1 q1 => by
    have w1 := w.nx n1
    split at q1
    · rename_i a c fs q
      obtain ⟨hc, hl, q1⟩ := q1
      obtain ⟨v2, e2, dx, vs, rfl, h, g, nr, h0, rf⟩ := w1.sl i _ q
      refine ⟨.ref a, e2, a, _, dx, vs, rfl, h, (k c hc).1, (k c hc).2, by rw [← rf.len]; omega, ?_⟩
      refine e.nx G1 R1 _ _ _ ((n.trans n1).mutO g nr h0) (w1.mutO q rfl rfl e2 (fun u z => by rw [h] at z; cases z; exact ⟨fun t => t, fun _ t => nomatch t⟩) g nr h0 ?_) q1
      exact ⟨dx, _, rfl, upd_same, g, nr, h0, rf.put r1⟩
    · exact q1.elim
end
structure CalM (P : Program) (w : World) (K : PySem.W.Frag) (mg : Str → Option Value) (base : Heap) (C : Str → Addr) (k : Nat) (c m : Str) (S : DF) : Prop where
  ex : ∃ (f : Addr) (fd : FuncData) (ps : List Str), FnOk P w K mg base (L2N.CX P w) k f fd ps (spD ⟨K, C⟩ S) ∧ Meth K (C c) m f ∧ Cls K (C c) ∧ Binds K fd ps []
theorem CalM.imp {P : Program} {w : World} {K : PySem.W.Frag} {mg : Str → Option Value} {base : Heap} {C : Str → Addr} {k : Nat} {c m : Str} {S S' : DF} (h : CalM P w K mg base C k c m S) (i : ∀ ds Q Xq, S' ds Q Xq → S ds Q Xq) : CalM P w K mg base C k c m S' :=
  let ⟨f, fd, ps, F, m, kp, b⟩ := h.ex
  ⟨f, fd, ps, F.imp (spD_imp i), m, kp, b⟩
theorem CalM.mono {P : Program} {w : World} {K : PySem.W.Frag} {mg : Str → Option Value} {base : Heap} {C : Str → Addr} {j k : Nat} {c m : Str} {S : DF} (h : CalM P w K mg base C k c m S) (i : k ≤ j) : CalM P w K mg base C j c m S :=
  let ⟨f, fd, ps, F, m, kp, b⟩ := h.ex
  ⟨f, fd, ps, F.mono i, m, kp, b⟩
def tMethS (C : Addr) (m : Str) (sp : Sp) (E : St → XK) (ta : TE) (t : TA) : TE := fun σ H Q => ta σ H fun x H1 => ∃ a dx fs, x = .ref a ∧ H1 a = some (.ins C dx fs) ∧ fs.lookup m = none ∧
  t σ H1 fun vs H2 => sp (x :: vs) H2 Q (E σ)
section
variable {X : Cx} {CX : CXT} {k : Nat} {f C : Addr} {fd : FuncData} {ps : List Str} {sp : Sp} {E : St → XK} {x m : Str} {p pos apos : Pos} {e o : Expr} {es : List Expr} {ta : TE} {t : TA}
theorem pe_methS {pl : Sem Bool} (he : PE X o ta) (c : Cls X.K C) (hm : Meth X.K C m f) (F : FnOk X.prog X.w X.K X.mg X.base CX k f fd ps sp) (hr : Room k X.A) (hb : Binds X.K fd ps []) (hx : ∀ σ, PassesAt CX X σ (E σ)) (ha : PA X (e :: es) t)
    (hst : starEach (e :: es) X.env = (false, eval e X.env) :: starEach es X.env := by rfl) (hpl : (backTo pos (starEach es X.env)).any (·.1) = false := by rfl)
    (ht : eval (.Call (.Attribute o m apos) (e :: es) [] pos) X.env = (do
      let ov ← eval o X.env
      standAt apos.atName
      let (f, first) ← holding [ov] (getMethod ov m pl)
      callWith pos f first (backTo pos (starEach (e :: es) X.env)) (backToKw pos (keywordEach [] X.env))) := by rfl) :
    PE X (.Call (.Attribute o m apos) (e :: es) [] pos) (tMethS C m sp E ta t) := by
  refine ⟨fun pins s σ H Q I h => ?_⟩
  refine PySem.W.methodCall_KW (pl := pl) (thn (he.run pins s σ H _ I h) fun u s1 ⟨x, H1, I1, rx, a, dx, fs, ex, ea, l, q⟩ => ?_) ht
  subst ex
  obtain rfl : u = Value.ref a := rx
  refine getmeth_ok I1 ea c hm l ?_
  refine PySem.W.callWith_K (first := [.ref a]) (h₀ := X.base) I.ok.mod.kin hm.kp (thn (ha.run pos pins s1 σ H1 _ I1 q) fun us s2 ⟨vs, H2, I2, r, q2⟩ => ⟨I2.kIn, ?_⟩) hst hpl
  exact run_fnS (us := .ref a :: us) (vs := .ref a :: vs) F hr hb (hx σ) I2 (.cons rfl r) q2
theorem pe_methS0 {pl : Sem Bool} (he : PE X o ta) (c : Cls X.K C) (hm : Meth X.K C m f) (F : FnOk X.prog X.w X.K X.mg X.base CX k f fd ps sp) (hr : Room k X.A) (hb : Binds X.K fd ps []) (hx : ∀ σ, PassesAt CX X σ (E σ))
    (ht : eval (.Call (.Attribute o m apos) [] [] pos) X.env = (do
      let ov ← eval o X.env
      standAt apos.atName
      let (f, first) ← holding [ov] (getMethod ov m pl)
      callWith pos f first (backTo pos (starEach [] X.env)) (backToKw pos (keywordEach [] X.env))) := by rfl) :
    PE X (.Call (.Attribute o m apos) [] [] pos) (tMethS C m sp E ta tNil) := by
  refine ⟨fun pins s σ H Q I h => ?_⟩
  refine PySem.W.methodCall_KW (pl := pl) (thn (he.run pins s σ H _ I h) fun u s1 ⟨x, H1, I1, rx, a, dx, fs, ex, ea, l, q⟩ => ?_) ht
  subst ex
  obtain rfl : u = Value.ref a := rx
  refine getmeth_ok I1 ea c hm l ?_
  exact PySem.W.callWith_K0 (first := [.ref a]) I1.kIn hm.kp (run_fnS (us := [.ref a]) (vs := [.ref a]) F hr hb (hx σ) I1 (.cons rfl .nil) q)
end
abbrev DI := List D → (List (Str × D) → Prop) → XQ → Prop
def spI (Γ : Kx) (c : Str) (S : DI) : Sp := fun vs H Q E => ∃ (G : Hp) (R : Addr → Prop) (H1 : Hp) (x dx : Addr) (us : List V) (ds : List D) (Qf : List (Str × D) → Prop) (Xq : XQ),
  vs = .ref x :: us ∧ H = upd (upd H1 dx (.own x)) x (.ins (Γ.C c) dx []) ∧ H1 x = none ∧ H1 dx = none ∧ dx ≠ x ∧ Gd G R H1 ∧ RpL Γ G R ds us ∧ S ds Qf Xq ∧
  (∀ G' R' H' dx' ws fs, Nx G R H1 G' R' H' → H' x = some (.ins (Γ.C c) dx' ws) → G' x = none → ¬ R' x → RpF Γ G' R' fs ws → Qf fs → Q .non H') ∧ ∀ c fs G' R' H' cls dx, Nx G R H1 G' R' H' → Xq c fs → ExRep Γ G' R' H' c fs cls dx → E cls dx H'
structure CalI (P : Program) (w : World) (K : PySem.W.Frag) (mg : Str → Option Value) (base : Heap) (C : Str → Addr) (k : Nat) (c : Str) (S : DI) : Prop where
  ex : ∃ (f : Addr) (fd : FuncData) (ps : List Str), FnOk P w K mg base (L2N.CX P w) k f fd ps (spI ⟨K, C⟩ c S) ∧ Mk K (C c) f ∧ mg c = some (.ref (C c)) ∧ Binds K fd ps []
theorem CalI.mono {P : Program} {w : World} {K : PySem.W.Frag} {mg : Str → Option Value} {base : Heap} {C : Str → Addr} {j k : Nat} {c : Str} {S : DI} (h : CalI P w K mg base C k c S) (i : k ≤ j) : CalI P w K mg base C j c S :=
  let ⟨f, fd, ps, F, m, kp, b⟩ := h.ex
  ⟨f, fd, ps, F.mono i, m, kp, b⟩
def tMakeS (C : Addr) (sp : Sp) (E : St → XK) (t : TA) : TE := fun σ H Q => t σ H fun vs H1 => ∀ x dx, H1 x = none → H1 dx = none → dx ≠ x →
  sp (.ref x :: vs) (upd (upd H1 dx (.own x)) x (.ins C dx [])) (fun v H2 => v = .non ∧ Q (.ref x) H2) (E σ)
section
variable {X : Cx} {CX : CXT} {k : Nat} {f C : Addr} {fd : FuncData} {ps : List Str} {sp : Sp} {E : St → XK} {x m : Str} {p pos apos : Pos} {e o : Expr} {es : List Expr} {ta : TE} {t : TA}
theorem run_makeS {pins : List (Addr × Obj)} {σ : St} {H : Hp} {s : Shared} {Q : VK} {us : List Value} {vs : List V} (M : Mk X.K C f) (F : FnOk X.prog X.w X.K X.mg X.base CX k f fd ps sp) (hr : Room (k + 1) X.A) (hb : Binds X.K fd ps [])
    (hx : PassesAt CX X σ (E σ)) (I : Inv X pins σ H s) (r : Vals vs us)
    (h : ∀ x dx, H x = none → H dx = none → dx ≠ x → sp (.ref x :: vs) (upd (upd H dx (.own x)) x (.ins C dx [])) (fun v H2 => v = .non ∧ Q (.ref x) H2) (E σ)) :
    wpAny (model X.prog X.w) X.A (call (.ref C) us) (EP X pins σ Q) X.xe s := by
  have hq := h (s.heap.objs.size + 1) s.heap.objs.size (I.hok.fresh (Nat.le_succ _)) (I.hok.fresh (Nat.le_refl _)) (Nat.ne_of_lt (Nat.lt_succ_self _))
  have I2 := Inv.made (C := C) I
  have r2 : Vals (V.ref (s.heap.objs.size + 1) :: vs) (Value.ref (s.heap.objs.size + 1) :: us) := .cons rfl r
  have hl : (Value.ref (s.heap.objs.size + 1) :: us ++ ([] : List Value)).length = ps.length := by
    have e := r2.length
    rw [F.len _ _ _ _ hq] at e
    rw [List.append_nil]
    exact e.symm
  have hbb := hb _ (Value.ref (s.heap.objs.size + 1) :: us) I2.kIn hl
  rw [List.append_nil] at hbb
  refine wpAny_call (make_map (f := f) I.kIn M.makes M.init (beq_iff_eq.mp M.fn) (codeAny_mono (F.run _ X.stack _ _ ⟨Value.ref (s.heap.objs.size + 1) :: us, []⟩ (Value.ref (s.heap.objs.size + 1) :: us) _ _ (E σ) (hr.make C us [])
    (I2.env0.make C us []) hbb r2 hq) fun r s' hq' => ?_))
  cases r with
  | error e => exact hx pins _ _ e s' I2 hq'
  | ok fl =>
    cases fl with
    | ret u =>
      obtain ⟨v, H', I3, rv, ev, q3⟩ := I2.after hq'
      subst ev
      exact ⟨rv, ⟨V.ref (s.heap.objs.size + 1), H', I3, rfl, q3⟩⟩
    | next => exact False.elim hq'
    | brk => exact False.elim hq'
    | cont => exact False.elim hq'
theorem pe_makeS (M : Mk X.K C f) (F : FnOk X.prog X.w X.K X.mg X.base CX k f fd ps sp) (hr : Room (k + 1) X.A) (hg : Gl X x) (hm : X.mg x = some (.ref C)) (hb : Binds X.K fd ps []) (hx : ∀ σ, PassesAt CX X σ (E σ))
    (ha : PA X (e :: es) t) (hdb : (x == ("__debug__" : Str)) = false := by decide) (he : starEach (e :: es) X.env = (false, eval e X.env) :: starEach es X.env := by rfl) (hpl : (backTo pos (starEach es X.env)).any (·.1) = false := by rfl) :
    PE X (.Call (.Name x p) (e :: es) [] pos) (tMakeS C sp E t) := by
  refine ⟨fun pins s σ H Q I h => ?_⟩
  refine wpAny_Call_Name_kw (ld_glob I hg hm ?_ hdb)
  refine PySem.W.callWith_K (h₀ := X.base) I.ok.mod.kin M.kp (thn (ha.run pos pins s σ H _ I h) fun us s1 ⟨vs, H1, I1, r, q⟩ => ⟨I1.kIn, ?_⟩) he hpl
  exact run_makeS M F hr hb (hx σ) I1 r q
end
def kI (a : Addr) (c : Str) (Qf : List (Str × D) → Prop) (Xq : XQ) : DK := ⟨fun ρ => ∃ fs, ρ[0]? = some (.io a c fs) ∧ Qf fs, fun _ _ => False, fun _ => False, fun _ => False, fun c fs _ => Xq c fs, fun _ _ _ _ => False⟩
def startI (n : Nat) (a : Addr) (c : Str) (ds : List D) : En := .io a c [] :: startD (n - 1) ds
theorem start_wdI {Γ : Kx} {G : Hp} {R : Addr → Prop} {H1 : Hp} {c : Str} {x dx : Addr} {N : List Str} {ds : List D} {us : List V} (g : Gd G R H1) (hx : H1 x = none) (hd : H1 dx = none) (ne : dx ≠ x) (r : RpL Γ G R ds us) (hl : ds.length + 1 ≤ N.length) :
    Nx G R H1 G R (upd (upd H1 dx (.own x)) x (.ins (Γ.C c) dx [])) ∧ Wd Γ H1 G R (upd (upd H1 dx (.own x)) x (.ins (Γ.C c) dx [])) (L2.start N (.ref x :: us)) (startI N.length x c ds) := by
  have n1 : Nx G R H1 G R (upd H1 dx (.own x)) := Nx.new g _ hd
  have hx1 : (upd H1 dx (.own x)) x = none := by rw [upd_ne (Ne.symm ne)]; exact hx
  have n := n1.trans (Nx.new n1.gd (.ins (Γ.C c) dx []) hx1)
  refine ⟨n, ?_⟩
  obtain ⟨n0, N', rfl⟩ : ∃ n0 N', N = n0 :: N' := by
    cases N with
    | nil => simp at hl
    | cons a b => exact ⟨a, b, rfl⟩
  have e := r.len
  have w0 : Wd Γ H1 G R H1 (L2.start N' us) (startD N'.length ds) := start_wd g r (by simpa using hl)
  have w1 := w0.nx n
  have eσ : L2.start (n0 :: N') (V.ref x :: us) = some (.ref x) :: L2.start N' us := by
    unfold L2.start
    simp
  have eρ : startI (n0 :: N').length x c ds = .io x c [] :: startD N'.length ds := rfl
  rw [eσ, eρ]
  have noown : ∀ (j : Nat) t v a, (startD N'.length ds)[j]? = some t → a ∈ t.fpt v → False := fun j t v a q o => by
    unfold startD at q
    have m := List.mem_of_getElem? q
    rcases List.mem_append.mp m with m | m
    · obtain ⟨d, _, z⟩ := List.mem_map.mp m
      subst z; exact absurd o List.not_mem_nil
    · have := List.eq_of_mem_replicate m
      subst this; exact absurd o List.not_mem_nil
  refine ⟨w1.gd, by simp [w1.len], fun i s q => ?_, fun i j s t v1 v2 l hij q1 q2 e3 e4 o1 o2 => ?_⟩
  · cases i with
    | zero =>
      rw [List.getElem?_cons_zero] at q
      cases q
      exact ⟨_, rfl, dx, [], rfl, upd_same, (g.fresh hx).1, (g.fresh hx).2, hx, by unfold RpF; rfl⟩
    | succ i =>
      rw [List.getElem?_cons_succ] at q
      obtain ⟨v, a, b⟩ := w1.sl i s q
      exact ⟨v, by rw [List.getElem?_cons_succ]; exact a, b⟩
  · cases i with
    | zero =>
      cases j with
      | zero => exact hij rfl
      | succ j => exact noown j t _ _ (by simpa using q2) o2
    | succ i => exact noown i s _ _ (by simpa using q1) o1
theorem dinit {P : Program} {w : World} {K : PySem.W.Frag} {mg : Str → Option Value} {base : Heap} {C : Str → Addr} {bl : Str → Bool} {c q : Str} {params : Arguments} {body : List Stmt} {sc : Scope} {N ps : List Str} {dvs : List V} {kws : List (Str × V)} {f : Addr} {fd : FuncData} {k : Nat} {S : DI} {fs : DS}
    (F : FunD K "__init__" q params body sc dvs kws f fd) (Sc : FnScope N ps sc) (hbl : ∀ n, bl n = true → mg n = none) (len : ∀ ds Q Xq, S ds Q Xq → ds.length + 1 = ps.length)
    (hbody : ∀ (cdv : Value) (A : Around) (outer : List PySem.Env) (s : Shared) (H : Hp) (E : XK), GS (cxD P w K mg base N q sc f cdv A outer s H E) (wD E) k bl → CSs (cxD P w K mg base N q sc f cdv A outer s H E) C (wD E) body fs)
    (spec : ∀ a ds Qf Xq, S ds Qf Xq → fs (kI a c Qf Xq) (startI N.length a c ds)) : FnOk P w K mg base (L2N.CX P w) (k + 1) f fd ps (spI ⟨K, C⟩ c S) := by
  refine F.ok Sc (fun vs H Q E h => ?_) (fun cdv A outer s H vs Q E hr h => ?_)
  · obtain ⟨G, R, H1, x, dx, us, ds, Qf, Xq, rfl, _, _, _, _, g, r, q', _⟩ := h
    rw [List.length_cons, ← r.len]
    exact len _ _ _ q'
  · obtain ⟨G, R, H1, x, dx, us, ds, Qf, Xq, rfl, rfl, hx, hd, ne, g, r, q', h1, h2⟩ := h
    have gs : GS (cxD P w K mg base N q sc f cdv A outer s (upd (upd H1 dx (.own x)) x (.ins (C c) dx [])) E) (wD E) k bl := ⟨⟨rfl, hr, L2N.takes_of rfl rfl rfl rfl, hbl⟩, passes_of rfl⟩
    obtain ⟨t, p, j⟩ := hbody cdv A outer s _ E gs
    refine ⟨t, p, ?_⟩
    have hl : ds.length + 1 ≤ N.length := by
      rw [len _ _ _ q']
      have := congrArg List.length Sc.pre
      rw [List.length_take] at this
      omega
    obtain ⟨n0, w0⟩ := start_wdI (Γ := ⟨K, C⟩) (c := c) (N := N) g hx hd ne r hl
    refine j G R H1 G R _ _ _ (kI x c Qf Xq) _ n0 w0 ⟨?_, ?_, ?_, ?_, ?_, ?_⟩ (spec x ds Qf Xq q')
    · intro G' R' H' σ ρ n w' ⟨fs', e, z⟩
      obtain ⟨v, _, dx', ws, _, ha, ga, ra, _, rf⟩ := w'.sl 0 _ e
      exact h1 G' R' H' dx' ws fs' n ha ga ra rf z
    · exact fun _ _ _ _ _ _ _ _ _ _ z => z.elim
    · exact fun _ _ _ _ _ _ _ z => z.elim
    · exact fun _ _ _ _ _ _ _ z => z.elim
    · exact fun c' fs' cls dx' G' R' H' σ ρ n _ z e => h2 c' fs' G' R' H' cls dx' n z e
    · exact fun _ _ _ _ _ _ _ _ _ _ _ _ z => z.elim
end Dl
namespace Dl
open PySem PySem.Spec PyProof.Rows L2 PySem.Calls
def exShape (b : List Stmt) (f p : Str) : Prop := ∃ (m : Str) (j : Nat) (q0 q1 q2 q3 q4 q5 q6 q7 q8 q9 : Pos), (q2.endLine == q4.line) = true ∧
  b = [.Expr (.Call (.Attribute (.Call (.Name "super" q0) [] [] q1) "__init__" q2) [.Constant (.str m) j q3] [] q4) q5, .Assign [.Attribute (.Name "self" q6) f q7] (.Name p q8) q9]
structure ExIn (P : Program) (K : PySem.W.Frag) (C fI : Addr) (f p : Str) (fd : FuncData) : Prop where
  lk : ∃ oc od osl, K.lookup fI = some ⟨oc, od, .func fd, osl⟩
  tf : PySem.W.typeIn K (.ref fI) = some (.type "function")
  ps : (fd.params.posonlyargs ++ fd.params.args).head?.map (·.arg) = some ("self" : Str)
  gl : fd.globals = mainGlobals
  bl : fd.builtins = builtinsNs
  co : fd.scope.isCoroutine = false
  ge : fd.scope.isGenerator = false
  ki : fd.scope.kind = .function
  nc : ∀ x ∈ fd.scope.names, x.2 ≠ .cell
  nS : fd.scope.names.lookup ("self" : Str) = some .local
  nP : fd.scope.names.lookup p = some .local
  nU : fd.scope.names.lookup ("super" : Str) = some .globalImplicit
  nC : fd.scope.names.lookup ("__class__" : Str) = some .free
  fr : ∀ x, fd.scope.names.lookup x = some .free → x = "__class__"
  ne : p ≠ "self"
  nd1 : p ≠ ("__debug__" : Str)
  nd2 : p ≠ ("__classdict__" : Str)
  clo : ∃ cc cl cld csl, fd.closure = [(("__class__" : Str), cc)] ∧ K.lookup cc = some ⟨cl, cld, .cell (some (.ref C)), csl⟩
  code : ∃ cda ccl cdd vs ccs file tf, fd.code = .ref cda ∧ PySem.W.codeIn K fd.code fd.qualname = true ∧ K.lookup cda = some ⟨ccl, cdd, .fields vs, ccs⟩ ∧ vs[2]? = some (.str file tf) ∧ ((P.main.file : Str) == file) = true
  body : ∃ b, fd.body = .stmts b ∧ exShape b f p
  top : (P.main.scope.names.lookup ("super" : Str)).isSome = false
  cd : ∃ cd, PySem.W.clsIn K C = some cd
  mro : PySem.W.mroIn K C (.ref C) = some true
  sup : PySem.W.ks_superIn K C C "__init__" = some (some (.builtin "ValueError.__init__"))
  sub : PySem.W.subIn K (.ref C) (.type "ValueError") = some true
  opq : PySem.W.nsIn K cStatics "thirdparty.any" = some none
  ei : PySem.W.excInitIn K C He.veBase "ValueError.__new__" = true
  oc : OexC K C
  no : PySem.W.findIn K (.ref C) f = some none
def cxE (CX : CXT) (P : Program) (w : World) (K : PySem.W.Frag) (mg : Str → Option Value) (base : Heap) (p : Str) (fd : FuncData) (fI : Addr) (A : Around) (outer : List PySem.Env) (s : Shared) (H : Hp) (E : XK) : Cx where
  prog := P
  w := w
  K := K
  mg := mg
  base := base
  A := A.deeper (callEnv fd s.heap.objs.size fI)
  N := ["self", p]
  s_0 := s
  H_0 := H
  env := callEnv fd s.heap.objs.size fI
  outer := outer
  stack := callEnv fd s.heap.objs.size fI :: outer
  ex := []
  calm := true
  fn := fun x => decide (x ≠ "__class__")
  pn := []
  xe := fun e s' => wpAny (model P w) (A.deeper (callEnv fd s.heap.objs.size fI)) (leaving (callEnv fd s.heap.objs.size fI) e) (fun _ s'' => CX outer H s E e s'') (fun e' s'' => CX outer H s E e' s'') s'
def spExI (C : Addr) (f : Str) : Sp := fun vs H Q _ => ∃ a v, vs = [.ref a, v] ∧ H a = some (exo a C none) ∧ ∀ dx, H dx = none → dx ≠ a → Q .non (upd (upd H dx (exd dx [(f, v)])) a (exo a C (some dx)))
section
variable {CX : CXT} {P : Program} {w : World} {K : PySem.W.Frag} {mg : Str → Option Value} {base : Heap} {C fI : Addr} {f p : Str} {fd : FuncData}
theorem exinit_start {A : Around} {outer : List PySem.Env} {s : Shared} {H : Hp} {E : XK} {h₀ : Heap} {tk : Nat} {a : Addr} {v : V} {u : Value} (F : ExIn P K C fI f p fd) (e0 : Env0 P w K mg base A outer s H) (hd : A.handled = none) (rv : RelV v u)
    (hns : h₀.Ns s.heap.objs.size (fun x => ([("self", Value.ref a), (p, u)] : List (Str × Value)).reverse.lookup x)) (hk : ∀ b o, s.heap.get? b = some o → h₀.get? b = some o) :
    Inv (cxE CX P w K mg base p fd fI A outer s H E) [] [some (.ref a), some v] H { s with heap := h₀, toks := tk } := by
  obtain ⟨cc, cl, cld, csl, ec, lc⟩ := F.clo
  have cells : ∀ {x c}, (callEnv fd s.heap.objs.size fI).cells.lookup x = some c → x = "__class__" ∧ c = cc := fun {x c} h => by
    have h' : fd.closure.lookup x = some c := h
    rw [ec] at h'
    by_cases q : x = "__class__"
    · subst q
      have : some cc = some c := by simpa [List.lookup] using h'
      exact ⟨rfl, (Option.some.inj this).symm⟩
    · have hb : (x == ("__class__" : Str)) = false := beq_eq_false_iff_ne.mpr q
      simp [List.lookup, hb] at h'
  have KX : K.In s.heap := e0.mod.kin.keeps fun b o e => (e0.bs b o e).1
  have hbc : ∃ ob, base.get? cc = some ob ∧ ob.data = .cell (some (.ref C)) := ⟨_, e0.mod.kin _ _ lc, rfl⟩
  have hcc : s.heap.IsCell cc (some (.ref C)) := by
    obtain ⟨ob, hb, hdt⟩ := hbc
    exact ⟨ob, (e0.bs _ _ hb).1, hdt⟩
  have hc0 : h₀.IsCell cc (some (.ref C)) := by
    obtain ⟨ob, hb, hdt⟩ := hbc
    exact ⟨ob, hk _ _ (e0.bs _ _ hb).1, hdt⟩
  have hHc : H cc = none := by
    obtain ⟨ob, hb, hdt⟩ := hbc
    exact (e0.bs _ _ hb).2
  have noA : ∀ b : Addr, b ∉ (cxE CX P w K mg base p fd fI A outer s H E).ex := fun b z => absurd (show b ∈ ([] : List Addr) from z) (by simp)
  refine ⟨⟨e0.mod, F.ki, F.gl, F.bl, Nat.le_refl _, fun y z c h1 h2 => ?_, fun y hy => ?_, fun y c hfn h => ?_, fun _ => hd, Around.frames_deeper e0.frames, .inr ⟨rfl, rfl⟩, fun b z => absurd z (noA b), e0.bs, e0.bsz, fun b _ _ => noA b, fun b z => absurd z (noA b), e0.funs, e0.frf⟩,
    rfl, e0.bare, Un.kept hk, ⟨_, hns, fun i y v' h1 h2 h3 => ?_⟩, fun y c h => ?_, e0.hok.fresh (Nat.le_refl _), fun y c h => ?_, fun q hp => absurd (show q ∈ ([] : List (Addr × Obj)) from hp) (by simp), e0.hok.kept hk, rfl⟩
  · rw [(cells h1).1, (cells h2).1]
  · rcases hy with hy | hy
    · exact absurd rfl (F.nc _ (PySem.mem_of_lookup (show fd.scope.names.lookup y = some .cell from hy)))
    · have := F.fr y hy
      subst this
      refine ⟨cc, ?_⟩
      show fd.closure.lookup ("__class__" : Str) = some cc
      rw [ec]
      simp [List.lookup]
  · have := (cells h).1
    subst this
    exact absurd (of_decide_eq_true (show decide (("__class__" : Str) ≠ "__class__") = true from hfn)) (by simp)
  · match i with
    | 0 =>
      cases h1
      cases h2
      exact ⟨_, rfl, .inl ⟨F.nS, by
        show ([("self", Value.ref a), (p, u)] : List (Str × Value)).reverse.lookup ("self" : Str) = _
        have hb : (("self" : Str) == p) = false := beq_eq_false_iff_ne.mpr (Ne.symm F.ne)
        simp [List.lookup, hb]⟩⟩
    | 1 =>
      cases h1
      cases h2
      refine ⟨_, rv, .inl ⟨F.nP, ?_⟩⟩
      show ([("self", Value.ref a), (p, u)] : List (Str × Value)).reverse.lookup p = _
      simp [List.lookup]
    | i + 2 => cases h1
  · obtain ⟨rfl, rfl⟩ := cells h
    exact ⟨_, hc0⟩
  · obtain ⟨rfl, rfl⟩ := cells h
    exact hHc
theorem exinit_fn (F : ExIn P K C fI f p fd) (hsup : mg "super" = none) : FnOk P w K mg base CX 1 fI fd ["self", p] (spExI C f) := by
  refine ⟨fun vs H Q E h => by obtain ⟨a, v, rfl, _⟩ := h; rfl, fun A outer s H args us vs Q E hr e0 hb rv hs => ?_⟩
  obtain ⟨a, v, rfl, ha, hq⟩ := hs
  obtain ⟨u1, u2, rfl, r1, r2⟩ := vals2 rv
  cases (show u1 = Value.ref a from r1)
  have KX : K.In s.heap := e0.mod.kin.keeps fun b o e => (e0.bs b o e).1
  have lim : s.heap.NoLimit := e0.mod.nolimit.keeps fun b o e => (e0.bs b o e).1
  obtain ⟨oc, od, osl, lk⟩ := F.lk
  obtain ⟨cda, ccl, cdd, cvs, ccs, file, tf, ecd, hcd, lcd, hv2, hfile⟩ := F.code
  obtain ⟨b, eb, m, j, q0, q1, q2, q3, q4, q5, q6, q7, q8, q9, hline, rfl⟩ := F.body
  obtain ⟨cc, cl, cld, csl, ec, lc⟩ := F.clo
  obtain ⟨cd, hcls⟩ := F.cd
  refine ks_codeAny_call_defAt (binds := [("self", .ref a), (p, u2)]) (Room.depth hr) (KX _ _ lk) rfl lim (PySem.W.codeRec_of KX hcd) eb hb F.nc (fun x hx => ?_) (fun h₀ hns hk => ?_) F.co F.ge F.ki
  · rcases List.mem_cons.mp hx with rfl | hx
    · exact F.nS
    · rcases List.mem_cons.mp hx with rfl | hx
      · exact F.nP
      · cases hx
  have I : Inv (cxE CX P w K mg base p fd fI A outer s H E) [] [some (.ref a), some v] H { s with heap := h₀, toks := s.toks + 2 } := exinit_start F e0 hr.hd r2 hns hk
  have KX1 : K.In h₀ := KX.keeps hk
  -- super().__init__('text')
  have hi : interactive (callEnv fd s.heap.objs.size fI) = false := by
    show (fd.scope.kind == .module && _) = false
    rw [F.ki]; rfl
  have he : eval (.Call (.Attribute (.Call (.Name "super" q0) [] [] q1) "__init__" q2) [.Constant (.str m) j q3] [] q4) (callEnv fd s.heap.objs.size fI) = (do
      let ov ← attributeBase (.Call (.Name "super" q0) [] [] q1) "__init__" (callEnv fd s.heap.objs.size fI) (eval (.Call (.Name "super" q0) [] [] q1) (callEnv fd s.heap.objs.size fI))
      standAt q2.atName
      let (f, first) ← holding [ov] (getMethod ov "__init__" (do return (← importBound (.Call (.Name "super" q0) [] [] q1) (callEnv fd s.heap.objs.size fI)).getD true))
      callWith q4 f first (backTo q4 (starEach [.Constant (.str m) j q3] (callEnv fd s.heap.objs.size fI))) []) := by
    show (do
      let ov ← attributeBase (.Call (.Name "super" q0) [] [] q1) "__init__" (callEnv fd s.heap.objs.size fI) (eval (.Call (.Name "super" q0) [] [] q1) (callEnv fd s.heap.objs.size fI))
      standAt q2.atName
      methodCall (.Call (.Name "super" q0) [] [] q1) "__init__" q2 q4 (callEnv fd s.heap.objs.size fI) ov 1 (backTo q4 (starEach [.Constant (.str m) j q3] (callEnv fd s.heap.objs.size fI))) []) = _
    unfold methodCall methodCallPos
    rw [hline]
    rfl
  refine ks_wpAt_execs_cons (ks_wpAt_Expr_any (ks_wpAt_MethodCall ?_ he) hi)
  obtain ⟨ar, ear, ear2⟩ : ∃ ar, (fd.params.posonlyargs ++ fd.params.args).head? = some ar ∧ ar.arg = "self" := by
    have := F.ps
    cases q : (fd.params.posonlyargs ++ fd.params.args).head? with
    | none => rw [q] at this; cases this
    | some ar => rw [q] at this; exact ⟨ar, rfl, Option.some.inj this⟩
  refine ks_wpAt_super_base (env := callEnv fd s.heap.objs.size fI) F.nU F.nC rfl rfl (KX1 _ _ lk) rfl ear ecd (KX1 _ _ lcd) rfl hv2 hfile F.top ?_
  obtain ⟨mb, hb1, hb2⟩ := e0.mod.blt
  have bk : ∀ b o, base.get? b = some o → h₀.get? b = some o := fun b o e => hk b o (e0.bs b o e).1
  refine PySem.W.ks_loadName_global F.ki F.nU (loadGlobal_builtin (env := callEnv fd s.heap.objs.size fI) (by show h₀.Ns fd.globals mg; rw [F.gl]; exact e0.mod.glob.keeps bk) hsup (by show h₀.Ns fd.builtins mb; rw [F.bl]; exact hb1.keeps bk)
    ((hb2 _ (by decide)).trans (show bootBuiltins "super" = some (.type "super") by decide +kernel)) ⟨rfl, ?_⟩)
  refine wpAny_loadName_free F.ki F.nC (c := cc) (by show fd.closure.lookup ("__class__" : Str) = some cc; rw [ec]; simp [List.lookup]) ⟨_, KX1 _ _ lc, rfl⟩ ?_
  rw [ear2]
  refine wpAny_loadName_local F.ki F.nS hns (by
    show ([("self", Value.ref a), (p, u2)] : List (Str × Value)).reverse.lookup ("self" : Str) = _
    have hb : (("self" : Str) == p) = false := beq_eq_false_iff_ne.mpr (Ne.symm F.ne)
    simp [List.lookup, hb]
    rfl) ?_
  obtain ⟨oD, hD1, hD2⟩ : ∃ oD, h₀.get? C = some oD ∧ oD.data = .cls cd := by
    unfold PySem.W.clsIn at hcls
    split at hcls
    · rename_i c d cd' sl ho
      cases hcls
      exact ⟨_, KX1 _ _ ho, rfl⟩
    · cases hcls
  refine ks_wpAny_isType_cls hD1 hD2 ⟨rfl, ?_⟩
  obtain ⟨t1, hoe⟩ := exo_at I.hok ha
  refine ks_wpAny_call_super hD1 hD2 hoe rfl (fun c e => nomatch e) (PySem.W.looks_mroIn KX1 F.mro) (fun h1 hso k1 => ?_)
  have I1 := I.kept (h' := h1) (t' := s.toks + 2) k1
  have KX2 : K.In h1 := KX1.keeps k1
  have hoe1 := k1 _ _ hoe
  have J : PySem.W.InstAt h1 a _ C none := ⟨hoe1, rfl, rfl, trivial⟩
  have hI : PySem.W.Looks (model P w) h1 (isInstance (.ref a) (.type "ValueError")) true := J.type.andThen (PySem.W.looks_subIn KX2 F.sub)
  have hsp := F.sup
  unfold PySem.W.ks_superIn at hsp
  rw [hcls] at hsp
  refine PySem.W.kxs_getMethod PySem.W.kxs_ValueError hso (PySem.W.looks_opaque KX2 F.opq) (l₀ := cd.mro) ?_ rfl KX2 hsp hI (PySem.W.ks_ne KX2 J hcls) (by decide) ?_
  · exact fun A Q E s k q => wpAny_bind ((PySem.W.looks_clsIn KX2 hcls) A _ E s k (wpAny_pure q))
  have k2 : ∀ b o, h1.get? b = some o → (h1.push (PySem.W.kxs_mw "ValueError.__init__" a)).get? b = some o := fun b o e => Heap.get?_push_of_some _ e
  have hu : (h1.push (PySem.W.kxs_mw "ValueError.__init__" a)).get? h1.objs.size = some (PySem.W.kxs_mw "ValueError.__init__" a) := Heap.get?_push_at rfl rfl
  have I2 := I1.kept (h' := h1.push (PySem.W.kxs_mw "ValueError.__init__" a)) (t' := s.toks + 2 + 1) k2
  refine PySem.W.kxs_callWith (i := "ValueError.__init__") (x := a) rfl ?_
  rw [show starEach [.Constant (.str m) j q3] (callEnv fd s.heap.objs.size fI) = (false, eval (.Constant (.str m) j q3) (callEnv fd s.heap.objs.size fI)) :: starEach [] (callEnv fd s.heap.objs.size fI) from rfl]
  refine evalArgs_plain ?_
  refine spliced_cons (wpAny_Constant_str (k := j) (pos := q3) (spliced_nil ⟨hu, ?_⟩))
  obtain ⟨nm', N', qn', bs', bm', hdct', sn', sub', ab', col', dd', k0', k1', k2', k3', k5', hCo, hT⟩ := PySem.W.excInit_of (KX2.keeps k2) F.ei
  have hoe2 := k2 _ _ hoe1
  have I3 : Inv (cxE CX P w K mg base p fd fI A outer s H E) [] [some (.ref a), some v] H { s with heap := h1.push (PySem.W.kxs_mw "ValueError.__init__" a), toks := s.toks + 2 + 1 + 1 } := I1.kept (t' := s.toks + 2 + 1 + 1) k2
  refine wpAny_call (codeAny_of_tree ?_)
  show wpAny _ _ (callAny (.ref h1.objs.size) ⟨[.str m _], []⟩) _ _ _
  simp only [callAny]
  refine wpAny_bind (wpAny_load hu ?_)
  simp only [PySem.W.kxs_mw, show (Value.type "method-wrapper" == Value.type "method" || Value.type "method-wrapper" == Value.type "builtin_function_or_method" || Value.type "method-wrapper" == Value.type "method-wrapper") = true by decide, if_true]
  refine PySem.W.KFB.if_so (by decide) ?_
  refine wpAny_bind (PySem.W.check_bound_init PySem.F.excBase_ValueError.toExcCallFacts hCo hoe2 rfl ?_)
  refine wpAny_bind (wpAny_pure (wpAny_pure ?_))
  refine ⟨plainId_quiet PySem.F.excBase_ValueError.init.plain _, codeAny_builtin PySem.F.excBase_ValueError.initEntry ?_⟩
  refine PySem.W.exc_init_tree (cls := .ref C) (t0 := t1) (dv := none) (c2 := .none) (c3 := .none) (b4 := .bool false) hoe2 (by rw [sizeLine_eq]; exact (show 1 ≤ 16777216 by decide)) (fun h' k3 hx _ => ?_)
  have J3 := I3.write (t' := s.toks + 2 + 1 + 1) (x := a) (e := a) (o := exo a C none) (by rw [ha]; exact True.intro) (.inl rfl) k3 ⟨_, hx⟩ (exo_ok hx)
  have eu : upd H a (exo a C none) = H := by
    funext b
    by_cases hb : b = a
    · rw [hb, upd_same, ha]
    · rw [upd_ne hb]
  rw [eu] at J3
  -- self.f = p
  refine wpAt_of_wpAny ?_
  have hps : PSs (cxE CX P w K mg base p fd fI A outer s H E) [.Assign [.Attribute (.Name "self" q6) f q7] (.Name p q8) q9] (tOst K f (tVar 0) (tVar 1)) :=
    pss_one (ps_ost (X := cxE CX P w K mg base p fd fI A outer s H E) (pe_var (i := 0) rfl (.inl F.nS)) (pe_var (i := 1) rfl (.inl F.nP) (beq_eq_false_iff_ne.mpr F.nd1) (beq_eq_false_iff_ne.mpr F.nd2)))
  refine wpAny_mono (hps.run [] _ _ H { nx := fun _ H' => Q .non H', rt := fun _ _ => False } J3 ⟨v, rfl, .ref a, rfl, a, C, rfl, F.oc, F.no, .inl ⟨ha, fun dx n ne => hq dx n ne⟩⟩) (fun fl s' hs => ?_) fun e s' hs => hs
  cases fl with
  | ret u => obtain ⟨_, _, _, _, _, z⟩ := hs; exact z.elim
  | next =>
    obtain ⟨σ', H', J, q⟩ := hs
    exact ⟨.non, H', J.os, J.bare, J.base, J.hok, rfl, q⟩
  | brk => obtain ⟨_, _, _, z⟩ := hs; exact z.elim
  | cont => obtain ⟨_, _, _, z⟩ := hs; exact z.elim
end
end Dl
namespace PySem.W
open PySem PySem.Spec PySem.Calls PyProof.Rows
section
variable {prog : Program} {w : World} {A : Around} {E : Value → Shared → Prop} {s : Shared} {K : Frag} {x D : Addr} {ox : Obj} {odx : Option Obj}
end
end PySem.W
namespace Dl
open PySem PySem.Spec PyProof.Rows L2
theorem mk_endN {X : Cx} {pins : List (Addr × Obj)} {σ : St} {H1 H2 : Hp} {Q : XK} {hp hp2 h2 : Heap} {g1 g2 : Array GenState} {d1 d2 : Drawn} {t1 t2 : Nat} {os1 os2 : OsState} {a C d : Addr} {fs : List (Str × V)} (T : Raises X (.ref C)) (I1 : Inv X pins σ H1 ⟨hp, g1, d1, t1, os1⟩)
    (ha : hp.objs.size ≤ a) (k : ∀ b o, hp.get? b = some o → hp2.get? b = some o) (un : Un (frs X.stack) [] (upd H1 a (exo a C none)) H2 hp2 h2) (hok : HOk X.prog X.w H2 h2) (ho : os2 = os1) (hb : AllBare g2)
    (ea : H2 a = some (exo a C (some d))) (ed : H2 d = some (exd d fs)) (hd1 : H1 d = none) (q : Q (.ref C) (some d) (upd (del H2 a) d (.xd fs))) : L2N.MkP X pins σ Q (.ref a) ⟨h2, g2, d2, t2, os2⟩ := by
  obtain ⟨t0, G, J, kG, ge, hoe, na⟩ := mk_end0 (d2 := d2) (t2 := t2) I1 ha k un hok ho hb ea ed hd1
  exact ⟨a, _, _, ⟨G, g2, d2, t2, os2⟩, _, .ref C, some d, rfl, J, kG, ge, hoe, ⟨rfl, rfl, fun vs e => by cases e; rfl⟩, rfl, rfl, na, rfl, hb, T, q⟩
theorem pmk_oexN {X : Cx} {e : Expr} {es : List Expr} {ta : TA} {p pos : Pos} {CX : CXT} {x : Str} {C fI : Addr} {k : Nat} {fd : FuncData} {ps : List Str} {sp : Sp} {ds : List Value} {dvs : List V} (T : OexC X.K C) (iC : PySem.W.findIn X.K (.ref C) "__init__" = some (some (.ref fI))) (tI : PySem.W.typeIn X.K (.ref fI) = some (.type "function"))
    (F1 : FnOk X.prog X.w X.K X.mg X.base CX k fI fd ps sp) (hr : Room (k + 1) X.A) (hb : Binds X.K fd ps ds) (hd : Vals dvs ds) (hx : Passes CX X (fun _ _ _ => False)) (hg : Gl X x) (hm : X.mg x = some (.ref C)) (ha : PA X (e :: es) ta)
    (hdb : (x == ("__debug__" : Str)) = false := by decide) (he : starEach (e :: es) X.env = (false, eval e X.env) :: starEach es X.env := by rfl) (hpl : (backTo pos (starEach es X.env)).any (·.1) = false := by rfl) :
    L2N.PMk X (.Call (.Name x p) (e :: es) [] pos) (tMkO C sp dvs ta) := by
  intro pins s σ H Q I h
  obtain ⟨nm, q, N, bs, bm, sn, sub, ab, col, dd, k0, k1, k2, k3, k5, hC, hbm⟩ := T.cls
  refine wpAny_Call_Name_kw (ld_glob I hg hm ?_ hdb)
  refine PySem.W.callWith_K (h₀ := X.base) I.ok.mod.kin T.kC (thn (ha.run pos pins s σ H _ I h) fun us s1 ⟨vs, H1, I1, r1, hz, q1⟩ => ⟨I1.kIn, ?_⟩) he hpl
  show wpAny _ _ (call (.ref C) us) _ _ _
  obtain ⟨hp, g, dr, tk, os⟩ := s1
  have hsz : hp.objs.size ≤ hp.objs.size + 1 := Nat.le_succ _
  have hn : H1 (hp.objs.size + 1) = none := I1.hok.fresh hsz
  have hq := q1 (hp.objs.size + 1) hn
  have kk : ∀ b o, hp.get? b = some o → ((hp.push (PySem.W.kdv_tup us)).push (PySem.HandSPX.excO C hp.objs.size)).get? b = some o := fun b o e => Heap.get?_push_of_some _ (Heap.get?_push_of_some _ e)
  have hget : ((hp.push (PySem.W.kdv_tup us)).push (PySem.HandSPX.excO C hp.objs.size)).get? (hp.objs.size + 1) = some (PySem.HandSPX.excO C hp.objs.size) := by heap_get
  have I2 : Inv X pins σ (upd H1 (hp.objs.size + 1) (exo (hp.objs.size + 1) C none)) ⟨(hp.push (PySem.W.kdv_tup us)).push (PySem.HandSPX.excO C hp.objs.size), g, dr, tk, os⟩ :=
    I1.laid (t' := tk) (a := hp.objs.size + 1) (o := exo (hp.objs.size + 1) C none) (h' := (hp.push (PySem.W.kdv_tup us)).push (PySem.HandSPX.excO C hp.objs.size)) kk hsz (exo_ok hget)
  have r2 : Vals (V.ref (hp.objs.size + 1) :: (vs ++ dvs)) (Value.ref (hp.objs.size + 1) :: (us ++ ds)) := .cons rfl (r1.append hd)
  have hl : (Value.ref (hp.objs.size + 1) :: us ++ ds).length = ps.length := by
    have e := r2.length
    rw [F1.len _ _ _ _ hq] at e
    exact e.symm
  have hus : us.length ≤ sizeLine := by
    rw [← Paired.length r1, sizeLine_eq]
    omega
  refine wpAny_call (PySem.HandSPX.call_own F.excBase_ValueError (fun Y => PySem.HandSPX.refsVE_contains Y bm hbm) (I1.kIn _ _ hC) (PySem.W.looks_findIn I1.kIn iC) (fun self => PySem.W.bind_fn I1.kIn self tI) hus
    (codeAny_mono (F1.run _ X.stack _ _ ⟨Value.ref (hp.objs.size + 1) :: us, []⟩ (Value.ref (hp.objs.size + 1) :: (us ++ ds)) _ _ (fun _ _ _ => False) (hr.make C us []) (I2.env0.make C us []) (hb _ (Value.ref (hp.objs.size + 1) :: us) I2.kIn hl) r2 hq) fun r s' hq' => ?_))
  cases r with
  | error er => exact hx pins σ _ _ er s' I2 hq'
  | ok fl =>
    cases fl with
    | ret u =>
      obtain ⟨v, H2, os2, bare2, un2, hok2, rv, ev, d, fs, ea, ed, hd1, q2⟩ := hq'
      subst ev
      obtain ⟨h2, g2, d2, t2, os'⟩ := s'
      exact ⟨rv, mk_endN (raises_own T.exC T.tyC) I1 hsz kk un2 hok2 os2 bare2 ea ed hd1 q2⟩
    | next => exact False.elim hq'
    | brk => exact False.elim hq'
    | cont => exact False.elim hq'
structure Ex0 (K : PySem.W.Frag) (mg : Str → Option Value) (C : Str → Addr) (c : Str) : Prop where
  ex : PySem.W.excIn K (C c) He.veBase "ValueError.__new__" = true
  gl : mg c = some (.ref (C c))
  kp : PySem.W.keepIn K (.ref (C c)) = true
  sb : PySem.W.subIn K (.ref (C c)) (.type "BaseException") = some true
  ty : PySem.W.typeIn K (.ref (C c)) = some (.type "type")
structure Ex1 (P : Program) (w : World) (K : PySem.W.Frag) (mg : Str → Option Value) (base : Heap) (C : Str → Addr) (c f : Str) : Prop where
  oc : OexC K (C c)
  gl : mg c = some (.ref (C c))
  ex : ∃ (fI : Addr) (fd : FuncData) (ps : List Str), PySem.W.findIn K (.ref (C c)) "__init__" = some (some (.ref fI)) ∧ PySem.W.typeIn K (.ref fI) = some (.type "function") ∧
    (∀ CX : CXT, FnOk P w K mg base CX 1 fI fd ps (spExI (C c) f)) ∧ Binds K fd ps []
def dRaise1 (c f : Str) (fe : DE) : DS := fun k ρ => fe (k.xq ρ) ρ fun d => k.ex c [(f, d)] ρ
section
variable {Γ : Kx} {W : WX} {te : TE} {fe : DE} {c f : Str}
theorem js_raise1 (a : JE Γ W te fe) : JS Γ W (fun _ σ H => tMkO (Γ.C c) (spExI (Γ.C c) f) [] (tCons te tNil) σ H fun cls d H' => W cls d σ H') (dRaise1 c f fe) := fun G0 R0 H0 G R H σ ρ k D n w e fz =>
  a H0 G R H σ ρ _ _ _ w (e.lk n w) fz fun v G1 R1 H1 d n1 r1 q1 => ⟨by show 1 ≤ 1000; omega, fun p hp => by
    refine ⟨p, v, rfl, upd_same, fun dx hdx ne => ⟨rfl, dx, [(f, v)], upd_same, by rw [upd_ne ne, upd_same], ?_, ?_⟩⟩
    · rw [upd_ne ne] at hdx
      exact hdx
    · have hdx' : H1 dx = none := by rw [upd_ne ne] at hdx; exact hdx
      have eH : upd (del (upd (upd (upd H1 p (exo p (Γ.C c) none)) dx (exd dx [(f, v)])) p (exo p (Γ.C c) (some dx))) p) dx (.xd [(f, v)]) = upd H1 dx (.xd [(f, v)]) := by
        funext b
        by_cases h1 : b = dx
        · rw [h1, upd_same, upd_same]
        · rw [upd_ne h1, upd_ne h1]
          by_cases h2 : b = p
          · rw [h2, del_same, hp]
          · rw [del_ne h2, upd_ne h2, upd_ne h1, upd_ne h2]
      rw [eH]
      have n2 : Nx G1 R1 H1 G1 R1 (upd H1 dx (.xd [(f, v)])) := Nx.new n1.gd _ hdx'
      refine e.ex c [(f, d)] _ (some dx) G1 R1 _ σ ρ ((n.trans n1).trans n2) ((w.nx n1).nx n2) q1 ⟨rfl, .inr ⟨by simp, dx, [(f, v)], rfl, upd_same, ?_⟩⟩
      unfold RpF
      exact ⟨v, [], rfl, r1, by unfold RpF; rfl⟩⟩
end
section
variable {X : Cx} {C : Str → Addr} {W : WX} {k : Nat} {bl : Str → Bool} {e : Expr} {es : List Expr} {fe : DE} {pos p p1 p2 : Pos} {c f : Str}
theorem takes_no (tk : L2N.Takes X W) : Passes (L2N.CX X.prog X.w) X (fun _ _ _ => False) := L2N.passes_call tk fun _ _ _ _ h => h.elim
theorem cs_raise1 (h : Ex1 X.prog X.w X.K X.mg X.base C c f) (g : GE X W k bl) (ha : CE X C W e fe) (hk : 2 ≤ k := by decide) (hg : Gl X c := by rfl) (hdb : (c == ("__debug__" : Str)) = false := by decide)
    (he : starEach [e] X.env = (false, eval e X.env) :: starEach [] X.env := by rfl) : CS X C W (.Raise (some (.Call (.Name c p) [e] [] p1)) none pos) (dRaise1 c f fe) :=
  let ⟨_, p, q⟩ := ha
  let ⟨_, _, _, iC, tI, F, b⟩ := h.ex
  ⟨_, L2N.ps_raise g.calm g.tk (pmk_oexN h.oc iC tI (F _) (g.room.mono hk) b .nil (takes_no g.tk) hg h.gl (pa_cons p pa_nil he) hdb he rfl), js_raise1 q⟩
end
def tSof (Γ : Kx) (W : WX) (fs : DS) : TS := fun D σ H => ∃ (G0 : Hp) (R0 : Addr → Prop) (H0 G : Hp) (R : Addr → Prop) (ρ : En) (k : DK), Nx G0 R0 H0 G R H ∧ Wd Γ H0 G R H σ ρ ∧ EndsOk Γ W G0 R0 H0 k D ∧ fs k ρ
theorem CSs.canon {X : Cx} {C : Str → Addr} {W : WX} {st : List Stmt} {fs : DS} (h : CSs X C W st fs) : PSs X st (tSof ⟨X.K, C⟩ W fs) := let ⟨t, p, q⟩ := h; ⟨fun pins s σ H D I ⟨G0, R0, H0, G, R, ρ, k, n, w, e, f⟩ => p.run pins s σ H D I (q G0 R0 H0 G R H σ ρ k D n w e f)⟩
structure ExT (K : PySem.W.Frag) (C : Str → Addr) (exs : List Str) (cv : Value) : Prop where
  exm : ∀ c ∈ exs, PySem.W.exmOne K (.ref (C c)) cv = some true
section
variable {X : Cx} {C : Str → Addr} {W : WX} {k : Nat} {bl : Str → Bool} {x n : Str} {cv : Value} {i : Nat} {body suite : List Stmt} {b₀ : Stmt} {np pos pos' : Pos} {exs : List Str} {fb : DS} {su : Addr → Option Addr → Str → List (Str × D) → DS}
end
end Dl
namespace Dl
open PySem PySem.Spec PyProof.Rows L2
section
variable {Γ : Kx} {W : WX} {a Dc : Addr} {d : Option Addr} {i : Nat} {b : Bool} {c : V} {cv : Value} {f : Str} {fs : List (Str × D)}
end
section
variable {X : Cx} {C : Str → Addr} {W : WX} {a : Addr} {d : Option Addr} {c y f : Str} {oe : Obj} {pn : List (Addr × Obj)} {i : Nat} {b : Bool} {e : Expr} {fs : List (Str × D)} {pos p p2 : Pos}
end
section
variable {X : Cx} {C : Str → Addr} {W : WX} {bl : Str → Bool} {a : Expr} {fa : DE} {pos p p2 : Pos} {x : Str} {T : String}
end
structure IsC (K : PySem.W.Frag) (C : Str → Addr) (cs : List Str) (isa : Str → Bool) (y : Str) : Prop where
  ins : ∀ c ∈ cs, Cls K (C c) ∧ PySem.W.findIn K (.ref (C c)) "__class__" = some (some (.builtin "object.__class__")) ∧ PySem.W.mroIn K (C c) (.type "object") = some true ∧ PySem.W.kitOne K (.ref (C c)) (.ref (C y)) = some (isa c)
  sp : PySem.W.specialIn K (.builtin "object.__class__") "__get__" = some (some (.builtin "getset_descriptor.__get__"))
  tk : PySem.W.takesIn K (.builtin "object.__class__") = some true
  bs : ∀ t ∈ ["NoneType", "bool", "int", "str", "tuple", "list"], PySem.W.kitOne K (.type t) (.ref (C y)) = some false
section
variable {X : Cx} {C : Str → Addr} {W : WX} {k : Nat} {bl : Str → Bool} {a : Expr} {fa : DE} {pos p p2 : Pos} {y : Str} {cs : List Str} {isa : Str → Bool}
variable {b e : Expr} {es : List Expr} {fs fb : DE} {fr : DA} {f c m : Str} {n j i : Nat}
theorem cs_setF {ks : List Str} (i : Nat) {p' : Pos} (hk : FldOk X.K C ks f) (ho : PE X a (tVar i)) (h : CE X C W e fa) (hs : swapsWith e (some (.Attribute a f p')) pos.line X.env = pure false := by rfl) : CS X C W (.Assign [.Attribute a f p'] e pos) (dSetF i ks f fa) :=
  let ⟨_, p, q⟩ := h; ⟨_, ps_fld ho p hs, js_setF hk q⟩
theorem ce_gInt {x : Str} {z : Int} (hm : ∃ t, X.mg x = some (.int z t)) (hg : Gl X x := by rfl) (hd : (x == ("__debug__" : Str)) = false := by decide) : CE X C W (.Name x pos) (dC (.int z)) := let ⟨t, e⟩ := hm; ⟨_, pe_glob (v := .int z) hg e ⟨t, rfl⟩ hd, je_int⟩
theorem ce_gStr {x z : Str} (hm : ∃ t, X.mg x = some (.str z t)) (hg : Gl X x := by rfl) (hd : (x == ("__debug__" : Str)) = false := by decide) : CE X C W (.Name x pos) (dC (.str z)) := let ⟨t, e⟩ := hm; ⟨_, pe_glob (v := .str z) hg e ⟨t, rfl⟩ hd, je_str⟩
end
end Dl
namespace Dl
open PySem PySem.Spec PyProof.Rows L2 He
structure CTb where
  cls : List Str
  exs : List Str
  ex0 : List Str
  flds : List (Str × Str)
  tgt : List Str
  cat : List Str
  isa : Str → Str → Bool
  meth : List (Str × Str)
  mkd : List Str
  gints : List (Str × Int)
  gstrs : List (Str × Str)
  gtups : List (Str × List Str) := []
  gtup2 : List (Str × List (List Str)) := []
  des : List ((Str × Option Str) × Nat) := []
def strOf : Value → Option Str
  | .str s _ => some s
  | _ => none
def tupB (K : PySem.W.Frag) (p : Str × List Str) : Bool := (Fa.glo p.1).ok K && (match K.lookup (ga K p.1) with
  | some o => decide (o.cls = .type "tuple") && (match o.data with
    | .seq its _ => decide (its.toList.map strOf = p.2.map some) && decide (its.size ≤ 1000)
    | _ => false)
  | none => false)
theorem strs_vals : ∀ {us : List Value} {xs : List Str}, us.map strOf = xs.map some → Vals (xs.map V.str) us
  | [], [], _ => .nil
  | [], _ :: _, h => by simp at h
  | _ :: _, [], h => by simp at h
  | u :: us, x :: xs, h => by
    rw [List.map_cons, List.map_cons] at h
    obtain ⟨h1, h2⟩ := List.cons.inj h
    refine .cons ?_ (strs_vals h2)
    cases u <;> first | (unfold strOf at h1; cases h1; exact ⟨_, rfl⟩) | (unfold strOf at h1; cases h1)
theorem tupB_ok {K : PySem.W.Frag} {p : Str × List Str} (h : tupB K p = true) : (Fa.glo p.1).ok K = true ∧ ∃ (o : Obj) (its : Array Value) (n : Nat), K.lookup (ga K p.1) = some o ∧ o.cls = .type "tuple" ∧ o.data = .seq its n ∧ its.size ≤ sizeLine ∧ Vals (p.2.map V.str) its.toList := by
  obtain ⟨h1, h2⟩ := ba h
  refine ⟨h1, ?_⟩
  split at h2
  · rename_i o e
    obtain ⟨h3, h4⟩ := ba h2
    split at h4
    · rename_i its n e2
      obtain ⟨h5, h6⟩ := ba h4
      have h6 := of_decide_eq_true h6
      exact ⟨o, its, n, e, of_decide_eq_true h3, e2, by rw [sizeLine_eq]; omega, strs_vals (of_decide_eq_true h5)⟩
    · cases h4
  · cases h2
def TupS (K : PySem.W.Frag) (a : Addr) (ys : List Str) : Prop := ∃ (o : Obj) (its : Array Value) (n : Nat), K.lookup a = some o ∧ o.cls = .type "tuple" ∧ o.data = .seq its n ∧ its.size ≤ sizeLine ∧ Vals (ys.map V.str) its.toList
def tupA (K : PySem.W.Frag) (a : Addr) (ys : List Str) : Bool := match K.lookup a with
  | some o => decide (o.cls = .type "tuple") && (match o.data with
    | .seq its _ => decide (its.toList.map strOf = ys.map some) && decide (its.size ≤ 1000)
    | _ => false)
  | none => false
theorem tupA_ok {K : PySem.W.Frag} {a : Addr} {ys : List Str} (h2 : tupA K a ys = true) : TupS K a ys := by
  unfold tupA at h2
  split at h2
  · rename_i o e
    obtain ⟨h3, h4⟩ := ba h2
    split at h4
    · rename_i its n e2
      obtain ⟨h5, h6⟩ := ba h4
      have h6 := of_decide_eq_true h6
      exact ⟨o, its, n, e, of_decide_eq_true h3, e2, by rw [sizeLine_eq]; omega, strs_vals (of_decide_eq_true h5)⟩
    · cases h4
  · cases h2
def TupsS (K : PySem.W.Frag) : List Value → List (List Str) → Prop
  | [], [] => True
  | .ref a :: us, ys :: r => TupS K a ys ∧ TupsS K us r
  | _, _ => False
def tupsA (K : PySem.W.Frag) : List Value → List (List Str) → Bool
  | [], [] => true
  | .ref a :: us, ys :: r => tupA K a ys && tupsA K us r
  | _, _ => false
theorem tupsA_ok {K : PySem.W.Frag} : ∀ {us : List Value} {yss : List (List Str)}, tupsA K us yss = true → TupsS K us yss
  | [], [], _ => trivial
  | [], _ :: _, h => by unfold tupsA at h; cases h
  | .ref a :: us, ys :: r, h => by
    unfold tupsA at h
    obtain ⟨h1, h2⟩ := ba h
    exact ⟨tupA_ok h1, tupsA_ok h2⟩
  | .ref _ :: _, [], h => by unfold tupsA at h; cases h
  | .int _ _ :: _, _, h => by unfold tupsA at h; cases h
  | u :: us, yss, h => by
    cases u <;> cases yss <;> first | (unfold tupsA at h; cases h; done) | skip
    rename_i a ys r
    unfold tupsA at h
    obtain ⟨h1, h2⟩ := ba h
    exact ⟨tupA_ok h1, tupsA_ok h2⟩
def Tup2 (K : PySem.W.Frag) (a : Addr) (yss : List (List Str)) : Prop := ∃ (o : Obj) (its : Array Value) (n : Nat), K.lookup a = some o ∧ o.cls = .type "tuple" ∧ o.data = .seq its n ∧ its.size ≤ sizeLine ∧ TupsS K its.toList yss
def tup2B (K : PySem.W.Frag) (p : Str × List (List Str)) : Bool := (Fa.glo p.1).ok K && (match K.lookup (ga K p.1) with
  | some o => decide (o.cls = .type "tuple") && (match o.data with
    | .seq its _ => tupsA K its.toList p.2 && decide (its.size ≤ 1000)
    | _ => false)
  | none => false)
theorem tup2B_ok {K : PySem.W.Frag} {p : Str × List (List Str)} (h : tup2B K p = true) : (Fa.glo p.1).ok K = true ∧ Tup2 K (ga K p.1) p.2 := by
  obtain ⟨h1, h2⟩ := ba h
  refine ⟨h1, ?_⟩
  split at h2
  · rename_i o e
    obtain ⟨h3, h4⟩ := ba h2
    split at h4
    · rename_i its n e2
      obtain ⟨h5, h6⟩ := ba h4
      have h6 := of_decide_eq_true h6
      exact ⟨o, its, n, e, of_decide_eq_true h3, e2, by rw [sizeLine_eq]; omega, tupsA_ok h5⟩
    · cases h4
  · cases h2
def bases : List String := ["NoneType", "bool", "int", "str", "tuple", "list"]
def kitB1 (K : PySem.W.Frag) (t c : Value) (b : Bool) : Bool := decide (PySem.W.kitOne K t c = some b)
def isoB (K : PySem.W.Frag) : Bool := decide (PySem.W.specialIn K (.builtin "object.__class__") "__get__" = some (some (.builtin "getset_descriptor.__get__"))) && decide (PySem.W.takesIn K (.builtin "object.__class__") = some true)
def objB (K : PySem.W.Frag) (c : Str) : Bool := eqO (PySem.W.findIn K (.ref (ga K c)) "__class__") (some (some (.builtin "object.__class__"))) && decide (PySem.W.mroIn K (ga K c) (.type "object") = some true)
def ex0B (K : PySem.W.Frag) (c : Str) : Bool := PySem.W.excIn K (ga K c) veBase "ValueError.__new__" && (PySem.W.keepIn K (.ref (ga K c)) && (decide (PySem.W.subIn K (.ref (ga K c)) (.type "BaseException") = some true) && decide (PySem.W.typeIn K (.ref (ga K c)) = some (.type "type"))))
def ctB (T : CTb) (K : PySem.W.Frag) : Bool :=
  ((T.cls ++ T.exs).all fun c => (Fa.glo c).ok K) && ((T.cls.all fun c => (Fa.cls c).ok K && objB K c) && (isoB K && ((T.flds.all fun p => (Fa.noat p.1 p.2).ok K) &&
  (((T.cls ++ T.exs).all fun c => T.tgt.all fun y => kitB1 K (.ref (ga K c)) (.ref (ga K y)) (T.isa c y)) && ((T.tgt.all fun y => bases.all fun t => kitB1 K (.type t) (.ref (ga K y)) false) &&
  ((T.exs.all fun c => kitB1 K (.ref (ga K c)) (.type "ValueError") true && (xfB K (ga K c) && objB K c)) && ((T.exs.all fun c => T.cat.all fun y => decide (PySem.W.exmOne K (.ref (ga K c)) (.ref (ga K y)) = some (T.isa c y))) &&
  ((T.ex0.all fun c => ex0B K c && (Fa.glo c).ok K) && ((T.meth.all fun p => (Fa.meth p.1 p.2).ok K) && ((T.mkd.all fun c => (Fa.mkr c).ok K) && ((T.gints.all fun p => (Fa.int p.1 p.2).ok K) && ((T.gstrs.all fun p => (Fa.str p.1 p.2).ok K) && ((T.gtups.all fun p => tupB K p) && ((T.gtup2.all fun p => tup2B K p) && T.des.all fun p => tupA K (He.dflAt p.1 p.2 K) []))))))))))))))
structure KC (K : PySem.W.Frag) (mg : Str → Option Value) (C : Str → Addr) (T : CTb) : Prop where
  glo : ∀ c ∈ T.cls ++ T.exs, mg c = some (.ref (C c))
  cls : ∀ c ∈ T.cls, Cls K (C c)
  obj : ∀ c ∈ T.cls, PySem.W.findIn K (.ref (C c)) "__class__" = some (some (.builtin "object.__class__")) ∧ PySem.W.mroIn K (C c) (.type "object") = some true
  sp : PySem.W.specialIn K (.builtin "object.__class__") "__get__" = some (some (.builtin "getset_descriptor.__get__"))
  tk : PySem.W.takesIn K (.builtin "object.__class__") = some true
  no : ∀ p ∈ T.flds, PySem.W.findIn K (.ref (C p.1)) p.2 = some none
  isa : ∀ c ∈ T.cls ++ T.exs, ∀ y ∈ T.tgt, PySem.W.kitOne K (.ref (C c)) (.ref (C y)) = some (T.isa c y)
  bs : ∀ y ∈ T.tgt, ∀ t ∈ bases, PySem.W.kitOne K (.type t) (.ref (C y)) = some false
  ve : ∀ c ∈ T.exs, PySem.W.kitOne K (.ref (C c)) (.type "ValueError") = some true
  xf : ∀ c ∈ T.exs, XfC K (C c)
  xc : ∀ c ∈ T.exs, ExcC K (C c)
  exm : ∀ c ∈ T.exs, ∀ y ∈ T.cat, PySem.W.exmOne K (.ref (C c)) (.ref (C y)) = some (T.isa c y)
  x0 : ∀ c ∈ T.ex0, Ex0 K mg C c
  meth : ∀ p ∈ T.meth, Meth K (C p.1) p.2 (ma K (C p.1) p.2)
  mks : ∀ c ∈ T.mkd, Mk K (C c) (ma K (C c) "__init__")
  gi : ∀ p ∈ T.gints, ∃ t, mg p.1 = some (.int p.2 t)
  gs : ∀ p ∈ T.gstrs, ∃ t, mg p.1 = some (.str p.2 t)
  gt : ∀ p ∈ T.gtups, mg p.1 = some (.ref (C p.1)) ∧ ∃ (o : Obj) (its : Array Value) (n : Nat), K.lookup (C p.1) = some o ∧ o.cls = .type "tuple" ∧ o.data = .seq its n ∧ its.size ≤ sizeLine ∧ Vals (p.2.map V.str) its.toList
  gt2 : ∀ p ∈ T.gtup2, mg p.1 = some (.ref (C p.1)) ∧ Tup2 K (C p.1) p.2
  de : ∀ p ∈ T.des, TupS K (He.dflAt p.1 p.2 K) []
theorem kc_of {T : CTb} {K : PySem.W.Frag} {h : Heap} {mg : Str → Option Value} (X : K.In h) (G : h.Ns mainGlobals mg) (c : ctB T K = true) : KC K mg (ga K) T := by
  obtain ⟨b1, c⟩ := ba c
  obtain ⟨b2, c⟩ := ba c
  obtain ⟨b3, c⟩ := ba c
  obtain ⟨b4, c⟩ := ba c
  obtain ⟨b5, c⟩ := ba c
  obtain ⟨b6, c⟩ := ba c
  obtain ⟨b7, c⟩ := ba c
  obtain ⟨b8, c⟩ := ba c
  obtain ⟨b9, c⟩ := ba c
  obtain ⟨b10, c⟩ := ba c
  obtain ⟨b11, c⟩ := ba c
  obtain ⟨b12, c⟩ := ba c
  obtain ⟨b13, c⟩ := ba c
  obtain ⟨b14, c⟩ := ba c
  obtain ⟨b15, b16⟩ := ba c
  obtain ⟨s1, s2⟩ := ba b3
  have s1 := of_decide_eq_true s1
  have s2 := of_decide_eq_true s2
  have hcl : ∀ c ∈ T.cls, (Fa.cls c).ok K = true ∧ objB K c = true := fun c hc => ba (List.all_eq_true.mp b2 c hc)
  have hob : ∀ {c}, objB K c = true → PySem.W.findIn K (.ref (ga K c)) "__class__" = some (some (.builtin "object.__class__")) ∧ PySem.W.mroIn K (ga K c) (.type "object") = some true := fun {c} z => by
    obtain ⟨z1, z2⟩ := ba z
    exact ⟨eqO_ok z1, of_decide_eq_true z2⟩
  have hex : ∀ c ∈ T.exs, PySem.W.kitOne K (.ref (ga K c)) (.type "ValueError") = some true ∧ XfC K (ga K c) ∧ objB K c = true := fun c hc => by
    obtain ⟨z1, z⟩ := ba (List.all_eq_true.mp b7 c hc)
    obtain ⟨z2, z3⟩ := ba z
    exact ⟨of_decide_eq_true z1, xfB_ok z2, z3⟩
  have hmeth : ∀ {x m}, (Fa.meth x m).ok K = true → Meth K (ga K x) m (ma K (ga K x) m) := fun {x m} z => by
    obtain ⟨z1, z⟩ := ba z
    obtain ⟨z2, z3⟩ := ba z
    exact ⟨eqO_ok z1, z2, z3⟩
  exact {
    glo := fun c hc => glo_ok X G (List.all_eq_true.mp b1 c hc)
    cls := fun c hc => cls_ok (hcl c hc).1
    obj := fun c hc => hob (hcl c hc).2
    sp := s1
    tk := s2
    no := fun p hp => eqO_ok (List.all_eq_true.mp b4 p hp)
    isa := fun c hc y hy => of_decide_eq_true (List.all_eq_true.mp (List.all_eq_true.mp b5 c hc) y hy)
    bs := fun y hy t ht => of_decide_eq_true (List.all_eq_true.mp (List.all_eq_true.mp b6 y hy) t ht)
    ve := fun c hc => (hex c hc).1
    xf := fun c hc => (hex c hc).2.1
    xc := fun c hc => by
      obtain ⟨_, x, o⟩ := hex c hc
      obtain ⟨o1, o2⟩ := hob o
      exact ⟨x.ga, x.gg, x.exC, x.hdC, o1, s1, s2, o2⟩
    exm := fun c hc y hy => of_decide_eq_true (List.all_eq_true.mp (List.all_eq_true.mp b8 c hc) y hy)
    x0 := fun c hc => by
      obtain ⟨z, z5⟩ := ba (List.all_eq_true.mp b9 c hc)
      obtain ⟨z1, z⟩ := ba z
      obtain ⟨z2, z⟩ := ba z
      obtain ⟨z3, z4⟩ := ba z
      exact ⟨z1, glo_ok X G z5, z2, of_decide_eq_true z3, of_decide_eq_true z4⟩
    meth := fun p hp => hmeth (List.all_eq_true.mp b10 p hp)
    mks := fun c hc => by
      obtain ⟨z1, z⟩ := ba (List.all_eq_true.mp b11 c hc)
      obtain ⟨z2, z⟩ := ba z
      obtain ⟨z3, z4⟩ := ba z
      exact ⟨z1, eqO_ok z2, z3, z4⟩
    gi := fun p hp => int_ok X G (List.all_eq_true.mp b12 p hp)
    gs := fun p hp => str_ok X G (List.all_eq_true.mp b13 p hp)
    gt := fun p hp => by
      obtain ⟨z1, z2⟩ := tupB_ok (List.all_eq_true.mp b14 p hp)
      exact ⟨glo_ok X G z1, z2⟩
    gt2 := fun p hp => by
      obtain ⟨z1, z2⟩ := tup2B_ok (List.all_eq_true.mp b15 p hp)
      exact ⟨glo_ok X G z1, z2⟩
    de := fun p hp => tupA_ok (List.all_eq_true.mp b16 p hp) }
section
variable {K : PySem.W.Frag} {mg : Str → Option Value} {C : Str → Addr} {T : CTb}
theorem KC.fld (kc : KC K mg C T) {cs : List Str} {f : Str} (h : (cs.all fun c => T.cls.contains c && T.flds.contains (c, f)) = true := by decide +kernel) : FldOk K C cs f := fun c hc => by
  obtain ⟨h1, h2⟩ := ba (List.all_eq_true.mp h c hc)
  exact ⟨kc.cls c (List.contains_iff_mem.mp h1), kc.no (c, f) (List.contains_iff_mem.mp h2)⟩
theorem KC.g (kc : KC K mg C T) {c : Str} (h : (T.cls ++ T.exs).contains c = true := by decide +kernel) : mg c = some (.ref (C c)) := kc.glo c (List.contains_iff_mem.mp h)
theorem KC.int (kc : KC K mg C T) {x : Str} {i : Int} (h : T.gints.contains (x, i) = true := by decide +kernel) : ∃ t, mg x = some (.int i t) := kc.gi (x, i) (List.contains_iff_mem.mp h)
theorem KC.str (kc : KC K mg C T) {x z : Str} (h : T.gstrs.contains (x, z) = true := by decide +kernel) : ∃ t, mg x = some (.str z t) := kc.gs (x, z) (List.contains_iff_mem.mp h)
theorem KC.tup (kc : KC K mg C T) {x : Str} {ys : List Str} (h : T.gtups.contains (x, ys) = true := by decide +kernel) : mg x = some (.ref (C x)) ∧ ∃ (o : Obj) (its : Array Value) (n : Nat), K.lookup (C x) = some o ∧ o.cls = .type "tuple" ∧ o.data = .seq its n ∧ its.size ≤ sizeLine ∧ Vals (ys.map V.str) its.toList := kc.gt (x, ys) (List.contains_iff_mem.mp h)
theorem KC.ex0 (kc : KC K mg C T) {c : Str} (h : T.ex0.contains c = true := by decide +kernel) : Ex0 K mg C c := kc.x0 c (List.contains_iff_mem.mp h)
theorem KC.ext (kc : KC K mg C T) {y : Str} {exs : List Str} (h : (T.cat.contains y && exs.all fun c => T.exs.contains c && T.isa c y) = true := by decide +kernel) : ExT K C exs (.ref (C y)) := by
  obtain ⟨h1, h2⟩ := ba h
  exact ⟨fun c hc => by
    obtain ⟨h3, h4⟩ := ba (List.all_eq_true.mp h2 c hc)
    rw [kc.exm c (List.contains_iff_mem.mp h3) y (List.contains_iff_mem.mp h1), h4]⟩
theorem KC.xsub (kc : KC K mg C T) {exs : List Str} (h : (exs.all fun c => T.exs.contains c) = true := by decide +kernel) {c : Str} (hc : c ∈ exs) : c ∈ T.exs := List.contains_iff_mem.mp (List.all_eq_true.mp h c hc)
theorem KC.mt (kc : KC K mg C T) {c m : Str} (h : T.meth.contains (c, m) = true := by decide +kernel) : Meth K (C c) m (ma K (C c) m) := kc.meth (c, m) (List.contains_iff_mem.mp h)
theorem KC.mkr (kc : KC K mg C T) {c : Str} (h : T.mkd.contains c = true := by decide +kernel) : Mk K (C c) (ma K (C c) "__init__") := kc.mks c (List.contains_iff_mem.mp h)
theorem KC.cl (kc : KC K mg C T) {c : Str} (h : T.cls.contains c = true := by decide +kernel) : Cls K (C c) := kc.cls c (List.contains_iff_mem.mp h)
end
structure ExD where
  c : Str
  f : Str
  p : Str
  params : Arguments
  body : List Stmt
  scope : Scope
abbrev ExW : Type := Option (Arguments × FuncBody × Scope × Addr × Addr)
def exW (K : PySem.W.Frag) (c : Str) : ExW := match K.lookup (ma K (ga K c) "__init__") with
  | some ⟨_, _, .func fd, _⟩ => some (fd.params, fd.body, fd.scope, fd.globals, fd.builtins)
  | _ => none
def ExD.val (d : ExD) : ExW := some (d.params, .stmts d.body, d.scope, mainGlobals, builtinsNs)
structure ExSt (d : ExD) : Prop where
  ps : (d.params.posonlyargs ++ d.params.args).head?.map (·.arg) = some ("self" : Str)
  co : d.scope.isCoroutine = false
  ge : d.scope.isGenerator = false
  ki : d.scope.kind = .function
  nc : (d.scope.names.all fun q => decide (q.2 ≠ .cell)) = true
  nS : d.scope.names.lookup ("self" : Str) = some .local
  nP : d.scope.names.lookup d.p = some .local
  nU : d.scope.names.lookup ("super" : Str) = some .globalImplicit
  nC : d.scope.names.lookup ("__class__" : Str) = some .free
  fr : (d.scope.names.all fun q => decide (q.2 ≠ .free) || decide (q.1 = "__class__")) = true
  ne : decide (d.p ≠ "self" ∧ d.p ≠ ("__debug__" : Str) ∧ d.p ≠ ("__classdict__" : Str)) = true
  body : exShape d.body d.f d.p
  bd : ∀ (nm qn : Str) (gl bl : Addr) (cl : List (Str × Addr)) (kV doc pm cdv ct : Value) (an : Option Addr) (us : List Value), us.length = 2 →
    bindArgs ⟨nm, qn, d.params, .stmts d.body, d.scope, gl, cl, .none, kV, doc, pm, an, cdv, ct, bl⟩ ⟨us, []⟩ = pure ((["self", d.p] : List Str).zip us)
def oexB (K : PySem.W.Frag) (C : Addr) : Bool := (match K.lookup C with
  | some ⟨.type "type", _, .cls cd, sl⟩ => (match cd.mro, sl.toList with
    | .ref C' :: bm, [_, _, _, _, some (.builtin n), _] => decide (C' = C) && (decide (n = "ValueError.__new__") && (cd.hasDict && (!cd.hasDel && PySem.HandSPX.refsVE bm)))
    | _, _ => false)
  | _ => false) && (eqO (PySem.W.findIn K (.ref C) "__setattr__") (some (some (.builtin "object.__setattr__"))) && (decide (PySem.W.subIn K (.ref C) (.type "BaseException") = some true) && (decide (PySem.W.typeIn K (.ref C) = some (.type "type")) && PySem.W.keepIn K (.ref C))))
theorem oexB_ok {K : PySem.W.Frag} {C : Addr} (h : oexB K C = true) : OexC K C := by
  obtain ⟨h1, h⟩ := ba h
  obtain ⟨h2, h⟩ := ba h
  obtain ⟨h3, h⟩ := ba h
  obtain ⟨h4, h5⟩ := ba h
  refine ⟨?_, eqO_ok h2, of_decide_eq_true h3, of_decide_eq_true h4, h5⟩
  split at h1
  · rename_i dd cd sl ho
    split at h1
    · rename_i C' bm k0 k1 k2 k3 n k5 hm hs
      obtain ⟨e1, h1⟩ := ba h1
      obtain ⟨e2, h1⟩ := ba h1
      obtain ⟨e3, h1⟩ := ba h1
      obtain ⟨e4, e5⟩ := ba h1
      have e1 := of_decide_eq_true e1
      have e2 := of_decide_eq_true e2
      subst e1 e2
      obtain ⟨nm, bs, mro, ns, qn, hd, sn, sb, ab, col, del⟩ := cd
      dsimp only at hm e3 e4
      have e4 : del = false := by simpa using e4
      subst hm e3 e4
      have hsl : sl = #[k0, k1, k2, k3, some (.builtin "ValueError.__new__"), k5] := by
        obtain ⟨l⟩ := sl
        simp only at hs
        rw [hs]
      subst hsl
      exact ⟨nm, qn, ns, bs, bm, sn, sb, ab, col, dd, k0, k1, k2, k3, k5, ho, e5⟩
    · cases h1
  · cases h1
def exB (P : Program) (K : PySem.W.Frag) (d : ExD) : Bool := oexB K (ga K d.c) && ((Fa.glo d.c).ok K && (eqO (PySem.W.findIn K (.ref (ga K d.c)) "__init__") (some (some (.ref (ma K (ga K d.c) "__init__")))) &&
  (decide (PySem.W.typeIn K (.ref (ma K (ga K d.c) "__init__")) = some (.type "function")) && ((match K.lookup (ma K (ga K d.c) "__init__") with
    | some ⟨_, _, .func fd, _⟩ => decide (fd.defaults = .none) && ((match fd.closure with
      | [(x, cc)] => decide (x = "__class__") && (match K.lookup cc with
        | some ⟨_, _, .cell (some (.ref C')), _⟩ => decide (C' = ga K d.c)
        | _ => false)
      | _ => false) && (PySem.W.codeIn K fd.code fd.qualname && (match fd.code with
        | .ref c => (match K.lookup c with
          | some ⟨_, _, .fields vs, _⟩ => (match (vs[2]? : Option Value) with
            | some (Value.str file _) => ((P.main.file : Str) == file)
            | _ => false)
          | _ => false)
        | _ => false)))
    | _ => false) && ((PySem.W.clsIn K (ga K d.c)).isSome && (decide (PySem.W.mroIn K (ga K d.c) (.ref (ga K d.c)) = some true) && (eqO (PySem.W.ks_superIn K (ga K d.c) (ga K d.c) "__init__") (some (some (.builtin "ValueError.__init__"))) &&
    (decide (PySem.W.subIn K (.ref (ga K d.c)) (.type "ValueError") = some true) && (eqO (PySem.W.nsIn K cStatics "thirdparty.any") (some none) && (PySem.W.excInitIn K (ga K d.c) veBase "ValueError.__new__" && eqO (PySem.W.findIn K (.ref (ga K d.c)) d.f) (some none)))))))))))
theorem exIn_of {P : Program} {w : World} {K : PySem.W.Frag} {h : Heap} {mg : Str → Option Value} {base : Heap} {d : ExD} (X : K.In h) (G : h.Ns mainGlobals mg) (st : ExSt d) (ob : exW K d.c = d.val) (c : exB P K d = true) (top : (P.main.scope.names.lookup ("super" : Str)).isSome = false) (hsup : mg "super" = none) :
    Ex1 P w K mg base (ga K) d.c d.f := by
  obtain ⟨c1, c⟩ := ba c
  obtain ⟨c2, c⟩ := ba c
  obtain ⟨c3, c⟩ := ba c
  obtain ⟨c4, c⟩ := ba c
  obtain ⟨c5, c⟩ := ba c
  obtain ⟨c6, c⟩ := ba c
  obtain ⟨c7, c⟩ := ba c
  obtain ⟨c8, c⟩ := ba c
  obtain ⟨c9, c⟩ := ba c
  obtain ⟨c10, c⟩ := ba c
  obtain ⟨c11, c12⟩ := ba c
  obtain ⟨n1, n2, n3⟩ := of_decide_eq_true st.ne
  unfold exW at ob
  cases q : K.lookup (ma K (ga K d.c) "__init__") with
  | none => rw [q] at c5; cases c5
  | some o =>
    obtain ⟨oc, od, dt, osl⟩ := o
    rw [q] at c5 ob
    cases dt with
    | func fd =>
      obtain ⟨f1, f2, f3, f4, f5, f6, f7, f8, f9, f10, f11, f12, f13, f14, f15⟩ := fd
      have ob2 : (some (f3, f4, f5, f6, f15) : ExW) = some (d.params, .stmts d.body, d.scope, mainGlobals, builtinsNs) := ob
      simp only [Option.some.injEq, Prod.mk.injEq] at ob2
      obtain ⟨e1, e2, e3, e4, e5⟩ := ob2
      subst e1 e2 e3 e4 e5
      obtain ⟨k1, k⟩ := ba c5
      obtain ⟨k2, k⟩ := ba k
      obtain ⟨k3, k4⟩ := ba k
      have k1 : f8 = .none := of_decide_eq_true k1
      subst k1
      refine ⟨oexB_ok c1, glo_ok X G c2, _, _, ["self", d.p], eqO_ok c3, of_decide_eq_true c4, fun CX => exinit_fn (fd := ⟨f1, f2, d.params, .stmts d.body, d.scope, mainGlobals, f7, .none, f9, f10, f11, f12, f13, f14, builtinsNs⟩) ?_ hsup, .all fun us hu => st.bd _ _ _ _ _ _ _ _ _ _ _ us hu⟩
      refine { lk := ⟨_, _, _, q⟩, tf := of_decide_eq_true c4, ps := st.ps, gl := rfl, bl := rfl, co := st.co, ge := st.ge, ki := st.ki, nc := fun x hx => of_decide_eq_true (List.all_eq_true.mp st.nc x hx), nS := st.nS, nP := st.nP, nU := st.nU, nC := st.nC, fr := fun x hx => ?_,
               ne := n1, nd1 := n2, nd2 := n3, clo := ?_, code := ?_, body := ⟨_, rfl, st.body⟩, top := top, cd := ?_, mro := of_decide_eq_true c7, sup := eqO_ok c8, sub := of_decide_eq_true c9, opq := eqO_ok c10, ei := c11, oc := oexB_ok c1, no := eqO_ok c12 }
      · have := List.all_eq_true.mp st.fr _ (PySem.mem_of_lookup hx)
        simp only [Bool.or_eq_true, decide_eq_true_eq] at this
        rcases this with z | z
        · exact absurd rfl z
        · exact z
      · have k2' := k2
        dsimp only at k2'
        split at k2'
        · rename_i x cc e
          obtain ⟨z1, z2⟩ := ba k2'
          have z1 := of_decide_eq_true z1
          subst z1
          split at z2
          · rename_i c0 d0 C' s0 e2
            have z2 := of_decide_eq_true z2
            subst z2
            exact ⟨cc, _, _, _, rfl, e2⟩
          · cases z2
        · cases k2'
      · cases f13 with
        | ref cda =>
          have k4' : (match K.lookup cda with
          | some ⟨_, _, .fields vs, _⟩ => (match (vs[2]? : Option Value) with
            | some (Value.str file _) => ((P.main.file : Str) == file)
            | _ => false)
          | _ => false) = true := k4
          cases e1 : K.lookup cda with
          | none => rw [e1] at k4'; cases k4'
          | some oo =>
            obtain ⟨oc1, od1, dt1, sl1⟩ := oo
            rw [e1] at k4'
            cases dt1 with
            | fields vs =>
              dsimp only at k4'
              cases e2 : (vs[2]? : Option Value) with
              | none => rw [e2] at k4'; cases k4'
              | some vv =>
                rw [e2] at k4'
                cases vv with
                | str file tf => exact ⟨cda, _, _, _, _, _, _, rfl, k3, e1, e2, k4'⟩
                | _ => cases k4'
            | _ => cases k4'
        | _ => cases k4
      · exact Option.isSome_iff_exists.mp c6
    | _ => cases c5
abbrev AlY : Type := AlD × List ExW × Bool
def obsY (fa : List Fa) (fn : List DefD) (T : CTb) (xd : List ExD) (P : Program) (K : PySem.W.Frag) : AlY := (obsD fa fn K, xd.map (fun d => exW K d.c), ctB T K && xd.all (exB P K))
def valY (fn : List DefD) (xd : List ExD) : AlY := (valD fn, xd.map ExD.val, true)
def SaysY (fa : List Fa) (fn : List DefD) (T : CTb) (xd : List ExD) (P : Program) (K : PySem.W.Frag) : Prop := obsY fa fn T xd P K = valY fn xd
section
variable {fa : List Fa} {fn : List DefD} {T : CTb} {xd : List ExD} {P : Program} {K : PySem.W.Frag}
theorem SaysY.d (c : SaysY fa fn T xd P K) : SaysD fa fn K := congrArg (fun z : AlY => z.1) c
theorem SaysY.ct (c : SaysY fa fn T xd P K) : ctB T K = true := (ba (show (ctB T K && xd.all (exB P K)) = true from congrArg (fun z : AlY => z.2.2) c)).1
theorem SaysY.xb (c : SaysY fa fn T xd P K) {d : ExD} (h : d ∈ xd) : exB P K d = true := List.all_eq_true.mp (ba (show (ctB T K && xd.all (exB P K)) = true from congrArg (fun z : AlY => z.2.2) c)).2 d h
theorem SaysY.xw (c : SaysY fa fn T xd P K) (i : Nat) {d : ExD} (h : xd[i]? = some d) : exW K d.c = d.val := by
  have e : xd.map (fun d => exW K d.c) = xd.map ExD.val := congrArg (fun z : AlY => z.2.1) c
  have e2 : (xd.map fun d => exW K d.c)[i]? = (xd.map ExD.val)[i]? := by rw [e]
  rw [List.getElem?_map, List.getElem?_map, h] at e2
  exact Option.some.inj e2
end
end Dl
namespace Dl
open PySem PySem.Spec PyProof.Rows L2 He
def refsZ (o : Obj) : List Addr := match o.data with
  | .func fd => refV fd.code ++ refV fd.defaults ++ refV fd.kwdefaults ++ fd.closure.map (·.2)
  | .dict es _ => es.toList.flatMap fun e => refV e.val
  | .cls cd => cd.ns :: cd.mro.tail.flatMap refV
  | .seq its _ => its.toList.flatMap refV
  | .fields vs => vs.toList.flatMap refV
  | .cell (some v) => refV v
  | _ => []
def lvlZ (g : Addr → Option Obj) : Nat → List Addr → List Addr
  | 0, as => as
  | n + 1, as => as ++ lvlZ g n (as.flatMap fun a => match g a with
    | some o => refsZ o
    | none => [])
def asZ (g : Addr → Option Obj) (n : Nat) : List Addr := lvlZ g n [mainGlobals, cStatics]
end Dl
namespace Dl
open PySem PySem.Spec PyProof.Rows L2
def gNs : List Nat → TGs
  | [] => gNil
  | i :: is => gCons (gName i) (gNs is)
section
variable {X : Cx} {C : Str → Addr} {W : WX} {k : Nat} {bl : Str → Bool} {a b c e tg iter : Expr} {es : List Expr} {fa fb fc fe : DE} {fi : DA} {pos p p1 p2 p3 : Pos} {g1 : DS} {s1 : List Stmt} {is : List Nat} {z : Nat}
inductive PNs (X : Cx) : List Expr → List Nat → Prop
  | nil : PNs X [] []
  | cons {x : Str} {i : Nat} {p : Pos} {es : List Expr} {is : List Nat} : PG X (.Name x p) (gName i) → PNs X es is → ((assignEach (.Name x p :: es) X.env).map (·.2) = assign (.Name x p) X.env :: (assignEach es X.env).map (·.2)) → PNs X (.Name x p :: es) (i :: is)
theorem PNs.gs : ∀ {es : List Expr} {is : List Nat}, PNs X es is → PGs X es (gNs is)
  | _, _, .nil => pgs_nil
  | _, _, .cons h t q => pgs_cons h t.gs q
end
end Dl
namespace Dl
open PySem PySem.Spec PyProof.Rows L2
theorem GS.tr {X : Cx} {W W' : WX} {k : Nat} {bl : Str → Bool} (g : GS X W k bl) {pn : List (Addr × Obj)} {xe : Value → Shared → Prop} (tk : L2N.Takes (X.tr pn xe) W') (po : PassesOwn (model X.prog X.w) X.A X.env xe) : GS (X.tr pn xe) W' k bl :=
  ⟨⟨g.calm, g.room, tk, g.bl⟩, po⟩
end Dl
open PySem L2 Dl in
local macro_rules | `(tactic| walk_at "dl") => `(tactic| simp only [dSeq, dSet, dSetN, dIfS, dRet, dRetV, dRetN, dExpr, dBreak, dCont, dNext, dFrz, frz, dApp, dExt, dSetIx, dFor, dVar, dVarQ, dC, dImm, dLst, d1, d2, n1, n2, dNil, dCons, dTup, dCall, dCallQ, dB, dTru, gTru, dNot, dAnd, dOr, dAndV, dOrV, dNotV, dIf, dSl, nSl, oNo, oSome, iIt, iR1, iR2, iStrD, gItems, dLc, dYes, dRd, kD, DK.xq, gAdd, gMns, gI2, gCmp, gNeg, gLen, gInt, gStr, gMin, gMax, gListN, gTuple, gRevN, gCat, gSlN, gSl, gIx_rd0, gIx_rd1, gIx_rd2, gEq_int, gNe_int, gIn_tI, gIn_lI, List.getElem?_cons_zero, List.getElem?_cons_succ, List.set_cons_zero, List.set_cons_succ, if_true, if_false, Bool.false_eq_true, ite_true, ite_false])
namespace Rnd
open PySem L2 Dl
def b__law_cell : DS :=
  dSeq (dIfS (dB (d2 gLt (dVar 1) (d1 gLen (dVar 0))))
    (dRet (d2 gIx (dVar 0) (dVar 1)))
    dNext)
  (dRet (dC (.int 0)))
def b__law_reader : DS :=
  dRet (dRd (dCons (dVar 0) (dCons (dC (.int 0)) (dCons (d2 gMns (dVar 0) (d2 gPow (dC (.int 10)) (dC (.int 18)))) dNil))))
def b__law_next : DS :=
  dSeq (dSet 2 (d2 gIx (dVar 0) (dC (.int 1))))
  (dSeq (dSetIx 0 (dC (.int 1)) (d2 gAdd (dVar 2) (dC (.int 1))))
  (dSeq (dIfS (dAnd (dB (d2 gGe (d2 gIx (dVar 0) (dC (.int 0))) (d2 gPow (dC (.int 10)) (dC (.int 18))))) (dB (d2 gGt (d2 gIx (dVar 0) (dC (.int 2))) (dC (.int 0)))))
    (dSeq (dSet 3 (d2 gIx (dVar 0) (dC (.int 2))))
    (dSeq (dSetIx 0 (dC (.int 2)) (d2 gFdiv (dVar 3) (dVar 1)))
    (dRet (d2 gMod (d1 gInt (dVar 3)) (dVar 1)))))
    dNext)
  (dSeq (dSet 4 (d2 gMod (d1 gInt (d2 gAdd (d2 gAdd (d2 gIx (dVar 0) (dC (.int 0))) (d2 gMul (dC (.int 7919)) (dVar 2))) (dC (.int 13)))) (dC (.int 2147483647))))
  (dSeq (dSet 4 (d2 gMod (d1 gInt (d2 gMul (dVar 4) (d2 gAdd (dVar 4) (dC (.int 48271))))) (dC (.int 2147483629))))
  (dSeq (dSet 4 (d2 gMod (d1 gInt (d2 gAdd (d2 gMul (dVar 4) (d2 gAdd (dVar 4) (dC (.int 69621)))) (d2 gMul (dC (.int 31)) (dVar 2)))) (dC (.int 2147483647))))
  (dRet (d2 gMod (d1 gInt (d2 gFdiv (dVar 4) (dC (.int 9)))) (dVar 1))))))))
theorem p_cell (ds : List D) (Qd : D → Prop) (Xq : XQ) (h : S_cell ds Qd Xq) : b__law_cell (kD Qd Xq) (startD 2 ds) := by
  obtain ⟨ns, k, rfl, h0, h⟩ := h
  show b__law_cell (kD Qd Xq) [.fz (.scr ns), .fz (.int k)]
  unfold b__law_cell
  walk_at "dl"
  by_cases hk : k < (ns.length : Int)
  · rw [if_pos (decide_eq_true hk)]
    obtain ⟨a, e, _⟩ := atI_in h0 hk
    rw [gIx_scr e]
    exact h a
  · rw [if_neg (by simpa using hk)]
    exact h 0
theorem p_reader (ds : List D) (Qd : D → Prop) (Xq : XQ) (h : S_reader ds Qd Xq) : b__law_reader (kD Qd Xq) (startD 1 ds) := by
  obtain ⟨c, rfl, h⟩ := h
  show b__law_reader (kD Qd Xq) [.fz (.int c)]
  unfold b__law_reader
  walk_at "dl"
  exact ⟨⟨by decide, by decide, by decide⟩, ⟨c, 0, _, rfl⟩, h⟩
theorem p_next (ds : List D) (Qd : D → Prop) (Xq : XQ) (h : S_next ds Qd Xq) : b__law_next (kD Qd Xq) (startD 5 ds) := by
  obtain ⟨size, rfl, h0, h1, h⟩ := h
  show b__law_next (kD Qd Xq) [.fz .rd, .fz (.int size), .un, .un, .un]
  unfold b__law_next
  walk_at "dl"
  have hm : ∀ n : Int, Qd (.int (n % size)) := fun n => h _ (Int.emod_nonneg _ (by omega)) (Int.emod_lt_of_pos _ h0)
  have hc : ∀ n m : Int, (0 < m ∧ m ≤ 2147483647) → CMul (n % m) (n % m + 48271) := fun n m hm => by
    have a := Int.emod_nonneg n (b := m) (by omega)
    have b := Int.emod_lt_of_pos n (b := m) (by omega)
    generalize n % m = z at a b
    exact .inl ⟨by omega, by omega⟩
  have hc2 : ∀ n m : Int, (0 < m ∧ m ≤ 2147483647) → CMul (n % m) (n % m + 69621) := fun n m hm => by
    have a := Int.emod_nonneg n (b := m) (by omega)
    have b := Int.emod_lt_of_pos n (b := m) (by omega)
    generalize n % m = z at a b
    exact .inl ⟨by omega, by omega⟩
  intro k0
  refine ⟨by decide, by decide, fun c0 => ⟨⟨by decide, by decide, by decide⟩, ?_⟩⟩
  have tail : ∀ n : Int, CMul 7919 k0 ∧ (0 : Int) < 2147483647 ∧ CMul ((n + 7919 * k0 + 13) % 2147483647) ((n + 7919 * k0 + 13) % 2147483647 + 48271) := fun n => ⟨.inl ⟨by decide, by decide⟩, by decide, hc _ _ ⟨by decide, by decide⟩⟩
  have c31 : CMul 31 k0 := .inl ⟨by decide, by decide⟩
  have c9 : ∀ n : Int, CDiv n 9 := fun n => ⟨by decide, by decide⟩
  split
  · intro n
    split
    · intro m
      exact ⟨⟨h0, h1⟩, by decide, by decide, h0, hm _⟩
    · intro m
      exact ⟨(tail m).1, by decide, (tail m).2.2, by decide, hc2 _ _ ⟨by decide, by decide⟩, c31, by decide, c9 _, h0, hm _⟩
  · intro m
    exact ⟨(tail m).1, by decide, (tail m).2.2, by decide, hc2 _ _ ⟨by decide, by decide⟩, c31, by decide, c9 _, h0, hm _⟩
end Rnd
namespace Dl
open PySem PySem.Spec PyProof.Rows L2 HT
section
variable {prog : Program} {w : World} {A : Around} {E : Value → Shared → Prop} {s : Shared}
end
end Dl
namespace Dl
open PySem PySem.Spec PyProof.Rows L2
def idxD (ys : List Str) (y : D) (Q : D → Prop) : Prop := match y with
  | .str z => ∃ j : Nat, ys[j]? = some z ∧ (∀ m, m < j → ys[m]? ≠ some z) ∧ Q (.int j)
  | _ => False
def dIndex (fo fe : DE) : DE := fun xq ρ Q => fo xq ρ fun x => match x with
  | .nms ys => fe xq ρ fun y => idxD ys y Q
  | .lst ds => ∃ ys : List Str, ds = ys.map D.str ∧ fe xq ρ fun y => idxD ys y Q
  | _ => False
def gSplit (x y : D) (Q : D → Prop) : Prop := match x, y with
  | .str a, .str b => (b.length == 0) = false ∧ a.length + 2 ≤ sizeLine ∧ Q (.lst ((Txt.split a b).map D.str))
  | _, _ => False
theorem rp_strs {Γ : Kx} {G : Hp} {R : Addr → Prop} : ∀ ys : List Str, RpL Γ G R (ys.map D.str) (ys.map V.str)
  | [] => RpL.nil
  | y :: ys => RpL.cons (by unfold Rp; rfl) (rp_strs ys)
theorem je_split {Γ : Kx} {W : WX} {ta tb : TE} {fa fb : DE} (a : JQ Γ W ta fa) (b : JQ Γ W tb fb) : JE Γ W (tBM Γ.K "str" (fun x xs H Q => ∃ a b, x = .str a ∧ xs = [.str b] ∧ (b.length == 0) = false ∧ a.length + 2 ≤ sizeLine ∧ rNewStrs (Txt.split a b) H Q) ta (tCons tb tNil)) (fun xq ρ Q => fa xq ρ fun x => match x with
    | .str s => fb xq ρ fun y => gSplit (.str s) y Q
    | _ => False) := fun H0 G R H σ ρ xq Qd Q w x f k =>
  a H0 G R H σ ρ xq _ _ w x f fun v1 G1 R1 H1 d1 n1 r1 q1 => by
    cases d1 <;> first | exact q1.elim | skip
    rename_i s
    have e1 := r1.str
    subst e1
    refine ⟨rfl, b H0 G1 R1 H1 σ ρ xq _ _ (w.nx n1) (x.nx n1) q1 fun v2 G2 R2 H2 d2 n2 r2 q2 => ?_⟩
    cases d2 <;> first | exact q2.elim | skip
    rename_i z
    have e2 := r2.str
    subst e2
    obtain ⟨h1, h2, q⟩ := q2
    refine ⟨s, z, rfl, rfl, h1, h2, fun p hp => ?_⟩
    refine k _ _ R2 _ (.lst _) ((n1.trans n2).trans (Nx.newG n2.gd (.lst ((Txt.split s z).map V.str)) hp)) ?_ q
    unfold Rp
    exact ⟨p, _, rfl, upd_same, rp_strs _⟩
def dSplit (fa fb : DE) : DE := fun xq ρ Q => fa xq ρ fun x => match x with
    | .str s => fb xq ρ fun y => gSplit (.str s) y Q
    | _ => False
theorem ce_split {X : Cx} {C : Str → Addr} {W : WX} {o e : Expr} {fo fe : DE} {apos cpos : Pos} (h : CQ X C W o fo) (h' : CQ X C W e fe)
    (hbase : attributeBase o "split" X.env (eval o X.env) = eval o X.env := by rfl)
    (hfew : ((backTo cpos (starEach [e] X.env)).all (fun x => !x.1) && (backToKw cpos (keywordEach [] X.env)).all (fun x => x.1.isSome)
      && decide (([e] : List Expr).length + ([] : List Keyword).length + (if ([] : List Keyword).isEmpty then 0 else 1) < 30)) = true := by rfl)
    (hline : (apos.endLine == cpos.line) = true := by rfl) (hs : starEach [e] X.env = (false, eval e X.env) :: starEach [] X.env := by rfl) (hplain : (backTo cpos (starEach [] X.env)).any (·.1) = false := by rfl) :
    CE X C W (.Call (.Attribute o "split" apos) [e] [] cpos) (dSplit fo fe) :=
  let ⟨_, p, q⟩ := h; let ⟨_, p', q'⟩ := h'; ⟨_, pe_bm PySem.F.plainAttrs_str PySem.F.slot_str_split PySem.F.type_str_split mt_split p (pa_cons p' pa_nil hs) hbase hfew hline hs hplain, je_split q q'⟩
theorem Cal.none {P : Program} {w : World} {K : PySem.W.Frag} {mg : Str → Option Value} {base : Heap} {C : Str → Addr} {k : Nat} {x : Str} {params : Arguments} {body : List Stmt} {sc : Scope} {ps : List Str} {f : Addr} {fd : FuncData} (F : FunD K x x params body sc [] [] f fd) (gf : mg x = some (.ref f)) (hb : Binds K fd ps []) : Cal P w K mg base C k x fun _ _ _ => False :=
  ⟨f, fd, ps, ⟨fun vs H Q E h => by obtain ⟨_, _, _, _, _, _, _, z, _⟩ := h; exact z.elim, fun A outer s H args us vs Q E hr he hbt hv h => by obtain ⟨_, _, _, _, _, _, _, z, _⟩ := h; exact z.elim⟩, gf, F.kp, hb⟩
end Dl
open PySem L2 Dl in
local macro_rules | `(tactic| walk_at "dl") => `(tactic| simp only [dSeq, dSet, dSetN, dIfS, dRet, dRetV, dRetN, dExpr, dBreak, dCont, dNext, dFrz, frz, dApp, dExt, dSetIx, dFor, dVar, dVarQ, dC, dImm, dLst, d1, d2, n1, n2, dNil, dCons, dTup, dCall, dCallQ, dB, dTru, gTru, dNot, dAnd, dOr, dAndV, dOrV, dNotV, dIf, dSl, nSl, oNo, oSome, iIt, iR1, iR2, iStrD, gItems_lst, gItems_tup, gItems_scr, dLc, dYes, dRd, kD, DK.xq, gAdd, gMns, gI2, gCmp, gNeg, gLen_lst, gLen_tup, gLen_scr, gInt, gStr, gMin, gMax, gListN_lst, gListN_tup, gTuple_lst, gTuple_tup, gRevN, gCat, gSlN, gSl, gIx_rd0, gIx_rd1, gIx_rd2, gEq_int, gNe_int, gIn_tI, gIn_lI, gIsi_tup, gIsi_int, gIsi_bool, dIndex, dSplit, List.getElem?_cons_zero, List.getElem?_cons_succ, List.set_cons_zero, List.set_cons_succ, if_true, if_false, Bool.false_eq_true, ite_true, ite_false])
namespace Expr
open PySem L2 Dl
inductive Ex where
  | num (n : Int) | nam (s : Str) | no (e : Ex) | bin (op : Str) (a b : Ex)
def exD : Ex → D
  | .num n => .tup [.str "number", .int n]
  | .nam s => .tup [.str "name", .str s]
  | .no e => .tup [.str "not", exD e]
  | .bin op a b => .tup [.str op, exD a, exD b]
def ops : List Str := ["+", "-", "*", "==", "<", "and", "or"]
def dep : Ex → Nat
  | .num _ => 0
  | .nam _ => 0
  | .no e => dep e + 1
  | .bin _ a b => max (dep a) (dep b) + 1
theorem gEq_str {a b : Str} (ha : (PyData.str a).canLay0 = true) (hb : (PyData.str b).canLay0 = true) (Q : D → Prop) : gEq (.str a) (.str b) Q = Q (.bl (decide (a = b))) := propext ⟨fun h => by have := h.2.2; rwa [deq_str] at this, fun h => ⟨(eo_str 0 a ha).ok, (eo_str 0 b hb).ok, by rwa [deq_str]⟩⟩
def lays (s : Str) : Bool := (PyData.str s).canLay0
theorem lay_ops {op : Str} (h : op ∈ ops) : lays op = true := by
  have : ∀ op ∈ ops, lays op = true := by unfold ops lays; decide +kernel
  exact this op h
end Expr
namespace Dl
open PySem L2
abbrev lays := Expr.lays
theorem gAdd_int (i j : Int) (Q : D → Prop) : gAdd (.int i) (.int j) Q = Q (.int (i + j)) := rfl
theorem gAdd_str (s t : Str) (Q : D → Prop) : gAdd (.str s) (.str t) Q = (s.length + t.length ≤ sizeLine ∧ Q (.str (s ++ t))) := rfl
theorem gAdd_lst (a b : List D) (Q : D → Prop) : gAdd (.lst a) (.lst b) Q = (a.length + b.length ≤ sizeLine ∧ Q (.lst (a ++ b))) := rfl
theorem gMns_int (i j : Int) (Q : D → Prop) : gMns (.int i) (.int j) Q = Q (.int (i - j)) := rfl
theorem gTru_bl (b : Bool) (Q : Bool → Prop) : gTru (.bl b) Q = Q b := rfl
theorem gInt_bl (b : Bool) (Q : D → Prop) : gInt (.bl b) Q = Q (.int (if b then 1 else 0)) := rfl
theorem gStr_int (i : Int) (Q : D → Prop) : gStr (.int i) Q = (i.natAbs.log2 < 1920 ∧ Q (.str (toString i))) := rfl
theorem gMax_int (i j : Int) (Q : D → Prop) : gMax (.int i) (.int j) Q = Q (.int (if j > i then j else i)) := rfl
theorem gEq_strL (a b : Str) (Q : D → Prop) (ha : lays a = true) (hb : lays b = true) : gEq (.str a) (.str b) Q = Q (.bl (decide (a = b))) := Expr.gEq_str ha hb Q
theorem gNe_strL (a b : Str) (Q : D → Prop) (ha : lays a = true) (hb : lays b = true) : gNe (.str a) (.str b) Q = Q (.bl (!decide (a = b))) := propext ⟨fun h => by
  have := h.2.2
  rwa [deq_str] at this, fun h => ⟨(eo_str 0 a ha).ok, (eo_str 0 b hb).ok, by rwa [deq_str]⟩⟩
theorem gIsi_int_int (i : Int) (Q : D → Prop) : gIsi "int" (D.int i) Q = Q (.bl true) := by
  show Q (.bl (kty "int" "int")) = _
  rw [show kty "int" "int" = true by decide +kernel]
theorem gIsi_int_str (s : Str) (Q : D → Prop) : gIsi "int" (D.str s) Q = Q (.bl false) := by
  show Q (.bl (kty "str" "int")) = _
  rw [show kty "str" "int" = false by decide +kernel]
theorem gIsi_int_tup (ds : List D) (Q : D → Prop) : gIsi "int" (D.tup ds) Q = Q (.bl false) := by
  show Q (.bl (kty "tuple" "int")) = _
  rw [show kty "tuple" "int" = false by decide +kernel]
theorem gIsi_bool_int (i : Int) (Q : D → Prop) : gIsi "bool" (D.int i) Q = Q (.bl false) := by
  show Q (.bl (kty "int" "bool")) = _
  rw [show kty "int" "bool" = false by decide +kernel]
theorem gIsi_str_int (i : Int) (Q : D → Prop) : gIsi "str" (D.int i) Q = Q (.bl false) := by
  show Q (.bl (kty "int" "str")) = _
  rw [show kty "int" "str" = false by decide +kernel]
theorem gIsi_str_str (s : Str) (Q : D → Prop) : gIsi "str" (D.str s) Q = Q (.bl true) := by
  show Q (.bl (kty "str" "str")) = _
  rw [show kty "str" "str" = true by decide +kernel]
theorem gIsi_str_tup (ds : List D) (Q : D → Prop) : gIsi "str" (D.tup ds) Q = Q (.bl false) := by
  show Q (.bl (kty "tuple" "str")) = _
  rw [show kty "tuple" "str" = false by decide +kernel]
theorem gIsi_tuple_int (i : Int) (Q : D → Prop) : gIsi "tuple" (D.int i) Q = Q (.bl false) := by
  show Q (.bl (kty "int" "tuple")) = _
  rw [show kty "int" "tuple" = false by decide +kernel]
theorem gIsi_tuple_str (s : Str) (Q : D → Prop) : gIsi "tuple" (D.str s) Q = Q (.bl false) := by
  show Q (.bl (kty "str" "tuple")) = _
  rw [show kty "str" "tuple" = false by decide +kernel]
theorem gIsi_tuple_tup (ds : List D) (Q : D → Prop) : gIsi "tuple" (D.tup ds) Q = Q (.bl true) := by
  show Q (.bl (kty "tuple" "tuple")) = _
  rw [show kty "tuple" "tuple" = true by decide +kernel]
theorem gIx_tup0 (a : D) (l : List D) (Q : D → Prop) : gIx (.tup (a :: l)) (.int 0) Q = Q a := gIx_tup (atI_nat (j := 0) rfl) Q
theorem gIx_lst0 (a : D) (l : List D) (Q : D → Prop) : gIx (.lst (a :: l)) (.int 0) Q = Q a := gIx_lst (atI_nat (j := 0) rfl) Q
theorem gIx_tup1 (a b : D) (l : List D) (Q : D → Prop) : gIx (.tup (a :: b :: l)) (.int 1) Q = Q b := gIx_tup (atI_nat (j := 1) rfl) Q
theorem gIx_lst1 (a b : D) (l : List D) (Q : D → Prop) : gIx (.lst (a :: b :: l)) (.int 1) Q = Q b := gIx_lst (atI_nat (j := 1) rfl) Q
theorem gIx_tup2 (a b c : D) (l : List D) (Q : D → Prop) : gIx (.tup (a :: b :: c :: l)) (.int 2) Q = Q c := gIx_tup (atI_nat (j := 2) rfl) Q
theorem gIx_lst2 (a b c : D) (l : List D) (Q : D → Prop) : gIx (.lst (a :: b :: c :: l)) (.int 2) Q = Q c := gIx_lst (atI_nat (j := 2) rfl) Q
theorem gIx_lst3 (a b c d : D) (l : List D) (Q : D → Prop) : gIx (.lst (a :: b :: c :: d :: l)) (.int 3) Q = Q d := gIx_lst (atI_nat (j := 3) rfl) Q
theorem gSl_str (s : Str) (lo hi : Option Int) (Q : D → Prop) : gSl (.str s) lo hi Q = (s.length ≤ sizeLine ∧ Q (.str (cutS s lo hi))) := rfl
theorem gCat_lst (a b : List D) (Q : List D → Prop) : gCat (.lst a) (.lst b) Q = (a.length + b.length ≤ sizeLine ∧ Q (a ++ b)) := rfl
end Dl
namespace Dl
open PySem L2
end Dl
namespace Dl
open PySem L2
def subs : List (Str × Str) := ([("InvalidInput", "MendError"), ("BoundError", "MendError"), ("DeskError", "MendError"), ("InvalidText", "InvalidInput"), ("InvalidText", "MendError"), ("InvalidProgram", "InvalidInput"), ("InvalidProgram", "MendError"), ("InvalidContract", "InvalidInput"), ("InvalidContract", "MendError"), ("InvalidChange", "InvalidInput"), ("InvalidChange", "MendError"), ("InvalidStream", "InvalidInput"), ("InvalidStream", "MendError"), ("InvalidPlaces", "InvalidInput"), ("InvalidPlaces", "MendError")] : List (Str × Str)) ++ ([("InvalidEdit", "InvalidInput"), ("InvalidEdit", "MendError"), ("InvalidLine", "InvalidInput"), ("InvalidLine", "MendError"), ("InvalidName", "InvalidInput"), ("InvalidName", "MendError"), ("Mismatch", "InvalidInput"), ("Mismatch", "MendError"), ("TooLarge", "BoundError"), ("TooLarge", "MendError"), ("TooLong", "BoundError"), ("TooLong", "MendError"), ("TooManyCases", "BoundError"), ("TooManyCases", "MendError"), ("NameTaken", "DeskError")] : List (Str × Str)) ++ ([("NameTaken", "MendError"), ("UnknownName", "DeskError"), ("UnknownName", "MendError"), ("NothingToUndo", "DeskError"), ("NothingToUndo", "MendError"), ("NothingToRedo", "DeskError"), ("NothingToRedo", "MendError")] : List (Str × Str))
def isaF (c y : Str) : Bool := decide (c = y) || subs.contains (c, y)
end Dl
namespace Dl
open PySem PySem.Spec PyProof.Rows L2
def leafB : D → Bool
  | .lst _ => false
  | .dic _ => false
  | .obj _ _ => false
  | .tup ds => go ds
  | _ => true
where go : List D → Bool
  | [] => true
  | d :: ds => leafB d && go ds
section
variable {Γ : Kx} {H0 G G' : Hp} {R R' : Addr → Prop} {H H' : Hp}
mutual
theorem Ow.leaf (g : Same G H) : ∀ (d : D) (v : V), leafB d = true → Rp Γ G R d v → Ow Γ H0 G R H d v []
  | .non, v, _, h => by unfold Ow; exact ⟨rfl, h⟩
  | .bl _, v, _, h => by unfold Ow; exact ⟨rfl, h⟩
  | .int _, v, _, h => by unfold Ow; exact ⟨rfl, h⟩
  | .str _, v, _, h => by unfold Ow; exact ⟨rfl, h⟩
  | .scr _, v, _, h => by unfold Ow; exact ⟨rfl, h⟩
  | .rd, v, _, h => by unfold Ow; exact ⟨rfl, h⟩
  | .ins _ _, v, _, h => by unfold Ow; exact ⟨rfl, h⟩
  | .exc _ _, v, _, h => by unfold Ow; exact ⟨rfl, h⟩
  | .nms _, v, _, h => by unfold Ow; exact ⟨rfl, h⟩
  | .any, v, _, h => by unfold Ow; exact ⟨rfl, h⟩
  | .fr _, v, _, h => by unfold Ow; exact ⟨rfl, h⟩
  | .raw _, v, _, h => by unfold Ow; exact ⟨rfl, h⟩
  | .tup ds, v, m, h => by
    unfold Rp at h
    unfold Ow
    unfold leafB at m
    obtain ⟨a, vs, e, s, l⟩ := h
    exact ⟨a, vs, e, Same.seqT g s, OwL.leaf g ds vs m l⟩
  | .lst _, v, m, h => by unfold leafB at m; cases m
  | .dic _, v, m, h => by unfold leafB at m; cases m
  | .obj _ _, v, m, h => by unfold leafB at m; cases m
theorem OwL.leaf (g : Same G H) : ∀ (ds : List D) (vs : List V), leafB.go ds = true → RpL Γ G R ds vs → OwL Γ H0 G R H ds vs []
  | [], vs, _, h => by unfold RpL at h; unfold OwL; exact ⟨h, rfl⟩
  | d :: ds, vs, m, h => by
    unfold RpL at h
    unfold leafB.go at m
    rw [Bool.and_eq_true] at m
    obtain ⟨v, r, e, h1, h2⟩ := h
    unfold OwL
    exact ⟨v, r, [], [], e, rfl, Ow.leaf g d v m.1 h1, OwL.leaf g ds r m.2 h2⟩
end
mutual
theorem Ow.unleaf (g : Gd G R H) : ∀ (d : D) (v : V) (as : List Addr), leafB d = true → Ow Γ H0 G R H d v as → as = [] ∧ Rp Γ (satur G H) R d v
  | .non, v, as, _, h => by unfold Ow at h; exact ⟨h.1, Rp.mono satur_same (fun _ h => h) _ _ h.2⟩
  | .bl _, v, as, _, h => by unfold Ow at h; exact ⟨h.1, Rp.mono satur_same (fun _ h => h) _ _ h.2⟩
  | .int _, v, as, _, h => by unfold Ow at h; exact ⟨h.1, Rp.mono satur_same (fun _ h => h) _ _ h.2⟩
  | .str _, v, as, _, h => by unfold Ow at h; exact ⟨h.1, Rp.mono satur_same (fun _ h => h) _ _ h.2⟩
  | .scr _, v, as, _, h => by unfold Ow at h; exact ⟨h.1, Rp.mono satur_same (fun _ h => h) _ _ h.2⟩
  | .rd, v, as, _, h => by unfold Ow at h; exact ⟨h.1, Rp.mono satur_same (fun _ h => h) _ _ h.2⟩
  | .ins _ _, v, as, _, h => by unfold Ow at h; exact ⟨h.1, Rp.mono satur_same (fun _ h => h) _ _ h.2⟩
  | .exc _ _, v, as, _, h => by unfold Ow at h; exact ⟨h.1, Rp.mono satur_same (fun _ h => h) _ _ h.2⟩
  | .nms _, v, as, _, h => by unfold Ow at h; exact ⟨h.1, Rp.mono satur_same (fun _ h => h) _ _ h.2⟩
  | .any, v, as, _, h => by unfold Ow at h; exact ⟨h.1, Rp.mono satur_same (fun _ h => h) _ _ h.2⟩
  | .fr _, v, as, _, h => by unfold Ow at h; exact ⟨h.1, Rp.mono satur_same (fun _ h => h) _ _ h.2⟩
  | .raw _, v, as, _, h => by unfold Ow at h; exact ⟨h.1, Rp.mono satur_same (fun _ h => h) _ _ h.2⟩
  | .tup ds, v, as, m, h => by
    unfold Ow at h
    unfold leafB at m
    obtain ⟨a, vs, e, s, l⟩ := h
    obtain ⟨z, l⟩ := OwL.unleaf g ds vs as m l
    refine ⟨z, ?_⟩
    unfold Rp
    exact ⟨a, vs, e, (satur_tups g.sub).seqT s, l⟩
  | .lst _, v, as, m, h => by unfold leafB at m; cases m
  | .dic _, v, as, m, h => by unfold leafB at m; cases m
  | .obj _ _, v, as, m, h => by unfold leafB at m; cases m
theorem OwL.unleaf (g : Gd G R H) : ∀ (ds : List D) (vs : List V) (as : List Addr), leafB.go ds = true → OwL Γ H0 G R H ds vs as → as = [] ∧ RpL Γ (satur G H) R ds vs
  | [], vs, as, _, h => by unfold OwL at h; unfold RpL; exact ⟨h.2, h.1⟩
  | d :: ds, vs, as, m, h => by
    unfold OwL at h
    unfold leafB.go at m
    rw [Bool.and_eq_true] at m
    obtain ⟨v, r, bs, cs, e, rfl, h1, h2⟩ := h
    obtain ⟨z1, p1⟩ := Ow.unleaf g d v bs m.1 h1
    obtain ⟨z2, p2⟩ := OwL.unleaf g ds r cs m.2 h2
    refine ⟨by rw [z1, z2]; rfl, ?_⟩
    unfold RpL
    exact ⟨v, r, e, p1, p2⟩
end
mutual
theorem Ow.older {H1 : Hp} (o : ∀ a, H0 a = none → H1 a = none) : ∀ (d : D) (v : V) (as : List Addr), Ow Γ H0 G R H d v as → Ow Γ H1 G R H d v as
  | .lst ds, v, as, h => by
    unfold Ow at *
    obtain ⟨a, vs, bs, e, rfl, h0, g, r, hl, l⟩ := h
    exact ⟨a, vs, bs, e, rfl, o a h0, g, r, hl, OwL.older o ds vs bs l⟩
  | .dic ds, v, as, h => by
    unfold Ow at *
    obtain ⟨a, vs, bs, e, rfl, h0, g, r, hl, l⟩ := h
    exact ⟨a, vs, bs, e, rfl, o a h0, g, r, hl, OwK.older o ds vs bs l⟩
  | .tup ds, v, as, h => by
    unfold Ow at *
    obtain ⟨a, vs, e, q, l⟩ := h
    exact ⟨a, vs, e, q, OwL.older o ds vs as l⟩
  | .obj c ds, v, as, h => by
    unfold Ow at *
    obtain ⟨a, dx, vs, bs, e, rfl, h0, g, r, hl, l⟩ := h
    exact ⟨a, dx, vs, bs, e, rfl, o a h0, g, r, hl, OwK.older o ds vs bs l⟩
  | .non, v, as, h => by unfold Ow at *; exact h
  | .bl _, v, as, h => by unfold Ow at *; exact h
  | .int _, v, as, h => by unfold Ow at *; exact h
  | .str _, v, as, h => by unfold Ow at *; exact h
  | .scr _, v, as, h => by unfold Ow at *; exact h
  | .rd, v, as, h => by unfold Ow at *; exact h
  | .ins _ _, v, as, h => by unfold Ow at *; exact h
  | .exc _ _, v, as, h => by unfold Ow at *; exact h
  | .nms _, v, as, h => by unfold Ow at *; exact h
  | .any, v, as, h => by unfold Ow at *; exact h
  | .fr _, v, as, h => by unfold Ow at *; exact h
  | .raw _, v, as, h => by unfold Ow at *; exact h
theorem OwL.older {H1 : Hp} (o : ∀ a, H0 a = none → H1 a = none) : ∀ (ds : List D) (vs : List V) (as : List Addr), OwL Γ H0 G R H ds vs as → OwL Γ H1 G R H ds vs as
  | [], vs, as, h => by unfold OwL at *; exact h
  | d :: ds, vs, as, h => by
    unfold OwL at *
    obtain ⟨v, r, bs, cs, e, rfl, h1, h2⟩ := h
    exact ⟨v, r, bs, cs, e, rfl, Ow.older o d v bs h1, OwL.older o ds r cs h2⟩
theorem OwK.older {H1 : Hp} (o : ∀ a, H0 a = none → H1 a = none) : ∀ (ds : List (Key × D)) (vs : List (Key × V)) (as : List Addr), OwK Γ H0 G R H ds vs as → OwK Γ H1 G R H ds vs as
  | [], vs, as, h => by unfold OwK at *; exact h
  | (x, d) :: ds, vs, as, h => by
    unfold OwK at *
    obtain ⟨v, r, bs, cs, e, rfl, h1, h2⟩ := h
    exact ⟨v, r, bs, cs, e, rfl, Ow.older o d v bs h1, OwK.older o ds r cs h2⟩
end
theorem OwL.len : ∀ {ds : List D} {vs : List V} {as : List Addr}, OwL Γ H0 G R H ds vs as → ds.length = vs.length
  | [], vs, as, h => by unfold OwL at h; rw [h.1]; rfl
  | d :: ds, vs, as, h => by
    unfold OwL at h
    obtain ⟨v, r, bs, cs, rfl, _, h1, h2⟩ := h
    rw [List.length_cons, List.length_cons, OwL.len h2]
theorem OwL.nil : OwL Γ H0 G R H [] [] [] := by unfold OwL; exact ⟨rfl, rfl⟩
theorem OwL.cons {d : D} {v : V} {as : List Addr} {ds : List D} {vs : List V} {bs : List Addr} (h : Ow Γ H0 G R H d v as) (t : OwL Γ H0 G R H ds vs bs) : OwL Γ H0 G R H (d :: ds) (v :: vs) (as ++ bs) := by
  unfold OwL
  exact ⟨v, vs, as, bs, rfl, rfl, h, t⟩
theorem OwL.append : ∀ {ds es : List D} {vs us : List V} {as bs : List Addr}, OwL Γ H0 G R H ds vs as → OwL Γ H0 G R H es us bs → OwL Γ H0 G R H (ds ++ es) (vs ++ us) (as ++ bs)
  | [], _, vs, _, as, _, h, t => by unfold OwL at h; obtain ⟨rfl, rfl⟩ := h; exact t
  | d :: ds, es, vs, us, as, bs, h, t => by
    unfold OwL at h
    obtain ⟨v, r, b1, c1, rfl, rfl, h1, h2⟩ := h
    have := OwL.cons h1 (OwL.append h2 t)
    simpa using this
theorem OwL.snoc {d : D} {v : V} {bs : List Addr} {ds : List D} {vs : List V} {as : List Addr} (t : OwL Γ H0 G R H ds vs as) (h : Ow Γ H0 G R H d v bs) : OwL Γ H0 G R H (ds ++ [d]) (vs ++ [v]) (as ++ bs) := by
  have := t.append (OwL.cons h OwL.nil)
  simpa using this
end
section
variable {Γ : Kx} {H0 G G' G'' : Hp} {R R' R'' : Addr → Prop} {H H' H'' : Hp}
theorem Nx.stays (g : Gd G R H) (n : Nx G R H G' R' H') (as : List Addr) : Stays G R H G' R' H' as := ⟨fun a o _ h s g r => n.openO h s.stiff g r, fun a o h s => n.st h s g, n.rr, n.gg⟩
theorem Stays.trans {as : List Addr} (s : Stays G R H G' R' H' as) (t : Stays G' R' H' G'' R'' H'' as) : Stays G R H G'' R'' H'' as := ⟨fun a o m h op g r => by
  obtain ⟨x, y, z⟩ := s.sl a o m h op g r
  exact t.sl a o m x op y z, fun a o h st => t.st a o (s.st a o h st) st, fun a r => t.rd a (s.rd a r), fun a o e => t.gg a o (s.gg a o e)⟩
theorem Stays.upd {as : List Addr} {a : Addr} {o u : HO} (hm : a ∉ as) (h : H a = some u) (hu : ¬ Stiff u) : Stays G R H G R (L2.upd H a o) as := ⟨fun b w m h op g r => ⟨by rw [upd_ne (fun (e : b = a) => hm (e ▸ m))]; exact h, g, r⟩, fun b w e s => by
  rw [upd_ne (fun (z : b = a) => by rw [z, h] at e; cases e; exact hu s)]
  exact e, fun _ h => h, fun _ _ h => h⟩
def wo (as bs : List Addr) : List Addr := as.filter fun a => !decide (a ∈ bs)
theorem mem_wo {as bs : List Addr} {a : Addr} : a ∈ wo as bs ↔ a ∈ as ∧ a ∉ bs := by
  unfold wo
  rw [List.mem_filter]
  simp
def Frs (H0 G : Hp) (R : Addr → Prop) (H : Hp) (as : List Addr) : Prop := ∀ a ∈ as, H0 a = none ∧ G a = none ∧ ¬ R a ∧ ∃ o, H a = some o ∧ Open o
theorem Gd.cut {as : List Addr} (g : Gd G R H) (f : ∀ a ∈ as, G a = none ∧ ¬ R a) : Gd G R (Dl.cut H as) :=
  ⟨fun b o e => by rw [cut_out (fun m => by rw [(f b m).1] at e; cases e)]; exact g.sub b o e, fun a r => by
    obtain ⟨x, y, z, e⟩ := g.rd a r
    exact ⟨x, y, z, by rw [cut_out (fun m => (f a m).2 r)]; exact e⟩, g.dis⟩
theorem Gd.uncut {as : List Addr} (g : Gd G R (Dl.cut H as)) : Gd G R H :=
  ⟨fun b o e => (cut_some (g.sub b o e)).2, fun a r => by
    obtain ⟨x, y, z, e⟩ := g.rd a r
    exact ⟨x, y, z, (cut_some e).2⟩, g.dis⟩
theorem Nx.cut {G0 : Hp} {R0 : Addr → Prop} {as : List Addr} (n : Nx G0 R0 H0 G R H) (f : Frs H0 G R H as) : Nx G0 R0 H0 G R (Dl.cut H as) where
  gg := n.gg
  rr := n.rr
  gd := n.gd.cut fun a m => ⟨(f a m).2.1, (f a m).2.2.1⟩
  ev := fun b o e r => by rw [cut_out (fun m => by rw [(f b m).1] at e; cases e)]; exact n.ev b o e r
  ex := fun b o e => by rw [cut_out (fun m => by rw [(f b m).1] at e; cases e)]; exact n.ex b o e
  fg := n.fg
  fr := n.fr
theorem Nx.uncut {as : List Addr} (g : Gd G R H) (h : ∀ a ∈ as, G a = none) : Nx G R (Dl.cut H as) G R H where
  gg := fun _ _ h => h
  rr := fun _ h => h
  gd := g
  ev := fun b o e _ => (cut_some e).2
  ex := fun b o e => ⟨o, (cut_some e).2⟩
  fg := fun b o e => .inl e
  fr := fun b r => .inl r
theorem Nx.cutUpd {as : List Addr} {a : Addr} {o : HO} (n : Nx G R H G' R' H') (m : a ∈ as) (g : G' a = none) (r : ¬ R' a) : Nx G R (Dl.cut H as) G' R' (L2.upd H' a o) where
  gg := n.gg
  rr := n.rr
  gd := ⟨fun b u q => by rw [upd_ne (ne_of_none q g)]; exact n.gd.sub b u q, fun b q => by
    have ne : b ≠ a := fun z => r (by subst z; exact q)
    obtain ⟨c, k, m, y⟩ := n.gd.rd b q
    exact ⟨c, k, m, by rw [upd_ne ne]; exact y⟩, n.gd.dis⟩
  ev := fun b u e z => by
    obtain ⟨e1, e2⟩ := cut_some e
    rw [upd_ne (fun (q : b = a) => e1 (q ▸ m))]
    exact n.ev b u e2 z
  ex := fun b u e => by
    obtain ⟨e1, e2⟩ := cut_some e
    rw [upd_ne (fun (q : b = a) => e1 (q ▸ m))]
    exact n.ex b u e2
  fg := fun b u e => by
    rcases n.fg b u e with z | z | z
    · exact .inl z
    · refine .inr (.inl ?_)
      unfold Dl.cut
      split
      · rfl
      · exact z
    · exact .inr (.inr z)
  fr := fun b z => by
    rcases n.fr b z with y | y
    · exact .inl y
    · refine .inr ?_
      unfold Dl.cut
      split
      · rfl
      · exact y
theorem Nx.cutOf {as : List Addr} (n : Nx G R H G' R' H') : Nx G R (Dl.cut H as) G' R' H' where
  gg := n.gg
  rr := n.rr
  gd := n.gd
  ev := fun b u e z => n.ev b u (cut_some e).2 z
  ex := fun b u e => n.ex b u (cut_some e).2
  fg := fun b u e => by
    rcases n.fg b u e with z | z | z
    · exact .inl z
    · refine .inr (.inl ?_)
      unfold Dl.cut
      split
      · rfl
      · exact z
    · exact .inr (.inr z)
  fr := fun b z => by
    rcases n.fr b z with y | y
    · exact .inl y
    · refine .inr ?_
      unfold Dl.cut
      split
      · rfl
      · exact y
end
section
variable {Γ : Kx} {H0 G G' : Hp} {R R' : Addr → Prop} {H H' : Hp} {σ : St} {ρ : En} {i : Nat} {v : V} {as as' : List Addr} {d d' : D}
theorem Wd.frs (w : Wd Γ H0 G R H σ ρ) (e : ρ[i]? = some (.ow v as d)) : Frs H0 G R H as := by
  obtain ⟨u, _, _, h, _⟩ := w.sl i _ e
  exact Ow.fresh d v as h
theorem Wd.take (w : Wd Γ H0 G R H σ ρ) (e : ρ[i]? = some (.ow v as d)) : Wd Γ H0 G R (Dl.cut H as) σ (ρ.set i .un) := by
  have f := w.frs e
  obtain ⟨v0, eσ, y1, y2, y3⟩ := w.sl i _ e
  have hi : i < ρ.length := (List.getElem?_eq_some_iff.mp e).1
  refine ⟨w.gd.cut fun a m => ⟨(f a m).2.1, (f a m).2.2.1⟩, by rw [List.length_set]; exact w.len, fun j t q => ?_, fun j m s1 s2 v1 v2 a hjm e1 e2 e3 e4 o1 o2 => ?_⟩
  · by_cases hj : i = j
    · subst hj
      rw [List.getElem?_set_self hi] at q
      cases q
      exact ⟨_, eσ, True.intro⟩
    · rw [List.getElem?_set_ne hj] at q
      obtain ⟨u, e2, y⟩ := w.sl j t q
      refine ⟨u, e2, ?_⟩
      have far : ∀ a, a ∈ t.fpt u → a ∉ as := fun a m z => w.dj i j _ t _ u a hj e q eσ e2 z m
      cases t with
      | un => exact True.intro
      | fz d => exact y
      | op es =>
        obtain ⟨a, us, rfl, y1, y2, y3, y4, y5⟩ := y
        exact ⟨a, us, rfl, by rw [cut_out (far a (List.mem_singleton.mpr rfl))]; exact y1, y2, y3, y4, y5⟩
      | io a c fs =>
        obtain ⟨dx, us, rfl, y1, y2, y3, y4, y5⟩ := y
        exact ⟨dx, us, rfl, by rw [cut_out (far a (List.mem_singleton.mpr rfl))]; exact y1, y2, y3, y4, y5⟩
      | ex a d c fs =>
        obtain ⟨y1, y2⟩ := y
        refine ⟨y1, y2.imp id fun ⟨dd, vs, z1, z2, z3⟩ => ⟨dd, vs, z1, ?_, z3⟩⟩
        rw [cut_out (fun m => by
          obtain ⟨_, _, _, o, ho, op⟩ := f dd m
          rw [z2] at ho; cases ho; exact op.elim)]
        exact z2
      | ow x bs d =>
        obtain ⟨y1, y2, y3⟩ := y
        refine ⟨y1, Ow.mono d x bs ⟨fun a o m h _ g r => ⟨by rw [cut_out (far a m)]; exact h, g, r⟩, fun a o h s => ?_, fun _ h => h, fun _ _ h => h⟩ y2, y3⟩
        rw [cut_out (fun m => by
          obtain ⟨_, _, _, o, ho, op⟩ := f a m
          rw [h] at ho; cases ho; exact op.stiff s)]
        exact h
      | se d =>
        obtain ⟨x, y1, y2⟩ := y
        refine ⟨x, y1, Rp.mono (fun b u e => ?_) (fun _ h => h) d x y2⟩
        obtain ⟨e1, e2⟩ := viewO_iff.mp e
        refine viewO_iff.mpr ⟨?_, e2⟩
        rw [cut_out (fun m => by
          obtain ⟨h0, g0, r0, o, ho, op⟩ := f b m
          rw [e1] at ho
          cases ho
          rcases e2 with z | z | z
          · rw [g0] at z; cases z
          · exact op.stiff z
          · exact z.2.1 h0)]
        exact e1
  · by_cases hj : i = j
    · subst hj
      rw [List.getElem?_set_self hi] at e1
      cases e1
      exact absurd o1 List.not_mem_nil
    · rw [List.getElem?_set_ne hj] at e1
      by_cases hm : i = m
      · subst hm
        rw [List.getElem?_set_self hi] at e2
        cases e2
        exact absurd o2 List.not_mem_nil
      · rw [List.getElem?_set_ne hm] at e2
        exact w.dj j m s1 s2 v1 v2 a hjm e1 e2 e3 e4 o1 o2
theorem Wd.putO (w : Wd Γ H0 G R H σ ρ) (e : ρ[i]? = some (.ow v as d)) (n : Nx G R (Dl.cut H as) G' R' H') (h : Ow Γ H0 G' R' H' d' v as') (nd : as'.Nodup) (hs : ∀ a ∈ as', Dl.cut H as a = none) : Wd Γ H0 G' R' H' σ (ρ.set i (.ow v as' d')) := by
  have w0 := w.take e
  have w1 := w0.nx n
  obtain ⟨v0, eσ, rfl, _⟩ := w.sl i _ e
  have := w1.set i (v := some v) (s := .ow v as' d') ⟨rfl, h, nd⟩ fun a m j t u hj e1 e2 m2 => by
    obtain ⟨⟨o, ho, _⟩, _⟩ := w0.ownThere e1 e2 m2
    rw [hs a m] at ho
    cases ho
  rw [List.set_set] at this
  have eσ2 : σ.set i (some v) = σ := by
    obtain ⟨hl, q⟩ := List.getElem?_eq_some_iff.mp eσ
    conv => lhs; rw [← q]
    exact List.set_getElem_self hl
  rw [eσ2] at this
  exact this
theorem Nx.putO {G0 : Hp} {R0 : Addr → Prop} (n0 : Nx G0 R0 H0 G R H) (w : Wd Γ H0 G R H σ ρ) (e : ρ[i]? = some (.ow v as d)) (n : Nx G R (Dl.cut H as) G' R' H') : Nx G0 R0 H0 G' R' H' := (n0.cut (w.frs e)).trans n
end
section
variable {Γ : Kx} {H0 G G' : Hp} {R R' : Addr → Prop} {H H' : Hp}
structure Comp (Γ : Kx) (H0 G : Hp) (R : Addr → Prop) (H : Hp) (v : V) (as : List Addr) (f : D → D) (d1 : D) (v1 : V) (as1 : List Addr) : Prop where
  ow : Ow Γ H0 G R H d1 v1 as1
  nd : as1.Nodup
  sub : ∀ a ∈ as1, a ∈ as
  re : ∀ (G' : Hp) (R' : Addr → Prop) (H' : Hp) (d2 : D) (as2 : List Addr), Stays G R H G' R' H' (wo as as1) → Ow Γ H0 G' R' H' d2 v1 as2 → as2.Nodup → (∀ a ∈ as2, a ∈ as → a ∈ as1) →
    ∃ as3, Ow Γ H0 G' R' H' (f d2) v as3 ∧ as3.Nodup ∧ ∀ a, a ∈ as3 ↔ a ∈ as2 ∨ (a ∈ as ∧ a ∉ as1)
theorem Comp.refl {d : D} {v : V} {as : List Addr} (h : Ow Γ H0 G R H d v as) (nd : as.Nodup) : Comp Γ H0 G R H v as (fun x => x) d v as :=
  ⟨h, nd, fun _ m => m, fun G' R' H' d2 as2 _ h n _ => ⟨as2, h, n, fun a => ⟨.inl, fun m => m.elim id fun z => absurd z.1 z.2⟩⟩⟩
theorem Comp.trans {v v1 v2 : V} {as as1 as2 : List Addr} {f g : D → D} {d1 d2 : D} (c : Comp Γ H0 G R H v as f d1 v1 as1) (e : Comp Γ H0 G R H v1 as1 g d2 v2 as2) : Comp Γ H0 G R H v as (fun x => f (g x)) d2 v2 as2 := by
  refine ⟨e.ow, e.nd, fun a m => c.sub a (e.sub a m), fun G' R' H' d3 as3 s h nd hs => ?_⟩
  obtain ⟨as4, h4, n4, m4⟩ := e.re G' R' H' d3 as3 (s.sub fun a m => by
    rw [mem_wo] at *
    exact ⟨c.sub a m.1, m.2⟩) h nd fun a m ma => hs a m (c.sub a ma)
  obtain ⟨as5, h5, n5, m5⟩ := c.re G' R' H' (g d3) as4 (s.sub fun a m => by
    rw [mem_wo] at *
    exact ⟨m.1, fun z => m.2 (e.sub a z)⟩) h4 n4 fun a m ma => by
      rcases (m4 a).mp m with z | z
      · exact e.sub a (hs a z ma)
      · exact z.1
  refine ⟨as5, h5, n5, fun a => ⟨fun m => ?_, fun m => ?_⟩⟩
  · rcases (m5 a).mp m with z | z
    · rcases (m4 a).mp z with y | y
      · exact .inl y
      · exact .inr ⟨c.sub a y.1, y.2⟩
    · exact .inr ⟨z.1, fun y => z.2 (e.sub a y)⟩
  · refine (m5 a).mpr ?_
    rcases m with z | z
    · exact .inl ((m4 a).mpr (.inl z))
    · by_cases q : a ∈ as1
      · exact .inl ((m4 a).mpr (.inr ⟨q, z.2⟩))
      · exact .inr ⟨z.1, q⟩
theorem Comp.nx {v v1 : V} {as as1 : List Addr} {f : D → D} {d1 : D} (c : Comp Γ H0 G R H v as f d1 v1 as1) (g : Gd G R H) (n : Nx G R H G' R' H') : Comp Γ H0 G' R' H' v as f d1 v1 as1 :=
  ⟨Ow.mono d1 v1 as1 (n.stays g _) c.ow, c.nd, c.sub, fun G'' R'' H'' d2 as2 s h nd hs => c.re G'' R'' H'' d2 as2 ((n.stays g _).trans s) h nd hs⟩
theorem OwL.at : ∀ {ds : List D} {vs : List V} {bs : List Addr} {j : Nat} {d1 : D}, OwL Γ H0 G R H ds vs bs → bs.Nodup → ds[j]? = some d1 →
    ∃ v1 as1, vs[j]? = some v1 ∧ Ow Γ H0 G R H d1 v1 as1 ∧ as1.Nodup ∧ (∀ a ∈ as1, a ∈ bs) ∧ ∀ (G' : Hp) (R' : Addr → Prop) (H' : Hp) (d2 : D) (v2 : V) (as2 : List Addr), Stays G R H G' R' H' (wo bs as1) → Ow Γ H0 G' R' H' d2 v2 as2 → as2.Nodup → (∀ a ∈ as2, a ∈ bs → a ∈ as1) →
      ∃ bs3, OwL Γ H0 G' R' H' (ds.set j d2) (vs.set j v2) bs3 ∧ bs3.Nodup ∧ ∀ a, a ∈ bs3 ↔ a ∈ as2 ∨ (a ∈ bs ∧ a ∉ as1)
  | [], _, _, _, _, _, _, e => by simp at e
  | d :: ds, vs, bs, 0, d1, h, nd, e => by
    simp at e
    subst e
    unfold OwL at h
    obtain ⟨v, r, b1, c1, rfl, rfl, h1, h2⟩ := h
    obtain ⟨n1, n2, n3⟩ := List.nodup_append.mp nd
    refine ⟨v, b1, by simp, h1, n1, fun a m => List.mem_append_left _ m, fun G' R' H' d2 v2 as2 s h nd2 hs => ?_⟩
    have l2 := OwL.mono ds r c1 (s.sub fun a m => mem_wo.mpr ⟨List.mem_append_right _ m, fun z => n3 a z a m rfl⟩) h2
    rw [List.set_cons_zero, List.set_cons_zero]
    refine ⟨as2 ++ c1, OwL.cons h l2, List.nodup_append.mpr ⟨nd2, n2, fun a ha b hb e => ?_⟩, fun a => ?_⟩
    · subst e
      exact n3 a (hs a ha (List.mem_append_right _ hb)) a hb rfl
    · refine ⟨fun m => ?_, fun m => ?_⟩
      · rcases List.mem_append.mp m with m | m
        · exact .inl m
        · exact .inr ⟨List.mem_append_right _ m, fun z => n3 a z a m rfl⟩
      · rcases m with m | m
        · exact List.mem_append_left _ m
        · exact List.mem_append_right _ ((List.mem_append.mp m.1).resolve_left m.2)
  | d :: ds, vs, bs, j + 1, d1, h, nd, e => by
    simp at e
    unfold OwL at h
    obtain ⟨v, r, b1, c1, rfl, rfl, h1, h2⟩ := h
    obtain ⟨n1, n2, n3⟩ := List.nodup_append.mp nd
    obtain ⟨v1, as1, e1, o1, nd1, sub1, re1⟩ := h2.at n2 e
    refine ⟨v1, as1, by simpa using e1, o1, nd1, fun a m => List.mem_append_right _ (sub1 a m), fun G' R' H' d2 v2 as2 s h nd2 hs => ?_⟩
    have h1' := Ow.mono d v b1 (s.sub fun a m => mem_wo.mpr ⟨List.mem_append_left _ m, fun z => n3 a m a (sub1 a z) rfl⟩) h1
    obtain ⟨c3, l3, nc3, m3⟩ := re1 G' R' H' d2 v2 as2 (s.sub fun a m => by
      rw [mem_wo] at *
      exact ⟨List.mem_append_right _ m.1, m.2⟩) h nd2 fun a m ma => hs a m (List.mem_append_right _ ma)
    rw [List.set_cons_succ, List.set_cons_succ]
    refine ⟨b1 ++ c3, OwL.cons h1' l3, List.nodup_append.mpr ⟨n1, nc3, fun a ha b hb e => ?_⟩, fun a => ?_⟩
    · subst e
      rcases (m3 a).mp hb with z | z
      · exact n3 a ha a (sub1 a (hs a z (List.mem_append_left _ ha))) rfl
      · exact n3 a ha a z.1 rfl
    · refine ⟨fun m => ?_, fun m => ?_⟩
      · rcases List.mem_append.mp m with m | m
        · exact .inr ⟨List.mem_append_left _ m, fun z => n3 a m a (sub1 a z) rfl⟩
        · rcases (m3 a).mp m with z | z
          · exact .inl z
          · exact .inr ⟨List.mem_append_right _ z.1, z.2⟩
      · rcases m with m | m
        · exact List.mem_append_right _ ((m3 a).mpr (.inl m))
        · rcases List.mem_append.mp m.1 with z | z
          · exact List.mem_append_left _ z
          · exact List.mem_append_right _ ((m3 a).mpr (.inr ⟨z, m.2⟩))
theorem set_self' {α : Type} {l : List α} {j : Nat} {x : α} (h : l[j]? = some x) : l.set j x = l := by
  obtain ⟨hl, q⟩ := List.getElem?_eq_some_iff.mp h
  conv => lhs; rw [← q]
  exact List.set_getElem_self hl
theorem Comp.lst {v v1 : V} {as as1 : List Addr} {f : D → D} {ds : List D} (c : Comp Γ H0 G R H v as f (.lst ds) v1 as1) : ∃ a vs bs, v1 = .ref a ∧ as1 = a :: bs ∧ a ∈ as ∧ a ∉ bs ∧ bs.Nodup ∧ (∀ x ∈ bs, x ∈ as) ∧ H a = some (.lst vs) ∧ G a = none ∧ ¬ R a ∧ OwL Γ H0 G R H ds vs bs ∧
    ∀ (ds' : List D) (vs' : List V) (bs' : List Addr), OwL Γ H0 G R H ds' vs' bs' → bs'.Nodup → a ∉ bs' → (∀ b ∈ bs', b ∈ as → b ∈ bs) → ∃ as3, Ow Γ H0 G R (upd H a (.lst vs')) (f (.lst ds')) v as3 ∧ as3.Nodup ∧ ∀ x ∈ as3, x ∈ bs' ∨ x ∈ as := by
  have h := c.ow
  unfold Ow at h
  obtain ⟨a, vs, bs, rfl, rfl, h0, g, r, hl, l⟩ := h
  obtain ⟨na, nb⟩ := List.nodup_cons.mp c.nd
  refine ⟨a, vs, bs, rfl, rfl, c.sub a (List.mem_cons_self ..), na, nb, fun x m => c.sub x (List.mem_cons_of_mem _ m), hl, g, r, l, fun ds' vs' bs' l' nd' na' hs => ?_⟩
  have st : ¬ Stiff (HO.lst vs) := fun t => t
  obtain ⟨as3, h3, n3, m3⟩ := c.re G R (upd H a (.lst vs')) (.lst ds') (a :: bs') (Stays.upd (fun m => (mem_wo.mp m).2 (List.mem_cons_self ..)) hl st) (by
    unfold Ow
    exact ⟨a, vs', bs', rfl, rfl, h0, g, r, upd_same, OwL.mono ds' vs' bs' (Stays.upd na' hl st) l'⟩) (List.nodup_cons.mpr ⟨na', nd'⟩) fun x m mx => by
      rcases List.mem_cons.mp m with rfl | m
      · exact List.mem_cons_self ..
      · exact List.mem_cons_of_mem _ (hs x m mx)
  refine ⟨as3, h3, n3, fun x m => ?_⟩
  rcases (m3 x).mp m with z | z
  · rcases List.mem_cons.mp z with rfl | z
    · exact .inr (c.sub x (List.mem_cons_self ..))
    · exact .inl z
  · exact .inr z.1
end
end Dl
namespace Dl
open PySem PySem.Spec PyProof.Rows L2
section
variable {Γ : Kx} {H0 G G2 G' : Hp} {R R' : Addr → Prop} {H H' : Hp} {σ : St} {ρ : En} {W : WX}
mutual
theorem Ow.view (g : Same G H) : ∀ (d : D) (v : V) (as : List Addr), Ow Γ H0 G R H d v as → Rp Γ (viewO H G R H) R d v
  | .lst ds, v, as, h => by
    unfold Ow at h
    obtain ⟨a, vs, bs, e, _, _, _, r, hl, l⟩ := h
    unfold Rp
    exact ⟨a, vs, e, viewO_iff.mpr ⟨hl, .inr (.inr ⟨r, by rw [hl]; exact (fun z => nomatch z), trivial⟩)⟩, OwL.view g ds vs bs l⟩
  | .dic ds, v, as, h => by
    unfold Ow at h
    obtain ⟨a, vs, bs, e, _, _, _, r, hl, l⟩ := h
    unfold Rp
    exact ⟨a, vs, e, viewO_iff.mpr ⟨hl, .inr (.inr ⟨r, by rw [hl]; exact (fun z => nomatch z), trivial⟩)⟩, OwK.view g ds vs bs l⟩
  | .tup ds, v, as, h => by
    unfold Ow at h
    obtain ⟨a, vs, e, q, l⟩ := h
    unfold Rp
    exact ⟨a, vs, e, seqT_stiff (fun a o e s => viewO_iff.mpr ⟨e, .inr (.inl s)⟩) q, OwL.view g ds vs as l⟩
  | .non, v, as, h => by unfold Ow at h; exact Rp.mono (viewO_same g) (fun _ h => h) _ _ h.2
  | .bl _, v, as, h => by unfold Ow at h; exact Rp.mono (viewO_same g) (fun _ h => h) _ _ h.2
  | .int _, v, as, h => by unfold Ow at h; exact Rp.mono (viewO_same g) (fun _ h => h) _ _ h.2
  | .str _, v, as, h => by unfold Ow at h; exact Rp.mono (viewO_same g) (fun _ h => h) _ _ h.2
  | .scr _, v, as, h => by unfold Ow at h; exact Rp.mono (viewO_same g) (fun _ h => h) _ _ h.2
  | .rd, v, as, h => by unfold Ow at h; exact Rp.mono (viewO_same g) (fun _ h => h) _ _ h.2
  | .ins _ _, v, as, h => by unfold Ow at h; exact Rp.mono (viewO_same g) (fun _ h => h) _ _ h.2
  | .exc _ _, v, as, h => by unfold Ow at h; exact Rp.mono (viewO_same g) (fun _ h => h) _ _ h.2
  | .nms _, v, as, h => by unfold Ow at h; exact Rp.mono (viewO_same g) (fun _ h => h) _ _ h.2
  | .any, v, as, h => by unfold Ow at h; exact Rp.mono (viewO_same g) (fun _ h => h) _ _ h.2
  | .fr _, v, as, h => by unfold Ow at h; exact Rp.mono (viewO_same g) (fun _ h => h) _ _ h.2
  | .raw _, v, as, h => by unfold Ow at h; exact Rp.mono (viewO_same g) (fun _ h => h) _ _ h.2
  | .obj _ _, v, as, h => by
    unfold Ow at h
    obtain ⟨a, dx, vs, bs, rfl, _⟩ := h
    unfold Rp
    exact fun z => nomatch z
theorem OwL.view (g : Same G H) : ∀ (ds : List D) (vs : List V) (as : List Addr), OwL Γ H0 G R H ds vs as → RpL Γ (viewO H G R H) R ds vs
  | [], vs, as, h => by unfold OwL at h; unfold RpL; exact h.1
  | d :: ds, vs, as, h => by
    unfold OwL at h
    obtain ⟨v, r, bs, cs, e, _, h1, h2⟩ := h
    unfold RpL
    exact ⟨v, r, e, Ow.view g d v bs h1, OwL.view g ds r cs h2⟩
theorem OwK.view (g : Same G H) : ∀ (ds : List (Key × D)) (vs : List (Key × V)) (as : List Addr), OwK Γ H0 G R H ds vs as → RpK Γ (viewO H G R H) R ds vs
  | [], vs, as, h => by unfold OwK at h; unfold RpK; exact h.1
  | (x, d) :: ds, vs, as, h => by
    unfold OwK at h
    obtain ⟨v, r, bs, cs, e, _, h1, h2⟩ := h
    unfold RpK
    exact ⟨v, r, e, Ow.view g d v bs h1, OwK.view g ds r cs h2⟩
end
def S.seen : S → S
  | .op ds => .fz (.lst ds)
  | .ow _ _ d => .fz d
  | .se d => .fz d
  | s => s
theorem view_gd (g : Gd G R H) : Gd (viewO H0 G R H) R H := ⟨fun b o e => (viewO_iff.mp e).1, g.rd, fun a r => by
  cases q : viewO H0 G R H a with
  | none => rfl
  | some o =>
    obtain ⟨e, z⟩ := viewO_iff.mp q
    rcases z with z | z | z
    · rw [g.dis a r] at z; cases z
    · obtain ⟨_, _, _, y⟩ := g.rd a r
      rw [e] at y
      cases y
      exact z.elim
    · exact absurd r z.1⟩
theorem Wd.view (w : Wd Γ H0 G R H σ ρ) : Wd Γ H0 (viewO H G R H) R H σ (ρ.map S.seen) := by
  have sm : Same G (viewO H G R H) := viewO_same w.gd.sub
  refine ⟨view_gd w.gd, by rw [List.length_map]; exact w.len, fun i s e => ?_, fun i j s t v1 v2 a hij e1 e2 e3 e4 o1 o2 => ?_⟩
  · rw [List.getElem?_map] at e
    cases q : ρ[i]? with
    | none => rw [q] at e; cases e
    | some s0 =>
      rw [q] at e
      cases e
      obtain ⟨v, eσ, y⟩ := w.sl i s0 q
      refine ⟨v, eσ, ?_⟩
      cases s0 with
      | un => exact True.intro
      | fz d => obtain ⟨x, y1, y2⟩ := y; exact ⟨x, y1, Rp.mono sm (fun _ h => h) d x y2⟩
      | op ds =>
        obtain ⟨l, vs, y1, y2, y3, y4, y5, y6⟩ := y
        refine ⟨.ref l, y1, ?_⟩
        unfold Rp
        exact ⟨l, vs, rfl, viewO_iff.mpr ⟨y2, .inr (.inr ⟨y4, by rw [y2]; exact (fun z => nomatch z), trivial⟩)⟩, RpL.mono sm (fun _ h => h) ds vs y6⟩
      | io a c fs =>
        obtain ⟨dx, vs, y1, y2, y3, y4, y5, y6⟩ := y
        refine ⟨dx, vs, y1, y2, ?_, y4, y5, RpF.mono sm (fun _ h => h) fs vs y6⟩
        cases q : viewO H G R H a with
        | none => rfl
        | some o =>
          obtain ⟨e, z⟩ := viewO_iff.mp q
          rw [y2] at e
          cases e
          rcases z with z | z | z
          · rw [y3] at z; cases z
          · exact z.elim
          · exact z.2.2.elim
      | ex a d c fs =>
        obtain ⟨y1, y2⟩ := y
        exact ⟨y1, y2.imp id fun ⟨dd, vs, z1, z2, z3, z4⟩ => ⟨dd, vs, z1, z2, z3, RpF.mono sm (fun _ h => h) fs vs z4⟩⟩
      | ow x as d => exact ⟨x, y.1, Ow.view w.gd.sub d x as y.2.1⟩
      | se d =>
        obtain ⟨x, y1, y2⟩ := y
        refine ⟨x, y1, Rp.mono (fun b o e => ?_) (fun _ h => h) d x y2⟩
        obtain ⟨e1, e2⟩ := viewO_iff.mp e
        exact viewO_iff.mpr ⟨e1, e2.imp id fun z => z.imp id fun z => ⟨z.1, by rw [e1]; exact (fun z => nomatch z), z.2.2⟩⟩
  · rw [List.getElem?_map] at e1 e2
    cases q1 : ρ[i]? with
    | none => rw [q1] at e1; cases e1
    | some s0 =>
      cases q2 : ρ[j]? with
      | none => rw [q2] at e2; cases e2
      | some t0 =>
        rw [q1] at e1
        rw [q2] at e2
        cases e1
        cases e2
        have sub : ∀ (s : S) (v : Option V) a, a ∈ s.seen.fpt v → a ∈ s.fpt v := fun s v a m => by
          cases s <;> first | exact m | exact absurd m List.not_mem_nil
        exact w.dj i j s0 t0 v1 v2 a hij q1 q2 e3 e4 (sub _ _ _ o1) (sub _ _ _ o2)
theorem Nx.back (s : Same G G2) (n : Nx G2 R H G' R' H') : Nx G R H (Dl.satur G H') R' H' where
  gg := satur_same
  rr := n.rr
  gd := by
    have s1 : Same G H' := fun b o e => n.gd.sub b o (n.gg b o (s b o e))
    have g1 : Gd G R' H' := ⟨s1, n.gd.rd, fun a r => by
      cases q : G a with
      | none => rfl
      | some o =>
        have := n.gg a o (s a o q)
        rw [n.gd.dis a r] at this
        cases this⟩
    exact g1.satur
  ev := n.ev
  ex := n.ex
  fg := fun b u q => by
    rcases satur_cases q with z | ⟨_, z⟩
    · exact .inl z
    · exact .inr (.inr (stiff_of z))
  fr := n.fr
theorem Lk.view {xq : XQ} (g : Gd G R H) (x : Lk Γ W xq σ G R H) : Lk Γ W (fun c fs => immF fs = true ∧ xq c fs) σ (viewO H G R H) R H := fun c fs G' R' H' cls dx n z e => by
  refine x c fs _ R' H' cls dx (n.back (viewO_same g.sub)) z.2 ⟨e.1, e.2.imp id fun ⟨e1, a, vs, e2, e3, e4⟩ => ⟨e1, a, vs, e2, e3, ?_⟩⟩
  have s1 : Same G H' := fun b o y => n.gd.sub b o (n.gg b o (viewO_same g.sub b o y))
  exact RpF.imm (satur_tups s1) (fun _ h => h) fs vs z.1 (RpF.mono n.gd.sub (fun _ h => h) fs vs e4)
end
section
variable {Γ : Kx} {W : WX}
def JF (Γ : Kx) (W : WX) (te : TE) (fo : DE) : Prop := ∀ (H0 G : Hp) (R : Addr → Prop) (H : Hp) (σ : St) (ρ : En) (xq : XQ) (Qd : D → Prop) (Q : VK), Wd Γ H0 G R H σ ρ → Lk Γ W xq σ G R H → fo xq ρ Qd →
  (∀ v as G' R' H' d, Nx G R H G' R' H' → Ow Γ H G' R' H' d v as → as.Nodup → Qd d → Q v H') → te σ H Q
def dLeaf (fe : DE) : DE := fun xq ρ Q => fe xq ρ fun d => leafB d = true ∧ Q d
theorem jf_je {te : TE} {fe : DE} (h : JE Γ W te fe) : JF Γ W te (dLeaf fe) := fun H0 G R H σ ρ xq Qd Q w x f k =>
  h H0 G R H σ ρ xq _ Q w x f fun v G' R' H' d n r q => k v [] G' R' H' d n (Ow.leaf n.gd.sub d v q.1 r) (by simp) q.2
theorem older_of {G G' : Hp} {R R' : Addr → Prop} {H H' : Hp} (n : Nx G R H G' R' H') : ∀ a, H' a = none → H a = none := fun a ha => by
  cases y : H a with
  | none => rfl
  | some o =>
    obtain ⟨o', e'⟩ := n.ex a o y
    rw [ha] at e'; cases e'
theorem Stays.new {G : Hp} {R : Addr → Prop} {H : Hp} {as : List Addr} {p : Addr} {o : HO} (h : H p = none) : Stays G R H G R (L2.upd H p o) as := ⟨fun a u _ e _ g r => ⟨by rw [upd_ne (ne_of_none e h)]; exact e, g, r⟩, fun a u e _ => by rw [upd_ne (ne_of_none e h)]; exact e, fun _ h => h, fun _ _ h => h⟩
end
end Dl
namespace Dl
open PySem PySem.Spec PyProof.Rows L2
abbrev DP := XQ → En → (Nat → (D → D) → D → Prop) → Prop
def dP0 (i : Nat) : DP := fun _ ρ Q => match ρ[i]? with
  | some (.ow _ _ d) => Q i (fun x => x) d
  | _ => False
def putS (i : Nat) (d' : D) (K : En → Prop) (ρ : En) : Prop := match ρ[i]? with
  | some (.ow v _ _) => ∀ as, K (ρ.set i (.ow v as d'))
  | _ => False
section
variable {Γ : Kx} {W : WX} {tp te ti : TE} {fp : DP} {fe fi fo : DE}
def JP (Γ : Kx) (W : WX) (tp : TE) (fp : DP) : Prop := ∀ (H0 G : Hp) (R : Addr → Prop) (H : Hp) (σ : St) (ρ : En) (xq : XQ) (Qp : Nat → (D → D) → D → Prop) (Q : VK), Wd Γ H0 G R H σ ρ → Lk Γ W xq σ G R H → fp xq ρ Qp →
  (∀ v1 G' R' H' i f d1 v as d as1, Nx G R H G' R' H' → ρ[i]? = some (.ow v as d) → Comp Γ H0 G' R' H' v as f d1 v1 as1 → Qp i f d1 → Q v1 H') → tp σ H Q
theorem jp_var {i : Nat} : JP Γ W (tVar i) (dP0 i) := fun H0 G R H σ ρ xq Qp Q w x f k => by
  unfold dP0 at f
  split at f
  · rename_i v as d e
    obtain ⟨u, e2, rfl, h, nd⟩ := w.sl i _ e
    exact ⟨v, e2, k v G R H i _ d v as d as (Nx.refl w.gd) e (Comp.refl h nd) f⟩
  · exact f.elim
end
end Dl
namespace Dl
open PySem PySem.Spec PyProof.Rows L2
section
variable {Γ : Kx} {H0 G G' : Hp} {R R' : Addr → Prop} {H H' : Hp} {σ : St} {ρ : En} {i : Nat} {v v1 : V} {as as' as1 : List Addr} {d d' d1 : D} {f : D → D}
mutual
theorem Ow.base {H1 : Hp} : ∀ (d : D) (v : V) (as : List Addr), (∀ a ∈ as, H1 a = none) → Ow Γ H0 G R H d v as → Ow Γ H1 G R H d v as
  | .lst ds, v, as, o, h => by
    unfold Ow at *
    obtain ⟨a, vs, bs, e, rfl, h0, g, r, hl, l⟩ := h
    exact ⟨a, vs, bs, e, rfl, o a (List.mem_cons_self ..), g, r, hl, OwL.base ds vs bs (fun b m => o b (List.mem_cons_of_mem _ m)) l⟩
  | .dic ds, v, as, o, h => by
    unfold Ow at *
    obtain ⟨a, vs, bs, e, rfl, h0, g, r, hl, l⟩ := h
    exact ⟨a, vs, bs, e, rfl, o a (List.mem_cons_self ..), g, r, hl, OwK.base ds vs bs (fun b m => o b (List.mem_cons_of_mem _ m)) l⟩
  | .tup ds, v, as, o, h => by
    unfold Ow at *
    obtain ⟨a, vs, e, q, l⟩ := h
    exact ⟨a, vs, e, q, OwL.base ds vs as o l⟩
  | .non, v, as, _, h => by unfold Ow at *; exact h
  | .bl _, v, as, _, h => by unfold Ow at *; exact h
  | .int _, v, as, _, h => by unfold Ow at *; exact h
  | .str _, v, as, _, h => by unfold Ow at *; exact h
  | .scr _, v, as, _, h => by unfold Ow at *; exact h
  | .rd, v, as, _, h => by unfold Ow at *; exact h
  | .ins _ _, v, as, _, h => by unfold Ow at *; exact h
  | .exc _ _, v, as, _, h => by unfold Ow at *; exact h
  | .nms _, v, as, _, h => by unfold Ow at *; exact h
  | .any, v, as, _, h => by unfold Ow at *; exact h
  | .fr _, v, as, _, h => by unfold Ow at *; exact h
  | .raw _, v, as, _, h => by unfold Ow at *; exact h
  | .obj c ds, v, as, o, h => by
    unfold Ow at *
    obtain ⟨a, dx, vs, bs, e, rfl, h0, g, r, hl, l⟩ := h
    exact ⟨a, dx, vs, bs, e, rfl, o a (List.mem_cons_self ..), g, r, hl, OwK.base ds vs bs (fun b m => o b (List.mem_cons_of_mem _ m)) l⟩
theorem OwL.base {H1 : Hp} : ∀ (ds : List D) (vs : List V) (as : List Addr), (∀ a ∈ as, H1 a = none) → OwL Γ H0 G R H ds vs as → OwL Γ H1 G R H ds vs as
  | [], vs, as, _, h => by unfold OwL at *; exact h
  | d :: ds, vs, as, o, h => by
    unfold OwL at *
    obtain ⟨v, r, bs, cs, e, rfl, h1, h2⟩ := h
    exact ⟨v, r, bs, cs, e, rfl, Ow.base d v bs (fun a m => o a (List.mem_append_left _ m)) h1, OwL.base ds r cs (fun a m => o a (List.mem_append_right _ m)) h2⟩
theorem OwK.base {H1 : Hp} : ∀ (ds : List (Key × D)) (vs : List (Key × V)) (as : List Addr), (∀ a ∈ as, H1 a = none) → OwK Γ H0 G R H ds vs as → OwK Γ H1 G R H ds vs as
  | [], vs, as, _, h => by unfold OwK at *; exact h
  | (x, d) :: ds, vs, as, o, h => by
    unfold OwK at *
    obtain ⟨v, r, bs, cs, e, rfl, h1, h2⟩ := h
    exact ⟨v, r, bs, cs, e, rfl, Ow.base d v bs (fun a m => o a (List.mem_append_left _ m)) h1, OwK.base ds r cs (fun a m => o a (List.mem_append_right _ m)) h2⟩
end
theorem Ow.nn (h : Ow Γ H0 G R H d v as) (hn : isNon d = false) : v ≠ .non := by
  cases d with
  | non => cases hn
  | bl b => unfold Ow Rp at h; rw [h.2]; exact fun e => nomatch e
  | int b => unfold Ow Rp at h; rw [h.2]; exact fun e => nomatch e
  | str b => unfold Ow Rp at h; rw [h.2]; exact fun e => nomatch e
  | scr b => unfold Ow Rp at h; obtain ⟨_, a, e, _⟩ := h; rw [e]; exact fun e => nomatch e
  | rd => unfold Ow Rp at h; obtain ⟨_, a, e, _⟩ := h; rw [e]; exact fun e => nomatch e
  | ins c fs => unfold Ow Rp at h; obtain ⟨_, a, _, _, e, _⟩ := h; rw [e]; exact fun e => nomatch e
  | exc c fs => unfold Ow Rp at h; obtain ⟨_, a, _, e, _⟩ := h; rw [e]; exact fun e => nomatch e
  | nms b => unfold Ow Rp at h; obtain ⟨_, a, _, e, _⟩ := h; rw [e]; exact fun e => nomatch e
  | any => unfold Ow Rp at h; exact h.2
  | fr d => unfold Ow Rp at h; exact h.2.1
  | raw u => unfold Ow Rp at h; rw [h.2]; exact of_decide_eq_false hn
  | lst ds => unfold Ow at h; obtain ⟨a, _, _, e, _⟩ := h; rw [e]; exact fun e => nomatch e
  | dic ds => unfold Ow at h; obtain ⟨a, _, _, e, _⟩ := h; rw [e]; exact fun e => nomatch e
  | tup ds => unfold Ow at h; obtain ⟨a, _, e, _⟩ := h; rw [e]; exact fun e => nomatch e
  | obj c kvs =>
    unfold Ow at h
    obtain ⟨a, dx, vs, bs, rfl, _⟩ := h
    exact fun z => nomatch z
theorem Nx.cut2 (n : Nx G R H G' R' H') (sub : ∀ a ∈ as1, a ∈ as) (g : ∀ a ∈ as1, G' a = none ∧ ¬ R' a) : Nx G R (Dl.cut H as) G' R' (Dl.cut H' as1) where
  gg := n.gg
  rr := n.rr
  gd := n.gd.cut g
  ev := fun b o e z => by
    obtain ⟨e1, e2⟩ := cut_some e
    rw [cut_out fun m => e1 (sub b m)]
    exact n.ev b o e2 z
  ex := fun b o e => by
    obtain ⟨e1, e2⟩ := cut_some e
    rw [cut_out fun m => e1 (sub b m)]
    exact n.ex b o e2
  fg := n.cutOf.fg
  fr := n.cutOf.fr
theorem Wd.addO (w : Wd Γ H0 G R (Dl.cut H as) σ ρ) (h : Ow Γ H0 G R H d v as) (nd : as.Nodup) (x : Nat) : Wd Γ H0 G R H (σ.set x (some v)) (ρ.set x (.ow v as d)) := by
  have fr := Ow.fresh d v as h
  have g : Gd G R H := w.gd.uncut
  exact (w.nx (Nx.uncut g fun a m => (fr a m).2.1)).set x (v := some v) (s := .ow v as d) ⟨rfl, h, nd⟩ fun a m j t u hj e1 e2 m2 => by
    obtain ⟨⟨o, ho, _⟩, _⟩ := w.ownThere e1 e2 m2
    rw [cut_in (show a ∈ as from m)] at ho
    cases ho
end
section
variable {Γ : Kx} {W : WX} {tp te ti : TE} {fp : DP} {fe fi fo : DE} {ts : TS} {fs : DS}
def dNewO (x : Nat) (fo : DE) : DS := fun k ρ => fo (k.xq ρ) ρ fun d => ∀ v as, k.nx (ρ.set x (.ow v as d))
theorem js_newO {x : Nat} (a : JF Γ W te fo) : JS Γ W (tAsg te (gName x)) (dNewO x fo) := fun G0 R0 H0 G R H σ ρ k D n w e f =>
  a H0 G R H σ ρ _ _ _ w (e.lk n w) f fun v as G' R' H' d m o nd q => by
    have fr : Frs H G' R' H' as := Ow.fresh d v as o
    have o0 : Ow Γ H0 G' R' H' d v as := Ow.older (fun a h => n.free0 h) d v as o
    exact e.nx G' R' H' _ _ (n.trans m) ((w.nx (m.cut fr)).addO o0 nd x) (q v as)
end
end Dl
namespace Dl
open PySem PySem.Spec PyProof.Rows L2
inductive AD where
  | d (d : D) | o (d : D)
abbrev DFO := List AD → (AD → List AD → Prop) → XQ → Prop
section
variable (Γ : Kx) (H0 G : Hp) (R : Addr → Prop) (H : Hp)
def AL : List AD → List V → List (List Addr) → Prop
  | [], vs, ass => vs = [] ∧ ass = []
  | .d d :: r, vs, ass => ∃ v q as', vs = v :: q ∧ ass = [] :: as' ∧ Rp Γ G R d v ∧ AL r q as'
  | .o d :: r, vs, ass => ∃ v q a as', vs = v :: q ∧ ass = a :: as' ∧ Ow Γ H0 G R H d v a ∧ AL r q as'
end
def spO (Γ : Kx) (S : DFO) : Sp := fun vs H Q E => ∃ (G : Hp) (R : Addr → Prop) (ads : List AD) (ass : List (List Addr)) (Qd : AD → List AD → Prop) (Xq : XQ), Gd G R H ∧ AL Γ (cut H ass.flatten) G R H ads vs ass ∧ ass.flatten.Nodup ∧ S ads Qd Xq ∧
  (∀ v G' R' H' r rs ads' ass', Nx G R (cut H ass.flatten) G' R' H' → AL Γ (cut H ass.flatten) G' R' H' (r :: ads') (v :: vs) (rs :: ass') → (rs ++ ass'.flatten).Nodup → Qd r ads' → Q v H') ∧
  ∀ c fs G' R' H' cls dx, Nx G R (cut H ass.flatten) G' R' H' → Xq c fs → ExRep Γ G' R' H' c fs cls dx → E cls dx H'
section
variable {Γ : Kx} {H0 G G' : Hp} {R R' : Addr → Prop} {H H' : Hp}
theorem AL.len : ∀ {ads : List AD} {vs : List V} {ass : List (List Addr)}, AL Γ H0 G R H ads vs ass → vs.length = ads.length ∧ ass.length = ads.length
  | [], vs, ass, h => by unfold AL at h; obtain ⟨rfl, rfl⟩ := h; exact ⟨rfl, rfl⟩
  | .d d :: r, vs, ass, h => by
    unfold AL at h
    obtain ⟨v, q, as', rfl, rfl, _, h⟩ := h
    exact ⟨congrArg (· + 1) h.len.1, congrArg (· + 1) h.len.2⟩
  | .o d :: r, vs, ass, h => by
    unfold AL at h
    obtain ⟨v, q, a, as', rfl, rfl, _, h⟩ := h
    exact ⟨congrArg (· + 1) h.len.1, congrArg (· + 1) h.len.2⟩
theorem AL.ds : ∀ {ds : List D} {vs : List V}, RpL Γ G R ds vs → ∃ ass, AL Γ H0 G R H (ds.map AD.d) vs ass ∧ ass.flatten = []
  | [], vs, h => by unfold RpL at h; subst h; exact ⟨[], ⟨rfl, rfl⟩, rfl⟩
  | d :: ds, vs, h => by
    unfold RpL at h
    obtain ⟨v, q, rfl, h1, h2⟩ := h
    obtain ⟨ass, h3, h4⟩ := AL.ds h2
    exact ⟨[] :: ass, ⟨v, q, ass, rfl, rfl, h1, h3⟩, by simpa using h4⟩
theorem AL.one : ∀ {ds1 ds2 : List D} {vs1 vs2 : List V} {d : D} {v : V} {as : List Addr}, RpL Γ G R ds1 vs1 → Ow Γ H0 G R H d v as → RpL Γ G R ds2 vs2 → ∃ ass, AL Γ H0 G R H (ds1.map AD.d ++ .o d :: ds2.map AD.d) (vs1 ++ v :: vs2) ass ∧ ass.flatten = as
  | [], ds2, vs1, vs2, d, v, as, h1, h, h2 => by
    unfold RpL at h1
    subst h1
    obtain ⟨ass, a1, a2⟩ := AL.ds (H0 := H0) (H := H) h2
    exact ⟨as :: ass, ⟨v, vs2, as, ass, rfl, rfl, h, a1⟩, by simp [a2]⟩
  | x :: ds1, ds2, vs1, vs2, d, v, as, h1, h, h2 => by
    unfold RpL at h1
    obtain ⟨u, q, rfl, p1, p2⟩ := h1
    obtain ⟨ass, a1, a2⟩ := AL.one p2 h h2
    exact ⟨[] :: ass, ⟨u, q ++ v :: vs2, ass, rfl, rfl, p1, a1⟩, by simpa using a2⟩
theorem AL.at : ∀ {ads : List AD} {vs : List V} {ass : List (List Addr)} {j : Nat} {d : D}, AL Γ H0 G R H ads vs ass → ass.flatten.Nodup → ads[j]? = some (.o d) → ∃ v as, vs[j]? = some v ∧ Ow Γ H0 G R H d v as ∧ as.Nodup
  | [], _, _, _, _, _, _, e => by simp at e
  | .d x :: r, vs, ass, 0, d, h, nd, e => by simp at e
  | .o x :: r, vs, ass, 0, d, h, nd, e => by
    simp at e
    subst e
    unfold AL at h
    obtain ⟨v, q, a, as', rfl, rfl, o, h⟩ := h
    rw [List.flatten_cons] at nd
    exact ⟨v, a, rfl, o, (List.nodup_append.mp nd).1⟩
  | .d x :: r, vs, ass, j + 1, d, h, nd, e => by
    unfold AL at h
    obtain ⟨v, q, as', rfl, rfl, o, h⟩ := h
    rw [List.flatten_cons] at nd
    obtain ⟨u, as, a1, a2⟩ := AL.at h (List.nodup_append.mp nd).2.1 (by simpa using e)
    exact ⟨u, as, by simpa using a1, a2⟩
  | .o x :: r, vs, ass, j + 1, d, h, nd, e => by
    unfold AL at h
    obtain ⟨v, q, a, as', rfl, rfl, o, h⟩ := h
    rw [List.flatten_cons] at nd
    obtain ⟨u, as, a1, a2⟩ := AL.at h (List.nodup_append.mp nd).2.1 (by simpa using e)
    exact ⟨u, as, by simpa using a1, a2⟩
theorem cut_nil : cut H [] = H := by
  funext b
  unfold cut
  simp
end
def JX (Γ : Kx) (W : WX) (te : TE) (fx : XQ → En → (D → En → Prop) → Prop) : Prop := ∀ (G0 : Hp) (R0 : Addr → Prop) (H0 G : Hp) (R : Addr → Prop) (H : Hp) (σ : St) (ρ : En) (xq : XQ) (Qd : D → En → Prop) (Q : VK), Nx G0 R0 H0 G R H → Wd Γ H0 G R H σ ρ → Lk Γ W xq σ G R H → fx xq ρ Qd →
  (∀ v G' R' H' ρ' d, Nx G0 R0 H0 G' R' H' → Wd Γ H0 G' R' H' σ ρ' → Rp Γ G' R' d v → Qd d ρ' → Q v H') → te σ H Q
abbrev DX := XQ → En → (List D → Nat → (D → D) → D → List D → Prop) → Prop
section
variable {Γ : Kx} {W : WX} {te tp : TE} {ta : TA} {fe : DE} {fp : DP} {fa : DA} {fx : DX}
end
def startA : List AD → List V → List (List Addr) → En
  | .d d :: r, _ :: vs, _ :: ass => .fz d :: startA r vs ass
  | .o d :: r, v :: vs, as :: ass => .ow v as d :: startA r vs ass
  | _, _, _ => []
def startO (n : Nat) (ads : List AD) (vs : List V) (ass : List (List Addr)) : En := startA ads vs ass ++ List.replicate (n - ads.length) S.un
def postO : List AD → List V → Nat → En → (List AD → Prop) → Prop
  | .d d :: r, _ :: vs, j, ρ, Q => postO r vs (j + 1) ρ fun l => Q (.d d :: l)
  | .o _ :: r, v :: vs, j, ρ, Q => ∃ as d', ρ[j]? = some (.ow v as d') ∧ postO r vs (j + 1) ρ fun l => Q (.o d' :: l)
  | _, _, _, _, Q => Q []
def kO (ads : List AD) (vs : List V) (Qd : AD → List AD → Prop) (Xq : XQ) : DK := ⟨fun ρ => postO ads vs 0 ρ (Qd (.d .non)), fun d ρ => postO ads vs 0 ρ (Qd (.d d)), fun _ => False, fun _ => False, fun c fs _ => Xq c fs, fun _ _ d ρ => postO ads vs 0 ρ (Qd (.o d))⟩
section
variable {Γ : Kx} {H0 G G' : Hp} {R R' : Addr → Prop} {H H' : Hp} {σ : St} {ρ : En}
theorem startA_len : ∀ {ads : List AD} {vs : List V} {ass : List (List Addr)}, AL Γ H0 G R H ads vs ass → (startA ads vs ass).length = ads.length
  | [], vs, ass, h => by unfold AL at h; obtain ⟨rfl, rfl⟩ := h; rfl
  | .d d :: r, vs, ass, h => by
    unfold AL at h
    obtain ⟨v, q, as', rfl, rfl, _, h⟩ := h
    unfold startA
    rw [List.length_cons, List.length_cons, startA_len h]
  | .o d :: r, vs, ass, h => by
    unfold AL at h
    obtain ⟨v, q, a, as', rfl, rfl, _, h⟩ := h
    unfold startA
    rw [List.length_cons, List.length_cons, startA_len h]
theorem startA_ok : ∀ {ads : List AD} {vs : List V} {ass : List (List Addr)}, AL Γ H0 G R H ads vs ass → ass.flatten.Nodup → ∀ (j : Nat) s, (startA ads vs ass)[j]? = some s → ∃ v, vs[j]? = some v ∧ SlotOk Γ H0 G R H s (some v) ∧ ∀ a ∈ s.fpt (some v), a ∈ (ass[j]?).getD []
  | [], vs, ass, h, nd, j, s, e => by unfold AL at h; obtain ⟨rfl, rfl⟩ := h; simp [startA] at e
  | .d d :: r, vs, ass, h, nd, j, s, e => by
    unfold AL at h
    obtain ⟨v, q, as', rfl, rfl, h1, h⟩ := h
    unfold startA at e
    cases j with
    | zero =>
      simp at e
      subst e
      exact ⟨v, rfl, ⟨v, rfl, h1⟩, fun a m => absurd m List.not_mem_nil⟩
    | succ j =>
      rw [List.getElem?_cons_succ] at e
      obtain ⟨v', a, b, c⟩ := startA_ok h (by simpa using nd) j s e
      exact ⟨v', by simpa using a, b, by simpa using c⟩
  | .o d :: r, vs, ass, h, nd, j, s, e => by
    unfold AL at h
    obtain ⟨v, q, a, as', rfl, rfl, h1, h⟩ := h
    rw [List.flatten_cons] at nd
    unfold startA at e
    cases j with
    | zero =>
      simp at e
      subst e
      exact ⟨v, rfl, ⟨rfl, h1, (List.nodup_append.mp nd).1⟩, fun x m => m⟩
    | succ j =>
      rw [List.getElem?_cons_succ] at e
      obtain ⟨v', x, b, c⟩ := startA_ok h (List.nodup_append.mp nd).2.1 j s e
      exact ⟨v', by simpa using x, b, by simpa using c⟩
theorem flat_dis : ∀ {ass : List (List Addr)} {i j : Nat} {a : Addr}, ass.flatten.Nodup → i < j → a ∈ (ass[i]?).getD [] → a ∈ (ass[j]?).getD [] → False
  | [], i, j, a, _, _, h, _ => by simp at h
  | x :: ass, i, 0, a, _, hl, _, _ => absurd hl (Nat.not_lt_zero _)
  | x :: ass, 0, j + 1, a, nd, _, h1, h2 => by
    rw [List.flatten_cons] at nd
    simp at h1
    rw [List.getElem?_cons_succ] at h2
    cases q : ass[j]? with
    | none => rw [q] at h2; simp at h2
    | some y =>
      rw [q] at h2
      exact (List.nodup_append.mp nd).2.2 a h1 a (List.mem_flatten.mpr ⟨y, List.mem_of_getElem? q, h2⟩) rfl
  | x :: ass, i + 1, j + 1, a, nd, hl, h1, h2 => by
    rw [List.flatten_cons] at nd
    rw [List.getElem?_cons_succ] at h1 h2
    exact flat_dis (List.nodup_append.mp nd).2.1 (by omega) h1 h2
theorem start_wdO {N : List Str} {ads : List AD} {vs : List V} {ass : List (List Addr)} (g : Gd G R H) (h : AL Γ H0 G R H ads vs ass) (nd : ass.flatten.Nodup) (hl : ads.length ≤ N.length) : Wd Γ H0 G R H (L2.start N vs) (startO N.length ads vs ass) := by
  obtain ⟨l1, l2⟩ := h.len
  have l3 := startA_len h
  unfold L2.start startO
  have out : ∀ (i : Nat) s, (startA ads vs ass ++ List.replicate (N.length - ads.length) S.un)[i]? = some s → (i < ads.length ∧ (startA ads vs ass)[i]? = some s) ∨ (ads.length ≤ i ∧ i < N.length ∧ s = .un) := fun i s q => by
    by_cases hi : i < ads.length
    · rw [List.getElem?_append_left (by omega)] at q
      exact .inl ⟨hi, q⟩
    · rw [List.getElem?_append_right (by omega)] at q
      have hs : s = .un := List.eq_of_mem_replicate (List.mem_of_getElem? q)
      have hlt := (List.getElem?_eq_some_iff.mp q).1
      rw [List.length_replicate] at hlt
      exact .inr ⟨by omega, by omega, hs⟩
  have key : ∀ (i : Nat) s, (startA ads vs ass ++ List.replicate (N.length - ads.length) S.un)[i]? = some s → ∃ v, (vs.map some ++ List.replicate (N.length - vs.length) none)[i]? = some v ∧ SlotOk Γ H0 G R H s v ∧ ∀ a ∈ s.fpt v, a ∈ (ass[i]?).getD [] := fun i s q => by
    rcases out i s q with ⟨hi, q⟩ | ⟨h1, h2, rfl⟩
    · obtain ⟨v, e, k, m⟩ := startA_ok h nd i s q
      refine ⟨some v, ?_, k, m⟩
      rw [List.getElem?_append_left (by rw [List.length_map]; omega), List.getElem?_map, e]
      rfl
    · refine ⟨none, ?_, True.intro, fun a m => absurd m List.not_mem_nil⟩
      rw [List.getElem?_append_right (by rw [List.length_map]; omega), List.length_map, List.getElem?_replicate, if_pos (by omega)]
  refine ⟨g, by simp; omega, fun i s q => ?_, fun i j s t v1 v2 a hij q1 q2 e1 e2 o1 o2 => ?_⟩
  · obtain ⟨v, e, k, _⟩ := key i s q
    exact ⟨v, e, k⟩
  · obtain ⟨u1, f1, _, m1⟩ := key i s q1
    obtain ⟨u2, f2, _, m2⟩ := key j t q2
    rw [f1] at e1
    rw [f2] at e2
    cases e1
    cases e2
    rcases Nat.lt_or_gt_of_ne hij with z | z
    · exact flat_dis nd z (m1 a o1) (m2 a o2)
    · exact flat_dis nd z (m2 a o2) (m1 a o1)
theorem postO_ok : ∀ {ads : List AD} {vs : List V} {ass : List (List Addr)} {j : Nat} {Q : List AD → Prop}, AL Γ H0 G R H ads vs ass → Same G G' → (∀ a, R a → R' a) → Wd Γ H0 G' R' H' σ ρ → postO ads vs j ρ Q →
    ∃ ads' ass', AL Γ H0 G' R' H' ads' vs ass' ∧ Q ads' ∧ ass'.flatten.Nodup ∧ ∀ a ∈ ass'.flatten, ∃ (i : Nat) (s : S) (v : Option V), j ≤ i ∧ ρ[i]? = some s ∧ σ[i]? = some v ∧ a ∈ s.fpt v
  | [], vs, ass, j, Q, h, g, r, w, q => by
    unfold AL at h
    obtain ⟨rfl, rfl⟩ := h
    exact ⟨[], [], ⟨rfl, rfl⟩, q, by simp, fun a m => by simp at m⟩
  | .d d :: t, vs, ass, j, Q, h, g, r, w, q => by
    unfold AL at h
    obtain ⟨v, q', as', rfl, rfl, h1, h⟩ := h
    unfold postO at q
    obtain ⟨ads', ass', a1, a2, a3, a4⟩ := postO_ok h g r w q
    refine ⟨.d d :: ads', [] :: ass', ⟨v, q', ass', rfl, rfl, Rp.mono g r d v h1, a1⟩, a2, by simpa using a3, fun a m => ?_⟩
    obtain ⟨i, s, u, b1, b2⟩ := a4 a (by simpa using m)
    exact ⟨i, s, u, by omega, b2⟩
  | .o d :: t, vs, ass, j, Q, h, g, r, w, q => by
    unfold AL at h
    obtain ⟨v, q', a0, as', rfl, rfl, h1, h⟩ := h
    unfold postO at q
    obtain ⟨as, d', e, q⟩ := q
    obtain ⟨ads', ass', a1, a2, a3, a4⟩ := postO_ok h g r w q
    obtain ⟨u, eσ, eu, o, nd⟩ := w.sl j _ e
    subst eu
    refine ⟨.o d' :: ads', as :: ass', ⟨v, q', as, ass', rfl, rfl, o, a1⟩, a2, ?_, fun a m => ?_⟩
    · rw [List.flatten_cons]
      refine List.nodup_append.mpr ⟨nd, a3, fun a ha b hb eab => ?_⟩
      subst eab
      obtain ⟨i, s, u, b1, b2, b3, b4⟩ := a4 a hb
      exact w.dj j i _ s _ u a (by omega) e b2 eσ b3 ha b4
    · rw [List.flatten_cons] at m
      rcases List.mem_append.mp m with m | m
      · exact ⟨j, _, _, Nat.le_refl _, e, eσ, m⟩
      · obtain ⟨i, s, u, b1, b2⟩ := a4 a m
        exact ⟨i, s, u, by omega, b2⟩
end
theorem dfnO {P : Program} {w : World} {K : PySem.W.Frag} {mg : Str → Option Value} {base : Heap} {C : Str → Addr} {bl : Str → Bool} {x q : Str} {params : Arguments} {body : List Stmt} {sc : Scope} {N ps : List Str} {dvs : List V} {kws : List (Str × V)} {f : Addr} {fd : FuncData} {k : Nat} {S : DFO} {fs : DS}
    (F : FunD K x q params body sc dvs kws f fd) (Sc : FnScope N ps sc) (hbl : ∀ n, bl n = true → mg n = none) (len : ∀ ads Q Xq, S ads Q Xq → ads.length = ps.length)
    (hbody : ∀ (cdv : Value) (A : Around) (outer : List PySem.Env) (s : Shared) (H : Hp) (E : XK), GS (cxD P w K mg base N q sc f cdv A outer s H E) (wD E) k bl → CSs (cxD P w K mg base N q sc f cdv A outer s H E) C (wD E) body fs)
    (spec : ∀ ads vs ass Qd Xq, S ads Qd Xq → vs.length = ads.length → ass.length = ads.length → fs (kO ads vs Qd Xq) (startO N.length ads vs ass)) : FnOk P w K mg base (L2N.CX P w) (k + 1) f fd ps (spO ⟨K, C⟩ S) := by
  refine F.ok Sc (fun vs H Q E h => ?_) (fun cdv A outer s H vs Q E hr h => ?_)
  · obtain ⟨G, R, ads, ass, Qd, Xq, g, al, nd, q', _⟩ := h
    rw [al.len.1]
    exact len _ _ _ q'
  · obtain ⟨G, R, ads, ass, Qd, Xq, g, al, nd, q', h1, h2⟩ := h
    have gs : GS (cxD P w K mg base N q sc f cdv A outer s H E) (wD E) k bl := ⟨⟨rfl, hr, L2N.takes_of rfl rfl rfl rfl, hbl⟩, passes_of rfl⟩
    obtain ⟨t, p, j⟩ := hbody cdv A outer s H E gs
    refine ⟨t, p, ?_⟩
    have hl : ads.length ≤ N.length := by
      rw [len _ _ _ q']
      have := congrArg List.length Sc.pre
      rw [List.length_take] at this
      omega
    have fr : ∀ a ∈ ass.flatten, G a = none := fun a m => by
      cases z : G a with
      | none => rfl
      | some o =>
        have w0 := start_wdO (Γ := ⟨K, C⟩) (N := N) g al nd hl
        exfalso
        have go : ∀ {ads : List AD} {vs : List V} {ass : List (List Addr)}, AL ⟨K, C⟩ (cut H ass.flatten) G R H ads vs ass → True := fun _ => trivial
        have ext : ∀ {H0 : Hp} {ads : List AD} {vs : List V} {ass : List (List Addr)}, AL ⟨K, C⟩ H0 G R H ads vs ass → a ∈ ass.flatten → G a = none := by
          intro H0 ads
          induction ads with
          | nil => intro vs ass h m; unfold AL at h; obtain ⟨rfl, rfl⟩ := h; simp at m
          | cons x r ih =>
            intro vs ass h m
            cases x with
            | d d =>
              unfold AL at h
              obtain ⟨v, q, as', rfl, rfl, _, h⟩ := h
              exact ih h (by simpa using m)
            | o d =>
              unfold AL at h
              obtain ⟨v, q, b, as', rfl, rfl, o, h⟩ := h
              rw [List.flatten_cons] at m
              rcases List.mem_append.mp m with m | m
              · exact (Ow.fresh d v b o a m).2.1
              · exact ih h m
        rw [ext al m] at z
        cases z
    refine j G R (cut H ass.flatten) G R H _ _ (kO ads vs Qd Xq) _ (Nx.uncut g fr) (start_wdO g al nd hl) ⟨?_, ?_, ?_, ?_, ?_, ?_⟩ (spec ads vs ass Qd Xq q' al.len.1 al.len.2)
    · intro G' R' H' σ ρ n w' z
      obtain ⟨ads', ass', a1, a2, a3, _⟩ := postO_ok al n.gg n.rr w' z
      exact h1 .non G' R' H' (.d .non) [] ads' ass' n ⟨.non, vs, ass', rfl, rfl, rp_non, a1⟩ (by simpa using a3) a2
    · intro v d G' R' H' σ ρ n w' r z
      obtain ⟨ads', ass', a1, a2, a3, _⟩ := postO_ok al n.gg n.rr w' z
      exact h1 v G' R' H' (.d d) [] ads' ass' n ⟨v, vs, ass', rfl, rfl, r, a1⟩ (by simpa using a3) a2
    · exact fun _ _ _ _ _ _ _ z => z.elim
    · exact fun _ _ _ _ _ _ _ z => z.elim
    · exact fun c fs' cls dx G' R' H' σ ρ n _ z e => h2 c fs' G' R' H' cls dx n z e
    · intro v as d G' R' H' σ ρ n w' o nd' z
      obtain ⟨ads', ass', a1, a2, a3, a4⟩ := postO_ok al n.gg n.rr w' z
      have fo := Ow.fresh d v as o
      have g' : Gd G' R' H' := w'.gd.uncut
      have n' : Nx G R (cut H ass.flatten) G' R' H' := n.trans (Nx.uncut g' fun a m => (fo a m).2.1)
      have a1' : AL ⟨K, C⟩ (cut H ass.flatten) G' R' H' ads' vs ass' := by
        have up : ∀ {ads : List AD} {vs : List V} {ass0 : List (List Addr)}, AL ⟨K, C⟩ (cut H ass.flatten) G' R' (cut H' as) ads vs ass0 → AL ⟨K, C⟩ (cut H ass.flatten) G' R' H' ads vs ass0 := by
          intro ads
          induction ads with
          | nil => intro vs ass0 h; exact h
          | cons x r ih =>
            intro vs ass0 h
            cases x with
            | d d =>
              unfold AL at h ⊢
              obtain ⟨v, q, as', e1, e2, r1, h⟩ := h
              exact ⟨v, q, as', e1, e2, r1, ih h⟩
            | o d =>
              unfold AL at h ⊢
              obtain ⟨v, q, b, as', e1, e2, r1, h⟩ := h
              exact ⟨v, q, b, as', e1, e2, Ow.mono d v b ((Nx.uncut g' fun a m => (fo a m).2.1).stays w'.gd b) r1, ih h⟩
        exact up a1
      refine h1 v G' R' H' (.o d) as ads' ass' n' ⟨v, vs, as, ass', rfl, rfl, o, a1'⟩ (List.nodup_append.mpr ⟨nd', a3, fun a ha b hb e => ?_⟩) a2
      subst e
      obtain ⟨i, s, u, _, b2, b3, b4⟩ := a4 a hb
      obtain ⟨⟨y, hy, _⟩, _⟩ := w'.ownThere b2 b3 b4
      rw [cut_in ha] at hy
      cases hy
end Dl
namespace Dl
open PySem PySem.Spec PyProof.Rows L2
section
variable {Γ : Kx} {H0 G G' : Hp} {R R' : Addr → Prop} {H H' : Hp}
structure Soft (G G' : Hp) : Prop where
  lst : ∀ a vs, G a = some (.lst vs) → G' a = some (.lst vs)
  dK : ∀ a vs, G a = some (.dK vs) → G' a = some (.dK vs)
  st : ∀ a o, G a = some o → Stiff o → G' a = some o
end
section
variable {Γ : Kx} {W : WX} {te : TE} {ta : TA} {fe : DE} {fa : DA}
end
def spS (Γ : Kx) (S : DF) : Sp := fun vs H Q E => ∃ (G : Hp) (R : Addr → Prop) (ds : List D) (Qd : D → Prop) (Xq : XQ), Gd G R H ∧ RpL Γ (viewO H G R H) R ds vs ∧ S ds Qd Xq ∧
  (∀ v G' R' H' d, Nx G R H G' R' H' → Rp Γ G' R' d v → Qd d → Q v H') ∧ ∀ c fs G' R' H' cls dx, Nx G R H G' R' H' → Xq c fs → ExRep Γ G' R' H' c fs cls dx → E cls dx H'
def spIS (Γ : Kx) (c : Str) (S : DI) : Sp := fun vs H Q E => ∃ (G : Hp) (R : Addr → Prop) (H1 : Hp) (x dx : Addr) (us : List V) (ds : List D) (Qf : List (Str × D) → Prop) (Xq : XQ),
  vs = .ref x :: us ∧ H = upd (upd H1 dx (.own x)) x (.ins (Γ.C c) dx []) ∧ H1 x = none ∧ H1 dx = none ∧ dx ≠ x ∧ Gd G R H1 ∧ RpL Γ (viewO H1 G R H1) R ds us ∧ S ds Qf Xq ∧
  (∀ G' R' H' dx' ws fs, Nx G R H1 G' R' H' → H' x = some (.ins (Γ.C c) dx' ws) → G' x = none → ¬ R' x → RpF Γ G' R' fs ws → Qf fs → Q .non H') ∧ ∀ c fs G' R' H' cls dx, Nx G R H1 G' R' H' → Xq c fs → ExRep Γ G' R' H' c fs cls dx → E cls dx H'
end Dl
namespace Dl
open PySem PySem.Spec PyProof.Rows L2
section
variable (X : Cx) (C : Str → Addr) (W : WX)
def CF (e : Expr) (fo : DE) : Prop := ∃ te, PE X e te ∧ JF ⟨X.K, C⟩ W te fo
def CP (e : Expr) (fp : DP) : Prop := ∃ te, PE X e te ∧ JP ⟨X.K, C⟩ W te fp
def CX (e : Expr) (fx : XQ → En → (D → En → Prop) → Prop) : Prop := ∃ te, PE X e te ∧ JX ⟨X.K, C⟩ W te fx
end
structure CalO (P : Program) (w : World) (K : PySem.W.Frag) (mg : Str → Option Value) (base : Heap) (C : Str → Addr) (k : Nat) (x : Str) (S : DFO) : Prop where
  ex : ∃ (f : Addr) (fd : FuncData) (ps : List Str), FnOk P w K mg base (L2N.CX P w) k f fd ps (spO ⟨K, C⟩ S) ∧ mg x = some (.ref f) ∧ PySem.W.keepIn K (.ref f) = true ∧ Binds K fd ps []
structure CalS (P : Program) (w : World) (K : PySem.W.Frag) (mg : Str → Option Value) (base : Heap) (C : Str → Addr) (k : Nat) (x : Str) (S : DF) : Prop where
  ex : ∃ (f : Addr) (fd : FuncData) (ps : List Str), FnOk P w K mg base (L2N.CX P w) k f fd ps (spS ⟨K, C⟩ S) ∧ mg x = some (.ref f) ∧ PySem.W.keepIn K (.ref f) = true ∧ Binds K fd ps []
structure CalIS (P : Program) (w : World) (K : PySem.W.Frag) (mg : Str → Option Value) (base : Heap) (C : Str → Addr) (k : Nat) (c : Str) (S : DI) : Prop where
  ex : ∃ (f : Addr) (fd : FuncData) (ps : List Str), FnOk P w K mg base (L2N.CX P w) k f fd ps (spIS ⟨K, C⟩ c S) ∧ Mk K (C c) f ∧ mg c = some (.ref (C c)) ∧ Binds K fd ps []
section
variable {P : Program} {w : World} {K : PySem.W.Frag} {mg : Str → Option Value} {base : Heap} {C : Str → Addr} {j k : Nat} {x c : Str} {S : DFO} {S' : DF} {S2 : DI}
theorem CalO.mono (h : CalO P w K mg base C k x S) (i : k ≤ j) : CalO P w K mg base C j x S := let ⟨f, fd, ps, F, m, kp, b⟩ := h.ex; ⟨f, fd, ps, F.mono i, m, kp, b⟩
theorem CalS.mono (h : CalS P w K mg base C k x S') (i : k ≤ j) : CalS P w K mg base C j x S' := let ⟨f, fd, ps, F, m, kp, b⟩ := h.ex; ⟨f, fd, ps, F.mono i, m, kp, b⟩
theorem CalIS.mono (h : CalIS P w K mg base C k c S2) (i : k ≤ j) : CalIS P w K mg base C j c S2 := let ⟨f, fd, ps, F, m, kp, b⟩ := h.ex; ⟨f, fd, ps, F.mono i, m, kp, b⟩
theorem CalO.imp {S S' : DFO} (c : CalO P w K mg base C k x S) (h : ∀ ads Q Xq, S' ads Q Xq → S ads Q Xq) : CalO P w K mg base C k x S' :=
  let ⟨f, fd, ps, F, m, kp, b⟩ := c.ex
  ⟨f, fd, ps, F.imp fun vs H Q E ⟨G, R, ads, ass, Qd, Xq, g, al, nd, s, k1, k2⟩ => ⟨G, R, ads, ass, Qd, Xq, g, al, nd, h _ _ _ s, k1, k2⟩, m, kp, b⟩
theorem CalO.none {params : Arguments} {body : List Stmt} {sc : Scope} {ps : List Str} {f : Addr} {fd : FuncData} (F : FunD K x x params body sc [] [] f fd) (gf : mg x = some (.ref f)) (hb : Binds K fd ps []) : CalO P w K mg base C k x fun _ _ _ => False :=
  ⟨f, fd, ps, ⟨fun vs H Q E h => by obtain ⟨_, _, _, _, _, _, _, _, _, z, _⟩ := h; exact z.elim, fun A outer s H args us vs Q E hr he hbt hv h => by obtain ⟨_, _, _, _, _, _, _, _, _, z, _⟩ := h; exact z.elim⟩, gf, F.kp, hb⟩
end
theorem dfnO1 {P : Program} {w : World} {K : PySem.W.Frag} {mg : Str → Option Value} {base : Heap} {C : Str → Addr} {bl : Str → Bool} {x : Str} {params : Arguments} {body : List Stmt} {sc : Scope} {N ps : List Str} {f : Addr} {fd : FuncData} {k : Nat} {S : DFO} {fs : DS}
    (F : FunD K x x params body sc [] [] f fd) (gf : mg x = some (.ref f)) (Sc : FnScope N ps sc) (hb : Binds K fd ps []) (hbl : ∀ n, bl n = true → mg n = none) (len : ∀ ads Q Xq, S ads Q Xq → ads.length = ps.length)
    (hbody : ∀ (cdv : Value) (A : Around) (outer : List PySem.Env) (s : Shared) (H : Hp) (E : XK), GS (cxD P w K mg base N x sc f cdv A outer s H E) (wD E) k bl → CSs (cxD P w K mg base N x sc f cdv A outer s H E) C (wD E) body fs)
    (spec : ∀ ads vs ass Qd Xq, S ads Qd Xq → vs.length = ads.length → ass.length = ads.length → fs (kO ads vs Qd Xq) (startO N.length ads vs ass)) : CalO P w K mg base C (k + 1) x S :=
  ⟨f, fd, ps, dfnO F Sc hbl len hbody spec, gf, F.kp, hb⟩
section
variable {X : Cx} {C : Str → Addr} {W : WX} {k j : Nat} {bl : Str → Bool} {a b c e o : Expr} {es : List Expr} {fa fb fc fe fo fi : DE} {fs fr : DA} {ft : DT} {fp : DP} {fx : DX} {pos p p1 p2 : Pos} {n i : Nat} {x y : Str}
theorem cf_leaf (h : CE X C W e fe) : CF X C W e (dLeaf fe) := let ⟨_, p, q⟩ := h; ⟨_, p, jf_je q⟩
theorem cp_var (h : PE X e (tVar i)) : CP X C W e (dP0 i) := ⟨_, h, jp_var⟩
theorem cs_newO (i : Nat) (hN : X.N.Nodup) (h : CF X C W e fo) (hi : X.N[i]? = some x := by rfl) (hx : Loc X.env.scope x := by first | exact Or.inl rfl | exact Or.inr rfl) (hs : swapsWith e (some (.Name x p)) pos.line X.env = pure false := by rfl) (hf : X.fn x = true ∨ X.env.scope.names.lookup x = some .local := by first | exact .inl rfl | exact .inr rfl) :
    CS X C W (.Assign [.Name x p] e pos) (dNewO i fo) := let ⟨_, p, q⟩ := h; ⟨_, ps_set hN hi hx p hs hf, js_newO q⟩
def tFof (Γ : Kx) (W : WX) (fo : DE) : TE := fun σ H Q => ∃ (H0 G : Hp) (R : Addr → Prop) (ρ : En) (xq : XQ) (Qd : D → Prop), Wd Γ H0 G R H σ ρ ∧ Lk Γ W xq σ G R H ∧ fo xq ρ Qd ∧ ∀ v as G' R' H' d, Nx G R H G' R' H' → Ow Γ H G' R' H' d v as → as.Nodup → Qd d → Q v H'
theorem CF.canon (h : CF X C W e fo) : PE X e (tFof ⟨X.K, C⟩ W fo) := let ⟨t, p, q⟩ := h; ⟨fun pins s σ H Q I ⟨H0, G, R, ρ, xq, Qd, w, x, f, z⟩ => p.run pins s σ H Q I (q H0 G R H σ ρ xq Qd Q w x f z)⟩
variable {tg iter elt : Expr} {fit : DA} {scope : Scope} {xp py spos : Pos}
end
end Dl
namespace Dl
open PySem PySem.Spec PyProof.Rows L2
section
variable {X : Cx} {C : Str → Addr} {W : WX} {k j : Nat} {bl : Str → Bool} {a b c e : Expr} {fa fb fc fe : DE} {pos p p1 p2 : Pos}
theorem ce_gTup {x : Str} {ys : List Str} (h : X.mg x = some (.ref (C x)) ∧ ∃ (o : Obj) (its : Array Value) (n : Nat), X.K.lookup (C x) = some o ∧ o.cls = .type "tuple" ∧ o.data = .seq its n ∧ its.size ≤ sizeLine ∧ Vals (ys.map V.str) its.toList) (hg : Gl X x := by rfl) (hd : (x == ("__debug__" : Str)) = false := by decide) : CE X C W (.Name x pos) (dC (.tup (ys.map D.str))) :=
  ⟨_, pe_glob (v := .ref (C x)) hg h.1 rfl hd, fun H0 G R H σ ρ xq Qd Q w x' f k => by
    refine k _ G R H _ (Nx.refl w.gd) ?_ f
    unfold Rp
    obtain ⟨o, its, n, h1, h2, h3, h4, h5⟩ := h.2
    refine ⟨_, ys.map V.str, rfl, .inr ⟨o, its, n, h1, h2, h3, h4, h5⟩, RpL.of_get (by simp) fun m d v e1 e2 => ?_⟩
    rw [List.getElem?_map] at e1 e2
    cases z : ys[m]? with
    | none => rw [z] at e1; cases e1
    | some y =>
      rw [z] at e1 e2
      cases e1
      cases e2
      unfold Rp
      rfl⟩
end
end Dl
namespace Dl
open PySem PySem.Spec PyProof.Rows L2
def tIof (Γ : Kx) (W : WX) (fi : DA) : TI := fun σ H Q => ∃ (H0 G : Hp) (R : Addr → Prop) (ρ : En) (xq : XQ) (Qd : List D → Prop), Wd Γ H0 G R H σ ρ ∧ Lk Γ W xq σ G R H ∧ fi xq ρ Qd ∧ ∀ J G' R' H' ds, Nx G R H G' R' H' → ItOk Γ G' R' J ds → Qd ds → Q J H'
section
variable {X : Cx} {C : Str → Addr} {W : WX} {k j j1 : Nat} {bl : Str → Bool} {tg iter iter1 elt : Expr} {fi fi1 : DA} {ft ft1 : DT} {fe : DE} {ifs ifs1 : List Expr} {scope : Scope} {x x1 y : Str} {xp xp1 py pos spos : Pos}
theorem CI.canon (h : CI X C W tg iter fi) : PI X tg iter (tIof ⟨X.K, C⟩ W fi) := let ⟨t, p, q⟩ := h; ⟨fun pins s σ H Q I ⟨H0, G, R, ρ, xq, Qd, w, x, f, z⟩ => p.run pins s σ H Q I (q H0 G R H σ ρ xq Qd Q w x f z)⟩
end
end Dl
namespace PySem.AutoSeq1
end PySem.AutoSeq1
namespace Dl
open PySem PySem.Spec PyProof.Rows L2
section
variable {X : Cx}
end
end Dl
namespace Dl
open PySem L2
end Dl
namespace Dl
open PySem PySem.Spec PyProof.Rows L2
def getK : List (Key × D) → Key → Option D
  | [], _ => none
  | (x, d) :: r, k => if x = k then some d else getK r k
def setK : List (Key × D) → Key → D → List (Key × D)
  | [], k, y => [(k, y)]
  | (x, d) :: r, k, y => if x = k then (x, y) :: r else (x, d) :: setK r k y
def nodK : List (Key × D) → Bool
  | [] => true
  | (x, _) :: r => !(r.any fun p => decide (p.1 = x)) && nodK r
theorem RpK.get {Γ : Kx} {G : Hp} {R : Addr → Prop} {k : Key} {d : D} : ∀ {kvs : List (Key × D)} {us : List (Key × V)}, RpK Γ G R kvs us → getK kvs k = some d → ∃ v, valV us k = some v ∧ Rp Γ G R d v
  | [], us, h, e => by unfold getK at e; cases e
  | (x, y) :: r, us, h, e => by
    unfold RpK at h
    obtain ⟨v, q, rfl, h1, h2⟩ := h
    unfold getK at e
    by_cases z : x = k
    · rw [if_pos z] at e
      cases e
      exact ⟨v, valV_pos z, h1⟩
    · rw [if_neg z] at e
      obtain ⟨v2, e2, r2⟩ := RpK.get h2 e
      exact ⟨v2, by rw [valV_neg z]; exact e2, r2⟩
theorem getK_ix {k : Key} {d : D} : ∀ {kvs : List (Key × D)}, getK kvs k = some d → ∃ j, (kvs.map (·.2))[j]? = some d ∧ (∀ y, (setK kvs k y).map (·.2) = (kvs.map (·.2)).set j y) ∧ (∀ y, (setK kvs k y).map (·.1) = kvs.map (·.1)) ∧
    ∀ us : List (Key × V), us.map (·.1) = kvs.map (·.1) → valV us k = (us.map (·.2))[j]?
  | [], e => by unfold getK at e; cases e
  | (x, y) :: r, e => by
    unfold getK at e
    by_cases z : x = k
    · rw [if_pos z] at e
      cases e
      refine ⟨0, rfl, fun y => by unfold setK; rw [if_pos z]; rfl, fun y => by unfold setK; rw [if_pos z]; rfl, fun us hu => ?_⟩
      cases us with
      | nil => simp at hu
      | cons p us =>
        simp only [List.map_cons, List.cons.injEq] at hu
        rw [valV_pos (hu.1.trans z)]
        rfl
    · rw [if_neg z] at e
      obtain ⟨j, h1, h2, h3, h4⟩ := getK_ix e
      refine ⟨j + 1, by simpa using h1, fun y => by unfold setK; rw [if_neg z]; simp [h2], fun y => by unfold setK; rw [if_neg z]; simp [h3], fun us hu => ?_⟩
      cases us with
      | nil => simp at hu
      | cons p us =>
        simp only [List.map_cons, List.cons.injEq] at hu
        rw [valV_neg (by rw [hu.1]; exact z), h4 us hu.2]
        rfl
theorem getK_none {k : Key} : ∀ {kvs : List (Key × D)}, getK kvs k = none → (∀ y, setK kvs k y = kvs ++ [(k, y)]) ∧ ∀ us : List (Key × V), us.map (·.1) = kvs.map (·.1) → ∀ v, putK us k v = us ++ [(k, v)]
  | [], e => ⟨fun y => rfl, fun us hu v => by
    cases us with
    | nil => rfl
    | cons p us => simp at hu⟩
  | (x, y) :: r, e => by
    unfold getK at e
    by_cases z : x = k
    · rw [if_pos z] at e; cases e
    · rw [if_neg z] at e
      obtain ⟨h1, h2⟩ := getK_none e
      refine ⟨fun y => by unfold setK; rw [if_neg z, h1]; rfl, fun us hu v => ?_⟩
      cases us with
      | nil => simp at hu
      | cons p us =>
        simp only [List.map_cons, List.cons.injEq] at hu
        have hn := h2 us hu.2 v
        refine putK_new v ?_
        rw [valV_neg (by rw [hu.1]; exact z)]
        cases q : valV us k with
        | none => rfl
        | some w =>
          exfalso
          have hany : (us.any fun kv => decide (kv.1 = k)) = true := by rw [valV_any, q]; rfl
          unfold putK at hn
          rw [if_pos hany] at hn
          have := congrArg List.length hn
          simp at this
theorem putK_at {k : Key} {v : V} {d : D} : ∀ {kvs : List (Key × D)} {us : List (Key × V)}, nodK kvs = true → us.map (·.1) = kvs.map (·.1) → getK kvs k = some d → ∃ j, (kvs.map (·.2))[j]? = some d ∧ (∀ y, (setK kvs k y).map (·.2) = (kvs.map (·.2)).set j y) ∧ (∀ y, (setK kvs k y).map (·.1) = kvs.map (·.1)) ∧
    (putK us k v).map (·.2) = (us.map (·.2)).set j v ∧ (putK us k v).map (·.1) = us.map (·.1)
  | [], us, _, _, e => by unfold getK at e; cases e
  | (x, y) :: r, us, nd, hu, e => by
    unfold getK at e
    unfold nodK at nd
    rw [Bool.and_eq_true] at nd
    cases us with
    | nil => simp at hu
    | cons p us =>
      simp only [List.map_cons, List.cons.injEq] at hu
      by_cases z : x = k
      · rw [if_pos z] at e
        cases e
        have nk : ∀ kv ∈ us, kv.1 ≠ k := fun kv m q => by
          have m2 : kv.1 ∈ r.map (·.1) := by rw [← hu.2]; exact List.mem_map_of_mem m
          obtain ⟨w, hw, ew⟩ := List.mem_map.mp m2
          have : (r.any fun p => decide (p.1 = x)) = true := List.any_eq_true.mpr ⟨w, hw, by simp [ew, q, z]⟩
          rw [this] at nd
          exact absurd nd.1 (by simp)
        have e1 : putK (p :: us) k v = (p.1, v) :: us := by
          unfold putK
          rw [if_pos (by simp [hu.1, z])]
          rw [List.map_cons, if_pos (hu.1.trans z)]
          congr 1
          conv => rhs; rw [← List.map_id us]
          refine List.map_congr_left fun kv m => ?_
          rw [if_neg (nk kv m)]
          rfl
        refine ⟨0, rfl, fun y => by unfold setK; rw [if_pos z]; rfl, fun y => by unfold setK; rw [if_pos z]; rfl, by rw [e1]; rfl, by rw [e1]; rfl⟩
      · rw [if_neg z] at e
        obtain ⟨j, h1, h2, h3, h4, h5⟩ := putK_at (v := v) nd.2 hu.2 e
        have hp : ¬ p.1 = k := by rw [hu.1]; exact z
        have e1 : putK (p :: us) k v = p :: putK us k v := by
          unfold putK
          rw [List.any_cons, decide_eq_false hp, Bool.false_or]
          by_cases q : (us.any fun kv => decide (kv.1 = k)) = true
          · rw [if_pos q, if_pos q, List.map_cons, if_neg hp]
          · rw [if_neg q, if_neg q]; rfl
        refine ⟨j + 1, by simpa using h1, fun y => by unfold setK; rw [if_neg z]; simp [h2], fun y => by unfold setK; rw [if_neg z]; simp [h3], by rw [e1]; simp [h4], by rw [e1]; simp [h5]⟩
def gKey (k : Key) (d : D) (Q : D → Prop) : Prop := match d with
  | .dic kvs => match getK kvs k with
    | some (.fr x) => Q x
    | some x => Q x
    | none => False
  | _ => False
section
variable {Γ : Kx} {W : WX} {te tp : TE} {fe fo : DE} {fp : DP}
end
section
variable {Γ : Kx} {H0 G G' : Hp} {R R' : Addr → Prop} {H H' : Hp}
theorem OwK.toL : ∀ {kvs : List (Key × D)} {us : List (Key × V)} {bs : List Addr}, OwK Γ H0 G R H kvs us bs → us.map (·.1) = kvs.map (·.1) ∧ OwL Γ H0 G R H (kvs.map (·.2)) (us.map (·.2)) bs
  | [], us, bs, h => by
    unfold OwK at h
    rw [h.1, h.2]
    exact ⟨rfl, OwL.nil⟩
  | (x, d) :: r, us, bs, h => by
    unfold OwK at h
    obtain ⟨v, q, b1, c1, rfl, rfl, h1, h2⟩ := h
    obtain ⟨e, l⟩ := OwK.toL h2
    exact ⟨by simp [e], OwL.cons h1 l⟩
theorem OwK.ofL : ∀ {kvs : List (Key × D)} {us : List (Key × V)} {bs : List Addr}, us.map (·.1) = kvs.map (·.1) → OwL Γ H0 G R H (kvs.map (·.2)) (us.map (·.2)) bs → OwK Γ H0 G R H kvs us bs
  | [], us, bs, e, h => by
    rw [List.map_nil] at h
    unfold OwL at h
    unfold OwK
    exact ⟨by simpa using h.1, h.2⟩
  | (x, d) :: r, us, bs, e, h => by
    rw [List.map_cons] at h
    unfold OwL at h
    obtain ⟨v, q, b1, c1, e1, rfl, h1, h2⟩ := h
    cases us with
    | nil => simp at e1
    | cons p us =>
      simp only [List.map_cons, List.cons.injEq] at e e1
      obtain ⟨rfl, rfl⟩ := e1
      unfold OwK
      exact ⟨p.2, us, b1, c1, by rw [← e.1], rfl, h1, OwK.ofL e.2 h2⟩
theorem Comp.dic {v v1 : V} {as as1 : List Addr} {f : D → D} {ds : List (Key × D)} (c : Comp Γ H0 G R H v as f (.dic ds) v1 as1) : ∃ a vs bs, v1 = .ref a ∧ as1 = a :: bs ∧ a ∈ as ∧ a ∉ bs ∧ bs.Nodup ∧ (∀ x ∈ bs, x ∈ as) ∧ H a = some (.dK vs) ∧ G a = none ∧ ¬ R a ∧ OwK Γ H0 G R H ds vs bs ∧
    ∀ (ds' : List (Key × D)) (vs' : List (Key × V)) (bs' : List Addr), OwK Γ H0 G R H ds' vs' bs' → bs'.Nodup → a ∉ bs' → (∀ b ∈ bs', b ∈ as → b ∈ bs) → ∃ as3, Ow Γ H0 G R (upd H a (.dK vs')) (f (.dic ds')) v as3 ∧ as3.Nodup ∧ ∀ x ∈ as3, x ∈ bs' ∨ x ∈ as := by
  have h := c.ow
  unfold Ow at h
  obtain ⟨a, vs, bs, rfl, rfl, h0, g, r, hl, l⟩ := h
  obtain ⟨na, nb⟩ := List.nodup_cons.mp c.nd
  refine ⟨a, vs, bs, rfl, rfl, c.sub a (List.mem_cons_self ..), na, nb, fun x m => c.sub x (List.mem_cons_of_mem _ m), hl, g, r, l, fun ds' vs' bs' l' nd' na' hs => ?_⟩
  have st : ¬ Stiff (HO.dK vs) := fun t => t
  obtain ⟨as3, h3, n3, m3⟩ := c.re G R (upd H a (.dK vs')) (.dic ds') (a :: bs') (Stays.upd (fun m => (mem_wo.mp m).2 (List.mem_cons_self ..)) hl st) (by
    unfold Ow
    exact ⟨a, vs', bs', rfl, rfl, h0, g, r, upd_same, OwK.mono ds' vs' bs' (Stays.upd na' hl st) l'⟩) (List.nodup_cons.mpr ⟨na', nd'⟩) fun x m mx => by
      rcases List.mem_cons.mp m with rfl | m
      · exact List.mem_cons_self ..
      · exact List.mem_cons_of_mem _ (hs x m mx)
  refine ⟨as3, h3, n3, fun x m => ?_⟩
  rcases (m3 x).mp m with z | z
  · rcases List.mem_cons.mp z with rfl | z
    · exact .inr (c.sub x (List.mem_cons_self ..))
    · exact .inl z
  · exact .inr z.1
end
section
variable {Γ : Kx} {W : WX} {te tp ti : TE} {fp : DP} {fe fi fo : DE}
def dRdP (fp : DP) : DE := fun xq ρ Q => fp xq ρ fun _ _ d1 => match d1 with
  | .fr d => Q d
  | d => leafB d = true ∧ Q d
theorem je_rdP (a : JP Γ W tp fp) : JE Γ W tp (dRdP fp) := fun H0 G R H σ ρ xq Qd Q w x f k =>
  a H0 G R H σ ρ xq _ _ w x f fun v1 G1 R1 H1 i f d1 v as d as1 n1 e c q => by
    have lf : leafB d1 = true ∧ Qd d1 → Q v1 H1 := fun z => k v1 (Dl.satur G1 H1) R1 H1 d1 n1.satur (Ow.unleaf n1.gd d1 v1 as1 z.1 c.ow).2 z.2
    cases d1 with
    | fr dd =>
      have o := c.ow
      unfold Ow Rp at o
      exact k v1 G1 R1 H1 dd n1 o.2.2 q
    | _ => exact lf q
end
def strF (kvs : List (Key × D)) : List (Str × D) := kvs.map fun p => (keyS p.1, p.2)
theorem RpK.strF {Γ : Kx} {G : Hp} {R : Addr → Prop} : ∀ {kvs : List (Key × D)} {us : List (Key × V)}, RpK Γ G R kvs us → RpF Γ G R (strF kvs) (strK us)
  | [], us, h => by
    unfold RpK at h
    subst h
    show RpF Γ G R [] []
    unfold RpF
    rfl
  | (x, d) :: r, us, h => by
    unfold RpK at h
    obtain ⟨v, q, rfl, h1, h2⟩ := h
    show RpF Γ G R ((keyS x, d) :: Dl.strF r) ((keyS x, v) :: strK q)
    unfold RpF
    exact ⟨v, _, rfl, h1, h2.strF⟩
mutual
def unF : D → D
  | .fr d => d
  | .lst ds => .lst (unL ds)
  | .tup ds => .tup (unL ds)
  | .dic kvs => .dic (unK kvs)
  | .non => .non
  | .bl b => .bl b
  | .int i => .int i
  | .str s => .str s
  | .scr ns => .scr ns
  | .rd => .rd
  | .ins c fs => .ins c fs
  | .exc c fs => .exc c fs
  | .nms ys => .nms ys
  | .any => .any
  | .raw u => .raw u
  | .obj c kvs => .ins c (strF (unK kvs))
def unL : List D → List D
  | [] => []
  | d :: ds => unF d :: unL ds
def unK : List (Key × D) → List (Key × D)
  | [] => []
  | (x, d) :: ds => (x, unF d) :: unK ds
end
section
variable {Γ : Kx} {H0 G G' : Hp} {R : Addr → Prop} {H : Hp}
mutual
theorem Ow.froz (sg : Same G G') (st : ∀ a o, H a = some o → Stiff o → G' a = some o) : ∀ (d : D) (v : V) (as : List Addr), (∀ b ∈ as, ∀ o, H b = some o → G' b = some o) → Ow Γ H0 G R H d v as → Rp Γ G' R (unF d) v
  | .lst ds, v, as, s, h => by
    unfold Ow at h
    obtain ⟨a, vs, bs, e, rfl, _, _, _, hl, l⟩ := h
    unfold unF Rp
    exact ⟨a, vs, e, s a (List.mem_cons_self ..) _ hl, OwL.froz sg st ds vs bs (fun b m => s b (List.mem_cons_of_mem _ m)) l⟩
  | .dic ds, v, as, s, h => by
    unfold Ow at h
    obtain ⟨a, vs, bs, e, rfl, _, _, _, hl, l⟩ := h
    unfold unF Rp
    exact ⟨a, vs, e, s a (List.mem_cons_self ..) _ hl, OwK.froz sg st ds vs bs (fun b m => s b (List.mem_cons_of_mem _ m)) l⟩
  | .tup ds, v, as, s, h => by
    unfold Ow at h
    obtain ⟨a, vs, e, q, l⟩ := h
    unfold unF Rp
    exact ⟨a, vs, e, seqT_stiff st q, OwL.froz sg st ds vs as s l⟩
  | .fr d, v, as, s, h => by
    unfold Ow Rp at h
    unfold unF
    exact Rp.mono sg (fun _ h => h) d v h.2.2
  | .non, v, as, s, h => by unfold Ow at h; unfold unF; exact Rp.mono sg (fun _ h => h) _ v h.2
  | .bl _, v, as, s, h => by unfold Ow at h; unfold unF; exact Rp.mono sg (fun _ h => h) _ v h.2
  | .int _, v, as, s, h => by unfold Ow at h; unfold unF; exact Rp.mono sg (fun _ h => h) _ v h.2
  | .str _, v, as, s, h => by unfold Ow at h; unfold unF; exact Rp.mono sg (fun _ h => h) _ v h.2
  | .scr _, v, as, s, h => by unfold Ow at h; unfold unF; exact Rp.mono sg (fun _ h => h) _ v h.2
  | .rd, v, as, s, h => by unfold Ow at h; unfold unF; exact Rp.mono sg (fun _ h => h) _ v h.2
  | .ins _ _, v, as, s, h => by unfold Ow at h; unfold unF; exact Rp.mono sg (fun _ h => h) _ v h.2
  | .exc _ _, v, as, s, h => by unfold Ow at h; unfold unF; exact Rp.mono sg (fun _ h => h) _ v h.2
  | .nms _, v, as, s, h => by unfold Ow at h; unfold unF; exact Rp.mono sg (fun _ h => h) _ v h.2
  | .any, v, as, s, h => by unfold Ow at h; unfold unF; exact Rp.mono sg (fun _ h => h) _ v h.2
  | .raw _, v, as, s, h => by unfold Ow at h; unfold unF; exact Rp.mono sg (fun _ h => h) _ v h.2
  | .obj c ds, v, as, s, h => by
    unfold Ow at h
    obtain ⟨a, dx, vs, bs, e, rfl, _, _, _, hl, l⟩ := h
    unfold unF Rp
    exact ⟨a, dx, strK vs, e, s a (List.mem_cons_self ..) _ hl, (OwK.froz sg st ds vs bs (fun b m => s b (List.mem_cons_of_mem _ m)) l).strF⟩
theorem OwL.froz (sg : Same G G') (st : ∀ a o, H a = some o → Stiff o → G' a = some o) : ∀ (ds : List D) (vs : List V) (as : List Addr), (∀ b ∈ as, ∀ o, H b = some o → G' b = some o) → OwL Γ H0 G R H ds vs as → RpL Γ G' R (unL ds) vs
  | [], vs, as, s, h => by unfold OwL at h; unfold unL RpL; exact h.1
  | d :: ds, vs, as, s, h => by
    unfold OwL at h
    obtain ⟨v, r, bs, cs, e, rfl, h1, h2⟩ := h
    unfold unL RpL
    exact ⟨v, r, e, Ow.froz sg st d v bs (fun b m => s b (List.mem_append_left _ m)) h1, OwL.froz sg st ds r cs (fun b m => s b (List.mem_append_right _ m)) h2⟩
theorem OwK.froz (sg : Same G G') (st : ∀ a o, H a = some o → Stiff o → G' a = some o) : ∀ (ds : List (Key × D)) (vs : List (Key × V)) (as : List Addr), (∀ b ∈ as, ∀ o, H b = some o → G' b = some o) → OwK Γ H0 G R H ds vs as → RpK Γ G' R (unK ds) vs
  | [], vs, as, s, h => by unfold OwK at h; unfold unK RpK; exact h.1
  | (x, d) :: ds, vs, as, s, h => by
    unfold OwK at h
    obtain ⟨v, r, bs, cs, e, rfl, h1, h2⟩ := h
    unfold unK RpK
    exact ⟨v, r, e, Ow.froz sg st d v bs (fun b m => s b (List.mem_append_left _ m)) h1, OwK.froz sg st ds r cs (fun b m => s b (List.mem_append_right _ m)) h2⟩
end
theorem Nx.froz {as : List Addr} (g : Gd G R H) (f : ∀ a ∈ as, G a = none ∧ ¬ R a) : Nx G R (Dl.cut H as) (fun b => if b ∈ as then H b else G b) R H where
  gg := fun b o e => by
    show (if b ∈ as then H b else G b) = some o
    by_cases m : b ∈ as
    · rw [(f b m).1] at e; cases e
    · rw [if_neg m]; exact e
  rr := fun _ h => h
  gd := ⟨fun b o e => by
    have e : (if b ∈ as then H b else G b) = some o := e
    by_cases m : b ∈ as
    · rw [if_pos m] at e; exact e
    · rw [if_neg m] at e; exact g.sub b o e, g.rd, fun a r => by
    show (if a ∈ as then H a else G a) = none
    rw [if_neg fun m => (f a m).2 r]
    exact g.dis a r⟩
  ev := fun b o e _ => by
    by_cases m : b ∈ as
    · rw [cut_in m] at e; cases e
    · rw [cut_out m] at e; exact e
  ex := fun b o e => by
    by_cases m : b ∈ as
    · rw [cut_in m] at e; cases e
    · rw [cut_out m] at e; exact ⟨o, e⟩
  fg := fun b o e => by
    have e : (if b ∈ as then H b else G b) = some o := e
    by_cases m : b ∈ as
    · exact .inr (.inl (cut_in m))
    · rw [if_neg m] at e; exact .inl e
  fr := fun _ h => .inl h
end
section
variable {Γ : Kx} {W : WX}
def JFK (Γ : Kx) (W : WX) (trs : List (TE × TE)) (fa : DA) (ks : List Key) : Prop := ∀ (H0 G : Hp) (R : Addr → Prop) (H : Hp) (σ : St) (ρ : En) (xq : XQ) (Qd : List D → Prop) (Q : List (V × V) → Hp → Prop), Wd Γ H0 G R H σ ρ → Lk Γ W xq σ G R H → fa xq ρ Qd →
  (∀ vs as G' R' H' ds, Nx G R H G' R' H' → OwL Γ H G' R' H' ds vs as → as.Nodup → vs.length = ks.length → Qd ds → Q ((ks.zip vs).map fun kv => (kV kv.1, kv.2)) H') → tPairs trs σ H Q
theorem jfk_nil : JFK Γ W [] dNil [] := fun H0 G R H σ ρ xq Qd Q w x f k => k [] [] G R H [] (Nx.refl w.gd) OwL.nil (by simp) rfl f
theorem jfk_cons {te : TE} {trs : List (TE × TE)} {fo : DE} {fa : DA} {key : Key} {ks : List Key} (a : JF Γ W te fo) (b : JFK Γ W trs fa ks) : JFK Γ W ((tC (kV key), te) :: trs) (dCons fo fa) (key :: ks) := fun H0 G R H σ ρ xq Qd Q w x f k =>
  a H0 G R H σ ρ xq _ _ w x f fun v1 as1 G1 R1 H1 d1 n1 o1 nd1 q1 => b H0 G1 R1 H1 σ ρ xq _ _ (w.nx n1) (x.nx n1) q1 fun vs as2 G2 R2 H2 ds n2 o2 nd2 l q2 => by
    have o1' := Ow.mono d1 v1 as1 (n2.stays n1.gd _) o1
    have f1 := Ow.fresh d1 v1 as1 o1
    have f2 := OwL.fresh ds vs as2 o2
    refine k (v1 :: vs) (as1 ++ as2) G2 R2 H2 (d1 :: ds) (n1.trans n2) (OwL.cons o1' (OwL.older (older_of n1) ds vs as2 o2)) (List.nodup_append.mpr ⟨nd1, nd2, fun a ha b hb e => ?_⟩) (by rw [List.length_cons, l]; rfl) q2
    subst e
    obtain ⟨_, _, _, o, ho, _⟩ := f1 a ha
    rw [(f2 a hb).1] at ho
    cases ho
theorem mergeK_new : ∀ {more kvs : List (Key × V)}, (kvs.map (·.1) ++ more.map (·.1)).Nodup → mergeK kvs more = kvs ++ more
  | [], kvs, _ => by unfold mergeK; simp
  | p :: r, kvs, nd => by
    have e : putK kvs p.1 p.2 = kvs ++ [p] := by
      refine putK_new p.2 ?_
      cases q : valV kvs p.1 with
      | none => rfl
      | some w =>
        exfalso
        have hany : (kvs.any fun kv => decide (kv.1 = p.1)) = true := by rw [valV_any, q]; rfl
        obtain ⟨x, hx, ex⟩ := List.any_eq_true.mp hany
        have ex := of_decide_eq_true ex
        exact (List.nodup_append.mp nd).2.2 x.1 (List.mem_map_of_mem hx) p.1 (by simp) ex
    show mergeK (putK kvs p.1 p.2) r = _
    rw [e, mergeK_new (by simpa using nd)]
    simp
def dDic (ks : List Key) (fa : DA) : DE := fun xq ρ Q => fa xq ρ fun ds => Q (.dic (ks.zip ds))
theorem jf_dic {trs : List (TE × TE)} {fa : DA} {ks : List Key} (a : JFK Γ W trs fa ks) (nd : ks.Nodup) (h15 : ks.length ≤ 15) : JF Γ W (tDisp trs) (dDic ks fa) := fun H0 G R H σ ρ xq Qd Q w x f k p hp => by
  have n0 : Nx G R H G R (upd H p (.dK [])) := Nx.new w.gd (.dK []) hp
  refine a H0 G R _ σ ρ xq _ _ (w.nx n0) (x.nx n0) f fun vs as G2 R2 H2 ds n2 o2 nd2 l q => ?_
  obtain ⟨g0, r0⟩ := w.gd.fresh hp
  obtain ⟨h2, g2, r2⟩ := n2.openO (l := p) (o := .dK []) upd_same (fun z => z) g0 r0
  have lds := o2.len
  have l1 : (ks.zip vs).map (·.1) = ks := List.map_fst_zip (by omega)
  refine ⟨h2, ks.zip vs, rfl, by rw [List.length_zip]; omega, ?_⟩
  rw [mergeK_new (kvs := []) (more := ks.zip vs) (by rw [l1]; simpa using nd), List.nil_append]
  have np : p ∉ as := fun m => by
    have := (OwL.fresh ds vs as o2 p m).1
    rw [upd_same] at this; cases this
  refine k (.ref p) (p :: as) G2 R2 _ (.dic (ks.zip ds)) ((n0.trans n2).mutO g2 r2 hp) ?_ (List.nodup_cons.mpr ⟨np, nd2⟩) q
  unfold Ow
  refine ⟨p, ks.zip vs, as, rfl, rfl, hp, g2, r2, upd_same, OwK.ofL ?_ ?_⟩
  · rw [l1, List.map_fst_zip (by omega)]
  · rw [List.map_snd_zip (by omega), List.map_snd_zip (by omega)]
    exact OwL.mono ds vs as (Stays.upd np h2 (fun z => z)) (OwL.older (older_of n0) ds vs as o2)
end
section
variable {X : Cx} {C : Str → Addr} {W : WX} {k : Nat} {bl : Str → Bool} {a e o : Expr} {es : List Expr} {fa fe fo : DE} {fs : DA} {fp : DP} {pos p1 p2 pos' : Pos} {m : Nat} {z : Str} {i : Nat}
def CFK (X : Cx) (C : Str → Addr) (W : WX) (pos : Pos) (keys : List (Option Expr)) (values : List Expr) (fs : DA) (ks : List Key) : Prop := ∃ trs, PPs X pos keys values trs ∧ JFK ⟨X.K, C⟩ W trs fs ks
theorem ce_rdP (h : CP X C W a fp) : CE X C W a (dRdP fp) := let ⟨_, p, q⟩ := h; ⟨_, p, je_rdP q⟩
theorem cfk_nil : CFK X C W pos [] [] dNil [] := ⟨_, pps_nil, jfk_nil⟩
theorem cfk_cons {keys : List (Option Expr)} {ks : List Key} (h : CF X C W e fo) (h' : CFK X C W pos keys es fs ks) : CFK X C W pos (some (.Constant (.str z) m p1) :: keys) (e :: es) (dCons fo fs) (.inr z :: ks) :=
  let ⟨_, p, q⟩ := h; let ⟨_, p', q'⟩ := h'; ⟨_, pps_cons pe_str p p', jfk_cons (key := .inr z) q q'⟩
theorem cf_dic {keys : List (Option Expr)} {values : List Expr} {ks : List Key} (h : CFK X C W pos keys values fs ks) (hall : keys.all (·.isSome) = true := by rfl) (hl : keys.length = values.length := by rfl) (h0 : keys ≠ [] := by exact List.cons_ne_nil _ _)
    (h15 : keys.length ≤ 15 := by decide) (nd : ks.Nodup := by decide +kernel) (k15 : ks.length ≤ 15 := by decide) : CF X C W (.Dict keys values pos) (dDic ks fs) :=
  let ⟨_, p, q⟩ := h; ⟨_, pe_disp p hall hl h0 h15, jf_dic q nd k15⟩
end
end Dl
namespace Dl
open PySem PySem.Spec PyProof.Rows L2
abbrev DXE := XQ → En → (D → En → Prop) → Prop
abbrev DXA := XQ → En → (List D → En → Prop) → Prop
section
variable {Γ : Kx} {W : WX} {te tb tp : TE} {ta : TA} {fe : DE} {fx fy : DXE} {fa : DXA} {fp : DP}
end
inductive At : D → (D → D) → D → Prop
  | here (d : D) : At d (fun x => x) d
  | lst {ds : List D} {j : Nat} {d1 d2 : D} {f : D → D} : ds[j]? = some d1 → At d1 f d2 → At (.lst ds) (fun x => .lst (ds.set j (f x))) d2
  | tup {ds : List D} {j : Nat} {d1 d2 : D} {f : D → D} : ds[j]? = some d1 → At d1 f d2 → At (.tup ds) (fun x => .tup (ds.set j (f x))) d2
  | key {kvs : List (Key × D)} {k : Key} {d1 d2 : D} {f : D → D} : getK kvs k = some d1 → At d1 f d2 → At (.dic kvs) (fun x => .dic (setK kvs k (f x))) d2
section
variable {Γ : Kx} {H0 G G' : Hp} {R R' : Addr → Prop} {H H' : Hp} {σ : St} {ρ : En}
def S.noSe : S → Bool
  | .se _ => false
  | _ => true
noncomputable def plus (H0 H : Hp) (as : List Addr) : Hp := fun b => if b ∈ as then H b else H0 b
theorem plus_in {as : List Addr} {b : Addr} (m : b ∈ as) : plus H0 H as b = H b := by unfold plus; rw [if_pos m]
theorem plus_out {as : List Addr} {b : Addr} (m : b ∉ as) : plus H0 H as b = H0 b := by unfold plus; rw [if_neg m]
theorem Wd.up {as : List Addr} (w : Wd Γ H0 G R (Dl.cut H as) σ ρ) (fr : Frs H0 G R H as) : Wd Γ (plus H0 H as) G R H σ ρ := by
  have g : Gd G R H := w.gd.uncut
  have nu : Nx G R (Dl.cut H as) G R H := Nx.uncut g fun a m => (fr a m).2.1
  have out : ∀ a o, Dl.cut H as a = some o → a ∉ as ∧ H a = some o := fun a o e => by
    by_cases m : a ∈ as
    · rw [cut_in m] at e; cases e
    · rw [cut_out m] at e; exact ⟨m, e⟩
  refine ⟨g, w.len, fun i s e => ?_, w.dj⟩
  obtain ⟨v, eσ, y⟩ := w.sl i s e
  refine ⟨v, eσ, ?_⟩
  cases s with
  | un => exact trivial
  | fz d => exact y
  | op ds =>
    obtain ⟨l, vs, y1, y2, y3, y4, y5, y6⟩ := y
    obtain ⟨m, y2⟩ := out _ _ y2
    exact ⟨l, vs, y1, y2, y3, y4, by rw [plus_out m]; exact y5, y6⟩
  | io a c fs =>
    obtain ⟨dx, vs, y1, y2, y3, y4, y5, y6⟩ := y
    obtain ⟨m, y2⟩ := out _ _ y2
    exact ⟨dx, vs, y1, y2, y3, y4, by rw [plus_out m]; exact y5, y6⟩
  | ex a d c fs =>
    obtain ⟨y1, y2⟩ := y
    exact ⟨y1, y2.imp id fun ⟨dd, vs, z1, z2, z3⟩ => ⟨dd, vs, z1, (out _ _ z2).2, z3⟩⟩
  | ow x bs d =>
    obtain ⟨y1, y2, y3⟩ := y
    have f2 := Ow.fresh d x bs y2
    refine ⟨y1, Ow.base d x bs (fun a m => ?_) (Ow.mono d x bs (nu.stays w.gd bs) y2), y3⟩
    obtain ⟨_, _, _, o, ho, _⟩ := f2 a m
    rw [plus_out (out _ _ ho).1]
    exact (f2 a m).1
  | se d =>
    obtain ⟨x, y1, y2⟩ := y
    refine ⟨x, y1, Rp.mono (fun b o e => ?_) (fun _ h => h) d x y2⟩
    obtain ⟨e1, e2⟩ := viewO_iff.mp e
    obtain ⟨m, e1⟩ := out _ _ e1
    exact viewO_iff.mpr ⟨e1, by rw [plus_out m]; exact e2⟩
theorem Wd.down {as : List Addr} {H1 : Hp} (w : Wd Γ (plus H0 H1 as) G R H σ ρ) (fr : ∀ a ∈ as, G a = none ∧ ¬ R a ∧ (∃ o, H1 a = some o) ∧ ∃ o, H a = some o ∧ Open o) (ns : ρ.all S.noSe = true) : Wd Γ H0 G R (Dl.cut H as) σ ρ := by
  have old : ∀ a, plus H0 H1 as a = none → a ∉ as ∧ H0 a = none := fun a e => by
    by_cases m : a ∈ as
    · obtain ⟨_, _, ⟨o, h⟩, _⟩ := fr a m
      rw [plus_in m, h] at e; cases e
    · rw [plus_out m] at e; exact ⟨m, e⟩
  refine ⟨w.gd.cut fun a m => ⟨(fr a m).1, (fr a m).2.1⟩, w.len, fun i s e => ?_, w.dj⟩
  obtain ⟨v, eσ, y⟩ := w.sl i s e
  refine ⟨v, eσ, ?_⟩
  have hs : s.noSe = true := List.all_eq_true.mp ns s (List.mem_of_getElem? e)
  cases s with
  | un => exact trivial
  | fz d => exact y
  | op ds =>
    obtain ⟨l, vs, y1, y2, y3, y4, y5, y6⟩ := y
    obtain ⟨m, y5⟩ := old _ y5
    exact ⟨l, vs, y1, by rw [cut_out m]; exact y2, y3, y4, y5, y6⟩
  | io a c fs =>
    obtain ⟨dx, vs, y1, y2, y3, y4, y5, y6⟩ := y
    obtain ⟨m, y5⟩ := old _ y5
    exact ⟨dx, vs, y1, by rw [cut_out m]; exact y2, y3, y4, y5, y6⟩
  | ex a d c fs =>
    obtain ⟨y1, y2⟩ := y
    exact ⟨y1, y2.imp id fun ⟨dd, vs, z1, z2, z3⟩ => ⟨dd, vs, z1, by
      rw [cut_out fun m => by
        obtain ⟨_, _, _, o, h, op⟩ := fr dd m
        rw [z2] at h; cases h; exact op]
      exact z2, z3⟩⟩
  | ow x bs d =>
    obtain ⟨y1, y2, y3⟩ := y
    have f2 := Ow.fresh d x bs y2
    refine ⟨y1, Ow.base d x bs (fun a m => (old a (f2 a m).1).2) (Ow.mono d x bs ⟨fun a o m h _ g r => ⟨by rw [cut_out (old a (f2 a m).1).1]; exact h, g, r⟩, fun a o h s => by
      rw [cut_out fun m => by
        obtain ⟨_, _, _, o, h2, op⟩ := fr a m
        rw [h] at h2; cases h2; exact op.stiff s]
      exact h, fun _ h => h, fun _ _ h => h⟩ y2), y3⟩
  | se d => cases hs
theorem Wd.raw {i : Nat} {v v1 : V} {as as1 : List Addr} {d d1 : D} {f : D → D} (w : Wd Γ H0 G R H σ ρ) (e : ρ[i]? = some (.ow v as d)) (c : Comp Γ H0 G R H v as f d1 v1 as1) : ∃ as3, Wd Γ H0 G R (Dl.cut H as1) σ (ρ.set i (.ow v as3 (f (.raw v1)))) := by
  have fr := w.frs e
  have st : Stays G R H G R (Dl.cut H as1) (wo as as1) := ⟨fun a o m h _ g r => ⟨by rw [cut_out (mem_wo.mp m).2]; exact h, g, r⟩, fun a o h s => by
    rw [cut_out fun m => by
      obtain ⟨_, _, _, u, hu, op⟩ := fr a (c.sub a m)
      rw [h] at hu; cases hu; exact op.stiff s]
    exact h, fun _ h => h, fun _ _ h => h⟩
  obtain ⟨as3, h3, n3, m3⟩ := c.re G R (Dl.cut H as1) (.raw v1) [] st (by unfold Ow Rp; exact ⟨rfl, rfl⟩) (by simp) fun a m => absurd m List.not_mem_nil
  refine ⟨as3, w.putO e ((Nx.refl w.gd).cut2 c.sub fun a m => ⟨(fr a (c.sub a m)).2.1, (fr a (c.sub a m)).2.2.1⟩) h3 n3 fun a m => ?_⟩
  rcases (m3 a).mp m with z | z
  · exact absurd z List.not_mem_nil
  · exact cut_in z.1
end
section
variable {Γ : Kx} {W : WX} {te tp : TE} {fx : DXE} {fp : DP}
end
section
variable {X : Cx} {C : Str → Addr} {W : WX} {k j : Nat} {bl : Str → Bool} {a b e o : Expr} {es : List Expr} {fe : DE} {fx fy : DXE} {fa : DXA} {fp : DP} {pos p p1 p2 : Pos} {n i : Nat}
end
end Dl
namespace Dl
open PySem PySem.Spec PyProof.Rows L2
section
variable {Γ : Kx} {W : WX} {te : TE} {fo : DE}
def dTmp (fo : DE) : DE := fun xq ρ Q => fo xq ρ fun d => Q (unF d)
theorem je_tmp (a : JF Γ W te fo) : JE Γ W te (dTmp fo) := fun H0 G R H σ ρ xq Qd Q w x f k =>
  a H0 G R H σ ρ xq _ _ w x f fun v as G1 R1 H1 d n1 o nd q => by
    have fr := Ow.fresh d v as o
    have nz := (Nx.froz n1.gd fun a m => ⟨(fr a m).2.1, (fr a m).2.2.1⟩).satur
    have nc : Nx G R H G1 R1 (Dl.cut H1 as) := ⟨n1.gg, n1.rr, n1.gd.cut fun a m => ⟨(fr a m).2.1, (fr a m).2.2.1⟩, fun b u e r => by
        rw [cut_out fun m => by rw [(fr b m).1] at e; cases e]; exact n1.ev b u e r, fun b u e => by
        rw [cut_out fun m => by rw [(fr b m).1] at e; cases e]; exact n1.ex b u e, n1.fg, n1.fr⟩
    refine k v _ R1 H1 (unF d) (nc.trans nz) ?_ q
    refine Ow.froz (H0 := H) (G := G1) (H := H1) (fun b u e => nz.gg b u e) (fun a u hu s => ?_) d v as (fun b m u hu => ?_) o
    · refine satur_keep ?_ hu (by cases u <;> first | rfl | exact s.elim)
      exact (Nx.froz n1.gd fun a m => ⟨(fr a m).2.1, (fr a m).2.2.1⟩).gd.sub
    · refine satur_same b u ?_
      show (if b ∈ as then H1 b else G1 b) = some u
      rw [if_pos m]
      exact hu
end
section
variable {X : Cx} {C : Str → Addr} {W : WX} {e : Expr} {fo : DE}
theorem ce_tmp (h : CF X C W e fo) : CE X C W e (dTmp fo) := let ⟨_, p, q⟩ := h; ⟨_, p, je_tmp q⟩
end
end Dl
namespace Dl
open PySem PySem.Spec PyProof.Rows L2
section
variable {Γ : Kx} {W : WX} {tp : TE} {fp : DP}
end
section
variable {X : Cx} {C : Str → Addr} {W : WX} {e o : Expr} {i : Nat} {pos : Pos} {fp : DP}
end
section
variable {X : Cx} {C : Str → Addr} {W : WX} {bl : Str → Bool} {a : Expr} {fa : DE} {pos p : Pos}
end
end Dl
namespace Dl
open PySem PySem.Spec PyProof.Rows L2
section
variable {Γ : Kx} {W : WX} {H0 G G0 : Hp} {R R0 : Addr → Prop} {H : Hp} {σ : St} {ρ : En} {i : Nat}
end
section
variable {X : Cx} {C : Str → Addr} {W : WX} {sts : List Stmt} {g1 : DS}
end
def keyOf : D → Option Key
  | .int i => some (.inl i)
  | .str s => some (.inr s)
  | _ => none
section
variable {Γ : Kx} {W : WX} {G : Hp} {R : Addr → Prop}
theorem keyOf_v {d : D} {v : V} {k : Key} (h : keyOf d = some k) (r : Rp Γ G R d v) : v = kV k := by
  cases d with
  | int i =>
    unfold keyOf at h
    cases h
    unfold Rp at r
    exact r
  | str s =>
    unfold keyOf at h
    cases h
    unfold Rp at r
    exact r
  | _ => unfold keyOf at h; cases h
def gKeyD (d y : D) (Q : D → Prop) : Prop := match keyOf y with
  | some k => gKey k d Q
  | none => False
def dKeyV (fa fb : DE) : DE := fun xq ρ Q => fa xq ρ fun d => fb xq ρ fun y => gKeyD d y Q
theorem je_keyV {ta tb : TE} {fa fb : DE} (a : JE Γ W ta fa) (b : JE Γ W tb fb) : JE Γ W (tDGet ta tb) (dKeyV fa fb) := fun H0 G R H σ ρ xq Qd Q w x f kk =>
  a H0 G R H σ ρ xq _ _ w x f fun v G1 R1 H1 d n1 r1 q => b H0 G1 R1 H1 σ ρ xq _ _ (w.nx n1) (x.nx n1) q fun u G2 R2 H2 y n2 r2 q2 => by
    unfold gKeyD at q2
    cases ek : keyOf y with
    | none => rw [ek] at q2; exact q2.elim
    | some k =>
      rw [ek] at q2
      have eu := keyOf_v ek r2
      subst eu
      have r1' := Rp.mono n2.gg n2.rr d v r1
      have n := n1.trans n2
      cases d <;> first | exact q2.elim | skip
      rename_i kvs
      have q' : match getK kvs k with
        | some (.fr x) => Qd x
        | some x => Qd x
        | none => False := q2
      cases e : getK kvs k with
      | none => rw [e] at q'; exact q'.elim
      | some z =>
        rw [e] at q'
        unfold Rp at r1'
        obtain ⟨p, us, rfl, g, rk⟩ := r1'
        obtain ⟨u, eu, ru⟩ := rk.get e
        refine ⟨p, u, rfl, by rw [← eu]; exact DGet.k (n2.gd.sub _ _ g), ?_⟩
        cases z with
        | fr x =>
          unfold Rp at ru
          exact kk u G2 R2 H2 x n ru.2 q'
        | _ => exact kk u G2 R2 H2 _ n ru q'
theorem RpK.none {k : Key} : ∀ {kvs : List (Key × D)} {us : List (Key × V)}, RpK Γ G R kvs us → getK kvs k = none → valV us k = none
  | [], us, h, _ => by unfold RpK at h; subst h; rfl
  | (x, y) :: r, us, h, e => by
    unfold RpK at h
    obtain ⟨v, q, rfl, h1, h2⟩ := h
    unfold getK at e
    by_cases z : x = k
    · rw [if_pos z] at e; cases e
    · rw [if_neg z] at e
      rw [valV_neg z]
      exact RpK.none h2 e
end
section
variable {X : Cx} {C : Str → Addr} {W : WX} {k : Nat} {bl : Str → Bool} {a b e o : Expr} {fa fb fo : DE} {fp : DP} {pos p1 pos' : Pos} {x : Str} {i : Nat}
theorem ce_keyV (g : GE X W k bl) (h : CE X C W a fa) (h' : CE X C W b fb) (hs : NoSl b := by exact fun _ _ => rfl) : CE X C W (.Subscript a b pos) (dKeyV fa fb) :=
  let ⟨_, p, q⟩ := h; let ⟨_, p', q'⟩ := h'; ⟨_, pe_dget (by have := g.hu; omega) p p' hs, je_keyV q q'⟩
end
end Dl
namespace Dl
open PySem PySem.Spec PyProof.Rows L2
def allS : List (Key × D) → Bool
  | [] => true
  | (.inr _, _) :: r => allS r
  | (.inl _, _) :: _ => false
theorem look_str {f : Str} : ∀ {us : List (Key × V)} {kvs : List (Key × D)}, us.map (·.1) = kvs.map (·.1) → allS kvs = true → (strK us).lookup f = valV us (.inr f)
  | [], [], _, _ => rfl
  | [], _ :: _, e, _ => by simp at e
  | _ :: _, [], e, _ => by simp at e
  | (k, v) :: us, (k', d) :: kvs, e, h => by
    simp only [List.map_cons, List.cons.injEq] at e
    obtain ⟨rfl, e⟩ := e
    cases k with
    | inl i => unfold allS at h; cases h
    | inr g =>
      unfold allS at h
      show List.lookup f ((g, v) :: strK us) = _
      by_cases q : g = f
      · subst q
        rw [valV_pos rfl]
        simp [List.lookup]
      · rw [valV_neg (fun z => q (Sum.inr.inj z)), ← look_str e h]
        have : (f == g) = false := beq_eq_false_iff_ne.mpr (Ne.symm q)
        simp [List.lookup, this]
theorem putK_ne {κ : Type} [DecidableEq κ] {us : List (κ × V)} {k k' : κ} {v u : V} (h : k ≠ k') : L2.putK ((k, v) :: us) k' u = (k, v) :: L2.putK us k' u := by
  unfold L2.putK
  rw [List.any_cons, decide_eq_false (p := (k, v).1 = k') h, Bool.false_or]
  split
  · rw [List.map_cons, if_neg (by exact h)]
  · rfl
theorem putK_eq {κ : Type} [DecidableEq κ] {us : List (κ × V)} {k : κ} {v u : V} (h : ∀ p ∈ us, p.1 ≠ k) : L2.putK ((k, v) :: us) k u = (k, u) :: us := by
  unfold L2.putK
  rw [if_pos (by simp), List.map_cons, if_pos rfl]
  congr 1
  have : us.map (fun kv => if kv.1 = k then (kv.1, u) else kv) = us.map id := List.map_congr_left fun p hp => by rw [if_neg (h p hp)]; rfl
  rw [this, List.map_id]
theorem put_str {f : Str} {u : V} : ∀ {us : List (Key × V)} {kvs : List (Key × D)}, us.map (·.1) = kvs.map (·.1) → allS kvs = true → nodK kvs = true → strK (L2.putK us (.inr f) u) = putF f u (strK us)
  | [], [], _, _, _ => rfl
  | [], _ :: _, e, _, _ => by simp at e
  | _ :: _, [], e, _, _ => by simp at e
  | (k, v) :: us, (k', d) :: kvs, e, h, nd => by
    simp only [List.map_cons, List.cons.injEq] at e
    obtain ⟨rfl, e⟩ := e
    cases k with
    | inl i => unfold allS at h; cases h
    | inr g =>
      unfold allS at h
      unfold nodK at nd
      rw [Bool.and_eq_true, Bool.not_eq_true'] at nd
      show _ = putF f u ((g, v) :: strK us)
      unfold putF
      by_cases q : g = f
      · subst q
        rw [if_pos rfl, putK_eq (fun p hp => ?_)]
        · rfl
        · intro z
          have m : p.1 ∈ us.map (·.1) := List.mem_map_of_mem hp
          rw [e] at m
          obtain ⟨y, hy, ey⟩ := List.mem_map.mp m
          have := List.any_eq_false.mp nd.1 y hy
          rw [ey, z] at this
          simp at this
      · rw [if_neg q, putK_ne (fun z => q (Sum.inr.inj z)), ← put_str e h nd.2]
        rfl
section
variable {Γ : Kx} {H0 G G' : Hp} {R R' : Addr → Prop} {H H' : Hp}
theorem comp_obj {cn : Str} {kvs : List (Key × D)} {v : V} {as : List Addr} {k : Key} {d1 : D} (h : Ow Γ H0 G R H (.obj cn kvs) v as) (nd : as.Nodup) (e : getK kvs k = some d1) :
    ∃ a dx us v1 as1, v = .ref a ∧ H a = some (.ins (Γ.C cn) dx (strK us)) ∧ us.map (·.1) = kvs.map (·.1) ∧ valV us k = some v1 ∧ Comp Γ H0 G R H v as (fun x => .obj cn (setK kvs k x)) d1 v1 as1 := by
  unfold Ow at h
  obtain ⟨a, dx, us, bs, rfl, rfl, h0, g, r, hl, l⟩ := h
  obtain ⟨na, nb⟩ := List.nodup_cons.mp nd
  obtain ⟨ek, l⟩ := l.toL
  obtain ⟨j, j1, j2, j3, j4⟩ := getK_ix e
  obtain ⟨v1, as1, e1, o1, n1, s1, re⟩ := l.at nb j1
  refine ⟨a, dx, us, v1, as1, rfl, hl, ek, by rw [j4 us ek]; exact e1, o1, n1, fun x m => List.mem_cons_of_mem _ (s1 x m), fun G' R' H' d2 as2 s h nd2 hs => ?_⟩
  obtain ⟨x1, x2, x3⟩ := s.sl a _ (mem_wo.mpr ⟨List.mem_cons_self .., fun z => na (s1 a z)⟩) hl trivial g r
  obtain ⟨b3, l3, n3, m3⟩ := re G' R' H' d2 v1 as2 (s.sub fun x m => by
    rw [mem_wo] at *
    exact ⟨List.mem_cons_of_mem _ m.1, m.2⟩) h nd2 fun x m mx => hs x m (List.mem_cons_of_mem _ mx)
  rw [set_self' e1, ← j2 d2] at l3
  refine ⟨a :: b3, ?_, List.nodup_cons.mpr ⟨fun m => ?_, n3⟩, fun x => ⟨fun m => ?_, fun m => ?_⟩⟩
  · unfold Ow
    exact ⟨a, dx, us, b3, rfl, rfl, h0, x2, x3, x1, OwK.ofL (by rw [j3]; exact ek) l3⟩
  · rcases (m3 a).mp m with z | z
    · exact na (s1 a (hs a z (List.mem_cons_self ..)))
    · exact na z.1
  · rcases List.mem_cons.mp m with rfl | m
    · exact .inr ⟨List.mem_cons_self .., fun z => na (s1 x z)⟩
    · rcases (m3 x).mp m with z | z
      · exact .inl z
      · exact .inr ⟨List.mem_cons_of_mem _ z.1, z.2⟩
  · rcases m with z | z
    · exact List.mem_cons_of_mem _ ((m3 x).mpr (.inl z))
    · rcases List.mem_cons.mp z.1 with rfl | y
      · exact List.mem_cons_self ..
      · exact List.mem_cons_of_mem _ ((m3 x).mpr (.inr ⟨y, z.2⟩))
theorem Comp.obj {cn : Str} {v v1 : V} {as as1 : List Addr} {f : D → D} {ds : List (Key × D)} (c : Comp Γ H0 G R H v as f (.obj cn ds) v1 as1) : ∃ a dx vs bs, v1 = .ref a ∧ as1 = a :: bs ∧ a ∈ as ∧ a ∉ bs ∧ bs.Nodup ∧ (∀ x ∈ bs, x ∈ as) ∧ H a = some (.ins (Γ.C cn) dx (strK vs)) ∧ G a = none ∧ ¬ R a ∧ OwK Γ H0 G R H ds vs bs ∧
    ∀ (ds' : List (Key × D)) (vs' : List (Key × V)) (bs' : List Addr), OwK Γ H0 G R H ds' vs' bs' → bs'.Nodup → a ∉ bs' → (∀ b ∈ bs', b ∈ as → b ∈ bs) → ∃ as3, Ow Γ H0 G R (upd H a (.ins (Γ.C cn) dx (strK vs'))) (f (.obj cn ds')) v as3 ∧ as3.Nodup ∧ ∀ x ∈ as3, x ∈ bs' ∨ x ∈ as := by
  have h := c.ow
  unfold Ow at h
  obtain ⟨a, dx, vs, bs, rfl, rfl, h0, g, r, hl, l⟩ := h
  obtain ⟨na, nb⟩ := List.nodup_cons.mp c.nd
  refine ⟨a, dx, vs, bs, rfl, rfl, c.sub a (List.mem_cons_self ..), na, nb, fun x m => c.sub x (List.mem_cons_of_mem _ m), hl, g, r, l, fun ds' vs' bs' l' nd' na' hs => ?_⟩
  have st : ¬ Stiff (HO.ins (Γ.C cn) dx (strK vs)) := fun t => t
  obtain ⟨as3, h3, n3, m3⟩ := c.re G R (upd H a (.ins (Γ.C cn) dx (strK vs'))) (.obj cn ds') (a :: bs') (Stays.upd (fun m => (mem_wo.mp m).2 (List.mem_cons_self ..)) hl st) (by
    unfold Ow
    exact ⟨a, dx, vs', bs', rfl, rfl, h0, g, r, upd_same, OwK.mono ds' vs' bs' (Stays.upd na' hl st) l'⟩) (List.nodup_cons.mpr ⟨na', nd'⟩) fun x m mx => by
      rcases List.mem_cons.mp m with rfl | m
      · exact List.mem_cons_self ..
      · exact List.mem_cons_of_mem _ (hs x m mx)
  refine ⟨as3, h3, n3, fun x m => ?_⟩
  rcases (m3 x).mp m with z | z
  · rcases List.mem_cons.mp z with rfl | z
    · exact .inr (c.sub x (List.mem_cons_self ..))
    · exact .inl z
  · exact .inr z.1
end
section
variable {Γ : Kx} {W : WX} {te tp ti : TE} {fp : DP} {fe fi fo : DE}
def dPFld (fp : DP) (cs : List Str) (f0 : Str) : DP := fun xq ρ Q => fp xq ρ fun i f d => match d with
  | .obj cn kvs => cn ∈ cs ∧ allS kvs = true ∧ match getK kvs (.inr f0) with
    | some d1 => Q i (fun y => f (.obj cn (setK kvs (.inr f0) y))) d1
    | none => False
  | _ => False
theorem jp_fld {f0 : Str} {cs : List Str} (fk : FldOk Γ.K Γ.C cs f0) (a : JP Γ W tp fp) : JP Γ W (tFld Γ.K tp f0) (dPFld fp cs f0) := fun H0 G R H σ ρ xq Qp Q w x f kk =>
  a H0 G R H σ ρ xq _ _ w x f fun v1 G1 R1 H1 i f d1 v as d as1 n1 e c q => by
    cases d1 <;> first | exact q.elim | skip
    rename_i cn kvs
    obtain ⟨hc, al, q'⟩ : cn ∈ cs ∧ allS kvs = true ∧ match getK kvs (.inr f0) with
      | some d1 => Qp i (fun y => f (.obj cn (setK kvs (.inr f0) y))) d1
      | none => False := q
    cases hd : getK kvs (.inr f0) with
    | none => rw [hd] at q'; exact q'.elim
    | some dd =>
      rw [hd] at q'
      obtain ⟨p, dx, us, u, as2, rfl, hs, ek, hu, cc⟩ := comp_obj c.ow c.nd hd
      exact ⟨p, _, dx, _, u, rfl, hs, (fk cn hc).1, (fk cn hc).2, by rw [look_str ek al]; exact hu, kk u G1 R1 H1 i _ dd v as d as2 n1 e (c.trans cc) q'⟩
theorem place_putO {cn : Str} {H0 G0 G G' : Hp} {R0 R R' : Addr → Prop} {H H' : Hp} {σ : St} {ρ : En} {i : Nat} {v v1 : V} {as as1 : List Addr} {d : D} {f : D → D} {ds : List (Key × D)} {k : En → Prop} {P : Hp → Prop}
    (n0 : Nx G0 R0 H0 G R H) (w : Wd Γ H0 G R H σ ρ) (e : ρ[i]? = some (.ow v as d)) (n : Nx G R H G' R' H') (c : Comp Γ H0 G' R' H' v as f (.obj cn ds) v1 as1) (ex : ∀ G2 R2 H2 ρ2, Nx G0 R0 H0 G2 R2 H2 → Wd Γ H0 G2 R2 H2 σ ρ2 → k ρ2 → P H2) :
    ∃ a dx vs bs, v1 = .ref a ∧ H' a = some (.ins (Γ.C cn) dx (strK vs)) ∧ OwK Γ H0 G' R' H' ds vs bs ∧ bs.Nodup ∧ a ∉ bs ∧ (∀ b ∈ bs, ∃ o, H b = some o) ∧ (∃ o, H a = some o) ∧
      ∀ (ds' : List (Key × D)) (vs' : List (Key × V)) (bs' : List Addr), OwK Γ H0 G' R' H' ds' vs' bs' → bs'.Nodup → (∀ b ∈ bs', b ∈ bs ∨ H b = none) → putS i (f (.obj cn ds')) k ρ → P (upd H' a (.ins (Γ.C cn) dx (strK vs'))) := by
  obtain ⟨a, dx, vs, bs, rfl, rfl, ma, na, nb, sb, hl, g, r, l, re⟩ := c.obj
  have fr := w.frs e
  have there : ∀ b ∈ as, ∃ o, H b = some o := fun b m => by
    obtain ⟨_, _, _, o, h, _⟩ := fr b m
    exact ⟨o, h⟩
  refine ⟨a, dx, vs, bs, rfl, hl, l, nb, na, fun b m => there b (sb b m), there a ma, fun ds' vs' bs' l' nd' hs q => ?_⟩
  obtain ⟨as3, h3, n3, m3⟩ := re ds' vs' bs' l' nd' (fun m => by
    rcases hs a m with z | z
    · exact na z
    · obtain ⟨o, h⟩ := there a ma
      rw [z] at h; cases h) fun b m mb => by
      rcases hs b m with z | z
      · exact z
      · obtain ⟨o, h⟩ := there b mb
        rw [z] at h; cases h
  have nn := n.cutUpd (a := a) (o := .ins (Γ.C cn) dx (strK vs')) ma g r
  unfold putS at q
  rw [e] at q
  refine ex G' R' _ _ (n0.putO w e nn) (w.putO e nn h3 n3 fun x m => ?_) (q as3)
  rcases m3 x m with z | z
  · rcases hs x z with y | y
    · exact cut_in (sb x y)
    · unfold Dl.cut
      split
      · rfl
      · exact y
  · exact cut_in z
def dPutFld (fp : DP) (cs : List Str) (f0 : Str) (fo : DE) : DS := fun kk ρ => fo (kk.xq ρ) ρ fun x => fp (kk.xq ρ) ρ fun i f d => match d with
  | .obj cn kvs => cn ∈ cs ∧ allS kvs = true ∧ nodK kvs = true ∧ kvs.length < 1000 ∧ putS i (f (.obj cn (setK kvs (.inr f0) x))) kk.nx ρ
  | _ => False
theorem js_putFld {f0 : Str} {cs : List Str} (fk : FldOk Γ.K Γ.C cs f0) (c : JF Γ W te fo) (a : JP Γ W tp fp) : JS Γ W (sFld Γ.K tp te f0) (dPutFld fp cs f0 fo) := fun G0 R0 H0 G R H σ ρ k D n w e f =>
  c H0 G R H σ ρ _ _ _ w (e.lk n w) f fun v2 bx G1 R1 H1 x n1 ox ndx q => a H0 G1 R1 H1 σ ρ _ _ _ (w.nx n1) ((e.lk n w).nx n1) q fun v1 G2 R2 H2 i f d1 v as d as1 n2 es cc q2 => by
    cases d1 <;> first | exact q2.elim | skip
    rename_i cn kvs
    obtain ⟨hc, al, nd, hz, q3⟩ := q2
    obtain ⟨a, dx, us, bs, rfl, hl, ol, nb, na, there, ta, put⟩ := place_putO (k := k.nx) (P := fun H' => D.nx σ H') n w es (n1.trans n2) cc fun G' R' H' ρ' => e.nx G' R' H' σ ρ'
    have ox3 := Ow.mono x v2 bx (n2.stays n1.gd bx) ox
    have fx := Ow.fresh x v2 bx ox
    have fresh0 : ∀ b, H b = none → H0 b = none := fun b h => n.free0 h
    have dis : ∀ b ∈ bs, b ∉ bx := fun b m mx => by
      obtain ⟨o, h⟩ := there b m
      rw [(fx b mx).1] at h; cases h
    obtain ⟨ek, oL⟩ := ol.toL
    have lu : us.length = kvs.length := by have := congrArg List.length ek; simpa using this
    refine ⟨a, _, dx, _, rfl, hl, (fk cn hc).1, (fk cn hc).2, by unfold strK; rw [List.length_map, lu]; exact hz, ?_⟩
    rw [← put_str ek al nd]
    cases hg : getK kvs (.inr f0) with
    | some dd =>
      obtain ⟨j, j1, j2, j3, j4, j5⟩ := putK_at (v := v2) nd ek hg
      obtain ⟨u, as2, e1, o1, nd1, s1, re⟩ := oL.at nb j1
      obtain ⟨bs3, l3, nd3, m3⟩ := re G2 R2 H2 x v2 bx ⟨fun a o m h _ g r => ⟨h, g, r⟩, fun a o h _ => h, fun _ h => h, fun _ _ h => h⟩ (Ow.older fresh0 x v2 bx ox3) ndx fun a m ma => absurd m (dis a ma)
      refine put (setK kvs (.inr f0) x) (putK us (.inr f0) v2) bs3 (OwK.ofL (by rw [j5, j3]; exact ek) (by rw [j2, j4]; exact l3)) nd3 (fun b m => ?_) q3
      rcases (m3 b).mp m with m | m
      · exact .inr (fx b m).1
      · exact .inl m.1
    | none =>
      obtain ⟨j1, j2⟩ := getK_none hg
      refine put (setK kvs (.inr f0) x) (putK us (.inr f0) v2) (bs ++ bx) (OwK.ofL (by rw [j1, j2 us ek]; simp [ek]) (by rw [j1, j2 us ek, List.map_append, List.map_append]; exact oL.snoc (Ow.older fresh0 x v2 bx ox3))) (List.nodup_append.mpr ⟨nb, ndx, fun a ha b hb e => dis a ha (e ▸ hb)⟩) (fun b m => ?_) q3
      rcases List.mem_append.mp m with m | m
      · exact .inl m
      · exact .inr (fx b m).1
end
end Dl
namespace Dl
open PySem PySem.Spec PyProof.Rows L2
inductive WA where
  | d (x : D) | v (i : Nat)
def ownI : List WA → List Nat
  | [] => []
  | .d _ :: r => ownI r
  | .v i :: r => i :: ownI r
def unAll (is : List Nat) (ρ : En) : En := is.foldl (fun ρ i => ρ.set i .un) ρ
section
variable (Γ : Kx) (G : Hp) (R : Addr → Prop) (ρ : En)
def WLs : List WA → List V → List (List Addr) → List AD → Prop
  | [], vs, ass, ads => vs = [] ∧ ass = [] ∧ ads = []
  | .d x :: r, vs, ass, ads => ∃ v q as' ad', vs = v :: q ∧ ass = [] :: as' ∧ ads = .d x :: ad' ∧ Rp Γ G R x v ∧ WLs r q as' ad'
  | .v i :: r, vs, ass, ads => ∃ v q as d as' ad', vs = v :: q ∧ ass = as :: as' ∧ ads = .o d :: ad' ∧ ρ[i]? = some (.ow v as d) ∧ WLs r q as' ad'
end
section
variable {Γ : Kx} {H0 G G' : Hp} {R R' : Addr → Prop} {H H' : Hp} {σ : St} {ρ : En}
theorem cut_app {as bs : List Addr} : Dl.cut (Dl.cut H as) bs = Dl.cut H (as ++ bs) := by
  funext a
  unfold Dl.cut
  by_cases h1 : a ∈ bs
  · rw [if_pos h1, if_pos (List.mem_append_right _ h1)]
  · rw [if_neg h1]
    by_cases h2 : a ∈ as
    · rw [if_pos h2, if_pos (List.mem_append_left _ h2)]
    · rw [if_neg h2, if_neg (fun m => (List.mem_append.mp m).elim h2 h1)]
theorem WLs.env {ρ2 : En} : ∀ {ws : List WA} {vs : List V} {ass : List (List Addr)} {ads : List AD}, WLs Γ G R ρ ws vs ass ads → (∀ i ∈ ownI ws, ρ2[i]? = ρ[i]?) → WLs Γ G R ρ2 ws vs ass ads
  | [], vs, ass, ads, h, _ => by unfold WLs at *; exact h
  | .d x :: r, vs, ass, ads, h, e => by
    unfold WLs at *
    obtain ⟨v, q, as', ad', h1, h2, h3, h4, h5⟩ := h
    exact ⟨v, q, as', ad', h1, h2, h3, h4, WLs.env h5 e⟩
  | .v i :: r, vs, ass, ads, h, e => by
    unfold WLs at *
    obtain ⟨v, q, as, d, as', ad', h1, h2, h3, h4, h5⟩ := h
    exact ⟨v, q, as, d, as', ad', h1, h2, h3, by rw [e i (List.mem_cons_self ..)]; exact h4, WLs.env h5 fun j m => e j (List.mem_cons_of_mem _ m)⟩
theorem Wd.takes : ∀ {ws : List WA} {vs : List V} {ass : List (List Addr)} {ads : List AD} {H : Hp} {ρ : En}, WLs Γ G R ρ ws vs ass ads → (ownI ws).Nodup → Wd Γ H0 G R H σ ρ → Wd Γ H0 G R (Dl.cut H ass.flatten) σ (unAll (ownI ws) ρ) ∧ ass.flatten.Nodup ∧ Frs H0 G R H ass.flatten
  | [], vs, ass, ads, H, ρ, h, _, w => by
    unfold WLs at h
    obtain ⟨_, rfl, _⟩ := h
    exact ⟨by rw [List.flatten_nil, cut_nil]; exact w, List.nodup_nil, fun a m => absurd m List.not_mem_nil⟩
  | .d x :: r, vs, ass, ads, H, ρ, h, nd, w => by
    unfold WLs at h
    obtain ⟨v, q, as', ad', _, rfl, _, _, h5⟩ := h
    show Wd Γ H0 G R (Dl.cut H as'.flatten) σ (unAll (ownI r) ρ) ∧ as'.flatten.Nodup ∧ Frs H0 G R H as'.flatten
    exact Wd.takes h5 nd w
  | .v i :: r, vs, ass, ads, H, ρ, h, nd, w => by
    unfold WLs at h
    obtain ⟨v, q, as, d, as', ad', rfl, rfl, rfl, h4, h5⟩ := h
    obtain ⟨ni, nd2⟩ := List.nodup_cons.mp (show (i :: ownI r).Nodup from nd)
    have w1 := w.take h4
    have f1 := w.frs h4
    have h6 : WLs Γ G R (ρ.set i .un) r q as' ad' := h5.env fun j m => by rw [List.getElem?_set_ne (fun e => ni (by rw [e]; exact m))]
    obtain ⟨w2, n2, f2⟩ := Wd.takes h6 nd2 w1
    have out : ∀ a ∈ as'.flatten, a ∉ as := fun a m z => by
      obtain ⟨_, _, _, o, ho, _⟩ := f2 a m
      rw [cut_in z] at ho
      cases ho
    obtain ⟨_, _, _, _, nda⟩ := w.sl i _ h4
    refine ⟨by rw [List.flatten_cons, ← cut_app]; exact w2, ?_, fun a m => ?_⟩
    · rw [List.flatten_cons]
      exact List.nodup_append.mpr ⟨nda, n2, fun a ha b hb e => out b hb (e ▸ ha)⟩
    · rw [List.flatten_cons] at m
      rcases List.mem_append.mp m with m | m
      · exact f1 a m
      · obtain ⟨x1, x2, x3, o, ho, op⟩ := f2 a m
        rw [cut_out (out a m)] at ho
        exact ⟨x1, x2, x3, o, ho, op⟩
theorem WLs.al {F : List Addr} (w : Wd Γ H0 G R H σ ρ) : ∀ {ws : List WA} {vs : List V} {ass : List (List Addr)} {ads : List AD}, WLs Γ G R ρ ws vs ass ads → (∀ a ∈ ass.flatten, a ∈ F) → AL Γ (Dl.cut H F) G R H ads vs ass
  | [], vs, ass, ads, h, _ => by
    unfold WLs at h
    obtain ⟨rfl, rfl, rfl⟩ := h
    unfold AL
    exact ⟨rfl, rfl⟩
  | .d x :: r, vs, ass, ads, h, sub => by
    unfold WLs at h
    obtain ⟨v, q, as', ad', rfl, rfl, rfl, h4, h5⟩ := h
    unfold AL
    exact ⟨v, q, as', rfl, rfl, h4, h5.al w fun a m => sub a (by simpa using m)⟩
  | .v i :: r, vs, ass, ads, h, sub => by
    unfold WLs at h
    obtain ⟨v, q, as, d, as', ad', rfl, rfl, rfl, h4, h5⟩ := h
    obtain ⟨_, _, rfl, o, _⟩ := w.sl i _ h4
    rw [List.flatten_cons] at sub
    unfold AL
    exact ⟨v, q, as, as', rfl, rfl, Ow.base d v as (fun a m => cut_in (sub a (List.mem_append_left _ m))) o, h5.al w fun a m => sub a (List.mem_append_right _ m)⟩
def putW : List WA → List AD → (En → Prop) → En → Prop
  | .d _ :: ws, _ :: ads, K, ρ => putW ws ads K ρ
  | .v i :: ws, x :: ads, K, ρ => match ρ[i]? with
    | some (.ow v _ _) => ∃ d', x = .o d' ∧ ∀ as', putW ws ads K (ρ.set i (.ow v as' d'))
    | _ => False
  | [], _, K, ρ => K ρ
  | _, [], _, _ => False
theorem unAll_get {i : Nat} : ∀ {is : List Nat} {ρ : En}, i ∉ is → (unAll is ρ)[i]? = ρ[i]?
  | [], ρ, _ => rfl
  | j :: is, ρ, h => by
    show (unAll is (ρ.set j .un))[i]? = _
    rw [unAll_get fun m => h (List.mem_cons_of_mem _ m), List.getElem?_set_ne (fun e => h (by rw [e]; exact List.mem_cons_self ..))]
theorem unAll_set {i : Nat} {s : S} : ∀ {is : List Nat} {ρ : En}, i ∉ is → unAll is (ρ.set i s) = (unAll is ρ).set i s
  | [], ρ, _ => rfl
  | j :: is, ρ, h => by
    show unAll is ((ρ.set i s).set j .un) = (unAll is (ρ.set j .un)).set i s
    have ne : i ≠ j := fun e => h (by rw [e]; exact List.mem_cons_self ..)
    rw [List.set_comm _ _ ne, unAll_set fun m => h (List.mem_cons_of_mem _ m)]
theorem unAll_two {i : Nat} : ∀ {is : List Nat} {ρ : En}, i ∉ is → unAll (i :: is) ρ = (unAll is ρ).set i .un := fun {is ρ} h => unAll_set h
theorem Wd.backs {Hc : Hp} {K : En → Prop} {P : Prop} : ∀ {ws : List WA} {vs : List V} {ass ass' : List (List Addr)} {ads ads' : List AD} {ρ : En} {B : List Addr}, WLs Γ G R ρ ws vs ass ads → (ownI ws).Nodup → AL Γ Hc G' R' H' ads' vs ass' → ass'.flatten.Nodup → (∀ a ∈ ass'.flatten, a ∉ B) →
    (∀ a ∈ ass'.flatten, H0 a = none) → Wd Γ H0 G' R' H' σ (unAll (ownI ws) ρ) → (∀ (i : Nat) s v, (unAll (ownI ws) ρ)[i]? = some s → σ[i]? = some v → ∀ a ∈ s.fpt v, Hc a ≠ none ∨ a ∈ B) → (∀ i ∈ ownI ws, ∀ s, ρ[i]? = some s → ∀ v as d, s = .ow v as d → σ[i]? = some (some v)) → putW ws ads' K ρ →
    (∀ ρ', Wd Γ H0 G' R' H' σ ρ' → K ρ' → P) → P
  | [], vs, ass, ass', ads, ads', ρ, B, h, _, al, _, _, _, w, _, _, q, k => by
    unfold putW at q
    exact k ρ w q
  | .d x :: ws, vs, ass, ass', ads, ads', ρ, B, h, nd, al, nf, nb, z0, w, oc, sg, q, k => by
    unfold WLs at h
    obtain ⟨v, vs', as1, ad1, rfl, rfl, rfl, _, h5⟩ := h
    cases ads' with
    | nil => unfold putW at q; exact q.elim
    | cons y ads' =>
      unfold putW at q
      cases y with
      | d y =>
        unfold AL at al
        obtain ⟨v', q', as2, e1, rfl, _, al⟩ := al
        cases e1
        exact Wd.backs (ws := ws) h5 nd al (by simpa using nf) (fun a m => nb a (by simpa using m)) (fun a m => z0 a (by simpa using m)) w oc sg q k
      | o y =>
        unfold AL at al
        obtain ⟨v', q', a2, as2, e1, rfl, _, al⟩ := al
        cases e1
        rw [List.flatten_cons] at nf nb z0
        exact Wd.backs (ws := ws) h5 nd al (List.nodup_append.mp nf).2.1 (fun a m => nb a (List.mem_append_right _ m)) (fun a m => z0 a (List.mem_append_right _ m)) w oc sg q k
  | .v i :: ws, vs, ass, ass', ads, ads', ρ, B, h, nd, al, nf, nb, z0, w, oc, sg, q, k => by
    unfold WLs at h
    obtain ⟨v, vs', as, d, as1, ad1, rfl, rfl, rfl, h4, h5⟩ := h
    obtain ⟨ni, nd2⟩ := List.nodup_cons.mp (show (i :: ownI ws).Nodup from nd)
    cases ads' with
    | nil => unfold putW at q; exact q.elim
    | cons y ads' =>
      unfold putW at q
      rw [h4] at q
      obtain ⟨d', rfl, q⟩ := q
      unfold AL at al
      obtain ⟨v', q', a2, as2, e1, rfl, o, al⟩ := al
      cases e1
      rw [List.flatten_cons] at nf nb z0
      obtain ⟨n1, n2, n3⟩ := List.nodup_append.mp nf
      have eσ : σ[i]? = some (some v) := sg i (List.mem_cons_self ..) _ h4 v as d rfl
      have fr := Ow.fresh d' v a2 o
      have o2 : Ow Γ H0 G' R' H' d' v a2 := Ow.base d' v a2 (fun a m => z0 a (List.mem_append_left _ m)) o
      have w1 := w.set i (v := some v) (s := .ow v a2 d') ⟨rfl, o2, n1⟩ fun a m j t u hj e1 e2 m2 => by
        rcases oc j t u e1 e2 a m2 with z | z
        · exact z (fr a m).1
        · exact nb a (List.mem_append_left _ m) z
      have eσ2 : σ.set i (some v) = σ := by
        obtain ⟨hl, q⟩ := List.getElem?_eq_some_iff.mp eσ
        conv => lhs; rw [← q]
        exact List.set_getElem_self hl
      have il : i < ρ.length := (List.getElem?_eq_some_iff.mp h4).1
      have eρ : (unAll (ownI (.v i :: ws)) ρ).set i (.ow v a2 d') = unAll (ownI ws) (ρ.set i (.ow v a2 d')) := by
        rw [unAll_set ni]
        show (unAll (i :: ownI ws) ρ).set i _ = _
        rw [unAll_two ni, List.set_set]
      rw [eσ2, eρ] at w1
      refine Wd.backs (ws := ws) (B := a2 ++ B) (h5.env fun j m => by rw [List.getElem?_set_ne (fun e => ni (by rw [e]; exact m))]) nd2 al n2 (fun a m z => ?_) (fun a m => z0 a (List.mem_append_right _ m)) w1 (fun j s u e1 e2 a m => ?_) (fun j m s e u as3 d3 es => ?_) (q a2) k
      · rcases List.mem_append.mp z with z | z
        · exact n3 a z a m rfl
        · exact nb a (List.mem_append_right _ m) z
      · by_cases hj : j = i
        · subst hj
          rw [unAll_get ni, List.getElem?_set_self il] at e1
          cases e1
          rw [eσ] at e2
          cases e2
          exact .inr (List.mem_append_left _ m)
        · have e3 : (unAll (ownI (.v i :: ws)) ρ)[j]? = some s := by
            show (unAll (i :: ownI ws) ρ)[j]? = some s
            rw [unAll_two ni, List.getElem?_set_ne (Ne.symm hj)]
            rw [unAll_set ni, List.getElem?_set_ne (Ne.symm hj)] at e1
            exact e1
          exact (oc j s u e3 e2 a m).imp id fun z => List.mem_append_right _ z
      · have ne : i ≠ j := fun e => ni (by rw [e]; exact m)
        rw [List.getElem?_set_ne ne] at e
        exact sg j (List.mem_cons_of_mem _ m) s e u as3 d3 es
end
end Dl
namespace Dl
open PySem PySem.Spec PyProof.Rows L2
abbrev XF := En → XQ
abbrev DY := XF → En → (D → En → Prop) → Prop
abbrev DYT := XF → En → (Bool → En → Prop) → Prop
abbrev DYA := XF → En → (List D → En → Prop) → Prop
abbrev DWA := XF → En → (List WA → Prop) → Prop
def LkF (Γ : Kx) (W : WX) (xq : XF) (G0 : Hp) (R0 : Addr → Prop) (H0 : Hp) (σ : St) : Prop := ∀ c fs cls dx G R H ρ, Nx G0 R0 H0 G R H → Wd Γ H0 G R H σ ρ → xq ρ c fs → ExRep Γ G R H c fs cls dx → W cls dx σ H
theorem LkF.lk {Γ : Kx} {W : WX} {xq : XF} {G0 G : Hp} {R0 R : Addr → Prop} {H0 H : Hp} {σ : St} {ρ : En} (x : LkF Γ W xq G0 R0 H0 σ) (n : Nx G0 R0 H0 G R H) (w : Wd Γ H0 G R H σ ρ) : Lk Γ W (xq ρ) σ G R H :=
  fun c fs G' R' H' cls dx m y r => x c fs cls dx G' R' H' ρ (n.trans m) (w.nx m) y r
theorem LkF.re {Γ : Kx} {W : WX} {xq : XF} {G0 G : Hp} {R0 R : Addr → Prop} {H0 H : Hp} {σ : St} (x : LkF Γ W xq G0 R0 H0 σ) (n : Nx G0 R0 H0 G R H) : LkF Γ W xq G R H0 σ :=
  fun c fs cls dx G' R' H' ρ m w y r => x c fs cls dx G' R' H' ρ (n.rebase m) w y r
theorem EndsOk.lkf {Γ : Kx} {W : WX} {G0 : Hp} {R0 : Addr → Prop} {H0 : Hp} {k : DK} {D : Ends} {σ : St} (e : EndsOk Γ W G0 R0 H0 k D) : LkF Γ W (fun ρ c fs => k.ex c fs ρ) G0 R0 H0 σ :=
  fun c fs cls dx G R H ρ n w y r => e.ex c fs cls dx G R H σ ρ n w y r
section
variable (Γ : Kx) (W : WX)
def JY (te : TE) (fy : DY) : Prop := ∀ (G0 : Hp) (R0 : Addr → Prop) (H0 G : Hp) (R : Addr → Prop) (H : Hp) (σ : St) (ρ : En) (xq : XF) (Qd : D → En → Prop) (Q : VK), Nx G0 R0 H0 G R H → Wd Γ H0 G R H σ ρ → LkF Γ W xq G0 R0 H0 σ → fy xq ρ Qd →
  (∀ v G' R' H' ρ' d, Nx G0 R0 H0 G' R' H' → Wd Γ H0 G' R' H' σ ρ' → Rp Γ G' R' d v → Qd d ρ' → Q v H') → te σ H Q
def JYA (ta : TA) (fa : DYA) (n : Nat) : Prop := ∀ (G0 : Hp) (R0 : Addr → Prop) (H0 G : Hp) (R : Addr → Prop) (H : Hp) (σ : St) (ρ : En) (xq : XF) (Qd : List D → En → Prop) (Q : List V → Hp → Prop), Nx G0 R0 H0 G R H → Wd Γ H0 G R H σ ρ → LkF Γ W xq G0 R0 H0 σ → fa xq ρ Qd →
  (∀ vs G' R' H' ρ' ds, Nx G0 R0 H0 G' R' H' → Wd Γ H0 G' R' H' σ ρ' → RpL Γ G' R' ds vs → vs.length = n → Qd ds ρ' → Q vs H') → ta σ H Q
def JYT (tt : TT) (ft : DYT) : Prop := ∀ (G0 : Hp) (R0 : Addr → Prop) (H0 G : Hp) (R : Addr → Prop) (H : Hp) (σ : St) (ρ : En) (xq : XF) (Qd : Bool → En → Prop) (Q : Bool → Hp → Prop), Nx G0 R0 H0 G R H → Wd Γ H0 G R H σ ρ → LkF Γ W xq G0 R0 H0 σ → ft xq ρ Qd →
  (∀ b G' R' H' ρ', Nx G0 R0 H0 G' R' H' → Wd Γ H0 G' R' H' σ ρ' → Qd b ρ' → Q b H') → tt σ H Q
def JWA (ta : TA) (fw : DWA) : Prop := ∀ (H0 G : Hp) (R : Addr → Prop) (H : Hp) (σ : St) (ρ : En) (xq : XF) (Qd : List WA → Prop) (Q : List V → Hp → Prop), Wd Γ H0 G R H σ ρ → Lk Γ W (xq ρ) σ G R H → fw xq ρ Qd →
  (∀ vs G' R' H' ws ass ads, Nx G R H G' R' H' → WLs Γ G' R' ρ ws vs ass ads → Qd ws → Q vs H') → ta σ H Q
end
def yE (fe : DE) : DY := fun xq ρ Q => fe (xq ρ) ρ fun d => Q d ρ
def yNil : DYA := fun _ ρ Q => Q [] ρ
def yCons (fx : DY) (fa : DYA) : DYA := fun xq ρ Q => fx xq ρ fun d ρ' => fa xq ρ' fun ds ρ2 => Q (d :: ds) ρ2
def yTup (fa : DYA) : DY := fun xq ρ Q => fa xq ρ fun ds ρ' => Q (.tup ds) ρ'
def yOp (g : D → D → (D → Prop) → Prop) (fx fy : DY) : DY := fun xq ρ Q => fx xq ρ fun x ρ' => fy xq ρ' fun y ρ2 => g x y fun d => Q d ρ2
def y1 (g : D → (D → Prop) → Prop) (fx : DY) : DY := fun xq ρ Q => fx xq ρ fun x ρ' => g x fun d => Q d ρ'
def wNil : DWA := fun _ _ Q => Q []
def wE (fe : DE) (fw : DWA) : DWA := fun xq ρ Q => fe (xq ρ) ρ fun d => fw xq ρ fun ws => Q (.d d :: ws)
def wV (i : Nat) (fw : DWA) : DWA := fun xq ρ Q => (∃ v as d, ρ[i]? = some (.ow v as d)) ∧ fw xq ρ fun ws => Q (.v i :: ws)
def adsW (ρ : En) : List WA → List AD
  | [] => []
  | .d x :: r => .d x :: adsW ρ r
  | .v i :: r => (match ρ[i]? with | some (.ow _ _ d) => .o d | _ => .d .non) :: adsW ρ r
def yCall (S : DFO) (fw : DWA) : DY := fun xq ρ Q => fw xq ρ fun ws => (ownI ws).Nodup ∧ S (adsW ρ ws) (fun r ads' => ∃ d, r = .d d ∧ putW ws ads' (Q d) ρ) (xq (unAll (ownI ws) ρ))
def yB (fy : DY) : DYT := fun xq ρ Q => fy xq ρ fun d ρ' => match d with
  | .bl b => Q b ρ'
  | _ => False
def yNot (ft : DYT) : DYT := fun xq ρ Q => ft xq ρ fun b ρ' => Q (!b) ρ'
def dxf (k : DK) : XF := fun ρ c fs => k.ex c fs ρ
def dSetY (x : Nat) (fy : DY) : DS := fun k ρ => fy (dxf k) ρ fun d ρ' => k.nx (ρ'.set x (.fz d))
def dExprY (fy : DY) : DS := fun k ρ => fy (dxf k) ρ fun _ ρ' => k.nx ρ'
def dRetY (fy : DY) : DS := fun k ρ => fy (dxf k) ρ fun d ρ' => k.rt d ρ'
def dIfY (ft : DYT) (f1 f2 : DS) : DS := fun k ρ => ft (dxf k) ρ fun b ρ' => if b = true then f1 k ρ' else f2 k ρ'
def whileY (ft : DYT) (fb : DS) (k : DK) : Nat → En → Prop
  | 0, _ => False
  | n + 1, ρ => ft (dxf k) ρ fun b ρ' => if b = true then fb { k with nx := whileY ft fb k n, ct := whileY ft fb k n, bk := k.nx } ρ' else k.nx ρ'
def dWhileY (ft : DYT) (fb : DS) : DS := fun k ρ => ∃ n, whileY ft fb k n ρ
section
variable {Γ : Kx} {W : WX} {te tb tp : TE} {ta : TA} {tt t1 t2 : TT} {fe : DE} {fx fy : DY} {fa : DYA} {fw : DWA} {ft : DT} {f1 f2 : DYT} {ts s1 s2 : TS} {fs g1 g2 : DS} {i : Nat}
theorem jy_e (a : JE Γ W te fe) : JY Γ W te (yE fe) := fun G0 R0 H0 G R H σ ρ xq Qd Q n w x f k =>
  a H0 G R H σ ρ _ _ _ w (x.lk n w) f fun v G1 R1 H1 d n1 r q => k v G1 R1 H1 ρ d (n.trans n1) (w.nx n1) r q
theorem jya_nil : JYA Γ W tNil yNil 0 := fun G0 R0 H0 G R H σ ρ xq Qd Q n w x f k => k [] G R H ρ [] n w RpL.nil rfl f
theorem jya_cons {m : Nat} (a : JY Γ W te fx) (b : JYA Γ W ta fa m) : JYA Γ W (tCons te ta) (yCons fx fa) (m + 1) := fun G0 R0 H0 G R H σ ρ xq Qd Q n w x f k =>
  a G0 R0 H0 G R H σ ρ xq _ _ n w x f fun v G1 R1 H1 ρ1 d n1 w1 r1 q1 => b G1 R1 H0 G1 R1 H1 σ ρ1 _ _ _ n1.base w1 (x.re n1) q1 fun vs G2 R2 H2 ρ2 ds n2 w2 r2 l q2 =>
    k (v :: vs) G2 R2 H2 ρ2 (d :: ds) (n1.rebase n2) w2 (RpL.cons (Rp.mono n2.gg n2.rr d v r1) r2) (by rw [List.length_cons, l]) q2
theorem jy_tup {m : Nat} (a : JYA Γ W ta fa m) (hn : m ≤ sizeLine) : JY Γ W (tTup ta) (yTup fa) := fun G0 R0 H0 G R H σ ρ xq Qd Q n w x f k =>
  a G0 R0 H0 G R H σ ρ xq _ _ n w x f fun vs G1 R1 H1 ρ1 ds n1 w1 r1 l q1 => ⟨by rw [l]; exact hn, new_tup (Qd := fun d => Qd d ρ1) n1.gd r1 q1 fun v G' R' H' c n2 r2 q2 => k v G' R' H' ρ1 c (n1.trans n2) (w1.nx n2) r2 q2⟩
theorem jy_op {r : R2} {g : D → D → (D → Prop) → Prop} (u : U2 Γ r g) (a : JY Γ W te fx) (b : JY Γ W tb fy) : JY Γ W (tOp r te tb) (yOp g fx fy) := fun G0 R0 H0 G R H σ ρ xq Qd Q n w x f k =>
  a G0 R0 H0 G R H σ ρ xq _ _ n w x f fun v1 G1 R1 H1 ρ1 d1 n1 w1 r1 q1 => b G1 R1 H0 G1 R1 H1 σ ρ1 _ _ _ n1.base w1 (x.re n1) q1 fun v2 G2 R2 H2 ρ2 d2 n2 w2 r2 q2 =>
    u G2 R2 H2 d1 d2 v1 v2 (fun d => Qd d ρ2) Q n2.gd (Rp.mono n2.gg n2.rr d1 v1 r1).q r2.q q2 fun v G' R' H' c n3 r3 q3 => k v G' R' H' ρ2 c ((n1.rebase n2).trans n3) (w2.nx n3) r3 q3
theorem jwa_nil : JWA Γ W tNil wNil := fun H0 G R H σ ρ xq Qd Q w x f k => k [] G R H [] [] [] (Nx.refl w.gd) ⟨rfl, rfl, rfl⟩ f
theorem WLs.mono {G G' : Hp} {R R' : Addr → Prop} {ρ : En} (g : Same G G') (r : ∀ a, R a → R' a) : ∀ {ws : List WA} {vs : List V} {ass : List (List Addr)} {ads : List AD}, WLs Γ G R ρ ws vs ass ads → WLs Γ G' R' ρ ws vs ass ads
  | [], vs, ass, ads, h => by unfold WLs at *; exact h
  | .d x :: t, vs, ass, ads, h => by
    unfold WLs at *
    obtain ⟨v, q, as', ad', h1, h2, h3, h4, h5⟩ := h
    exact ⟨v, q, as', ad', h1, h2, h3, Rp.mono g r x v h4, WLs.mono g r h5⟩
  | .v i :: t, vs, ass, ads, h => by
    unfold WLs at *
    obtain ⟨v, q, as, d, as', ad', h1, h2, h3, h4, h5⟩ := h
    exact ⟨v, q, as, d, as', ad', h1, h2, h3, h4, WLs.mono g r h5⟩
theorem jwa_e (a : JE Γ W te fe) (b : JWA Γ W ta fw) : JWA Γ W (tCons te ta) (wE fe fw) := fun H0 G R H σ ρ xq Qd Q w x f k =>
  a H0 G R H σ ρ _ _ _ w x f fun v G1 R1 H1 d n1 r1 q1 => b H0 G1 R1 H1 σ ρ xq _ _ (w.nx n1) (x.nx n1) q1 fun vs G2 R2 H2 ws ass ads n2 wl q2 =>
    k (v :: vs) G2 R2 H2 (.d d :: ws) ([] :: ass) (.d d :: ads) (n1.trans n2) ⟨v, vs, ass, ads, rfl, rfl, rfl, Rp.mono n2.gg n2.rr d v r1, wl⟩ q2
theorem jwa_v (b : JWA Γ W ta fw) : JWA Γ W (tCons (tVar i) ta) (wV i fw) := fun H0 G R H σ ρ xq Qd Q w x ⟨⟨v, as, d, e⟩, f⟩ k => by
  obtain ⟨_, eσ, rfl, _, _⟩ := w.sl i _ e
  exact ⟨v, eσ, b H0 G R H σ ρ xq _ _ w x f fun vs G2 R2 H2 ws ass ads n2 wl q2 =>
    k (v :: vs) G2 R2 H2 (.v i :: ws) (as :: ass) (.o d :: ads) n2 ⟨v, vs, as, d, ass, ads, rfl, rfl, rfl, e, wl⟩ q2⟩
theorem WLs.ads {G : Hp} {R : Addr → Prop} {ρ : En} : ∀ {ws : List WA} {vs : List V} {ass : List (List Addr)} {ads : List AD}, WLs Γ G R ρ ws vs ass ads → adsW ρ ws = ads
  | [], vs, ass, ads, h => by unfold WLs at h; obtain ⟨_, _, rfl⟩ := h; rfl
  | .d x :: t, vs, ass, ads, h => by
    unfold WLs at h
    obtain ⟨v, q, as', ad', _, _, rfl, _, h5⟩ := h
    unfold adsW
    rw [h5.ads]
  | .v i :: t, vs, ass, ads, h => by
    unfold WLs at h
    obtain ⟨v, q, as, d, as', ad', _, _, rfl, h4, h5⟩ := h
    unfold adsW
    rw [h5.ads, h4]
theorem jy_call {S : DFO} (a : JWA Γ W ta fw) : JY Γ W (tCallS (spO Γ S) (WE W) ta) (yCall S fw) := fun G0 R0 H0 G R H σ ρ xq Qd Q n w x f k =>
  a H0 G R H σ ρ xq _ _ w (x.lk n w) f fun vs G1 R1 H1 ws ass ads n1 wl ⟨nd, q⟩ => by
    have w1 := w.nx n1
    have nn := n.trans n1
    obtain ⟨wU, nf, fr⟩ := w1.takes wl nd
    rw [wl.ads] at q
    have nc : Nx G0 R0 H0 G1 R1 (Dl.cut H1 ass.flatten) := nn.cut fr
    refine ⟨G1, R1, ads, ass, _, _, w1.gd, wl.al w1 fun _ m => m, nf, q, fun u G' R' H' r rs ads' ass' n2 al nd2 ⟨y, er, pu⟩ => ?_, fun c fs G' R' H' cls dx n2 z r => x c fs cls dx G' R' H' _ (nc.trans n2) (wU.nx n2) z r⟩
    subst er
    unfold AL at al
    obtain ⟨u', q', as', e1, e2, ry, al⟩ := al
    cases e1
    cases e2
    rw [List.nil_append] at nd2
    have w2 := wU.nx n2
    have cf : ∀ {Hc : Hp} {ads : List AD} {vs : List V} {ass : List (List Addr)}, AL Γ Hc G' R' H' ads vs ass → ∀ a ∈ ass.flatten, Hc a = none := by
      intro Hc ads
      induction ads with
      | nil => intro vs ass h a m; unfold AL at h; obtain ⟨rfl, rfl⟩ := h; simp at m
      | cons x r ih =>
        intro vs ass h a m
        cases x with
        | d d =>
          unfold AL at h
          obtain ⟨v, q, as', rfl, rfl, _, h⟩ := h
          exact ih h a (by simpa using m)
        | o d =>
          unfold AL at h
          obtain ⟨v, q, b, as', rfl, rfl, o, h⟩ := h
          rw [List.flatten_cons] at m
          rcases List.mem_append.mp m with m | m
          · exact (Ow.fresh d v b o a m).1
          · exact ih h a m
    have cfa := cf al
    have z0 : ∀ a ∈ ass'.flatten, H0 a = none := fun a m => by
      have c := cfa a m
      by_cases z : a ∈ ass.flatten
      · exact (fr a z).1
      · rw [cut_out z] at c
        exact nn.free0 c
    have sg : ∀ i ∈ ownI ws, ∀ s, ρ[i]? = some s → ∀ v as d, s = .ow v as d → σ[i]? = some (some v) := fun i _ s e v as d es => by
      subst es
      obtain ⟨_, eσ, rfl, _, _⟩ := w1.sl i _ e
      exact eσ
    refine Wd.backs (H' := H') (Hc := Dl.cut H1 ass.flatten) (B := []) wl nd al nd2 (fun a _ z => nomatch z) z0 w2 (fun j s v e1 e2 a m => .inl ?_) sg pu fun ρ' w3 q3 => k u G' R' H' ρ' y (nc.trans n2) w3 ry q3
    obtain ⟨⟨o, ho, _⟩, _⟩ := wU.ownThere e1 e2 m
    rw [ho]
    exact fun z => nomatch z
theorem jyt_b (a : JY Γ W te fx) : JYT Γ W (tB te) (yB fx) := fun G0 R0 H0 G R H σ ρ xq Qd Q n w x f k =>
  a G0 R0 H0 G R H σ ρ xq _ _ n w x f fun v G1 R1 H1 ρ1 d n1 w1 r q => by
    cases d <;> first | exact q.elim | skip
    exact ⟨_, (r.q (H := H1)).bl, k _ G1 R1 H1 ρ1 n1 w1 q⟩
theorem jyt_not (a : JYT Γ W t1 f1) : JYT Γ W (tNot t1) (yNot f1) := fun G0 R0 H0 G R H σ ρ xq Qd Q n w x f k =>
  a G0 R0 H0 G R H σ ρ xq _ _ n w x f fun b G1 R1 H1 ρ1 n1 w1 q => k (!b) G1 R1 H1 ρ1 n1 w1 q
theorem js_setY (a : JY Γ W te fy) : JS Γ W (tAsg te (gName i)) (dSetY i fy) := fun G0 R0 H0 G R H σ ρ k D n w e f =>
  a G0 R0 H0 G R H σ ρ _ _ _ n w e.lkf f fun v G' R' H' ρ' d n' w' r q => e.nx G' R' H' _ _ n' (w'.fz i r) q
theorem js_exprY (a : JY Γ W te fy) : JS Γ W (tDrop te) (dExprY fy) := fun G0 R0 H0 G R H σ ρ k D n w e f =>
  a G0 R0 H0 G R H σ ρ _ _ _ n w e.lkf f fun v G' R' H' ρ' d n' w' r q => e.nx G' R' H' _ _ n' w' q
theorem js_retY (a : JY Γ W te fy) : JS Γ W (tRet te) (dRetY fy) := fun G0 R0 H0 G R H σ ρ k D n w e f =>
  a G0 R0 H0 G R H σ ρ _ _ _ n w e.lkf f fun v G' R' H' ρ' d n' w' r q => e.rt v d G' R' H' σ ρ' n' w' r q
theorem js_ifY (c : JYT Γ W tt f1) (a : JS Γ W s1 g1) (b : JS Γ W s2 g2) : JS Γ W (tIfS tt s1 s2) (dIfY f1 g1 g2) := fun G0 R0 H0 G R H σ ρ k D n w e f =>
  c G0 R0 H0 G R H σ ρ _ _ _ n w e.lkf f fun d G' R' H' ρ' n' w' q => by
    cases d with
    | true => exact a G0 R0 H0 G' R' H' σ ρ' k D n' w' e q
    | false => exact b G0 R0 H0 G' R' H' σ ρ' k D n' w' e q
theorem js_whileY (c : JYT Γ W tt f1) (b : JS Γ W ts fs) : JS Γ W (tWhile tt ts) (dWhileY f1 fs) := fun G0 R0 H0 G R H σ ρ k D n w e ⟨m0, f⟩ => by
  refine ⟨fun m σ2 H2 => ∃ (G2 : Hp) (R2 : Addr → Prop) (ρ2 : En), Nx G0 R0 H0 G2 R2 H2 ∧ Wd Γ H0 G2 R2 H2 σ2 ρ2 ∧ whileY f1 fs k m ρ2, ⟨m0, G, R, ρ, n, w, f⟩, ?_⟩
  rintro m σ2 H2 ⟨G2, R2, ρ2, n2, w2, q2⟩
  cases m with
  | zero => exact q2.elim
  | succ m =>
    refine c G0 R0 H0 G2 R2 H2 σ2 ρ2 _ _ _ n2 w2 e.lkf q2 fun d G3 R3 H3 ρ3 n3 w3 q3 => ?_
    cases d with
    | true =>
      refine ⟨fun σ4 H4 => ∃ (G2 : Hp) (R2 : Addr → Prop) (ρ2 : En), Nx G0 R0 H0 G2 R2 H4 ∧ Wd Γ H0 G2 R2 H4 σ4 ρ2 ∧ whileY f1 fs k m ρ2, fun σ4 H4 p => ⟨m, Nat.lt_succ_self m, p⟩, ?_⟩
      refine b G0 R0 H0 G3 R3 H3 σ2 ρ3 { k with nx := whileY f1 fs k m, ct := whileY f1 fs k m, bk := k.nx } _ n3 w3 ⟨?_, e.rt, e.nx, ?_, e.ex, e.ro⟩ q3
      · exact fun G4 R4 H4 σ4 ρ4 n4 w4 q4 => ⟨G4, R4, ρ4, n4, w4, q4⟩
      · exact fun G4 R4 H4 σ4 ρ4 n4 w4 q4 => ⟨G4, R4, ρ4, n4, w4, q4⟩
    | false => exact e.nx G3 R3 H3 σ2 ρ3 n3 w3 q3
end
end Dl
namespace Dl
open PySem PySem.Spec PyProof.Rows L2
section
variable {Γ : Kx} {H0 G G' : Hp} {R R' : Addr → Prop} {H H' : Hp} {σ : St} {ρ : En}
theorem AL.app : ∀ {ads : List AD} {vs : List V} {ass : List (List Addr)} {ads2 : List AD} {vs2 : List V} {ass2 : List (List Addr)}, AL Γ H0 G R H ads vs ass → AL Γ H0 G R H ads2 vs2 ass2 → AL Γ H0 G R H (ads ++ ads2) (vs ++ vs2) (ass ++ ass2)
  | [], vs, ass, ads2, vs2, ass2, h, h2 => by
    unfold AL at h
    obtain ⟨rfl, rfl⟩ := h
    exact h2
  | .d d :: r, vs, ass, ads2, vs2, ass2, h, h2 => by
    unfold AL at h
    obtain ⟨v, q, as', rfl, rfl, z, h⟩ := h
    show AL Γ H0 G R H (.d d :: (r ++ ads2)) (v :: (q ++ vs2)) ([] :: (as' ++ ass2))
    exact ⟨v, q ++ vs2, as' ++ ass2, rfl, rfl, z, h.app h2⟩
  | .o d :: r, vs, ass, ads2, vs2, ass2, h, h2 => by
    unfold AL at h
    obtain ⟨v, q, a, as', rfl, rfl, z, h⟩ := h
    show AL Γ H0 G R H (.o d :: (r ++ ads2)) (v :: (q ++ vs2)) (a :: (as' ++ ass2))
    exact ⟨v, q ++ vs2, a, as' ++ ass2, rfl, rfl, z, h.app h2⟩
theorem AL.split : ∀ {vs : List V} {vs2 : List V} {ads : List AD} {ass : List (List Addr)}, AL Γ H0 G R H ads (vs ++ vs2) ass → ∃ ads1 ads2 ass1 ass2, ads = ads1 ++ ads2 ∧ ass = ass1 ++ ass2 ∧ AL Γ H0 G R H ads1 vs ass1
  | [], vs2, ads, ass, h => ⟨[], ads, [], ass, rfl, rfl, rfl, rfl⟩
  | v :: vs, vs2, [], ass, h => by
    unfold AL at h
    exact nomatch h.1
  | v :: vs, vs2, .d d :: r, ass, h => by
    unfold AL at h
    obtain ⟨v', q, as', e, rfl, z, h⟩ := h
    cases e
    obtain ⟨a1, a2, b1, b2, rfl, rfl, h2⟩ := AL.split (vs := vs) h
    exact ⟨.d d :: a1, a2, [] :: b1, b2, rfl, rfl, v, vs, b1, rfl, rfl, z, h2⟩
  | v :: vs, vs2, .o d :: r, ass, h => by
    unfold AL at h
    obtain ⟨v', q, a, as', e, rfl, z, h⟩ := h
    cases e
    obtain ⟨a1, a2, b1, b2, rfl, rfl, h2⟩ := AL.split (vs := vs) h
    exact ⟨.o d :: a1, a2, a :: b1, b2, rfl, rfl, v, vs, a, b1, rfl, rfl, z, h2⟩
theorem AL.freshB : ∀ {ads : List AD} {vs : List V} {ass : List (List Addr)}, AL Γ H0 G R H ads vs ass → ∀ a ∈ ass.flatten, H0 a = none ∧ G a = none ∧ ¬ R a ∧ ∃ o, H a = some o ∧ Open o
  | [], vs, ass, h, a, m => by unfold AL at h; obtain ⟨rfl, rfl⟩ := h; simp at m
  | .d d :: r, vs, ass, h, a, m => by
    unfold AL at h
    obtain ⟨v, q, as', rfl, rfl, _, h⟩ := h
    exact h.freshB a (by simpa using m)
  | .o d :: r, vs, ass, h, a, m => by
    unfold AL at h
    obtain ⟨v, q, b, as', rfl, rfl, o, h⟩ := h
    rw [List.flatten_cons] at m
    rcases List.mem_append.mp m with m | m
    · exact Ow.fresh d v b o a m
    · exact h.freshB a m
theorem AL.base {Hb : Hp} : ∀ {ads : List AD} {vs : List V} {ass : List (List Addr)}, (∀ a ∈ ass.flatten, Hb a = none) → AL Γ H0 G R H ads vs ass → AL Γ Hb G R H ads vs ass
  | [], vs, ass, _, h => by unfold AL at *; exact h
  | .d d :: r, vs, ass, z, h => by
    unfold AL at *
    obtain ⟨v, q, as', rfl, rfl, y, h⟩ := h
    exact ⟨v, q, as', rfl, rfl, y, h.base fun a m => z a (by simpa using m)⟩
  | .o d :: r, vs, ass, z, h => by
    unfold AL at *
    obtain ⟨v, q, b, as', rfl, rfl, y, h⟩ := h
    rw [List.flatten_cons] at z
    exact ⟨v, q, b, as', rfl, rfl, Ow.base d v b (fun a m => z a (List.mem_append_left _ m)) y, h.base fun a m => z a (List.mem_append_right _ m)⟩
theorem valV_none {k : Key} : ∀ {us : List (Key × V)} {kvs : List (Key × D)}, us.map (·.1) = kvs.map (·.1) → getK kvs k = none → valV us k = none
  | [], [], _, _ => rfl
  | [], _ :: _, e, _ => by simp at e
  | _ :: _, [], e, _ => by simp at e
  | (x, v) :: us, (y, d) :: kvs, e, h => by
    simp only [List.map_cons, List.cons.injEq] at e
    obtain ⟨rfl, e⟩ := e
    unfold getK at h
    split at h
    · cases h
    · rename_i z
      rw [valV_neg z]
      exact valV_none e h
theorem cut_comm {as bs : List Addr} : Dl.cut H (as ++ bs) = Dl.cut H (bs ++ as) := by
  funext a
  unfold Dl.cut
  by_cases h : a ∈ as ++ bs
  · rw [if_pos h, if_pos (List.mem_append.mpr (List.mem_append.mp h).symm)]
  · rw [if_neg h, if_neg fun m => h (List.mem_append.mpr (List.mem_append.mp m).symm)]
theorem putW_app {K : En → Prop} {ads2 : List AD} : ∀ {ws : List WA} {ads : List AD} {ρ : En}, ws.length = ads.length → putW ws (ads ++ ads2) K ρ → putW ws ads K ρ
  | [], [], ρ, _, q => by unfold putW at *; exact q
  | [], _ :: _, ρ, e, _ => nomatch e
  | _ :: _, [], ρ, e, _ => nomatch e
  | .d x :: ws, a :: ads, ρ, e, q => by
    rw [List.cons_append] at q
    unfold putW at *
    exact putW_app (Nat.succ.inj e) q
  | .v i :: ws, a :: ads, ρ, e, q => by
    rw [List.cons_append] at q
    unfold putW at *
    split at q
    · obtain ⟨d', e1, q⟩ := q
      exact ⟨d', e1, fun as' => putW_app (Nat.succ.inj e) (q as')⟩
    · exact q.elim
theorem WLs.len : ∀ {ws : List WA} {vs : List V} {ass : List (List Addr)} {ads : List AD}, WLs Γ G R ρ ws vs ass ads → ws.length = vs.length
  | [], vs, ass, ads, h => by unfold WLs at h; obtain ⟨rfl, _, _⟩ := h; rfl
  | .d x :: t, vs, ass, ads, h => by
    unfold WLs at h
    obtain ⟨v, q, as', ad', rfl, _, _, _, h5⟩ := h
    exact congrArg (· + 1) h5.len
  | .v i :: t, vs, ass, ads, h => by
    unfold WLs at h
    obtain ⟨v, q, as, d, as', ad', rfl, _, _, _, h5⟩ := h
    exact congrArg (· + 1) h5.len
end
theorem core_call {Γ : Kx} {W : WX} {S : DFO} {G0 : Hp} {R0 : Addr → Prop} {H0 G : Hp} {R : Addr → Prop} {H : Hp} {σ : St} {ρ : En} {xq : XF} {Qd : D → En → Prop} {Q : VK} {G1 : Hp} {R1 : Addr → Prop} {H1 : Hp} {ws : List WA} {vs ve : List V} {ass ase : List (List Addr)} {ads ade : List AD}
    (n : Nx G0 R0 H0 G R H) (w : Wd Γ H0 G R H σ ρ) (x : LkF Γ W xq G0 R0 H0 σ) (n1 : Nx G R H G1 R1 H1) (wl : WLs Γ G1 R1 ρ ws vs ass ads) (te : AL Γ H G1 R1 H1 ade ve ase) (ne : ase.flatten.Nodup) (nd : (ownI ws).Nodup)
    (q : S (adsW ρ ws ++ ade) (fun r ads' => ∃ d, r = .d d ∧ putW ws ads' (Qd d) ρ) (xq (unAll (ownI ws) ρ)))
    (k : ∀ v G' R' H' ρ' d, Nx G0 R0 H0 G' R' H' → Wd Γ H0 G' R' H' σ ρ' → Rp Γ G' R' d v → Qd d ρ' → Q v H') : spO Γ S (vs ++ ve) H1 Q (WE W σ) := by
  have fe := te.freshB
  have fe' : Frs H G1 R1 H1 ase.flatten := fe
  have nn0 := n1.cut fe'
  have w1 := w.nx n1
  have wc := w.nx nn0
  obtain ⟨wU, nf, fr⟩ := wc.takes wl nd
  rw [wl.ads] at q
  have eF : (ass ++ ase).flatten = ass.flatten ++ ase.flatten := List.flatten_append
  have eC : Dl.cut H1 (ass ++ ase).flatten = Dl.cut (Dl.cut H1 ase.flatten) ass.flatten := by rw [eF, cut_app, cut_comm]
  have nF : (ass ++ ase).flatten.Nodup := by
    rw [eF]
    refine List.nodup_append.mpr ⟨nf, ne, fun a ha b hb e => ?_⟩
    subst e
    obtain ⟨_, _, _, o, ho, _⟩ := fr a ha
    rw [cut_in hb] at ho
    cases ho
  have nc : Nx G0 R0 H0 G1 R1 (Dl.cut H1 (ass ++ ase).flatten) := by
    rw [eC]
    exact (n.trans nn0).cut fr
  refine ⟨G1, R1, ads ++ ade, ass ++ ase, _, _, w1.gd, (wl.al w1 fun a m => by rw [eF]; exact List.mem_append_left _ m).app (te.base fun a m => cut_in (by rw [eF]; exact List.mem_append_right _ m)), nF, q, fun u G' R' H' r rs ads' ass' n2 al nd2 ⟨y, er, pu⟩ => ?_, fun c fs G' R' H' cls dx n2 z r => x c fs cls dx G' R' H' _ (nc.trans n2) (wU.nx (by rw [← eC]; exact n2)) z r⟩
  subst er
  unfold AL at al
  obtain ⟨u', q', as', e1, e2, ry, al⟩ := al
  cases e1
  cases e2
  rw [List.nil_append] at nd2
  have w2 : Wd Γ H0 G' R' H' σ (unAll (ownI ws) ρ) := wU.nx (by rw [← eC]; exact n2)
  have cfa : ∀ a ∈ ass'.flatten, Dl.cut H1 (ass ++ ase).flatten a = none := fun a m => (al.freshB a m).1
  obtain ⟨a1, a2, b1, b2, rfl, rfl, al1⟩ := al.split
  have l1 := al1.len
  rw [List.flatten_append] at nd2 cfa
  have pu1 : putW ws a1 (Qd y) ρ := putW_app (by rw [wl.len, l1.1]) pu
  have z0 : ∀ a ∈ b1.flatten, H0 a = none := fun a m => by
    have c := cfa a (List.mem_append_left _ m)
    by_cases z : a ∈ (ass ++ ase).flatten
    · rw [eF] at z
      rcases List.mem_append.mp z with z | z
      · exact (fr a z).1
      · exact n.free0 (fe a z).1
    · rw [cut_out z] at c
      exact (n.trans n1).free0 c
  have sg : ∀ i ∈ ownI ws, ∀ s, ρ[i]? = some s → ∀ v as d, s = .ow v as d → σ[i]? = some (some v) := fun i _ s e v as d es => by
    subst es
    obtain ⟨_, eσ, rfl, _, _⟩ := w1.sl i _ e
    exact eσ
  refine Wd.backs (H' := H') (Hc := Dl.cut H1 (ass ++ ase).flatten) (B := []) wl nd al1 (List.nodup_append.mp nd2).1 (fun a _ z => nomatch z) z0 w2 (fun j s v e1 e2 a m => .inl ?_) sg pu1 fun ρ' w3 q3 => k u G' R' H' ρ' y (nc.trans n2) w3 ry q3
  obtain ⟨⟨o, ho, _⟩, _⟩ := wU.ownThere e1 e2 m
  rw [eC, ho]
  exact fun z => nomatch z
def yMeth (c m : Str) (i : Nat) (S : DFO) (fw : DWA) : DY := fun xq ρ Q => (∃ v as kvs, ρ[i]? = some (.ow v as (.obj c kvs)) ∧ allS kvs = true ∧ getK kvs (.inr m) = none) ∧ yCall S (wV i fw) xq ρ Q
section
variable {Γ : Kx} {W : WX} {te tb tp : TE} {ta : TA} {fe fo : DE} {fa : DA} {fw : DWA} {S : DFO} {i : Nat} {c m : Str}
theorem jy_meth (a : JWA Γ W ta fw) : JY Γ W (tMethS (Γ.C c) m (spO Γ S) (WE W) (tVar i) ta) (yMeth c m i S fw) := fun G0 R0 H0 G R H σ ρ xq Qd Q n w x ⟨⟨v, as, kvs, e, al, gk⟩, ⟨⟨v', as', d', e'⟩, f⟩⟩ k => by
  rw [e] at e'
  cases e'
  obtain ⟨_, eσ, rfl, o, _⟩ := w.sl i _ e
  have o' := o
  unfold Ow at o'
  obtain ⟨p, dx, us, bs, rfl, _, _, _, _, hl, ok⟩ := o'
  obtain ⟨ek, _⟩ := ok.toL
  refine ⟨_, eσ, p, dx, strK us, rfl, hl, ?_, a H0 G R H σ ρ xq _ _ w (x.lk n w) f fun vs G1 R1 H1 ws ass ads n1 wl ⟨nd, q⟩ => ?_⟩
  · rw [look_str ek al]
    exact valV_none ek gk
  · have wl' : WLs Γ G1 R1 ρ (.v i :: ws) (.ref p :: vs) (as :: ass) (.o (.obj c kvs) :: ads) := ⟨_, vs, as, _, ass, ads, rfl, rfl, rfl, e, wl⟩
    have := core_call (ve := []) (ase := []) (ade := []) n w x n1 wl' ⟨rfl, rfl⟩ List.nodup_nil nd (by rw [List.append_nil]; exact q) k
    rw [List.append_nil] at this
    exact this
abbrev DWT := XF → En → (List WA → List D → Prop) → Prop
def JWT (Γ : Kx) (W : WX) (ta : TA) (fx : DWT) : Prop := ∀ (H0 G : Hp) (R : Addr → Prop) (H : Hp) (σ : St) (ρ : En) (xq : XF) (Qd : List WA → List D → Prop) (Q : List V → Hp → Prop), Wd Γ H0 G R H σ ρ → Lk Γ W (xq ρ) σ G R H → fx xq ρ Qd →
  (∀ vs ve G' R' H' ws ass ads ase ts, Nx G R H G' R' H' → WLs Γ G' R' ρ ws vs ass ads → AL Γ H G' R' H' (ts.map AD.o) ve ase → ase.flatten.Nodup → Qd ws ts → Q (vs ++ ve) H') → ta σ H Q
def wtLast (fo : DE) : DWT := fun xq ρ Q => fo (xq ρ) ρ fun d => Q [] [d]
def wtV (i : Nat) (fx : DWT) : DWT := fun xq ρ Q => (∃ v as d, ρ[i]? = some (.ow v as d)) ∧ fx xq ρ fun ws ts => Q (.v i :: ws) ts
def yCallT (S : DFO) (fx : DWT) : DY := fun xq ρ Q => fx xq ρ fun ws ts => (ownI ws).Nodup ∧ S (adsW ρ ws ++ ts.map AD.o) (fun r ads' => ∃ d, r = .d d ∧ putW ws ads' (Q d) ρ) (xq (unAll (ownI ws) ρ))
section
variable {fx : DWT}
theorem AL.older {H0 H1 G H : Hp} {R : Addr → Prop} (o : ∀ a, H0 a = none → H1 a = none) {ads : List AD} {vs : List V} {ass : List (List Addr)} (h : AL Γ H0 G R H ads vs ass) : AL Γ H1 G R H ads vs ass :=
  h.base fun a m => o a (h.freshB a m).1
theorem jwt_last (a : JF Γ W te fo) : JWT Γ W (tCons te tNil) (wtLast fo) := fun H0 G R H σ ρ xq Qd Q w x f k =>
  a H0 G R H σ ρ _ _ _ w x f fun v as G1 R1 H1 d n1 o nd q => k [] [v] G1 R1 H1 [] [] [] [as] [d] n1 ⟨rfl, rfl, rfl⟩ ⟨v, [], as, [], rfl, rfl, o, rfl, rfl⟩ (by simpa using nd) q
theorem jwt_v (b : JWT Γ W ta fx) : JWT Γ W (tCons (tVar i) ta) (wtV i fx) := fun H0 G R H σ ρ xq Qd Q w x ⟨⟨v, as, d, e⟩, f⟩ k => by
  obtain ⟨_, eσ, rfl, _, _⟩ := w.sl i _ e
  exact ⟨v, eσ, b H0 G R H σ ρ xq _ _ w x f fun vs ve G2 R2 H2 ws ass ads ase ts n2 wl al nd q2 =>
    k (v :: vs) ve G2 R2 H2 (.v i :: ws) (as :: ass) (.o d :: ads) ase ts n2 ⟨v, vs, as, d, ass, ads, rfl, rfl, rfl, e, wl⟩ al nd q2⟩
theorem jy_callT (a : JWT Γ W ta fx) : JY Γ W (tCallS (spO Γ S) (WE W) ta) (yCallT S fx) := fun G0 R0 H0 G R H σ ρ xq Qd Q n w x f k =>
  a H0 G R H σ ρ xq _ _ w (x.lk n w) f fun vs ve G1 R1 H1 ws ass ads ase ts n1 wl al ne ⟨nd, q⟩ => core_call n w x n1 wl al ne nd q k
end
def kvO : List (Str × D) → List (Key × D)
  | [] => []
  | (f, d) :: r => (.inr f, if leafB d = true then d else .fr d) :: kvO r
def okO : List (Str × D) → Bool
  | [] => true
  | (_, d) :: r => (leafB d || !isNon d) && okO r
def dMakeO (c : Str) (S : DI) (fa : DA) : DE := fun xq ρ Q => fa xq ρ fun ds => S ds (fun fs => okO fs = true ∧ Q (.obj c (kvO fs))) xq
theorem kvO_ow {H0 G H : Hp} {R : Addr → Prop} (g : Gd G R H) : ∀ {fs : List (Str × D)} {ws : List (Str × V)}, RpF Γ G R fs ws → okO fs = true → ∃ us, strK us = ws ∧ OwK Γ H0 G R H (kvO fs) us []
  | [], ws, h, _ => by
    unfold RpF at h
    subst h
    exact ⟨[], rfl, rfl, rfl⟩
  | (f, d) :: r, ws, h, ok => by
    unfold RpF at h
    obtain ⟨v, q, rfl, h1, h2⟩ := h
    unfold okO at ok
    rw [Bool.and_eq_true, Bool.or_eq_true, Bool.not_eq_true'] at ok
    obtain ⟨us, e, l⟩ := kvO_ow g h2 ok.2
    refine ⟨(.inr f, v) :: us, by unfold strK; rw [List.map_cons]; exact congrArg _ e, ?_⟩
    unfold kvO OwK
    refine ⟨v, us, [], [], rfl, rfl, ?_, l⟩
    by_cases z : leafB d = true
    · rw [if_pos z]
      exact Ow.leaf (fun b o e => g.sub b o e) d v z h1
    · rw [if_neg z]
      have y := ok.1.resolve_left z
      have := isNon_of (Γ := Γ) (G := G) (R := R) (H := H) (d := d) (v := v) h1.q
      rw [y] at this
      unfold Ow Rp
      exact ⟨rfl, of_decide_eq_false this, h1⟩
theorem jf_makeO {S : DI} (a : JA Γ W ta fa) : JF Γ W (tMakeS (Γ.C c) (spI Γ c S) (WE W) ta) (dMakeO c S fa) := fun H0 G R H σ ρ xq Qd Q w x f k =>
  a H0 G R H σ ρ xq _ _ w x f fun vs G1 R1 H1 ds n1 r1 q1 => fun p dx hp hdx ne => ⟨G1, R1, H1, p, dx, vs, ds, _, xq, rfl, rfl, hp, hdx, ne, n1.gd, r1, q1, fun G' R' H' dx' ws fs n h g nr rf ⟨ok, q⟩ => ⟨rfl, by
    obtain ⟨us, e, l⟩ := kvO_ow (H0 := H) n.gd rf ok
    refine k (.ref p) [p] G' R' H' (.obj c (kvO fs)) (n1.trans n) ?_ (by simp) q
    unfold Ow
    exact ⟨p, dx', us, [], rfl, rfl, older_of n1 p hp, g, nr, by rw [e]; exact h, l⟩⟩,
    fun c fs G' R' H' cls dx n => x.nx n1 c fs G' R' H' cls dx n⟩
def yAndV (fa : DYT) (fb : DY) : DY := fun xq ρ Q => fa xq ρ fun b ρ' => if b = true then fb xq ρ' Q else Q (.bl false) ρ'
section
variable {fx fy : DY}
theorem jy_andV (a : JY Γ W te fx) (b : JY Γ W tb fy) : JY Γ W (tAndV te tb) (yAndV (yB fx) fy) := fun G0 R0 H0 G R H σ ρ xq Qd Q n w x f k =>
  a G0 R0 H0 G R H σ ρ xq _ _ n w x f fun v G1 R1 H1 ρ1 d n1 w1 r q => by
    cases d <;> first | exact q.elim | skip
    rename_i c
    refine ⟨c, (r.q (H := H1)).bl, ?_⟩
    cases c with
    | true => exact b G0 R0 H0 G1 R1 H1 σ ρ1 xq _ _ n1 w1 x q k
    | false => exact k _ G1 R1 H1 ρ1 _ n1 w1 rp_bl q
end
end
end Dl
namespace Dl
open PySem PySem.Spec PyProof.Rows L2
section
variable (X : Cx) (C : Str → Addr) (W : WX)
def CY (e : Expr) (fy : DY) : Prop := ∃ te, PE X e te ∧ JY ⟨X.K, C⟩ W te fy
def CYA (es : List Expr) (fa : DYA) (n : Nat) : Prop := ∃ ta, PA X es ta ∧ JYA ⟨X.K, C⟩ W ta fa n
def CYT (e : Expr) (ft : DYT) : Prop := ∃ tt, PT X e tt ∧ JYT ⟨X.K, C⟩ W tt ft
def CYW (e : Expr) (ft : DYT) : Prop := ∃ tt, PW X e tt ∧ JYT ⟨X.K, C⟩ W tt ft
def CWA (es : List Expr) (fw : DWA) : Prop := ∃ ta, PA X es ta ∧ JWA ⟨X.K, C⟩ W ta fw
def CWT (es : List Expr) (fx : DWT) : Prop := ∃ ta, PA X es ta ∧ JWT ⟨X.K, C⟩ W ta fx
end
structure CalMO (P : Program) (w : World) (K : PySem.W.Frag) (mg : Str → Option Value) (base : Heap) (C : Str → Addr) (k : Nat) (c m : Str) (S : DFO) : Prop where
  ex : ∃ (f : Addr) (fd : FuncData) (ps : List Str), FnOk P w K mg base (L2N.CX P w) k f fd ps (spO ⟨K, C⟩ S) ∧ Meth K (C c) m f ∧ Cls K (C c) ∧ Binds K fd ps []
section
variable {P : Program} {w : World} {K : PySem.W.Frag} {mg : Str → Option Value} {base : Heap} {C : Str → Addr} {j k : Nat} {c m : Str} {S S' : DFO}
theorem CalMO.mono (h : CalMO P w K mg base C k c m S) (i : k ≤ j) : CalMO P w K mg base C j c m S := let ⟨f, fd, ps, F, m, kp, b⟩ := h.ex; ⟨f, fd, ps, F.mono i, m, kp, b⟩
theorem CalMO.imp (h : CalMO P w K mg base C k c m S) (i : ∀ ads Q Xq, S' ads Q Xq → S ads Q Xq) : CalMO P w K mg base C k c m S' :=
  let ⟨f, fd, ps, F, m, kp, b⟩ := h.ex
  ⟨f, fd, ps, F.imp fun vs H Q E ⟨G, R, ads, ass, Qd, Xq, g, al, nd, s, k1, k2⟩ => ⟨G, R, ads, ass, Qd, Xq, g, al, nd, i _ _ _ s, k1, k2⟩, m, kp, b⟩
end
theorem dmethO {P : Program} {w : World} {K : PySem.W.Frag} {mg : Str → Option Value} {base : Heap} {C : Str → Addr} {bl : Str → Bool} {c m q : Str} {params : Arguments} {body : List Stmt} {sc : Scope} {N ps : List Str} {f : Addr} {fd : FuncData} {k : Nat} {S : DFO} {fs : DS}
    (F : FunD K m q params body sc [] [] f fd) (hm : Meth K (C c) m f) (hc : Cls K (C c)) (Sc : FnScope N ps sc) (hb : Binds K fd ps []) (hbl : ∀ n, bl n = true → mg n = none) (len : ∀ ads Q Xq, S ads Q Xq → ads.length = ps.length)
    (hbody : ∀ (cdv : Value) (A : Around) (outer : List PySem.Env) (s : Shared) (H : Hp) (E : XK), GS (cxD P w K mg base N q sc f cdv A outer s H E) (wD E) k bl → CSs (cxD P w K mg base N q sc f cdv A outer s H E) C (wD E) body fs)
    (spec : ∀ ads vs ass Qd Xq, S ads Qd Xq → vs.length = ads.length → ass.length = ads.length → fs (kO ads vs Qd Xq) (startO N.length ads vs ass)) : CalMO P w K mg base C (k + 1) c m S :=
  ⟨f, fd, ps, dfnO F Sc hbl len hbody spec, hm, hc, hb⟩
section
variable {X : Cx} {C : Str → Addr} {W : WX} {k j : Nat} {bl : Str → Bool} {a b c e o : Expr} {es : List Expr} {fa fb fe fo fi : DE} {fs : DA} {fp : DP} {fy f1 f2 : DY} {ya : DYA} {fw : DWA} {fx : DWT} {ft t1 t2 : DYT} {g1 g2 : DS} {s1 s2 : List Stmt} {pos p p1 p2 apos : Pos} {n i : Nat} {x y m cn : Str}
theorem cy_e (h : CE X C W e fe) : CY X C W e (yE fe) := let ⟨_, p, q⟩ := h; ⟨_, p, jy_e q⟩
theorem cya_nil : CYA X C W [] yNil 0 := ⟨_, pa_nil, jya_nil⟩
theorem cya_cons (h : CY X C W e fy) (h' : CYA X C W es ya n) (hs : starEach (e :: es) X.env = (false, eval e X.env) :: starEach es X.env := by rfl) : CYA X C W (e :: es) (yCons fy ya) (n + 1) := let ⟨_, p, q⟩ := h; let ⟨_, p', q'⟩ := h'; ⟨_, pa_cons p p' hs, jya_cons q q'⟩
theorem cy_tup {z : Nat} (h : CYA X C W es ya n) (hn : n ≤ sizeLine := by rw [sizeLine_eq]; decide) : CY X C W (.Tuple es z pos) (yTup ya) := let ⟨_, p, q⟩ := h; ⟨_, pe_tup p, jy_tup q hn⟩
theorem cwa_nil : CWA X C W [] wNil := ⟨_, pa_nil, jwa_nil⟩
theorem cwa_e (h : CE X C W e fe) (h' : CWA X C W es fw) (hs : starEach (e :: es) X.env = (false, eval e X.env) :: starEach es X.env := by rfl) : CWA X C W (e :: es) (wE fe fw) := let ⟨_, p, q⟩ := h; let ⟨_, p', q'⟩ := h'; ⟨_, pa_cons p p' hs, jwa_e q q'⟩
theorem cwa_v (h : PE X e (tVar i)) (h' : CWA X C W es fw) (hs : starEach (e :: es) X.env = (false, eval e X.env) :: starEach es X.env := by rfl) : CWA X C W (e :: es) (wV i fw) := let ⟨_, p', q'⟩ := h'; ⟨_, pa_cons h p' hs, jwa_v q'⟩
theorem cwt_last (h : CF X C W e fo) (hs : starEach [e] X.env = (false, eval e X.env) :: starEach [] X.env := by rfl) : CWT X C W [e] (wtLast fo) := let ⟨_, p, q⟩ := h; ⟨_, pa_cons p pa_nil hs, jwt_last q⟩
theorem cwt_v (h : PE X e (tVar i)) (h' : CWT X C W es fx) (hs : starEach (e :: es) X.env = (false, eval e X.env) :: starEach es X.env := by rfl) : CWT X C W (e :: es) (wtV i fx) := let ⟨_, p', q'⟩ := h'; ⟨_, pa_cons h p' hs, jwt_v q'⟩
theorem cy_call {S : DFO} (c : CalO X.prog X.w X.K X.mg X.base C k x S) (g : GE X W j bl) (h : CWA X C W (e :: es) fw) (hk : k ≤ j := by decide) (hg : Gl X x := by rfl)
    (hdb : (x == ("__debug__" : Str)) = false := by decide) (he : starEach (e :: es) X.env = (false, eval e X.env) :: starEach es X.env := by rfl) (hpl : (backTo pos (starEach es X.env)).any (·.1) = false := by rfl) : CY X C W (.Call (.Name x p) (e :: es) [] pos) (yCall S fw) :=
  let ⟨f, fd, ps, F, m, kp, b⟩ := c.ex
  let ⟨_, p, q⟩ := h
  ⟨_, pe_callS F (g.room.mono hk) hg m kp b (fun σ => L2N.passAt g.tk σ) p hdb he hpl, jy_call q⟩
theorem cy_callT {S : DFO} (c : CalO X.prog X.w X.K X.mg X.base C k x S) (g : GE X W j bl) (h : CWT X C W (e :: es) fx) (hk : k ≤ j := by decide) (hg : Gl X x := by rfl)
    (hdb : (x == ("__debug__" : Str)) = false := by decide) (he : starEach (e :: es) X.env = (false, eval e X.env) :: starEach es X.env := by rfl) (hpl : (backTo pos (starEach es X.env)).any (·.1) = false := by rfl) : CY X C W (.Call (.Name x p) (e :: es) [] pos) (yCallT S fx) :=
  let ⟨f, fd, ps, F, m, kp, b⟩ := c.ex
  let ⟨_, p, q⟩ := h
  ⟨_, pe_callS F (g.room.mono hk) hg m kp b (fun σ => L2N.passAt g.tk σ) p hdb he hpl, jy_callT q⟩
theorem cy_meth {S : DFO} {pl : Sem Bool} (h : CalMO X.prog X.w X.K X.mg X.base C j cn m S) (g : GE X W k bl) (ho : PE X a (tVar i)) (ha : CWA X C W (e :: es) fw) (hk : j ≤ k := by decide)
    (hst : starEach (e :: es) X.env = (false, eval e X.env) :: starEach es X.env := by rfl) (hpl : (backTo pos (starEach es X.env)).any (·.1) = false := by rfl)
    (ht : eval (.Call (.Attribute a m apos) (e :: es) [] pos) X.env = (do
      let ov ← eval a X.env
      standAt apos.atName
      let (f, first) ← holding [ov] (getMethod ov m pl)
      callWith pos f first (backTo pos (starEach (e :: es) X.env)) (backToKw pos (keywordEach [] X.env))) := by rfl) : CY X C W (.Call (.Attribute a m apos) (e :: es) [] pos) (yMeth cn m i S fw) :=
  let ⟨_, p2, q2⟩ := ha
  let ⟨_, _, _, F, hm, hc, hb⟩ := h.ex
  ⟨_, pe_methS (pl := pl) ho hc hm F (g.room.mono hk) hb (fun σ => L2N.passAt g.tk σ) p2 hst hpl ht, jy_meth q2⟩
theorem cy_meth0 {S : DFO} {pl : Sem Bool} (h : CalMO X.prog X.w X.K X.mg X.base C j cn m S) (g : GE X W k bl) (ho : PE X a (tVar i)) (hk : j ≤ k := by decide)
    (ht : eval (.Call (.Attribute a m apos) [] [] pos) X.env = (do
      let ov ← eval a X.env
      standAt apos.atName
      let (f, first) ← holding [ov] (getMethod ov m pl)
      callWith pos f first (backTo pos (starEach [] X.env)) (backToKw pos (keywordEach [] X.env))) := by rfl) : CY X C W (.Call (.Attribute a m apos) [] [] pos) (yMeth cn m i S wNil) :=
  let ⟨_, _, _, F, hm, hc, hb⟩ := h.ex
  ⟨_, pe_methS0 (pl := pl) ho hc hm F (g.room.mono hk) hb (fun σ => L2N.passAt g.tk σ) ht, jy_meth jwa_nil⟩
theorem cy_cmpR {op : CmpOp} {r : R2} {g : D → D → (D → Prop) → Prop} (ho : OpR X (compareOp op) r) (u : U2 ⟨X.K, C⟩ r g) (hm : behindInMarks op b = false) (h : CY X C W a f1) (h' : CY X C W b f2) : CY X C W (.Compare a [op] [b] pos) (yOp g f1 f2) :=
  let ⟨_, p, q⟩ := h; let ⟨_, p', q'⟩ := h'; ⟨_, pe_cmpR ho p p' hm, jy_op u q q'⟩
theorem cyt_cmpR {op : CmpOp} {r : R2} {g : D → D → (D → Prop) → Prop} (ho : OpR X (compareOp op) r) (u : U2 ⟨X.K, C⟩ r g) (hm : behindInMarks op b = false) (h : CY X C W a f1) (h' : CY X C W b f2) : CYT X C W (.Compare a [op] [b] pos) (yB (yOp g f1 f2)) :=
  let ⟨_, p, q⟩ := h; let ⟨_, p', q'⟩ := h'; ⟨_, pt_cmpR ho p p' hm, jyt_b (jy_op u q q')⟩
theorem cyt_eq (g : GE X W k bl) (h : CY X C W a f1) (h' : CY X C W b f2) : CYT X C W (.Compare a [.Eq] [b] pos) (yB (yOp gEq f1 f2)) := cyt_cmpR (op_eqD g.hu64) u2_eq (nomark _) h h'
theorem cyt_ne (g : GE X W k bl) (h : CY X C W a f1) (h' : CY X C W b f2) : CYT X C W (.Compare a [.NotEq] [b] pos) (yB (yOp gNe f1 f2)) := cyt_cmpR (op_neD g.hu64) u2_ne (nomark _) h h'
theorem cy_nin (g : GE X W k bl) (h : CY X C W a f1) (h' : CY X C W b f2) (hm : behindInMarks .NotIn b = false := by with_unfolding_all rfl) : CY X C W (.Compare a [.NotIn] [b] pos) (yOp (gIn true) f1 f2) := cy_cmpR (op_notInAll g.hu) u2_notIn hm h h'
theorem cyt_in (g : GE X W k bl) (h : CY X C W a f1) (h' : CY X C W b f2) (hm : behindInMarks .In b = false := by with_unfolding_all rfl) : CYT X C W (.Compare a [.In] [b] pos) (yB (yOp (gIn false) f1 f2)) := cyt_cmpR (op_inAll g.hu) u2_in hm h h'
theorem cyt_nin (g : GE X W k bl) (h : CY X C W a f1) (h' : CY X C W b f2) (hm : behindInMarks .NotIn b = false := by with_unfolding_all rfl) : CYT X C W (.Compare a [.NotIn] [b] pos) (yB (yOp (gIn true) f1 f2)) := cyt_cmpR (op_notInAll g.hu) u2_notIn hm h h'
theorem cyt_b (h : CY X C W e fy) (he : ∀ whole, isTrue e X.env whole = (do let v ← whole; standAt e.pos; holding [v] (truthy v)) := by intro _; rfl) : CYT X C W e (yB fy) := let ⟨_, p, q⟩ := h; ⟨_, pt_val p he, jyt_b q⟩
theorem cyt_not (h : CYT X C W a t1) : CYT X C W (.UnaryOp .Not a pos) (yNot t1) := let ⟨_, p, q⟩ := h; ⟨_, pt_not p, jyt_not q⟩
theorem CYW.t (h : CYW X C W e ft) : CYT X C W e ft := let ⟨_, p, q⟩ := h; ⟨_, p.pt, q⟩
theorem cy_and1 {op : BoolOp} (h : CY X C W a fy) : CY X C W (.BoolOp op [a] pos) fy := let ⟨_, p, q⟩ := h; ⟨_, pe_one p, q⟩
theorem cy_and (h : CY X C W a f1) (h' : CY X C W (.BoolOp .And (b :: es) pos) f2) : CY X C W (.BoolOp .And (a :: b :: es) pos) (yAndV (yB f1) f2) := let ⟨_, p, q⟩ := h; let ⟨_, p', q'⟩ := h'; ⟨_, pe_and p p', jy_andV q q'⟩
theorem cp_fld {ks : List Str} {f : Str} (hk : FldOk X.K C ks f) (h : CP X C W a fp) (hb : attributeBase a f X.env (eval a X.env) = eval a X.env := by rfl) : CP X C W (.Attribute a f pos) (dPFld fp ks f) := let ⟨_, p, q⟩ := h; ⟨_, pe_fld p hb, jp_fld hk q⟩
theorem cf_makeO {S : DI} (h : CalI X.prog X.w X.K X.mg X.base C j cn S) (g : GE X W k bl) (ha : CA X C W (e :: es) fs n) (hk : j + 1 ≤ k := by decide) (hg : Gl X cn := by rfl) (hdb : (cn == ("__debug__" : Str)) = false := by decide)
    (he : starEach (e :: es) X.env = (false, eval e X.env) :: starEach es X.env := by rfl) (hpl : (backTo pos (starEach es X.env)).any (·.1) = false := by rfl) : CF X C W (.Call (.Name cn p) (e :: es) [] pos) (dMakeO cn S fs) :=
  let ⟨_, p2, q2⟩ := ha
  let ⟨_, _, _, F, hm, hc, hb⟩ := h.ex
  ⟨_, pe_makeS hm F (g.room.mono hk) hg hc hb (fun σ => L2N.passAt g.tk σ) p2 hdb he hpl, jf_makeO q2.a⟩
theorem pe_makeS0 {CX : CXT} {f Ca : Addr} {fd : FuncData} {ps : List Str} {sp : Sp} {E : St → XK} (M : Mk X.K Ca f) (F : FnOk X.prog X.w X.K X.mg X.base CX k f fd ps sp) (hr : Room (k + 1) X.A) (hg : Gl X x) (hm : X.mg x = some (.ref Ca)) (hb : Binds X.K fd ps []) (hx : ∀ σ, PassesAt CX X σ (E σ))
    (hdb : (x == ("__debug__" : Str)) = false := by decide) : PE X (.Call (.Name x p) [] [] pos) (tMakeS Ca sp E tNil) := by
  refine ⟨fun pins s σ H Q I h => ?_⟩
  refine wpAny_Call_Name_kw (ld_glob I hg hm ?_ hdb)
  exact PySem.W.callWith_K0 (first := []) I.kIn M.kp (run_makeS (us := []) (vs := []) M F hr hb (hx σ) I .nil h)
theorem cf_makeO0 {S : DI} (h : CalI X.prog X.w X.K X.mg X.base C j cn S) (g : GE X W k bl) (hk : j + 1 ≤ k := by decide) (hg : Gl X cn := by rfl) (hdb : (cn == ("__debug__" : Str)) = false := by decide) : CF X C W (.Call (.Name cn p) [] [] pos) (dMakeO cn S dNil) :=
  let ⟨_, _, _, F, hm, hc, hb⟩ := h.ex
  ⟨_, pe_makeS0 hm F (g.room.mono hk) hg hc hb (fun σ => L2N.passAt g.tk σ) hdb, jf_makeO ja_nil⟩
theorem cs_putF {ks : List Str} {f : Str} {p' : Pos} (hk : FldOk X.K C ks f) (ho : CP X C W a fp) (h : CF X C W e fo) (hs : swapsWith e (some (.Attribute a f p')) pos.line X.env = pure false := by rfl) : CS X C W (.Assign [.Attribute a f p'] e pos) (dPutFld fp ks f fo) :=
  let ⟨_, p, q⟩ := h; let ⟨_, p0, q0⟩ := ho; ⟨_, ps_fld p0 p hs, js_putFld hk q q0⟩
theorem cs_setY (i : Nat) (hN : X.N.Nodup) (h : CY X C W e fy) (hi : X.N[i]? = some x := by rfl) (hx : Loc X.env.scope x := by first | exact Or.inl rfl | exact Or.inr rfl) (hs : swapsWith e (some (.Name x p)) pos.line X.env = pure false := by rfl) (hf : X.fn x = true ∨ X.env.scope.names.lookup x = some .local := by first | exact .inl rfl | exact .inr rfl) :
    CS X C W (.Assign [.Name x p] e pos) (dSetY i fy) := let ⟨_, p, q⟩ := h; ⟨_, ps_set hN hi hx p hs hf, js_setY q⟩
theorem cs_exprY (h : CY X C W e fy) (hs : swapsWith e none pos.line X.env = pure false := by rfl) : CS X C W (.Expr e pos) (dExprY fy) := let ⟨_, p, q⟩ := h; ⟨_, ps_expr p hs, js_exprY q⟩
theorem cs_retY (h : CY X C W e fy) : CS X C W (.Return (some e) pos) (dRetY fy) := let ⟨_, p, q⟩ := h; ⟨_, ps_ret p, js_retY q⟩
theorem cs_ifY (h : CYT X C W c ft) (h1 : CSs X C W s1 g1) (h2 : CSs X C W s2 g2) : CS X C W (.If c s1 s2 pos) (dIfY ft g1 g2) := let ⟨_, p, q⟩ := h; let ⟨_, p', q'⟩ := h1; let ⟨_, p2, q2⟩ := h2; ⟨_, ps_if p p' p2, js_ifY q q' q2⟩
theorem cs_whileY (g : GS X W k bl) (h : CYT X C W c ft) (hb : CSs X C W s1 g1) : CS X C W (.While c s1 [] pos) (dWhileY ft g1) := let ⟨_, p, q⟩ := h; let ⟨_, p', q'⟩ := hb; ⟨_, ps_while g.own p p', js_whileY q q'⟩
end
end Dl
namespace Dl
open PySem PySem.Spec PyProof.Rows L2 He
abbrev GDic : Type := Str × List (Str × Int)
structure DicS (P : Program) (w : World) (K : PySem.W.Frag) (a : Addr) (kvs : List (Str × Int)) : Prop where
  ex : ∃ (o : Obj) (es : Array DictEntry) (ep : Nat) (vs : List (Key × Value)), K.lookup a = some o ∧ o.ExactDict ∧ o.data = .dict es ep ∧ KeysOf (mixKind P w) es ∧ Pairs (mixKind P w) es.toList vs ∧ (vs.map (·.1)).Nodup ∧ ∀ s n, kvs.lookup s = some n → ∃ t, valueAt vs (.inr s) = some (.int n t)
structure GDs (P : Program) (w : World) (K : PySem.W.Frag) (mg : Str → Option Value) (C : Str → Addr) (ds : List GDic) : Prop where
  all : ∀ d ∈ ds, mg d.1 = some (.ref (C d.1)) ∧ DicS P w K (C d.1) d.2
def intOf : Value → Option Int
  | .int z _ => some z
  | _ => none
def dcH (K : PySem.W.Frag) (x : Str) : List Int := match K.lookup (ga K x) with
  | some o => (match o.data with
    | .dict es _ => es.toList.map (·.hash)
    | _ => [])
  | none => []
def dcB (K : PySem.W.Frag) (d : GDic) : Bool := (Fa.glo d.1).ok K && (match K.lookup (ga K d.1) with
  | some o => decide (o.cls = .type "dict") && (o.dict.isNone && (o.slots.isEmpty && (match o.data with
    | .dict es _ => decide (es.toList.map (fun e => (strOf e.key, intOf e.val)) = d.2.map (fun q => (some q.1, some q.2))) && decide ((d.2.map (·.1)).Nodup)
    | _ => false)))
  | none => false)
def dcV (w : World) (d : GDic) : List Int := d.2.map fun q => keyH w (.inr q.1)
def kvG (kvs : List (Str × Int)) (es : List DictEntry) : List (Key × Value) := List.zipWith (fun q e => (.inr q.1, e.val)) kvs es
theorem dc_pairs {P : Program} {w : World} : ∀ {es : List DictEntry} {kvs : List (Str × Int)}, es.map (fun e => (strOf e.key, intOf e.val)) = kvs.map (fun q => (some q.1, some q.2)) → es.map (·.hash) = kvs.map (fun q => keyH w (.inr q.1)) →
    Pairs (mixKind P w) es (kvG kvs es) ∧ (∀ e ∈ es, ∃ k, (mixKind P w).is k e.key = true ∧ e.hash = (mixKind P w).hash k) ∧ (kvG kvs es).map (·.1) = kvs.map (fun q => .inr q.1) ∧ ∀ s n, kvs.lookup s = some n → ∃ t, valueAt (kvG kvs es) (.inr s) = some (.int n t)
  | [], [], _, _ => ⟨.nil, fun e h => absurd h List.not_mem_nil, rfl, fun s n h => by cases h⟩
  | [], _ :: _, e, _ => by simp at e
  | _ :: _, [], e, _ => by simp at e
  | e :: es, (x, z) :: kvs, h1, h2 => by
    simp only [List.map_cons, List.cons.injEq, Prod.mk.injEq] at h1 h2
    obtain ⟨⟨k1, v1⟩, h1⟩ := h1
    obtain ⟨hh, h2⟩ := h2
    obtain ⟨p, q, r, l⟩ := dc_pairs (P := P) (w := w) h1 h2
    obtain ⟨eh, ek, ev⟩ := e
    cases ek <;> (try (unfold strOf at k1; cases k1; done))
    rename_i y t
    cases ev <;> (try (unfold intOf at v1; cases v1; done))
    rename_i z' t'
    have ex : y = x := by unfold strOf at k1; exact Option.some.inj k1
    have ez : z' = z := by unfold intOf at v1; exact Option.some.inj v1
    subst ex ez
    have hk : (mixKind P w).is (.inr y) (Value.str y t) = true := kV_is (k := .inr y) ⟨t, rfl⟩
    refine ⟨.cons hk rfl p, fun e m => ?_, ?_, fun s n h => ?_⟩
    · rcases List.mem_cons.mp m with rfl | m
      · exact ⟨.inr y, hk, hh⟩
      · exact q e m
    · show Sum.inr y :: _ = _
      exact congrArg _ r
    · show ∃ t, valueAt ((Sum.inr y, Value.int z' t') :: kvG kvs es) (Sum.inr s) = some (Value.int n t)
      unfold List.lookup at h
      by_cases c : s = y
      · subst c
        rw [beq_self_eq_true] at h
        cases h
        exact ⟨t', by simp [valueAt]⟩
      · rw [beq_eq_false_iff_ne.mpr c] at h
        obtain ⟨u, hu⟩ := l s n h
        refine ⟨u, ?_⟩
        unfold valueAt at hu ⊢
        rw [List.find?_cons_of_neg (by simpa using fun e => c e.symm)]
        exact hu
theorem dic_of {P : Program} {w : World} {K : PySem.W.Frag} {d : GDic} (h1 : dcB K d = true) (h2 : dcH K d.1 = dcV w d) : DicS P w K (ga K d.1) d.2 := by
  obtain ⟨_, h⟩ := ba h1
  unfold dcH at h2
  split at h
  · rename_i o e
    rw [e] at h2
    obtain ⟨c1, h⟩ := ba h
    obtain ⟨c2, h⟩ := ba h
    obtain ⟨c3, h⟩ := ba h
    split at h
    · rename_i es ep e2
      dsimp only at h2
      rw [e2] at h2
      obtain ⟨c4, c5⟩ := ba h
      obtain ⟨p, q, r, l⟩ := dc_pairs (P := P) (w := w) (of_decide_eq_true c4) h2
      refine ⟨o, es, ep, kvG d.2 es.toList, e, ⟨of_decide_eq_true c1, Option.isNone_iff_eq_none.mp c2, Array.isEmpty_iff.mp c3⟩, e2, fun x hx => q x (Array.mem_toList_iff.mpr hx), p, ?_, l⟩
      rw [r]
      have nd := of_decide_eq_true c5
      have : (d.2.map fun q => (Sum.inr q.1 : Key)) = (d.2.map (·.1)).map Sum.inr := by rw [List.map_map]; rfl
      rw [this]
      exact List.Pairwise.map _ (fun a b n e => n (Sum.inr.inj e)) nd
    · cases h
  · cases h
abbrev AlW : Type := AlY × List (List Int) × Bool
def obsW (fa : List Fa) (fn : List DefD) (T : CTb) (xd : List ExD) (ds : List GDic) (P : Program) (K : PySem.W.Frag) : AlW := (obsY fa fn T xd P K, ds.map (fun d => dcH K d.1), ds.all (dcB K))
def valW (fn : List DefD) (xd : List ExD) (ds : List GDic) (w : World) : AlW := (valY fn xd, ds.map (dcV w), true)
def SaysW (fa : List Fa) (fn : List DefD) (T : CTb) (xd : List ExD) (ds : List GDic) (P : Program) (w : World) (K : PySem.W.Frag) : Prop := obsW fa fn T xd ds P K = valW fn xd ds w
def obsWG (n : Nat) (fa : List Fa) (fn : List DefD) (T : CTb) (xd : List ExD) (ds : List GDic) (P : Program) (g : Addr → Option Obj) : AlW := obsW fa fn T xd ds P (frG g (asZ g n))
def hookW (n : Nat) (fa : List Fa) (fn : List DefD) (T : CTb) (xd : List ExD) (ds : List GDic) (P : Program) : PySem.W.Hook where
  α := AlW
  obs := fun s => obsWG n fa fn T xd ds P s.heap.get?
  val := fun w => valW fn xd ds w
  says := fun w h => ∃ K : PySem.W.Frag, K.In h ∧ SaysW fa fn T xd ds P w K
  of := fun _ _ e => ⟨_, frG_in, e⟩
  keeps := fun _ _ _ ⟨K, hK, c⟩ k => ⟨K, PySem.W.Frag.In.keeps hK k, c⟩
theorem obsWG_eq {n : Nat} {fa : List Fa} {fn : List DefD} {T : CTb} {xd : List ExD} {ds : List GDic} {P : Program} {g : Addr → Option Obj} {s : Shared} (h : ∀ a, g a = s.heap.get? a) : obsWG n fa fn T xd ds P g = (hookW n fa fn T xd ds P).obs s := by
  have e : g = s.heap.get? := funext h
  rw [e] <;> rfl
section
variable {fa : List Fa} {fn : List DefD} {T : CTb} {xd : List ExD} {ds : List GDic} {P P' : Program} {w : World} {K : PySem.W.Frag}
theorem SaysW.y (c : SaysW fa fn T xd ds P w K) : SaysY fa fn T xd P K := congrArg (fun z : AlW => z.1) c
theorem gds_of {h : Heap} {mg : Str → Option Value} (X : K.In h) (G : h.Ns mainGlobals mg) (c : SaysW fa fn T xd ds P w K) : GDs P' w K mg (ga K) ds := by
  have e1 : ds.map (fun d => dcH K d.1) = ds.map (dcV w) := congrArg (fun z : AlW => z.2.1) c
  have e2 : ds.all (dcB K) = true := congrArg (fun z : AlW => z.2.2) c
  refine ⟨fun d hd => ?_⟩
  have b := List.all_eq_true.mp e2 d hd
  exact ⟨glo_ok X G (ba b).1, dic_of b (List.map_inj_left.mp e1 d hd)⟩
end
theorem GDs.dic {P : Program} {w : World} {K : PySem.W.Frag} {mg : Str → Option Value} {C : Str → Addr} {ds : List GDic} (g : GDs P w K mg C ds) {x : Str} {kvs : List (Str × Int)} (h : ds.contains (x, kvs) = true := by decide +kernel) : mg x = some (.ref (C x)) ∧ DicS P w K (C x) kvs := g.all (x, kvs) (List.contains_iff_mem.mp h)
def tGKey (kvs : List (Str × Int)) (ty : TE) : TE := fun σ H Q => ty σ H fun y H1 => ∃ s n, y = .str s ∧ kvs.lookup s = some n ∧ Q (.int n) H1
def gGKey (kvs : List (Str × Int)) (d : D) (Q : D → Prop) : Prop := match d with
  | .str s => (match kvs.lookup s with
    | some n => Q (.int n)
    | none => False)
  | _ => False
section
variable {X : Cx} {C : Str → Addr} {W : WX} {k : Nat} {bl : Str → Bool} {b : Expr} {fb : DE} {x : Str} {kvs : List (Str × Int)} {pos p : Pos} {ty : TE}
theorem pe_gkey (hd : X.mg x = some (.ref (C x)) ∧ DicS X.prog X.w X.K (C x) kvs) (hg : Gl X x) (hdb : (x == ("__debug__" : Str)) = false) (hi : PE X b ty) (hs : NoSl b) : PE X (.Subscript (.Name x p) b pos) (tGKey kvs ty) := by
  obtain ⟨hm, o, es, ep, vs, e, ed, ed2, ks, ps, nd, l⟩ := hd
  refine ⟨fun pins s σ H Q I h => ?_⟩
  refine subD_of PySem.F.slot_dict_getitem.lookup hs (ld_glob I hg hm (thn (hi.run pins s σ H _ I h) fun iv s2 ⟨y, H2, I2, ry, z, n, ey, el, q2⟩ => ?_) hdb)
  subst ey
  have dd : s2.heap.DictOf (mixKind X.prog X.w) (C x) vs := ⟨o, es, ep, I2.kIn _ _ e, ed, ed2, ks, ps, nd⟩
  obtain ⟨t, hv⟩ := l z n el
  exact ⟨dd.typeIs, wpAny_getItem_of (kV_is (k := .inr z) ry) dd.mapOf hv ⟨.int n, H2, I2.tok _, ⟨t, rfl⟩, q2⟩⟩
theorem je_gkey {Γ : Kx} (a : JQ Γ W ty fb) : JE Γ W (tGKey kvs ty) (d1 (gGKey kvs) fb) := fun H0 G R H σ ρ xq Qd Q w x f k =>
  a H0 G R H σ ρ xq _ _ w x f fun v G1 R1 H1 d n1 r1 q1 => by
    cases d <;> first | exact q1.elim | skip
    rename_i s
    have q1 : (match kvs.lookup s with
      | some n => Qd (.int n)
      | none => False) := q1
    cases hl : kvs.lookup s with
    | none => rw [hl] at q1; exact q1.elim
    | some n =>
      rw [hl] at q1
      exact ⟨s, n, r1.str, hl, k _ G1 R1 H1 _ n1 rp_int q1⟩
theorem ce_gkey (hd : X.mg x = some (.ref (C x)) ∧ DicS X.prog X.w X.K (C x) kvs) (h : CQ X C W b fb) (hg : Gl X x := by rfl) (hdb : (x == ("__debug__" : Str)) = false := by decide) (hs : NoSl b := by exact fun _ _ => rfl) : CE X C W (.Subscript (.Name x p) b pos) (d1 (gGKey kvs) fb) :=
  let ⟨_, p, q⟩ := h; ⟨_, pe_gkey hd hg hdb p hs, je_gkey q⟩
end
end Dl
namespace K07
open PySem PySem.Spec PyProof.Rows L2 Dl
def TB : CTb where
  cls := (["Reader", "Measure"] : List Str)
  exs := (["MendError", "InvalidInput", "InvalidText"] : List Str)
  ex0 := (["MendError", "InvalidInput"] : List Str)
  flds := ([("Reader", "tokens"), ("Reader", "at"), ("Measure", "parentheses"), ("Measure", "operators"), ("MendError", "position"), ("InvalidInput", "position"), ("InvalidText", "position")] : List (Str × Str))
  tgt := []
  cat := (["InvalidText"] : List Str)
  isa := isaF
  meth := ([("Reader", "peek"), ("Reader", "where"), ("Reader", "sees_name"), ("Reader", "sees_number"), ("Reader", "fault"), ("Reader", "take"), ("Reader", "take_name"), ("Reader", "take_number"), ("Reader", "take_end")] : List (Str × Str))
  mkd := (["Reader", "Measure"] : List Str)
  gints := ([("LONGEST_TEXT", 4000), ("MOST_DIGITS", 4), ("MOST_PARENTHESES", 10), ("MOST_OPERATORS", 40)] : List (Str × Int))
  gstrs := ([("LETTERS", "abcdefghijklmnopqrstuvwxyz"), ("DIGITS", "0123456789"), ("WORD_CHARS", "abcdefghijklmnopqrstuvwxyz0123456789"), ("SIGNS", "(),=<+-*"), ("BLANKS", " \n")] : List (Str × Str))
  gtups := ([("KEYWORDS", ["letters", "answers", "global", "proc", "local", "read", "write", "if", "then", "else", "while", "do", "call", "skip", "end", "and", "or", "not"])] : List (Str × List Str))
def GDS : List GDic := [("LEVELS", [("or", 1), ("and", 2), ("not", 3), ("==", 4), ("<", 4), ("+", 5), ("-", 5), ("*", 6), ("number", 7), ("name", 7)])]
def top (i : Nat) : Stmt := PySem.Challenge.pw_allmends_k07_expression_there_and_back.main.body.getD i (.Pass ⟨0, 0, 0, 0⟩)
def bl0 (x : Str) : Bool := decide (x ∈ (["all", "bool", "int", "isinstance", "len", "list", "max", "min", "range", "str", "super", "tuple"] : List Str))
def xd_InvalidText : ExD := ⟨"InvalidText", "position", "position", defArgs (inClass (top 3) 0), defBody (inClass (top 3) 0), defScope (inClass (top 3) 0)⟩
theorem xs_InvalidText : ExSt xd_InvalidText := ⟨rfl, rfl, rfl, rfl, by decide +kernel, rfl, rfl, rfl, rfl, by decide +kernel, by decide +kernel, ⟨_, _, _, _, _, _, _, _, _, _, _, _, rfl, rfl⟩, fun _ _ _ _ _ _ _ _ _ _ _ us h => match us, h with | [_, _], _ => rfl⟩
def xds : List ExD := [xd_InvalidText]
abbrev st_end_of : Stmt := top 13
abbrev st_is_number : Stmt := top 14
abbrev st_token_at : Stmt := top 15
abbrev st_split_words : Stmt := top 16
abbrev st_Reader___init__ : Stmt := inClass (top 17) 0
abbrev st_Reader_peek : Stmt := inClass (top 17) 1
abbrev st_Reader_where : Stmt := inClass (top 17) 2
abbrev st_Reader_sees_name : Stmt := inClass (top 17) 3
abbrev st_Reader_sees_number : Stmt := inClass (top 17) 4
abbrev st_Reader_fault : Stmt := inClass (top 17) 5
abbrev st_Reader_take : Stmt := inClass (top 17) 6
abbrev st_Reader_take_name : Stmt := inClass (top 17) 7
abbrev st_Reader_take_number : Stmt := inClass (top 17) 8
abbrev st_Reader_take_end : Stmt := inClass (top 17) 9
abbrev st_Measure___init__ : Stmt := inClass (top 22) 0
abbrev st_take_operator : Stmt := top 23
abbrev st_read_either : Stmt := top 24
abbrev st_read_each : Stmt := top 25
abbrev st_read_plain : Stmt := top 26
abbrev st_read_compared : Stmt := top 27
abbrev st_read_sum : Stmt := top 28
abbrev st_read_product : Stmt := top 29
abbrev st_read_atom : Stmt := top 30
abbrev st_read_place : Stmt := top 31
abbrev st_parse_expression : Stmt := top 32
abbrev st_written_part : Stmt := top 33
abbrev st_print_expression : Stmt := top 34
abbrev st__law_cell : Stmt := top 36
abbrev st__law_reader : Stmt := top 37
abbrev st__law_next : Stmt := top 38
abbrev st__law_name : Stmt := top 39
abbrev st__law_atom : Stmt := top 40
abbrev st__law_expression : Stmt := top 41
abbrev st__law_chain : Stmt := top 42
abbrev st__law_level : Stmt := top 43
abbrev st__law_least : Stmt := top 44
abbrev st__law_print : Stmt := top 45
abbrev st__law_need : Stmt := top 46
abbrev st__law_full : Stmt := top 47
abbrev st__law_text : Stmt := top 48
abbrev st__law_same : Stmt := top 49
abbrev st__law_kept : Stmt := top 50
abbrev st__law_needed : Stmt := top 51
abbrev st_law : Stmt := top 52
def d_end_of : He.DefD := ⟨("end_of", none), "end_of", "end_of", defArgs st_end_of, defBody st_end_of, defScope st_end_of, [], []⟩
def d_is_number : He.DefD := ⟨("is_number", none), "is_number", "is_number", defArgs st_is_number, defBody st_is_number, defScope st_is_number, [], []⟩
def d_token_at : He.DefD := ⟨("token_at", none), "token_at", "token_at", defArgs st_token_at, defBody st_token_at, defScope st_token_at, [], []⟩
def d_split_words : He.DefD := ⟨("split_words", none), "split_words", "split_words", defArgs st_split_words, defBody st_split_words, defScope st_split_words, [], []⟩
def d_Reader___init__ : He.DefD := ⟨("Reader", some "__init__"), "__init__", "Reader.__init__", defArgs st_Reader___init__, defBody st_Reader___init__, defScope st_Reader___init__, [], []⟩
def d_Reader_peek : He.DefD := ⟨("Reader", some "peek"), "peek", "Reader.peek", defArgs st_Reader_peek, defBody st_Reader_peek, defScope st_Reader_peek, [], []⟩
def d_Reader_where : He.DefD := ⟨("Reader", some "where"), "where", "Reader.where", defArgs st_Reader_where, defBody st_Reader_where, defScope st_Reader_where, [], []⟩
def d_Reader_sees_name : He.DefD := ⟨("Reader", some "sees_name"), "sees_name", "Reader.sees_name", defArgs st_Reader_sees_name, defBody st_Reader_sees_name, defScope st_Reader_sees_name, [], []⟩
def d_Reader_sees_number : He.DefD := ⟨("Reader", some "sees_number"), "sees_number", "Reader.sees_number", defArgs st_Reader_sees_number, defBody st_Reader_sees_number, defScope st_Reader_sees_number, [], []⟩
def d_Reader_fault : He.DefD := ⟨("Reader", some "fault"), "fault", "Reader.fault", defArgs st_Reader_fault, defBody st_Reader_fault, defScope st_Reader_fault, [], []⟩
def d_Reader_take : He.DefD := ⟨("Reader", some "take"), "take", "Reader.take", defArgs st_Reader_take, defBody st_Reader_take, defScope st_Reader_take, [], []⟩
def d_Reader_take_name : He.DefD := ⟨("Reader", some "take_name"), "take_name", "Reader.take_name", defArgs st_Reader_take_name, defBody st_Reader_take_name, defScope st_Reader_take_name, [], []⟩
def d_Reader_take_number : He.DefD := ⟨("Reader", some "take_number"), "take_number", "Reader.take_number", defArgs st_Reader_take_number, defBody st_Reader_take_number, defScope st_Reader_take_number, [], []⟩
def d_Reader_take_end : He.DefD := ⟨("Reader", some "take_end"), "take_end", "Reader.take_end", defArgs st_Reader_take_end, defBody st_Reader_take_end, defScope st_Reader_take_end, [], []⟩
def d_Measure___init__ : He.DefD := ⟨("Measure", some "__init__"), "__init__", "Measure.__init__", defArgs st_Measure___init__, defBody st_Measure___init__, defScope st_Measure___init__, [], []⟩
def d_take_operator : He.DefD := ⟨("take_operator", none), "take_operator", "take_operator", defArgs st_take_operator, defBody st_take_operator, defScope st_take_operator, [], []⟩
def d_read_either : He.DefD := ⟨("read_either", none), "read_either", "read_either", defArgs st_read_either, defBody st_read_either, defScope st_read_either, [], []⟩
def d_read_each : He.DefD := ⟨("read_each", none), "read_each", "read_each", defArgs st_read_each, defBody st_read_each, defScope st_read_each, [], []⟩
def d_read_plain : He.DefD := ⟨("read_plain", none), "read_plain", "read_plain", defArgs st_read_plain, defBody st_read_plain, defScope st_read_plain, [], []⟩
def d_read_compared : He.DefD := ⟨("read_compared", none), "read_compared", "read_compared", defArgs st_read_compared, defBody st_read_compared, defScope st_read_compared, [], []⟩
def d_read_sum : He.DefD := ⟨("read_sum", none), "read_sum", "read_sum", defArgs st_read_sum, defBody st_read_sum, defScope st_read_sum, [], []⟩
def d_read_product : He.DefD := ⟨("read_product", none), "read_product", "read_product", defArgs st_read_product, defBody st_read_product, defScope st_read_product, [], []⟩
def d_read_atom : He.DefD := ⟨("read_atom", none), "read_atom", "read_atom", defArgs st_read_atom, defBody st_read_atom, defScope st_read_atom, [], []⟩
def d_read_place : He.DefD := ⟨("read_place", none), "read_place", "read_place", defArgs st_read_place, defBody st_read_place, defScope st_read_place, [], []⟩
def d_parse_expression : He.DefD := ⟨("parse_expression", none), "parse_expression", "parse_expression", defArgs st_parse_expression, defBody st_parse_expression, defScope st_parse_expression, [], []⟩
def d_written_part : He.DefD := ⟨("written_part", none), "written_part", "written_part", defArgs st_written_part, defBody st_written_part, defScope st_written_part, [], []⟩
def d_print_expression : He.DefD := ⟨("print_expression", none), "print_expression", "print_expression", defArgs st_print_expression, defBody st_print_expression, defScope st_print_expression, [], []⟩
def d__law_cell : He.DefD := ⟨("_law_cell", none), "_law_cell", "_law_cell", defArgs st__law_cell, defBody st__law_cell, defScope st__law_cell, [], []⟩
def d__law_reader : He.DefD := ⟨("_law_reader", none), "_law_reader", "_law_reader", defArgs st__law_reader, defBody st__law_reader, defScope st__law_reader, [], []⟩
def d__law_next : He.DefD := ⟨("_law_next", none), "_law_next", "_law_next", defArgs st__law_next, defBody st__law_next, defScope st__law_next, [], []⟩
def d__law_name : He.DefD := ⟨("_law_name", none), "_law_name", "_law_name", defArgs st__law_name, defBody st__law_name, defScope st__law_name, [], []⟩
def d__law_atom : He.DefD := ⟨("_law_atom", none), "_law_atom", "_law_atom", defArgs st__law_atom, defBody st__law_atom, defScope st__law_atom, [], []⟩
def d__law_expression : He.DefD := ⟨("_law_expression", none), "_law_expression", "_law_expression", defArgs st__law_expression, defBody st__law_expression, defScope st__law_expression, [], []⟩
def d__law_chain : He.DefD := ⟨("_law_chain", none), "_law_chain", "_law_chain", defArgs st__law_chain, defBody st__law_chain, defScope st__law_chain, [], []⟩
def d__law_level : He.DefD := ⟨("_law_level", none), "_law_level", "_law_level", defArgs st__law_level, defBody st__law_level, defScope st__law_level, [], []⟩
def d__law_least : He.DefD := ⟨("_law_least", none), "_law_least", "_law_least", defArgs st__law_least, defBody st__law_least, defScope st__law_least, [], []⟩
def d__law_print : He.DefD := ⟨("_law_print", none), "_law_print", "_law_print", defArgs st__law_print, defBody st__law_print, defScope st__law_print, [], []⟩
def d__law_need : He.DefD := ⟨("_law_need", none), "_law_need", "_law_need", defArgs st__law_need, defBody st__law_need, defScope st__law_need, [], []⟩
def d__law_full : He.DefD := ⟨("_law_full", none), "_law_full", "_law_full", defArgs st__law_full, defBody st__law_full, defScope st__law_full, [], []⟩
def d__law_text : He.DefD := ⟨("_law_text", none), "_law_text", "_law_text", defArgs st__law_text, defBody st__law_text, defScope st__law_text, [], []⟩
def d__law_same : He.DefD := ⟨("_law_same", none), "_law_same", "_law_same", defArgs st__law_same, defBody st__law_same, defScope st__law_same, [], []⟩
def d__law_kept : He.DefD := ⟨("_law_kept", none), "_law_kept", "_law_kept", defArgs st__law_kept, defBody st__law_kept, defScope st__law_kept, [], []⟩
def d__law_needed : He.DefD := ⟨("_law_needed", none), "_law_needed", "_law_needed", defArgs st__law_needed, defBody st__law_needed, defScope st__law_needed, [], []⟩
def d_law : He.DefD := ⟨("law", none), "law", "law", defArgs st_law, defBody st_law, defScope st_law, [], []⟩
def fn : List He.DefD := ([d_end_of, d_is_number, d_token_at, d_split_words, d_Reader___init__, d_Reader_peek, d_Reader_where, d_Reader_sees_name, d_Reader_sees_number, d_Reader_fault, d_Reader_take, d_Reader_take_name, d_Reader_take_number, d_Reader_take_end, d_Measure___init__, d_take_operator, d_read_either, d_read_each, d_read_plain, d_read_compared, d_read_sum, d_read_product, d_read_atom, d_read_place, d_parse_expression, d_written_part, d_print_expression, d__law_cell, d__law_reader, d__law_next] : List He.DefD) ++ ([d__law_name, d__law_atom, d__law_expression, d__law_chain, d__law_level, d__law_least, d__law_print, d__law_need, d__law_full, d__law_text, d__law_same, d__law_kept, d__law_needed, d_law] : List He.DefD)
def fa : List He.Fa := ([.glo "end_of", .glo "is_number", .glo "token_at", .glo "split_words", .glo "take_operator", .glo "read_either", .glo "read_each", .glo "read_plain", .glo "read_compared", .glo "read_sum", .glo "read_product", .glo "read_atom", .glo "read_place", .glo "parse_expression", .glo "written_part", .glo "print_expression", .glo "_law_cell", .glo "_law_reader", .glo "_law_next", .glo "_law_name", .glo "_law_atom", .glo "_law_expression", .glo "_law_chain", .glo "_law_level", .glo "_law_least", .glo "_law_print", .glo "_law_need", .glo "_law_full", .glo "_law_text", .glo "_law_same"] : List He.Fa) ++ ([.glo "_law_kept", .glo "_law_needed", .glo "law", .free "all", .free "bool", .free "int", .free "isinstance", .free "len", .free "list", .free "max", .free "min", .free "range", .free "str", .free "super", .free "tuple"] : List He.Fa)
abbrev R : PySem.W.OpenRow := PySem.W.OpenLaw.row PySem.Challenge.rw_allmends_k07_expression_there_and_back
abbrev hk : PySem.W.Hook := hookW 5 fa fn TB xds GDS PySem.Challenge.rw_allmends_k07_expression_there_and_back.prog
def ob (s : PySem.W.SharedT) : AlW := obsWG 5 fa fn TB xds GDS PySem.Challenge.rw_allmends_k07_expression_there_and_back.prog (HandSHeadRun.getT s)
theorem ob_eq (s : PySem.W.SharedT) : ob s = hk.obs s.abs := obsWG_eq (HandSHeadRun.getT_eq s)
def loose : List Str := (["__name__", "MendError", "InvalidInput", "InvalidText", "KEYWORDS", "LETTERS", "DIGITS", "WORD_CHARS", "SIGNS", "BLANKS", "LONGEST_TEXT", "MOST_DIGITS", "end_of", "is_number", "token_at", "split_words", "Reader", "MOST_PARENTHESES", "MOST_OPERATORS", "LEVELS", "Measure", "take_operator", "read_either", "read_each", "read_plain", "read_compared", "read_sum", "read_product", "read_atom", "read_place"] : List Str) ++ (["parse_expression", "written_part", "print_expression", "_law_cell", "_law_reader", "_law_next", "_law_name", "_law_atom", "_law_expression", "_law_chain", "_law_level", "_law_least", "_law_print", "_law_need", "_law_full", "_law_text", "_law_same", "_law_kept", "_law_needed"] : List Str)
theorem runF (w : World) : HandSHeadRun.RunEq R (PySem.W.view R.prog [52]) hk ob 9000 loose (w.withFollow "special-get-raises" false) := by
  intro os
  kernel_rfl
theorem runT (w : World) : HandSHeadRun.RunEq R (PySem.W.view R.prog [52]) hk ob 9000 loose (w.withFollow "special-get-raises" true) := by
  intro os
  kernel_rfl
theorem run (w : World) : HandSHeadRun.RunEq R (PySem.W.view R.prog [52]) hk ob 9000 loose w := PySem.W.byRow2 "special-get-raises" (P := fun w => HandSHeadRun.RunEq R (PySem.W.view R.prog [52]) hk ob 9000 loose w) runF runT w
end K07
namespace Dl
open PySem PySem.Spec PyProof.Rows L2
def dTryN (exs : List Str) (fb : DS) (su : Addr → Option Addr → Str → List (Str × D) → DS) : DS := fun k ρ =>
  fb ⟨k.nx, k.rt, k.bk, k.ct, fun c fs ρ' => c ∈ exs ∧ ∀ a d, su a d c fs ⟨k.nx, k.rt, k.bk, k.ct, fun _ _ _ => False, k.ro⟩ ρ', k.ro⟩ ρ
section
variable {X : Cx} {C : Str → Addr} {W : WX} {k : Nat} {bl : Str → Bool} {x : Str} {cv : Value} {body suite : List Stmt} {b₀ : Stmt} {np pos pos' : Pos} {exs : List Str} {fb : DS} {su : Addr → Option Addr → Str → List (Str × D) → DS}
theorem cs_tryN (hs : X.stack = X.env :: X.outer) (hf : X.env.frame = some X.env.locals) (hc : Names X x cv) (tk : L2N.Takes X W) (ht : ExT X.K C exs cv)
    (hb : ∀ (W' : WX) (pn : List (Addr × Obj)) (xe : Value → Shared → Prop), L2N.Takes (X.tr pn xe) W' → PassesOwn (model X.prog X.w) X.A X.env xe → CSs (X.tr pn xe) C W' body fb)
    (hsu : ∀ (a : Addr) (oe : Obj) (c : Str) (d : Option Addr) (fs : List (Str × D)) (pn : List (Addr × Obj)), c ∈ exs → Zc (.ref (C c)) d oe → (∃ vs, oe.data = .fields vs) → L2H.HotC (X.suite a ((a, oe) :: pn)) → CSs (X.suite a ((a, oe) :: pn)) C W0 (b₀ :: suite) (su a d c fs)) :
    CS X C W (.Try body [.ExceptHandler (some (.Name x np)) none (b₀ :: suite) pos'] [] [] pos) (dTryN exs fb su) := by
  refine ⟨_, L2N.ps_try_many (l := [(cv, fun a cls d D σ H => ∃ c fs, c ∈ exs ∧ cls = .ref (C c) ∧ tSof ⟨X.K, C⟩ W0 (su a d c fs) D σ H)]) (tb := fun W' => tSof ⟨X.K, C⟩ W' fb) (Wout := W) hs hf tk (fun W' pn xe h1 h2 => (hb W' pn xe h1 h2).canon)
    (.cons hc (fun a oe cls d pn hz hd => ⟨fun pins s σ H D I ⟨c, fs, hc, ec, h⟩ => ?_⟩) .nil), ?_⟩
  · subst ec
    exact (hsu a oe c d fs pn hc hz.zc hd ⟨(a, oe), ⟨rfl, by obtain ⟨vs, e⟩ := hd; exact ⟨vs, e, hz.2.2 vs e⟩⟩, List.mem_cons_self⟩).canon.run pins s σ H D I h
  · intro G0 R0 H0 G R H σ ρ kk D n0 w e fz
    refine ⟨G0, R0, H0, G, R, ρ, ⟨kk.nx, kk.rt, kk.bk, kk.ct, fun c fs ρ' => c ∈ exs ∧ ∀ a d, su a d c fs ⟨kk.nx, kk.rt, kk.bk, kk.ct, fun _ _ _ => False, kk.ro⟩ ρ', kk.ro⟩, n0, w, ⟨e.nx, e.rt, e.bk, e.ct, ?_, e.ro⟩, fz⟩
    intro c fs cls dx G1 R1 H1 σ1 ρ1 n1 w1 ⟨hc, q⟩ ⟨ec, er⟩
    subst ec
    refine ⟨true, ht.exm c hc, fun _ a ha => ?_, fun z => by cases z⟩
    refine ⟨c, fs, hc, rfl, G0, R0, H0, G1, R1, ρ1, ⟨kk.nx, kk.rt, kk.bk, kk.ct, fun _ _ _ => False, kk.ro⟩, n1, w1, ⟨e.nx, e.rt, e.bk, e.ct, ?_, e.ro⟩, q a dx⟩
    exact fun _ _ _ _ _ _ _ _ _ _ _ z => z.elim
end
def gMin3 (x y z : D) (Q : D → Prop) : Prop := match x, y, z with
  | .int i, .int j, .int l => Q (.int (if l < (if j < i then j else i) then l else if j < i then j else i))
  | _, _, _ => False
def dMin3 (fa fb fc : DE) : DE := fun xq ρ Q => fa xq ρ fun x => fb xq ρ fun y => fc xq ρ fun z => gMin3 x y z Q
section
variable {X : Cx} {C : Str → Addr} {W : WX} {k : Nat} {bl : Str → Bool} {a b c : Expr} {fa fb fc : DE} {pos p : Pos}
theorem nuMin3_int (i j l : Int) : nuMin3 (.int i) (.int j) (.int l) = some (.int (if l < (if j < i then j else i) then l else if j < i then j else i)) := by
  have h : ∀ i j : Int, nuMin2 (.int i) (.int j) = some (.int (if j < i then j else i)) := fun i j => by
    show some (if decide (j < i) = true then V.int j else V.int i) = _
    by_cases c : j < i
    · rw [if_pos c, if_pos (decide_eq_true c)]
    · rw [if_neg c, if_neg (by simpa using c)]
  show (nuMin2 (.int i) (.int j)).bind _ = _
  rw [h]
  exact h _ _
theorem je_min3 {Γ : Kx} {ta tb tc : TE} (ha : JQ Γ W ta fa) (hb : JQ Γ W tb fb) (hc : JQ Γ W tc fc) : JE Γ W (tCB (rNuC3 nuMin3) (tCons ta (tCons tb (tCons tc tNil)))) (dMin3 fa fb fc) := fun H0 G R H σ ρ xq Qd Q w x f kk =>
  ha H0 G R H σ ρ xq _ _ w x f fun v1 G1 R1 H1 d1 n1 r1 q1 => hb H0 G1 R1 H1 σ ρ xq _ _ (w.nx n1) (x.nx n1) q1 fun v2 G2 R2 H2 d2 n2 r2 q2 => hc H0 G2 R2 H2 σ ρ xq _ _ ((w.nx n1).nx n2) ((x.nx n1).nx n2) q2 fun v3 G3 R3 H3 d3 n3 r3 q3 => by
    cases d1 <;> first | exact q3.elim | skip
    cases d2 <;> first | exact q3.elim | skip
    cases d3 <;> first | exact q3.elim | skip
    rename_i i j l
    exact ⟨_, _, _, _, rfl, by rw [r1.int, r2.int, r3.int]; exact nuMin3_int i j l, kk _ G3 R3 H3 _ ((n1.trans n2).trans n3) rp_int q3⟩
def gIntS (x : D) (Q : D → Prop) : Prop := match x with
  | .str s => ∃ n, PySem.intText? s = some n ∧ s.length ≤ 640 ∧ Q (.int n)
  | _ => False
theorem u1_intS {Γ : Kx} : U1 Γ (fun v H Q => ∃ a n, [v] = [V.str a] ∧ PySem.intText? a = some n ∧ a.length ≤ 640 ∧ Q (.int n) H) gIntS := fun G R H d v Qd Q gd r1 g k => by
  cases d <;> first | exact g.elim | skip
  obtain ⟨n, h1, h2, q⟩ := g
  exact ⟨_, n, by rw [r1.str], h1, h2, k _ G R H _ (Nx.refl gd) rp_int q⟩
theorem ce_intS (g : GE X W k bl) (h : CQ X C W a fa) (hb : bl "int" = true := by decide +kernel) (hg : Gl X "int" := by rfl) (he : starEach [a] X.env = (false, eval a X.env) :: starEach [] X.env := by rfl) : CE X C W (.Call (.Name "int" p) [a] [] pos) (d1 gIntS fa) := ce_t1 g call_int_str u1_intS boot_int hb h hg (by decide) (by decide) he
theorem ce_min3 (g : GE X W k bl) (h : CQ X C W a fa) (h' : CQ X C W b fb) (h2 : CQ X C W c fc) (hb : bl "min" = true := by decide +kernel) (hg : Gl X "min" := by rfl) (he : starEach [a, b, c] X.env = (false, eval a X.env) :: starEach [b, c] X.env := by rfl) (he' : starEach [b, c] X.env = (false, eval b X.env) :: starEach [c] X.env := by rfl) (he2 : starEach [c] X.env = (false, eval c X.env) :: starEach [] X.env := by rfl) (hpl : (backTo pos (starEach [b, c] X.env)).any (·.1) = false := by rfl) : CE X C W (.Call (.Name "min" p) [a, b, c] [] pos) (dMin3 fa fb fc) :=
  let ⟨_, p, q⟩ := h; let ⟨_, p', q'⟩ := h'; let ⟨_, p2, q2⟩ := h2; ⟨_, pe_callB (call_min3Nu g.calm) hg (g.bl _ hb) boot_min (pa_cons p (pa_cons p' (pa_cons p2 pa_nil he2) he') he) (by decide) (by decide) he hpl, je_min3 q q' q2⟩
end
end Dl
namespace Par
open PySem L2 Dl
def b_end_of : DS :=
  dSeq (dSet 3 (dVar 1))
  (dSeq (dWhile (dAnd (dB (d2 gLt (dVar 3) (d1 gLen (dVar 0)))) (dB (d2 (gIn false) (d2 gIx (dVar 0) (dVar 3)) (dVar 2))))
    (dSet 3 (d2 gAdd (dVar 3) (dC (.int 1)))))
  (dRetV 3))
def b_is_number : DS :=
  dRet (dAndV (dB (d2 gLe (d1 gLen (dVar 0)) (dC (.int 4)))) (dOrV (dB (d2 gEq (dVar 0) (dC (.str "0")))) (d2 gNe (d2 gIx (dVar 0) (dC (.int 0))) (dC (.str "0")))))
def b_token_at (S_end_of : DF) (S_is_number : DF) : DS :=
  dSeq (dIfS (dB (d2 (gIn false) (d2 gIx (dVar 0) (dVar 1)) (dC (.str "abcdefghijklmnopqrstuvwxyz"))))
    (dRet (dTup (dCons (dC (.str "word")) (dCons (dSl (dVar 0) (oSome (dVar 1)) (oSome (dCall S_end_of (dCons (dVar 0) (dCons (dVar 1) (dCons (dC (.str "abcdefghijklmnopqrstuvwxyz0123456789")) dNil)))))) (dCons (dVar 1) dNil)))))
    dNext)
  (dSeq (dIfS (dB (d2 (gIn false) (d2 gIx (dVar 0) (dVar 1)) (dC (.str "0123456789"))))
    (dSeq (dSet 2 (dSl (dVar 0) (oSome (dVar 1)) (oSome (dCall S_end_of (dCons (dVar 0) (dCons (dVar 1) (dCons (dC (.str "0123456789")) dNil)))))))
    (dSeq (dIfS (dTru (dCall S_is_number (dCons (dVar 2) dNil)))
      (dRet (dTup (dCons (dC (.str "number")) (dCons (dVar 2) (dCons (dVar 1) dNil)))))
      dNext)
    (dRet (dTup (dCons (dC (.str "fault")) (dCons (dC (.str "")) (dCons (dVar 1) dNil)))))))
    dNext)
  (dSeq (dIfS (dB (d2 gEq (dSl (dVar 0) (oSome (dVar 1)) (oSome (d2 gAdd (dVar 1) (dC (.int 2))))) (dC (.str "=="))))
    (dRet (dTup (dCons (dC (.str "sign")) (dCons (dC (.str "==")) (dCons (dVar 1) dNil)))))
    dNext)
  (dSeq (dIfS (dB (d2 (gIn false) (d2 gIx (dVar 0) (dVar 1)) (dC (.str "(),=<+-*"))))
    (dRet (dTup (dCons (dC (.str "sign")) (dCons (d2 gIx (dVar 0) (dVar 1)) (dCons (dVar 1) dNil)))))
    dNext)
  (dRet (dTup (dCons (dC (.str "fault")) (dCons (dC (.str "")) (dCons (dVar 1) dNil))))))))
def b_split_words (S_end_of : DF) (S_token_at : DF) : DS :=
  dSeq (dIfS (dB (d2 gGt (d1 gLen (dVar 0)) (dC (.int 4000))))
    (dRet (dLst (dCons (dTup (dCons (dC (.str "fault")) (dCons (dC (.str "")) (dCons (dC (.int 4000)) dNil)))) dNil)))
    dNext)
  (dSeq (dSetN 1 dNil)
  (dSeq (dSet 2 (dCall S_end_of (dCons (dVar 0) (dCons (dC (.int 0)) (dCons (dC (.str " \n")) dNil)))))
  (dSeq (dWhile (dB (d2 gLt (dVar 2) (d1 gLen (dVar 0))))
    (dSeq (dSet 3 (dCall S_token_at (dCons (dVar 0) (dCons (dVar 2) dNil))))
    (dSeq (dApp 1 (dVar 3))
    (dSeq (dIfS (dB (d2 gEq (d2 gIx (dVar 3) (dC (.int 0))) (dC (.str "fault"))))
      (dFrz 1 (dRetV 1))
      dNext)
    (dSet 2 (dCall S_end_of (dCons (dVar 0) (dCons (d2 gAdd (dVar 2) (d1 gLen (d2 gIx (dVar 3) (dC (.int 1))))) (dCons (dC (.str " \n")) dNil)))))))))
  (dSeq (dApp 1 (dTup (dCons (dC (.str "end")) (dCons (dC (.str "")) (dCons (d1 gLen (dVar 0)) dNil)))))
  (dFrz 1 (dRetV 1))))))
def b_Reader___init__ : DS :=
  dSeq (dSetF 0 ["Reader"] "tokens" (dLst (n1 gListN (dVar 1))))
  (dSetF 0 ["Reader"] "at" (dC (.int 0)))
def b_Reader_peek : DS :=
  dRet (d2 gIx (d2 gIx (dRdP (dPFld (dP0 0) ["Reader"] "tokens")) (dRdP (dPFld (dP0 0) ["Reader"] "at"))) (dC (.int 1)))
def b_Reader_where : DS :=
  dRet (d2 gIx (d2 gIx (dRdP (dPFld (dP0 0) ["Reader"] "tokens")) (dRdP (dPFld (dP0 0) ["Reader"] "at"))) (dC (.int 2)))
def b_Reader_sees_name (S_Reader_peek : DFO) : DS :=
  dRetY (yAndV (yB (yE (d2 gEq (d2 gIx (d2 gIx (dRdP (dPFld (dP0 0) ["Reader"] "tokens")) (dRdP (dPFld (dP0 0) ["Reader"] "at"))) (dC (.int 0))) (dC (.str "word"))))) (yOp (gIn true) (yMeth "Reader" "peek" 0 S_Reader_peek wNil) (yE (dC (.tup ((["letters", "answers", "global", "proc", "local", "read", "write", "if", "then", "else", "while", "do", "call", "skip", "end", "and", "or", "not"] : List Str).map D.str))))))
def b_Reader_sees_number : DS :=
  dRet (d2 gEq (d2 gIx (d2 gIx (dRdP (dPFld (dP0 0) ["Reader"] "tokens")) (dRdP (dPFld (dP0 0) ["Reader"] "at"))) (dC (.int 0))) (dC (.str "number")))
def b_Reader_fault : DS :=
  dRaise1 "InvalidText" "position" (d2 gIx (d2 gIx (dRdP (dPFld (dP0 0) ["Reader"] "tokens")) (dRdP (dPFld (dP0 0) ["Reader"] "at"))) (dC (.int 2)))
def b_Reader_take_r1 (S_Reader_peek : DFO) (S_Reader_fault : DFO) : DS :=
  dPutFld (dP0 0) ["Reader"] "at" (dLeaf (d2 gAdd (dRdP (dPFld (dP0 0) ["Reader"] "at")) (dC (.int 1))))
def b_Reader_take (S_Reader_peek : DFO) (S_Reader_fault : DFO) : DS :=
  dSeq (dIfY (yB (yOp gNe (yMeth "Reader" "peek" 0 S_Reader_peek wNil) (yE (dVar 1))))
    (dExprY (yMeth "Reader" "fault" 0 S_Reader_fault wNil))
    dNext)
  (b_Reader_take_r1 S_Reader_peek S_Reader_fault)
def b_Reader_take_name_r1 (S_Reader_sees_name : DFO) (S_Reader_fault : DFO) : DS :=
  dSeq (dPutFld (dP0 0) ["Reader"] "at" (dLeaf (d2 gAdd (dRdP (dPFld (dP0 0) ["Reader"] "at")) (dC (.int 1)))))
  (dRet (d2 gIx (d2 gIx (dRdP (dPFld (dP0 0) ["Reader"] "tokens")) (d2 gMns (dRdP (dPFld (dP0 0) ["Reader"] "at")) (dC (.int 1)))) (dC (.int 1))))
def b_Reader_take_name (S_Reader_sees_name : DFO) (S_Reader_fault : DFO) : DS :=
  dSeq (dIfY (yNot (yB (yMeth "Reader" "sees_name" 0 S_Reader_sees_name wNil)))
    (dExprY (yMeth "Reader" "fault" 0 S_Reader_fault wNil))
    dNext)
  (b_Reader_take_name_r1 S_Reader_sees_name S_Reader_fault)
def b_Reader_take_number_r1 (S_Reader_sees_number : DFO) (S_Reader_fault : DFO) : DS :=
  dSeq (dPutFld (dP0 0) ["Reader"] "at" (dLeaf (d2 gAdd (dRdP (dPFld (dP0 0) ["Reader"] "at")) (dC (.int 1)))))
  (dRet (d1 gIntS (d2 gIx (d2 gIx (dRdP (dPFld (dP0 0) ["Reader"] "tokens")) (d2 gMns (dRdP (dPFld (dP0 0) ["Reader"] "at")) (dC (.int 1)))) (dC (.int 1)))))
def b_Reader_take_number (S_Reader_sees_number : DFO) (S_Reader_fault : DFO) : DS :=
  dSeq (dIfY (yNot (yB (yMeth "Reader" "sees_number" 0 S_Reader_sees_number wNil)))
    (dExprY (yMeth "Reader" "fault" 0 S_Reader_fault wNil))
    dNext)
  (b_Reader_take_number_r1 S_Reader_sees_number S_Reader_fault)
def b_Reader_take_end (S_Reader_fault : DFO) : DS :=
  dIfS (dB (d2 gNe (d2 gIx (d2 gIx (dRdP (dPFld (dP0 0) ["Reader"] "tokens")) (dRdP (dPFld (dP0 0) ["Reader"] "at"))) (dC (.int 0))) (dC (.str "end"))))
    (dExprY (yMeth "Reader" "fault" 0 S_Reader_fault wNil))
    dNext
def b_Measure___init__ : DS :=
  dSeq (dSetF 0 ["Measure"] "parentheses" (dC (.int 0)))
  (dSetF 0 ["Measure"] "operators" (dC (.int 0)))
def b_take_operator_r1 (S_Reader_fault : DFO) (S_Reader_peek : DFO) (S_Reader_take : DFO) : DS :=
  dSeq (dPutFld (dP0 1) ["Measure"] "operators" (dLeaf (d2 gAdd (dRdP (dPFld (dP0 1) ["Measure"] "operators")) (dC (.int 1)))))
  (dSeq (dSetY 2 (yMeth "Reader" "peek" 0 S_Reader_peek wNil))
  (dSeq (dExprY (yMeth "Reader" "take" 0 S_Reader_take (wE (dVar 2) wNil)))
  (dRetV 2)))
def b_take_operator (S_Reader_fault : DFO) (S_Reader_peek : DFO) (S_Reader_take : DFO) : DS :=
  dSeq (dIfS (dB (d2 gEq (dRdP (dPFld (dP0 1) ["Measure"] "operators")) (dC (.int 40))))
    (dExprY (yMeth "Reader" "fault" 0 S_Reader_fault wNil))
    dNext)
  (b_take_operator_r1 S_Reader_fault S_Reader_peek S_Reader_take)
def b_read_either (S_read_each : DFO) (S_Reader_peek : DFO) (S_take_operator : DFO) : DS :=
  dSeq (dSetY 2 (yCall S_read_each (wV 0 (wV 1 wNil))))
  (dSeq (dWhileY (yB (yOp gEq (yMeth "Reader" "peek" 0 S_Reader_peek wNil) (yE (dC (.str "or")))))
    (dSeq (dSetY 3 (yCall S_take_operator (wV 0 (wV 1 wNil))))
    (dSetY 2 (yTup (yCons (yE (dVar 3)) (yCons (yE (dVar 2)) (yCons (yCall S_read_each (wV 0 (wV 1 wNil))) yNil)))))))
  (dRetV 2))
def b_read_each (S_read_plain : DFO) (S_Reader_peek : DFO) (S_take_operator : DFO) : DS :=
  dSeq (dSetY 2 (yCall S_read_plain (wV 0 (wV 1 wNil))))
  (dSeq (dWhileY (yB (yOp gEq (yMeth "Reader" "peek" 0 S_Reader_peek wNil) (yE (dC (.str "and")))))
    (dSeq (dSetY 3 (yCall S_take_operator (wV 0 (wV 1 wNil))))
    (dSetY 2 (yTup (yCons (yE (dVar 3)) (yCons (yE (dVar 2)) (yCons (yCall S_read_plain (wV 0 (wV 1 wNil))) yNil)))))))
  (dRetV 2))
def b_read_plain (S_Reader_peek : DFO) (S_read_compared : DFO) (S_take_operator : DFO) : DS :=
  dSeq (dIfY (yB (yOp gNe (yMeth "Reader" "peek" 0 S_Reader_peek wNil) (yE (dC (.str "not")))))
    (dRetY (yCall S_read_compared (wV 0 (wV 1 wNil))))
    dNext)
  (dSeq (dSetY 2 (yCall S_take_operator (wV 0 (wV 1 wNil))))
  (dRetY (yTup (yCons (yE (dVar 2)) (yCons (yCall S_read_compared (wV 0 (wV 1 wNil))) yNil)))))
def b_read_compared (S_read_sum : DFO) (S_Reader_peek : DFO) (S_take_operator : DFO) : DS :=
  dSeq (dSetY 2 (yCall S_read_sum (wV 0 (wV 1 wNil))))
  (dSeq (dIfY (yB (yOp (gIn true) (yMeth "Reader" "peek" 0 S_Reader_peek wNil) (yE (dTup (dCons (dC (.str "==")) (dCons (dC (.str "<")) dNil))))))
    (dRetV 2)
    dNext)
  (dSeq (dSetY 3 (yCall S_take_operator (wV 0 (wV 1 wNil))))
  (dRetY (yTup (yCons (yE (dVar 3)) (yCons (yE (dVar 2)) (yCons (yCall S_read_sum (wV 0 (wV 1 wNil))) yNil)))))))
def b_read_sum (S_read_product : DFO) (S_Reader_peek : DFO) (S_take_operator : DFO) : DS :=
  dSeq (dSetY 2 (yCall S_read_product (wV 0 (wV 1 wNil))))
  (dSeq (dWhileY (yB (yOp (gIn false) (yMeth "Reader" "peek" 0 S_Reader_peek wNil) (yE (dTup (dCons (dC (.str "+")) (dCons (dC (.str "-")) dNil))))))
    (dSeq (dSetY 3 (yCall S_take_operator (wV 0 (wV 1 wNil))))
    (dSetY 2 (yTup (yCons (yE (dVar 3)) (yCons (yE (dVar 2)) (yCons (yCall S_read_product (wV 0 (wV 1 wNil))) yNil)))))))
  (dRetV 2))
def b_read_product (S_read_atom : DFO) (S_Reader_peek : DFO) (S_take_operator : DFO) : DS :=
  dSeq (dSetY 2 (yCall S_read_atom (wV 0 (wV 1 wNil))))
  (dSeq (dWhileY (yB (yOp gEq (yMeth "Reader" "peek" 0 S_Reader_peek wNil) (yE (dC (.str "*")))))
    (dSeq (dSetY 3 (yCall S_take_operator (wV 0 (wV 1 wNil))))
    (dSetY 2 (yTup (yCons (yE (dVar 3)) (yCons (yE (dVar 2)) (yCons (yCall S_read_atom (wV 0 (wV 1 wNil))) yNil)))))))
  (dRetV 2))
def b_read_atom_r1 (S_Reader_sees_number : DFO) (S_Reader_take_number : DFO) (S_Reader_peek : DFO) (S_Reader_take_name : DFO) (S_Reader_fault : DFO) (S_Reader_take : DFO) (S_read_either : DFO) : DS :=
  dSeq (dPutFld (dP0 1) ["Measure"] "parentheses" (dLeaf (d2 gAdd (dRdP (dPFld (dP0 1) ["Measure"] "parentheses")) (dC (.int 1)))))
  (dSeq (dExprY (yMeth "Reader" "take" 0 S_Reader_take (wE (dC (.str "(")) wNil)))
  (dSeq (dSetY 2 (yCall S_read_either (wV 0 (wV 1 wNil))))
  (dSeq (dExprY (yMeth "Reader" "take" 0 S_Reader_take (wE (dC (.str ")")) wNil)))
  (dSeq (dPutFld (dP0 1) ["Measure"] "parentheses" (dLeaf (d2 gMns (dRdP (dPFld (dP0 1) ["Measure"] "parentheses")) (dC (.int 1)))))
  (dRetV 2)))))
def b_read_atom (S_Reader_sees_number : DFO) (S_Reader_take_number : DFO) (S_Reader_peek : DFO) (S_Reader_take_name : DFO) (S_Reader_fault : DFO) (S_Reader_take : DFO) (S_read_either : DFO) : DS :=
  dSeq (dIfY (yB (yMeth "Reader" "sees_number" 0 S_Reader_sees_number wNil))
    (dRetY (yTup (yCons (yE (dC (.str "number"))) (yCons (yMeth "Reader" "take_number" 0 S_Reader_take_number wNil) yNil))))
    dNext)
  (dSeq (dIfY (yB (yOp gNe (yMeth "Reader" "peek" 0 S_Reader_peek wNil) (yE (dC (.str "(")))))
    (dRetY (yTup (yCons (yE (dC (.str "name"))) (yCons (yMeth "Reader" "take_name" 0 S_Reader_take_name wNil) yNil))))
    dNext)
  (dSeq (dIfS (dB (d2 gEq (dRdP (dPFld (dP0 1) ["Measure"] "parentheses")) (dC (.int 10))))
    (dExprY (yMeth "Reader" "fault" 0 S_Reader_fault wNil))
    dNext)
  (b_read_atom_r1 S_Reader_sees_number S_Reader_take_number S_Reader_peek S_Reader_take_name S_Reader_fault S_Reader_take S_read_either)))
def b_read_place (S_read_either : DFO) (S_Measure : DI) : DS :=
  dRetY (yCallT S_read_either (wtV 0 (wtLast (dMakeO "Measure" S_Measure dNil))))
def b_parse_expression (S_Reader : DI) (S_split_words : DF) (S_read_place : DFO) (S_Reader_take_end : DFO) : DS :=
  dSeq (dNewO 1 (dMakeO "Reader" S_Reader (dCons (dCall S_split_words (dCons (dVar 0) dNil)) dNil)))
  (dSeq (dSetY 2 (yCall S_read_place (wV 1 wNil)))
  (dSeq (dExprY (yMeth "Reader" "take_end" 1 S_Reader_take_end wNil))
  (dRetV 2)))
def b_written_part (S_print_expression : DF) : DS :=
  dSeq (dSet 2 (dCall S_print_expression (dCons (dVar 0) dNil)))
  (dSeq (dIfS (dB (d2 gLt (d1 (gGKey [("or", 1), ("and", 2), ("not", 3), ("==", 4), ("<", 4), ("+", 5), ("-", 5), ("*", 6), ("number", 7), ("name", 7)]) (d2 gIx (dVar 0) (dC (.int 0)))) (dVar 1)))
    (dRet (d2 gAdd (d2 gAdd (dC (.str "(")) (dVar 2)) (dC (.str ")"))))
    dNext)
  (dRetV 2))
def b_print_expression_r1 (S_written_part : DF) : DS :=
  dSeq (dSet 4 (dCall S_written_part (dCons (d2 gIx (dVar 0) (dC (.int 1))) (dCons (dVar 3) dNil))))
  (dRet (d2 gAdd (d2 gAdd (d2 gAdd (d2 gAdd (dVar 4) (dC (.str " "))) (dVar 1)) (dC (.str " "))) (dCall S_written_part (dCons (d2 gIx (dVar 0) (dC (.int 2))) (dCons (dVar 2) dNil)))))
def b_print_expression (S_written_part : DF) : DS :=
  dSeq (dSet 1 (d2 gIx (dVar 0) (dC (.int 0))))
  (dSeq (dIfS (dB (d2 gEq (dVar 1) (dC (.str "number"))))
    (dRet (d1 gStr (d2 gIx (dVar 0) (dC (.int 1)))))
    dNext)
  (dSeq (dIfS (dB (d2 gEq (dVar 1) (dC (.str "name"))))
    (dRet (d2 gIx (dVar 0) (dC (.int 1))))
    dNext)
  (dSeq (dSet 2 (d2 gAdd (d1 (gGKey [("or", 1), ("and", 2), ("not", 3), ("==", 4), ("<", 4), ("+", 5), ("-", 5), ("*", 6), ("number", 7), ("name", 7)]) (dVar 1)) (dC (.int 1))))
  (dSeq (dIfS (dB (d2 gEq (dVar 1) (dC (.str "not"))))
    (dRet (d2 gAdd (dC (.str "not ")) (dCall S_written_part (dCons (d2 gIx (dVar 0) (dC (.int 1))) (dCons (dVar 2) dNil)))))
    dNext)
  (dSeq (dSet 3 (d1 (gGKey [("or", 1), ("and", 2), ("not", 3), ("==", 4), ("<", 4), ("+", 5), ("-", 5), ("*", 6), ("number", 7), ("name", 7)]) (dVar 1)))
  (dSeq (dIfS (dB (d2 (gIn false) (dVar 1) (dTup (dCons (dC (.str "==")) (dCons (dC (.str "<")) dNil)))))
    (dSet 3 (dVar 2))
    dNext)
  (b_print_expression_r1 S_written_part)))))))
end Par
namespace Dl
open PySem PySem.Spec PyProof.Rows L2
section
variable {Γ : Kx} {W : WX}
end
def tXof (Γ : Kx) (W : WX) (fx : DXE) : TE := fun σ H Q => ∃ (G0 : Hp) (R0 : Addr → Prop) (H0 G : Hp) (R : Addr → Prop) (ρ : En) (xq : XQ) (Qd : D → En → Prop), Nx G0 R0 H0 G R H ∧ Wd Γ H0 G R H σ ρ ∧ Lk Γ W xq σ G R H ∧ fx xq ρ Qd ∧
  ∀ v G' R' H' ρ' d, Nx G0 R0 H0 G' R' H' → Wd Γ H0 G' R' H' σ ρ' → Rp Γ G' R' d v → Qd d ρ' → Q v H'
section
variable {X : Cx} {C : Str → Addr} {W : WX} {k : Nat} {bl : Str → Bool} {a e elt iter : Expr} {fx : DXE} {fi : DA} {pos p xp : Pos} {x : Str} {i : Nat} {scope : Scope}
theorem CX.canon (h : CX X C W e fx) : PE X e (tXof ⟨X.K, C⟩ W fx) := let ⟨t, p, q⟩ := h; ⟨fun pins s σ H Q I ⟨G0, R0, H0, G, R, ρ, xq, Qd, n, w, x, f, z⟩ => p.run pins s σ H Q I (q G0 R0 H0 G R H σ ρ xq Qd Q n w x f z)⟩
end
section
variable {Γ : Kx} {W : WX} {te tp tk : TE} {fo fk : DE} {fp : DP}
end
section
variable {X : Cx} {C : Str → Addr} {W : WX} {k : Nat} {bl : Str → Bool} {a e o : Expr} {fk fo : DE} {fp : DP} {pos pos' : Pos}
end
end Dl
namespace Dl
open PySem PySem.Spec PyProof.Rows L2
section
variable {X : Cx} {CX : CXT} {k n : Nat} {f C : Addr} {fd : FuncData} {ps ks : List Str} {sp : Sp} {E : St → XK} {m x : Str} {p pos apos : Pos} {e o : Expr} {es : List Expr} {kws : List Keyword} {ta : TE} {t tk : TA} {g : List Value → List Value → List Value} {gV : List V → List V → List V}
end
end Dl
namespace Dl
open PySem PySem.Spec PyProof.Rows L2
def pkL (pat : List (Bool × Nat)) {α : Type} (us its ws : List α) : List α := us ++ pat.flatMap fun p => if p.1 then (ws.drop p.2).take 1 else (its.drop p.2).take 1
structure Sg where
  n : Nat
  ks : List Str
  pat : List (Bool × Nat)
  dd : List D
section
variable {Γ : Kx} {G : Hp} {R : Addr → Prop}
theorem RpL.app {ds es : List D} {vs zs : List V} (h : RpL Γ G R ds vs) (h' : RpL Γ G R es zs) : RpL Γ G R (ds ++ es) (vs ++ zs) := by
  induction ds generalizing vs with
  | nil => unfold RpL at h; subst h; exact h'
  | cons d ds ih =>
    unfold RpL at h
    obtain ⟨v, q, rfl, h1, h2⟩ := h
    exact RpL.cons h1 (ih h2)
theorem RpL.dr {ds : List D} {vs : List V} (i : Nat) (h : RpL Γ G R ds vs) : RpL Γ G R (ds.drop i) (vs.drop i) := by
  induction i generalizing ds vs with
  | zero => exact h
  | succ i ih =>
    cases ds with
    | nil => unfold RpL at h; subst h; exact RpL.nil
    | cons d ds =>
      unfold RpL at h
      obtain ⟨v, q, rfl, h1, h2⟩ := h
      exact ih h2
theorem RpL.tk1 {ds : List D} {vs : List V} (h : RpL Γ G R ds vs) : RpL Γ G R (ds.take 1) (vs.take 1) := by
  cases ds with
  | nil => unfold RpL at h; subst h; exact RpL.nil
  | cons d ds =>
    unfold RpL at h
    obtain ⟨v, q, rfl, h1, h2⟩ := h
    exact RpL.cons h1 RpL.nil
end
def SgOk (Γ : Kx) (fd : FuncData) (ps : List Str) (e : Nat) (s : Sg) : Prop := ∃ (g : List Value → List Value → List Value) (dvs : List V), KBn Γ.K fd ps (s.n + e) s.ks g (fun vs zs => pkL s.pat vs dvs zs) ∧ ∀ (G : Hp) (R : Addr → Prop), RpL Γ G R s.dd dvs
section
variable (P : Program) (w : World) (K : PySem.W.Frag) (mg : Str → Option Value) (base : Heap) (C : Str → Addr) (k : Nat)
structure CalN (x : Str) (sg : List Sg) (S : DF) : Prop where
  ex : ∃ (f : Addr) (fd : FuncData) (ps : List Str), FnOk P w K mg base (L2N.CX P w) k f fd ps (spD ⟨K, C⟩ S) ∧ mg x = some (.ref f) ∧ PySem.W.keepIn K (.ref f) = true ∧ ∀ s ∈ sg, SgOk ⟨K, C⟩ fd ps 0 s
structure CalMN (c m : Str) (sg : List Sg) (S : DF) : Prop where
  ex : ∃ (f : Addr) (fd : FuncData) (ps : List Str), FnOk P w K mg base (L2N.CX P w) k f fd ps (spD ⟨K, C⟩ S) ∧ Meth K (C c) m f ∧ Cls K (C c) ∧ ∀ s ∈ sg, SgOk ⟨K, C⟩ fd ps 1 s
structure CalIN (c : Str) (sg : List Sg) (S : DI) : Prop where
  ex : ∃ (f : Addr) (fd : FuncData) (ps : List Str), FnOk P w K mg base (L2N.CX P w) k f fd ps (spI ⟨K, C⟩ c S) ∧ Mk K (C c) f ∧ mg c = some (.ref (C c)) ∧ ∀ s ∈ sg, SgOk ⟨K, C⟩ fd ps 1 s
structure CalISN (c : Str) (sg : List Sg) (S : DI) : Prop where
  ex : ∃ (f : Addr) (fd : FuncData) (ps : List Str), FnOk P w K mg base (L2N.CX P w) k f fd ps (spIS ⟨K, C⟩ c S) ∧ Mk K (C c) f ∧ mg c = some (.ref (C c)) ∧ ∀ s ∈ sg, SgOk ⟨K, C⟩ fd ps 1 s
end
section
variable {P : Program} {w : World} {K : PySem.W.Frag} {mg : Str → Option Value} {base : Heap} {C : Str → Addr} {j k : Nat} {sg : List Sg}
theorem CalN.mono {x : Str} {S : DF} (h : CalN P w K mg base C k x sg S) (i : k ≤ j) : CalN P w K mg base C j x sg S := let ⟨f, fd, ps, F, m, kp, b⟩ := h.ex; ⟨f, fd, ps, F.mono i, m, kp, b⟩
theorem CalMN.mono {c m : Str} {S : DF} (h : CalMN P w K mg base C k c m sg S) (i : k ≤ j) : CalMN P w K mg base C j c m sg S := let ⟨f, fd, ps, F, m, kp, b⟩ := h.ex; ⟨f, fd, ps, F.mono i, m, kp, b⟩
theorem CalIN.mono {c : Str} {S : DI} (h : CalIN P w K mg base C k c sg S) (i : k ≤ j) : CalIN P w K mg base C j c sg S := let ⟨f, fd, ps, F, m, kp, b⟩ := h.ex; ⟨f, fd, ps, F.mono i, m, kp, b⟩
theorem CalISN.mono {c : Str} {S : DI} (h : CalISN P w K mg base C k c sg S) (i : k ≤ j) : CalISN P w K mg base C j c sg S := let ⟨f, fd, ps, F, m, kp, b⟩ := h.ex; ⟨f, fd, ps, F.mono i, m, kp, b⟩
end
section
variable {Γ : Kx} {W : WX} {to : TE} {fo : DE} {ta tk : TA} {fa fk : DA} {s : Sg} {dvs : List V}
variable {te : TE} {fe : DE} {n : Nat}
end
section
variable (X : Cx) (C : Str → Addr) (W : WX)
end
section
variable {X : Cx} {C : Str → Addr} {W : WX} {k j n : Nat} {bl : Str → Bool} {a e : Expr} {es : List Expr} {fa fe : DE} {fr fk fs : DA} {pos p apos kpos : Pos} {x c m y : Str} {kws : List Keyword} {sg : List Sg} {s : Sg}
end
section
variable {K : PySem.W.Frag} {C : Str → Addr} {x qual : Str} {params : Arguments} {body : List Stmt} {scope : Scope} {dvs : List V} {kws : List (Str × V)} {f : Addr} {fd : FuncData} {ps : List Str}
end
section
variable {P : Program} {w : World} {K : PySem.W.Frag} {mg : Str → Option Value} {base : Heap} {C : Str → Addr} {bl : Str → Bool} {c m q x : Str} {params : Arguments} {body : List Stmt} {sc : Scope} {N ps : List Str} {dvs : List V} {kws : List (Str × V)} {f : Addr} {fd : FuncData} {k : Nat} {fs : DS} {sg : List Sg}
end
@[simp] theorem pkL_nil {α : Type} {us its ws : List α} : pkL [] us its ws = us := by simp [pkL]
end Dl
namespace Dl
open PySem PySem.Spec PyProof.Rows L2
end Dl
namespace Dl
open PySem PySem.Spec PyProof.Rows L2
theorem RpL.rep {Γ : Kx} {G : Hp} {R : Addr → Prop} {ds : List D} {vs : List V} (r : RpL Γ G R ds vs) : ∀ m : Nat, RpL Γ G R (List.replicate m ds).flatten (List.replicate m vs).flatten
  | 0 => RpL.nil
  | m + 1 => by
    rw [List.replicate_succ, List.replicate_succ, List.flatten_cons, List.flatten_cons]
    exact r.app (RpL.rep r m)
end Dl
namespace Dl
open PySem PySem.Spec PyProof.Rows L2
def gRepL (x y : D) (Q : D → Prop) : Prop := match x, y with
  | .lst ds, .int k => -(2 ^ 63) ≤ k ∧ k < 2 ^ 63 ∧ ds.length * k.toNat ≤ sizeLine ∧ Q (.lst (List.replicate k.toNat ds).flatten)
  | _, _ => False
theorem u2_repL {Γ : Kx} : U2 Γ rRep gRepL := fun G R H d e v u Qd Q gd r1 r2 g k => by
  unfold gRepL at g
  split at g
  · rename_i ds i
    obtain ⟨h1, h2, h3, q⟩ := g
    obtain ⟨a, vs, e1, ht, l1⟩ := r1.lst gd
    exact ⟨a, i, vs, e1, r2.int, ht, h1, h2, by rw [← l1.len]; exact h3, new_lst gd (l1.rep i.toNat) q k⟩
  · exact g.elim
theorem ce_repL {X : Cx} {C : Str → Addr} {W : WX} {a b : Expr} {fa fb : DE} {pos : Pos} (h : CQ X C W a fa) (h' : CQ X C W b fb) : CE X C W (.BinOp a .Mult b pos) (d2 gRepL fa fb) := let ⟨_, p, q⟩ := h; let ⟨_, p', q'⟩ := h'; ⟨_, pe_op op_rep p p', je_op u2_repL q q'⟩
end Dl
namespace K07
open PySem L2 Dl
def b__law_name_r1 (S__law_next : DF) : DS :=
  dRetV 4
def b__law_name_r2 (S__law_next : DF) : DS :=
  dSeq (dFor (iR1 (dCall S__law_next (dCons (dVar 0) (dCons (dC (.int 8)) dNil)))) 5
    (dSet 4 (d2 gAdd (dVar 4) (d2 gIx (dVar 3) (dCall S__law_next (dCons (dVar 0) (dCons (dC (.int 36)) dNil)))))))
  (dSeq (dIfS (dB (d2 (gIn false) (dVar 4) (dVar 1)))
    (dSet 4 (d2 gAdd (dVar 4) (dC (.str "0"))))
    dNext)
  (b__law_name_r1 S__law_next))
def b__law_name (S__law_next : DF) : DS :=
  dSeq (dSet 1 (dSplit (dC (.str "letters answers global proc local read write if then else while do call skip end and or not")) (dC (.str " "))))
  (dSeq (dSet 2 (dC (.str "abcdefghijklmnopqrstuvwxyz")))
  (dSeq (dSet 3 (d2 gAdd (dVar 2) (dC (.str "0123456789"))))
  (dSeq (dSet 4 (d2 gIx (dVar 2) (dCall S__law_next (dCons (dVar 0) (dCons (dC (.int 26)) dNil)))))
  (dSeq (dIfS (dB (d2 gEq (dCall S__law_next (dCons (dVar 0) (dCons (dC (.int 4)) dNil))) (dC (.int 0))))
    (dSet 4 (d2 gIx (dVar 1) (dCall S__law_next (dCons (dVar 0) (dCons (dC (.int 18)) dNil)))))
    dNext)
  (b__law_name_r2 S__law_next)))))
def b__law_atom (S__law_next : DF) : DS :=
  dSeq (dSet 2 (dCall S__law_next (dCons (dVar 0) (dCons (dC (.int 5)) dNil))))
  (dSeq (dIfS (dB (d2 gLt (dVar 2) (dC (.int 3))))
    (dRet (dTup (dCons (dC (.str "name")) (dCons (d2 gIx (dVar 1) (dCall S__law_next (dCons (dVar 0) (dCons (d1 gLen (dVar 1)) dNil)))) dNil))))
    dNext)
  (dRet (dTup (dCons (dC (.str "number")) (dCons (dCall S__law_next (dCons (dVar 0) (dCons (d2 gIx (dLst (dCons (dC (.int 10)) (dCons (dC (.int 10000)) dNil))) (d2 gMns (dVar 2) (dC (.int 3)))) dNil))) dNil)))))
def b__law_expression (S__law_next : DF) (S__law_atom : DF) (S__law_expression : DF) : DS :=
  dSeq (dSet 4 (dCall S__law_next (dCons (dVar 0) (dCons (dC (.int 9)) dNil))))
  (dSeq (dIfS (dOr (dB (d2 gEq (dVar 2) (dC (.int 0)))) (dB (d2 gLt (dVar 4) (dVar 3))))
    (dRet (dCall S__law_atom (dCons (dVar 0) (dCons (dVar 1) dNil))))
    dNext)
  (dSeq (dIfS (dB (d2 gEq (dVar 4) (dC (.int 8))))
    (dRet (dTup (dCons (dC (.str "not")) (dCons (dCall S__law_expression (dCons (dVar 0) (dCons (dVar 1) (dCons (d2 gMns (dVar 2) (dC (.int 1))) (dCons (dVar 3) dNil))))) dNil))))
    dNext)
  (dSeq (dSet 5 (d2 gIx (dLst (dCons (dC (.str "+")) (dCons (dC (.str "-")) (dCons (dC (.str "*")) (dCons (dC (.str "==")) (dCons (dC (.str "<")) (dCons (dC (.str "and")) (dCons (dC (.str "or")) dNil)))))))) (dCall S__law_next (dCons (dVar 0) (dCons (dC (.int 7)) dNil)))))
  (dSeq (dSet 6 (dCall S__law_expression (dCons (dVar 0) (dCons (dVar 1) (dCons (d2 gMns (dVar 2) (dC (.int 1))) (dCons (dVar 3) dNil))))))
  (dRet (dTup (dCons (dVar 5) (dCons (dVar 6) (dCons (dCall S__law_expression (dCons (dVar 0) (dCons (dVar 1) (dCons (d2 gMns (dVar 2) (dC (.int 1))) (dCons (dVar 3) dNil))))) dNil)))))))))
def b__law_chain_r1 (S__law_next : DF) (S__law_atom : DF) : DS :=
  dSeq (dSet 6 (d2 gIx (dVar 2) (dVar 3)))
    (dSet 4 (dTup (dCons (d2 gIx (dVar 6) (dCall S__law_next (dCons (dVar 0) (dCons (d1 gLen (dVar 6)) dNil)))) (dCons (dVar 4) (dCons (dCall S__law_atom (dCons (dVar 0) (dCons (dVar 1) dNil))) dNil)))))
def b__law_chain (S__law_next : DF) (S__law_atom : DF) : DS :=
  dSeq (dSet 2 (dLst (dCons (dLst (dCons (dC (.str "*")) dNil)) (dCons (dLst (dCons (dC (.str "+")) (dCons (dC (.str "-")) dNil))) (dCons (dLst (dCons (dC (.str "and")) dNil)) (dCons (dLst (dCons (dC (.str "or")) dNil)) dNil))))))
  (dSeq (dSet 3 (dCall S__law_next (dCons (dVar 0) (dCons (dC (.int 4)) dNil))))
  (dSeq (dSet 4 (dCall S__law_atom (dCons (dVar 0) (dCons (dVar 1) dNil))))
  (dSeq (dFor (iR1 (d2 gAdd (dC (.int 1)) (dCall S__law_next (dCons (dVar 0) (dCons (dC (.int 40)) dNil))))) 5
    (dSeq (dIfS (dAnd (dB (d2 gLt (dVar 3) (dC (.int 3)))) (dB (d2 gEq (dCall S__law_next (dCons (dVar 0) (dCons (dC (.int 12)) dNil))) (dC (.int 0)))))
      (dSet 3 (d2 gAdd (dVar 3) (dC (.int 1))))
      dNext)
    (b__law_chain_r1 S__law_next S__law_atom)))
  (dRetV 4))))
def b__law_level : DS :=
  dSeq (dSet 1 (dTmp (dDic [.inr "or", .inr "and", .inr "not", .inr "==", .inr "<", .inr "+", .inr "-", .inr "*", .inr "number", .inr "name"] (dCons (dLeaf (dC (.int 1))) (dCons (dLeaf (dC (.int 2))) (dCons (dLeaf (dC (.int 3))) (dCons (dLeaf (dC (.int 4))) (dCons (dLeaf (dC (.int 4))) (dCons (dLeaf (dC (.int 5))) (dCons (dLeaf (dC (.int 5))) (dCons (dLeaf (dC (.int 6))) (dCons (dLeaf (dC (.int 7))) (dCons (dLeaf (dC (.int 7))) dNil)))))))))))))
  (dRet (dKeyV (dVar 1) (d2 gIx (dVar 0) (dC (.int 0)))))
def b__law_least (S__law_level : DF) : DS :=
  dSeq (dIfS (dOr (dB (d2 gEq (dVar 1) (dC (.int 2)))) (dB (d2 (gIn false) (d2 gIx (dVar 0) (dC (.int 0))) (dLst (dCons (dC (.str "not")) (dCons (dC (.str "==")) (dCons (dC (.str "<")) dNil)))))))
    (dRet (d2 gAdd (dCall S__law_level (dCons (dVar 0) dNil)) (dC (.int 1))))
    dNext)
  (dRet (dCall S__law_level (dCons (dVar 0) dNil)))
def b__law_print_r1 (S__law_print : DF) (S__law_level : DF) (S__law_least : DF) : DS :=
  dApp 1 (dVar 3)
def b__law_print (S__law_print : DF) (S__law_level : DF) (S__law_least : DF) : DS :=
  dSeq (dIfS (dB (d2 gEq (d2 gIx (dVar 0) (dC (.int 0))) (dC (.str "number"))))
    (dRet (d1 gStr (d2 gIx (dVar 0) (dC (.int 1)))))
    dNext)
  (dSeq (dIfS (dB (d2 gEq (d2 gIx (dVar 0) (dC (.int 0))) (dC (.str "name"))))
    (dRet (d2 gIx (dVar 0) (dC (.int 1))))
    dNext)
  (dSeq (dSetN 1 dNil)
  (dSeq (dFor (iR2 (dC (.int 1)) (d1 gLen (dVar 0))) 2
    (dSeq (dSet 3 (dCall S__law_print (dCons (d2 gIx (dVar 0) (dVar 2)) dNil)))
    (dSeq (dIfS (dB (d2 gLt (dCall S__law_level (dCons (d2 gIx (dVar 0) (dVar 2)) dNil)) (dCall S__law_least (dCons (dVar 0) (dCons (dVar 2) dNil)))))
      (dSet 3 (d2 gAdd (d2 gAdd (dC (.str "(")) (dVar 3)) (dC (.str ")"))))
      dNext)
    (b__law_print_r1 S__law_print S__law_level S__law_least))))
  (dSeq (dIfS (dB (d2 gEq (d2 gIx (dVar 0) (dC (.int 0))) (dC (.str "not"))))
    (dRet (d2 gAdd (dC (.str "not ")) (d2 gIx (dVarQ 1) (dC (.int 0)))))
    dNext)
  (dRet (d2 gAdd (d2 gAdd (d2 gAdd (d2 gAdd (d2 gIx (dVarQ 1) (dC (.int 0))) (dC (.str " "))) (d2 gIx (dVar 0) (dC (.int 0)))) (dC (.str " "))) (d2 gIx (dVarQ 1) (dC (.int 1)))))))))
def b__law_need_r1 (S__law_level : DF) (S__law_need : DF) (S__law_least : DF) : DS :=
  dRetV 1
def b__law_need (S__law_level : DF) (S__law_need : DF) (S__law_least : DF) : DS :=
  dSeq (dSet 1 (dC (.int 0)))
  (dSeq (dIfS (dB (d2 gLt (dCall S__law_level (dCons (dVar 0) dNil)) (dC (.int 7))))
    (dFor (iR2 (dC (.int 1)) (d1 gLen (dVar 0))) 2
      (dSet 1 (d2 gMax (dVar 1) (d2 gAdd (dCall S__law_need (dCons (d2 gIx (dVar 0) (dVar 2)) dNil)) (d1 gInt (d2 gLt (dCall S__law_level (dCons (d2 gIx (dVar 0) (dVar 2)) dNil)) (dCall S__law_least (dCons (dVar 0) (dCons (dVar 2) dNil)))))))))
    dNext)
  (b__law_need_r1 S__law_level S__law_need S__law_least))
def b__law_full_r1 (S__law_need : DF) (S__law_next : DF) (S__law_level : DF) (S__law_least : DF) (S__law_full : DF) : DS :=
  dIfS (dB (d2 gLt (dCall S__law_level (dCons (d2 gIx (dVar 1) (dVar 7)) dNil)) (dCall S__law_least (dCons (dVar 1) (dCons (dVar 7) dNil)))))
        (dSetN 6 (n2 gCat (d2 gAdd (d2 gAdd (dVarQ 6) (dLst (dCons (dC (.str "(")) dNil))) (dCall S__law_full (dCons (dVar 0) (dCons (d2 gIx (dVar 1) (dVar 7)) (dCons (d2 gMns (d2 gMns (dVar 2) (dVar 5)) (dC (.int 1))) (dCons (dVar 3) dNil)))))) (dLst (dCons (dC (.str ")")) dNil))))
        (dSetN 6 (n2 gCat (dVarQ 6) (dCall S__law_full (dCons (dVar 0) (dCons (d2 gIx (dVar 1) (dVar 7)) (dCons (d2 gMns (dVar 2) (dVar 5)) (dCons (dVar 3) dNil)))))))
def b__law_full_r2 (S__law_need : DF) (S__law_next : DF) (S__law_level : DF) (S__law_least : DF) (S__law_full : DF) : DS :=
  dRet (d2 gAdd (d2 gAdd (d2 gRepL (dLst (dCons (dC (.str "(")) dNil)) (dVar 5)) (dVarQ 6)) (d2 gRepL (dLst (dCons (dC (.str ")")) dNil)) (dVar 5)))
def b__law_full_r3 (S__law_need : DF) (S__law_next : DF) (S__law_level : DF) (S__law_least : DF) (S__law_full : DF) : DS :=
  dSeq (dIfS (dB (d2 gLt (dCall S__law_level (dCons (dVar 1) dNil)) (dC (.int 7))))
    (dFor (iR2 (dC (.int 1)) (d1 gLen (dVar 1))) 7
      (dSeq (dIfS (dB (d2 gEq (dVar 7) (dC (.int 2))))
        (dApp 6 (d2 gIx (dVar 1) (dC (.int 0))))
        dNext)
      (b__law_full_r1 S__law_need S__law_next S__law_level S__law_least S__law_full)))
    dNext)
  (b__law_full_r2 S__law_need S__law_next S__law_level S__law_least S__law_full)
def b__law_full_r4 (S__law_need : DF) (S__law_next : DF) (S__law_level : DF) (S__law_least : DF) (S__law_full : DF) : DS :=
  dSeq (dIfS (dB (d2 gEq (d2 gIx (dVar 1) (dC (.int 0))) (dC (.str "not"))))
    (dSetN 6 (dCons (dC (.str "not")) dNil))
    dNext)
  (b__law_full_r3 S__law_need S__law_next S__law_level S__law_least S__law_full)
def b__law_full_r5 (S__law_need : DF) (S__law_next : DF) (S__law_level : DF) (S__law_least : DF) (S__law_full : DF) : DS :=
  dSeq (dIfS (dB (d2 gEq (d2 gIx (dVar 1) (dC (.int 0))) (dC (.str "name"))))
    (dSetN 6 (dCons (d2 gIx (dVar 1) (dC (.int 1))) dNil))
    dNext)
  (b__law_full_r4 S__law_need S__law_next S__law_level S__law_least S__law_full)
def b__law_full (S__law_need : DF) (S__law_next : DF) (S__law_level : DF) (S__law_least : DF) (S__law_full : DF) : DS :=
  dSeq (dSet 4 (d2 gMns (dVar 2) (dCall S__law_need (dCons (dVar 1) dNil))))
  (dSeq (dSet 5 (dMin3 (dVar 4) (dVar 3) (d2 gIx (dLst (dCons (dC (.int 0)) (dCons (dC (.int 0)) (dCons (dC (.int 1)) (dCons (dC (.int 2)) (dCons (dVar 4) dNil)))))) (dCall S__law_next (dCons (dVar 0) (dCons (dC (.int 5)) dNil))))))
  (dSeq (dSetN 6 dNil)
  (dSeq (dIfS (dB (d2 gEq (d2 gIx (dVar 1) (dC (.int 0))) (dC (.str "number"))))
    (dSetN 6 (dCons (d1 gStr (d2 gIx (dVar 1) (dC (.int 1)))) dNil))
    dNext)
  (b__law_full_r5 S__law_need S__law_next S__law_level S__law_least S__law_full))))
def b__law_text_r1 (S__law_next : DF) : DS :=
  dSeq (dSet 4 (d2 gAdd (d2 gAdd (dVar 4) (dVar 7)) (dVar 6)))
    (dSet 5 (dVar 6))
def b__law_text (S__law_next : DF) : DS :=
  dSeq (dSet 2 (dC (.str "abcdefghijklmnopqrstuvwxyz")))
  (dSeq (dSet 3 (dLst (dCons (dC (.str "")) (dCons (dC (.str "")) (dCons (dC (.str " ")) (dCons (dC (.str "\n")) (dCons (dC (.str "  ")) (dCons (dC (.str " \n ")) dNil))))))))
  (dSeq (dSet 4 (d2 gIx (dVar 3) (dCall S__law_next (dCons (dVar 0) (dCons (dC (.int 6)) dNil)))))
  (dSeq (dSet 5 (dC (.str "(")))
  (dSeq (dFor (iIt (dVar 1)) 6
    (dSeq (dSet 7 (d2 gIx (dVar 3) (dCall S__law_next (dCons (dVar 0) (dCons (dC (.int 6)) dNil)))))
    (dSeq (dIfS (dAnd (dB (d2 (gIn false) (d2 gIx (dVar 5) (dC (.int 0))) (dVar 2))) (dAnd (dB (d2 (gIn false) (d2 gIx (dVar 6) (dC (.int 0))) (d2 gAdd (dVar 2) (dC (.str "0123456789"))))) (dB (d2 gEq (dVar 7) (dC (.str ""))))))
      (dSet 7 (d2 gIx (dLst (dCons (dC (.str " ")) (dCons (dC (.str "\n")) dNil))) (dCall S__law_next (dCons (dVar 0) (dCons (dC (.int 2)) dNil)))))
      dNext)
    (b__law_text_r1 S__law_next))))
  (dRet (d2 gAdd (dVar 4) (d2 gIx (dVar 3) (dCall S__law_next (dCons (dVar 0) (dCons (dC (.int 6)) dNil))))))))))
def b__law_same (S__law_same : DF) : DS :=
  dSeq (dIfS (dB (d1 (gIsi "tuple") (dVar 1)))
    (dSeq (dIfS (dOr (dNot (dB (d1 (gIsi "tuple") (dVar 0)))) (dB (d2 gNe (d1 gLen (dVar 0)) (d1 gLen (dVar 1)))))
      (dRet (dC (.bl false)))
      dNext)
    (dRet (d1 gAll (dLst (dLc (iR1 (d1 gLen (dVar 1))) 2 dYes (dCall S__law_same (dCons (d2 gIx (dVar 0) (dVar 2)) (dCons (d2 gIx (dVar 1) (dVar 2)) dNil))))))))
    dNext)
  (dSeq (dIfS (dB (d1 (gIsi "str") (dVar 1)))
    (dRet (dAndV (dB (d1 (gIsi "str") (dVar 0))) (d2 gEq (dVar 0) (dVar 1))))
    dNext)
  (dRet (dAndV (dB (d1 (gIsi "int") (dVar 0))) (dAndV (dB (dNotV (dB (d1 (gIsi "bool") (dVar 0))))) (d2 gEq (dVar 0) (dVar 1))))))
def b__law_kept (S_print_expression : DF) (S__law_same : DF) (S_parse_expression : DF) : DS :=
  dSeq (dSet 3 (dCall S_print_expression (dCons (dVar 0) dNil)))
  (dSeq (dIfS (dOr (dNot (dB (d1 (gIsi "str") (dVar 3)))) (dB (d2 gNe (dVar 3) (dVar 1))))
    (dRet (dC (.bl false)))
    dNext)
  (dSeq (dFor (iIt (dLst (dCons (dVar 2) (dCons (dVar 1) (dCons (dVar 2) dNil))))) 4
    (dIfS (dNot (dTru (dCall S__law_same (dCons (dCall S_parse_expression (dCons (dVar 4) dNil)) (dCons (dVar 0) dNil)))))
      (dRet (dC (.bl false)))
      dNext))
  (dRet (d2 gEq (dCall S_print_expression (dCons (dCall S_parse_expression (dCons (dVar 2) dNil)) dNil)) (dVar 1)))))
def b__law_needed (S__law_next : DF) (S__law_same : DF) (S_parse_expression : DF) : DS :=
  dSeq (dSet 3 (dLst (dLc (iR1 (d1 gLen (dVar 2))) 4 (dB (d2 gEq (d2 gIx (dVar 2) (dVar 4)) (dC (.str "(")))) (dVar 4))))
  (dSeq (dIfS (dB (d2 gEq (d1 gLen (dVar 3)) (dC (.int 0))))
    (dRet (dC (.bl true)))
    dNext)
  (dSeq (dSet 5 (d2 gIx (dVar 3) (dCall S__law_next (dCons (dVar 0) (dCons (d1 gLen (dVar 3)) dNil)))))
  (dSeq (dSet 6 (dC (.int 0)))
  (dSeq (dSet 7 (dVar 5))
  (dSeq (dFor (iR2 (dVar 5) (d1 gLen (dVar 2))) 4
    (dSeq (dSet 6 (d2 gMns (d2 gAdd (dVar 6) (d1 gInt (d2 gEq (d2 gIx (dVar 2) (dVar 4)) (dC (.str "("))))) (d1 gInt (d2 gEq (d2 gIx (dVar 2) (dVar 4)) (dC (.str ")"))))))
    (dIfS (dB (d2 gEq (dVar 6) (dC (.int 0))))
      (dSeq (dSet 7 (dVar 4))
      dBreak)
      dNext)))
  (dTryN ["InvalidText"]
    (dRet (dNotV (dB (dCall S__law_same (dCons (dCall S_parse_expression (dCons (d2 gAdd (d2 gAdd (dSl (dVar 2) oNo (oSome (dVar 5))) (dSl (dVar 2) (oSome (d2 gAdd (dVar 5) (dC (.int 1)))) (oSome (dVar 7)))) (dSl (dVar 2) (oSome (d2 gAdd (dVar 7) (dC (.int 1)))) oNo)) dNil)) (dCons (dVar 1) dNil))))))
    (fun ea1 ed1 ec1 ef1 => dRet (dC (.bl true)))))))))
def b_law_r1 (S__law_reader : DF) (S__law_cell : DF) (S__law_next : DF) (S__law_name : DF) (S__law_expression : DF) (S__law_chain : DF) (S__law_print : DF) (S__law_text : DF) (S__law_full : DF) (S__law_kept : DF) (S__law_needed : DF) : DS :=
  dSeq (dSet 8 (dCall S__law_reader (dCons (dCall S__law_cell (dCons (dVar 0) (dCons (d2 gAdd (d2 gMul (dC (.int 2)) (dVar 2)) (dC (.int 1))) dNil))) dNil)))
    (dApp 1 (dTup (dCons (dVar 7) (dCons (dCall S__law_print (dCons (dVar 7) dNil)) (dCons (dCall S__law_text (dCons (dVar 8) (dCons (dCall S__law_full (dCons (dVar 8) (dCons (dVar 7) (dCons (dC (.int 10)) (dCons (dVar 6) dNil))))) dNil))) dNil)))))
def b_law (S__law_reader : DF) (S__law_cell : DF) (S__law_next : DF) (S__law_name : DF) (S__law_expression : DF) (S__law_chain : DF) (S__law_print : DF) (S__law_text : DF) (S__law_full : DF) (S__law_kept : DF) (S__law_needed : DF) : DS :=
  dSeq (dSetN 1 dNil)
  (dSeq (dFor (iR1 (dC (.int 2))) 2
    (dSeq (dSet 3 (dCall S__law_reader (dCons (dCall S__law_cell (dCons (dVar 0) (dCons (d2 gMul (dC (.int 2)) (dVar 2)) dNil))) dNil)))
    (dSeq (dSet 4 (dLst (dLc (iR1 (d2 gAdd (dC (.int 1)) (dCall S__law_next (dCons (dVar 3) (dCons (dC (.int 4)) dNil))))) 5 dYes (dCall S__law_name (dCons (dVar 3) dNil)))))
    (dSeq (dSet 6 (dC (.int 10)))
    (dSeq (dSet 7 (dCall S__law_expression (dCons (dVar 3) (dCons (dVar 4) (dCons (dCall S__law_next (dCons (dVar 3) (dCons (dC (.int 5)) dNil))) (dCons (dCall S__law_next (dCons (dVar 3) (dCons (dC (.int 5)) dNil))) dNil))))))
    (dSeq (dIfS (dB (d2 gEq (dCall S__law_next (dCons (dVar 3) (dCons (dC (.int 4)) dNil))) (dC (.int 0))))
      (dSeq (dSet 7 (dCall S__law_chain (dCons (dVar 3) (dCons (dVar 4) dNil))))
      (dSet 6 (dC (.int 1))))
      dNext)
    (b_law_r1 S__law_reader S__law_cell S__law_next S__law_name S__law_expression S__law_chain S__law_print S__law_text S__law_full S__law_kept S__law_needed)))))))
  (dSeq (dFor (iIt (dLst (dCons (dC (.int 0)) (dCons (dC (.int 1)) (dCons (dC (.int 0)) dNil))))) 2
    (dIfS (dNot (dTru (dCall S__law_kept (dCons (d2 gIx (d2 gIx (dVarQ 1) (dVar 2)) (dC (.int 0))) (dCons (d2 gIx (d2 gIx (dVarQ 1) (dVar 2)) (dC (.int 1))) (dCons (d2 gIx (d2 gIx (dVarQ 1) (dVar 2)) (dC (.int 2))) dNil))))))
      (dRet (dC (.bl false)))
      dNext))
  (dRet (dCall S__law_needed (dCons (dCall S__law_reader (dCons (dCall S__law_cell (dCons (dVar 0) (dCons (dC (.int 4)) dNil))) dNil)) (dCons (d2 gIx (d2 gIx (dVarQ 1) (dC (.int 0))) (dC (.int 0))) (dCons (d2 gIx (d2 gIx (dVarQ 1) (dC (.int 0))) (dC (.int 1))) dNil)))))))
end K07
namespace Par
open PySem L2 Dl Expr
structure Tok where
  kind : Str
  word : Str
  pos : Int
inductive Rs (α : Type) where
  | ok (a : α) (i o : Nat)
  | bad (q : Int)
def Rs.then {α β : Type} (r : Rs α) (f : α → Nat → Nat → Rs β) : Rs β := match r with
  | .ok a i o => f a i o
  | .bad q => .bad q
section
variable (ts : List Tok)
def tk (i : Nat) : Tok := (ts[i]?).getD ⟨"end", "", 0⟩
def keywords : List Str := ["letters", "answers", "global", "proc", "local", "read", "write", "if", "then", "else", "while", "do", "call", "skip", "end", "and", "or", "not"]
def isNm (t : Tok) : Bool := decide (t.kind = "word") && !decide (t.word ∈ keywords)
def takeW (w : Str) (i o : Nat) : Rs Unit := if (tk ts i).word = w then .ok () (i + 1) o else .bad (tk ts i).pos
def opT (i o : Nat) : Rs Str := if o = 40 then .bad (tk ts i).pos else .ok (tk ts i).word (i + 1) (o + 1)
def loop (next : Nat → Nat → Rs Ex) (ok : Str → Bool) : Nat → Ex → Nat → Nat → Rs Ex
  | 0, left, i, o => if ok (tk ts i).word then .bad (tk ts i).pos else .ok left i o
  | n + 1, left, i, o => if ok (tk ts i).word then (opT ts i o).then fun s i o => (next i o).then fun e i o => loop next ok n (.bin s left e) i o else .ok left i o
def numW (w : Str) : Int := (PySem.intText? w).getD 0
def pAtom (E : Nat → Nat → Nat → Rs Ex) (p i o : Nat) : Rs Ex :=
  if (tk ts i).kind = "number" then .ok (.num (numW (tk ts i).word)) (i + 1) o
  else if (tk ts i).word = "(" then
    (if p = 10 then .bad (tk ts i).pos else (E (p + 1) (i + 1) o).then fun e i o => (takeW ts ")" i o).then fun _ i o => .ok e i o)
  else if isNm (tk ts i) then .ok (.nam (tk ts i).word) (i + 1) o else .bad (tk ts i).pos
def pProd (E : Nat → Nat → Nat → Rs Ex) (p i o : Nat) : Rs Ex := (pAtom ts E p i o).then fun e i o => loop ts (fun i o => pAtom ts E p i o) (fun w => w == "*") (40 - o) e i o
def pSum (E : Nat → Nat → Nat → Rs Ex) (p i o : Nat) : Rs Ex := (pProd ts E p i o).then fun e i o => loop ts (fun i o => pProd ts E p i o) (fun w => w == "+" || w == "-") (40 - o) e i o
def pCmp (E : Nat → Nat → Nat → Rs Ex) (p i o : Nat) : Rs Ex := (pSum ts E p i o).then fun e i o =>
  if (tk ts i).word = "==" ∨ (tk ts i).word = "<" then (opT ts i o).then fun s i o => (pSum ts E p i o).then fun e2 i o => .ok (.bin s e e2) i o else .ok e i o
def pPlain (E : Nat → Nat → Nat → Rs Ex) (p i o : Nat) : Rs Ex :=
  if (tk ts i).word = "not" then (opT ts i o).then fun _ i o => (pCmp ts E p i o).then fun e i o => .ok (.no e) i o else pCmp ts E p i o
def pEach (E : Nat → Nat → Nat → Rs Ex) (p i o : Nat) : Rs Ex := (pPlain ts E p i o).then fun e i o => loop ts (fun i o => pPlain ts E p i o) (fun w => w == "and") (40 - o) e i o
def pEith (E : Nat → Nat → Nat → Rs Ex) (p i o : Nat) : Rs Ex := (pEach ts E p i o).then fun e i o => loop ts (fun i o => pEach ts E p i o) (fun w => w == "or") (40 - o) e i o
def pE : Nat → Nat → Nat → Nat → Rs Ex
  | 0 => fun _ _ _ => .bad 0
  | d + 1 => pEith ts (pE d)
end
end Par
namespace Dl
open PySem L2
theorem any_strs (ys : List Str) (a : Str) : ((ys.map D.str).any fun z => deq z (.str a)) = decide (a ∈ ys) := by
  induction ys with
  | nil => rfl
  | cons b l ih =>
    rw [List.map_cons, List.any_cons, ih, deq_str]
    by_cases h1 : b = a
    · subst h1; simp
    · have h2 : ¬ a = b := fun e => h1 e.symm
      simp [h1, h2]
theorem eo_strsT {ys : List Str} (hy : ∀ y ∈ ys, lays y = true) : Eo 1 (.tup (ys.map D.str)) := eo_tup fun d hd => by
  obtain ⟨y, h1, rfl⟩ := List.mem_map.mp hd
  exact eo_str 0 y (hy y h1)
theorem eo_strsL {ys : List Str} (hy : ∀ y ∈ ys, lays y = true) : Eo 1 (.lst (ys.map D.str)) := eo_lst fun d hd => by
  obtain ⟨y, h1, rfl⟩ := List.mem_map.mp hd
  exact eo_str 0 y (hy y h1)
theorem gIn_strT (neg : Bool) {a : Str} {ys : List Str} (ha : lays a = true) (hy : ∀ y ∈ ys, lays y = true) (Q : D → Prop) : gIn neg (.str a) (.tup (ys.map D.str)) Q = Q (.bl (if neg then !decide (a ∈ ys) else decide (a ∈ ys))) := propext ⟨fun h => by
  have := h.2.2
  rwa [any_strs] at this, fun h => ⟨(eo_str 0 a ha).ok, (eo_strsT hy).ok, by rwa [any_strs]⟩⟩
theorem gIn_strLs (neg : Bool) {a : Str} {ys : List Str} (ha : lays a = true) (hy : ∀ y ∈ ys, lays y = true) (Q : D → Prop) : gIn neg (.str a) (.lst (ys.map D.str)) Q = Q (.bl (if neg then !decide (a ∈ ys) else decide (a ∈ ys))) := propext ⟨fun h => by
  have := h.2.2
  rwa [any_strs] at this, fun h => ⟨(eo_str 0 a ha).ok, (eo_strsL hy).ok, by rwa [any_strs]⟩⟩
end Dl
namespace Par
open PySem L2 Dl
open _root_.Expr hiding lays
def tokD (t : Tok) : D := .tup [.str t.kind, .str t.word, .int t.pos]
def rdD (ts : List Tok) (i : Nat) : D := .obj "Reader" [(.inr "tokens", .fr (.lst (ts.map tokD))), (.inr "at", .int i)]
def msD (p o : Nat) : D := .obj "Measure" [(.inr "parentheses", .int p), (.inr "operators", .int o)]
structure TsOk (ts : List Tok) : Prop where
  ne : 0 < ts.length
  lay : ∀ t ∈ ts, lays t.kind = true ∧ lays t.word = true
  num : ∀ t ∈ ts, t.kind = "number" → ∃ n, PySem.intText? t.word = some n ∧ t.word.length ≤ 640
  last : ∀ t, ts[ts.length - 1]? = some t → t.word = "" ∧ (t.kind = "end" ∨ t.kind = "fault")
section
variable {ts : List Tok} {i : Nat}
theorem tk_at (h : i < ts.length) : ts[i]? = some (tk ts i) := by
  unfold tk
  rw [List.getElem?_eq_getElem h]
  rfl
theorem tk_mem (h : i < ts.length) : tk ts i ∈ ts := List.mem_of_getElem? (tk_at h)
theorem TsOk.more (k : TsOk ts) (h : i < ts.length) (e : (tk ts i).word ≠ "" ∨ (tk ts i).kind = "number") : i + 1 < ts.length := by
  by_cases z : i + 1 = ts.length
  · obtain ⟨h1, h2⟩ := k.last (tk ts i) (by rw [show ts.length - 1 = i by omega]; exact tk_at h)
    rcases e with e | e
    · exact absurd h1 e
    · rw [e] at h2
      rcases h2 with h2 | h2 <;> exact absurd h2 (by decide)
  · omega
end
section
variable {ts : List Tok} {i p o j : Nat} {v : V} {as : List Addr} {ρ : En} {xq : XQ} {Q : D → Prop}
theorem fr_tokens (h : ρ[j]? = some (.ow v as (rdD ts i))) : dRdP (dPFld (dP0 j) ["Reader"] "tokens") xq ρ Q = Q (.lst (ts.map tokD)) := by
  unfold dRdP dPFld dP0
  rw [h]
  exact propext ⟨fun ⟨_, _, q⟩ => q, fun q => ⟨List.mem_cons_self .., rfl, q⟩⟩
theorem fr_at (h : ρ[j]? = some (.ow v as (rdD ts i))) : dRdP (dPFld (dP0 j) ["Reader"] "at") xq ρ Q = Q (.int i) := by
  unfold dRdP dPFld dP0
  rw [h]
  exact propext ⟨fun ⟨_, _, _, q⟩ => q, fun q => ⟨List.mem_cons_self .., rfl, rfl, q⟩⟩
theorem fr_par (h : ρ[j]? = some (.ow v as (msD p o))) : dRdP (dPFld (dP0 j) ["Measure"] "parentheses") xq ρ Q = Q (.int p) := by
  unfold dRdP dPFld dP0
  rw [h]
  exact propext ⟨fun ⟨_, _, _, q⟩ => q, fun q => ⟨List.mem_cons_self .., rfl, rfl, q⟩⟩
theorem fr_ops (h : ρ[j]? = some (.ow v as (msD p o))) : dRdP (dPFld (dP0 j) ["Measure"] "operators") xq ρ Q = Q (.int o) := by
  unfold dRdP dPFld dP0
  rw [h]
  exact propext ⟨fun ⟨_, _, _, q⟩ => q, fun q => ⟨List.mem_cons_self .., rfl, rfl, q⟩⟩
theorem to_at {kk : DK} {fo : DE} {m : Nat} (h : ρ[j]? = some (.ow v as (rdD ts i))) (q : fo (kk.xq ρ) ρ fun x => x = .int m ∧ ∀ as', kk.nx (ρ.set j (.ow v as' (rdD ts m)))) (mono : ∀ {A B : D → Prop}, (∀ d, A d → B d) → fo (kk.xq ρ) ρ A → fo (kk.xq ρ) ρ B) : dPutFld (dP0 j) ["Reader"] "at" fo kk ρ := by
  unfold dPutFld dP0
  rw [h]
  refine mono (fun x ⟨e, z⟩ => ?_) q
  subst e
  refine ⟨List.mem_cons_self .., rfl, rfl, (by show 2 < 1000; omega), ?_⟩
  unfold putS
  rw [h]
  exact z
end
def S_Reader_peek : DFO := fun ads Q _ => ∃ (ts : List Tok) (i : Nat), ads = [.o (rdD ts i)] ∧ TsOk ts ∧ i < ts.length ∧ Q (.d (.str (tk ts i).word)) [.o (rdD ts i)]
theorem tokAt {ts : List Tok} {i : Nat} {Q : D → Prop} (h : i < ts.length) : gIx (.lst (ts.map tokD)) (.int i) Q = Q (tokD (tk ts i)) :=
  gIx_lst (atI_nat (show (ts.map tokD)[i]? = some (tokD (tk ts i)) by rw [List.getElem?_map, tk_at h]; rfl)) Q
theorem p_Reader_peek : ∀ ads vs ass Qd Xq, S_Reader_peek ads Qd Xq → vs.length = ads.length → ass.length = ads.length → b_Reader_peek (kO ads vs Qd Xq) (startO 1 ads vs ass) := by
  rintro _ vs ass Qd Xq ⟨ts, i, rfl, ok, hi, q⟩ hv ha
  obtain ⟨v, rfl⟩ := List.length_eq_one_iff.mp hv
  obtain ⟨as, rfl⟩ := List.length_eq_one_iff.mp ha
  show b_Reader_peek _ [.ow v as (rdD ts i)]
  unfold b_Reader_peek
  simp only [dRet, d2, dC]
  rw [fr_tokens rfl, fr_at rfl, tokAt hi]
  exact ⟨as, _, rfl, q⟩
def S_Reader_where : DFO := fun ads Q _ => ∃ (ts : List Tok) (i : Nat), ads = [.o (rdD ts i)] ∧ TsOk ts ∧ i < ts.length ∧ Q (.d (.int (tk ts i).pos)) [.o (rdD ts i)]
theorem p_Reader_where : ∀ ads vs ass Qd Xq, S_Reader_where ads Qd Xq → vs.length = ads.length → ass.length = ads.length → b_Reader_where (kO ads vs Qd Xq) (startO 1 ads vs ass) := by
  rintro _ vs ass Qd Xq ⟨ts, i, rfl, ok, hi, q⟩ hv ha
  obtain ⟨v, rfl⟩ := List.length_eq_one_iff.mp hv
  obtain ⟨as, rfl⟩ := List.length_eq_one_iff.mp ha
  show b_Reader_where _ [.ow v as (rdD ts i)]
  unfold b_Reader_where
  simp only [dRet, d2, dC]
  rw [fr_tokens rfl, fr_at rfl, tokAt hi]
  exact ⟨as, _, rfl, q⟩
abbrev Flt (Xq : XQ) (ts : List Tok) (i : Nat) : Prop := Xq "InvalidText" [("position", .int (tk ts i).pos)]
def S_Reader_fault : DFO := fun ads _ Xq => ∃ (ts : List Tok) (i : Nat), ads = [.o (rdD ts i)] ∧ TsOk ts ∧ i < ts.length ∧ Flt Xq ts i
theorem p_Reader_fault : ∀ ads vs ass Qd Xq, S_Reader_fault ads Qd Xq → vs.length = ads.length → ass.length = ads.length → b_Reader_fault (kO ads vs Qd Xq) (startO 1 ads vs ass) := by
  rintro _ vs ass Qd Xq ⟨ts, i, rfl, ok, hi, q⟩ hv ha
  obtain ⟨v, rfl⟩ := List.length_eq_one_iff.mp hv
  obtain ⟨as, rfl⟩ := List.length_eq_one_iff.mp ha
  show b_Reader_fault _ [.ow v as (rdD ts i)]
  unfold b_Reader_fault
  simp only [dRaise1, d2, dC]
  rw [fr_tokens rfl, fr_at rfl, tokAt hi]
  exact q
section
variable {ts : List Tok} {i j : Nat} {v : V} {as : List Addr} {ρ : En} {xq : XF} {Q : D → En → Prop}
theorem me_peek (h : ρ[j]? = some (.ow v as (rdD ts i))) (ok : TsOk ts) (hi : i < ts.length) (q : ∀ as', Q (.str (tk ts i).word) (ρ.set j (.ow v as' (rdD ts i)))) : yMeth "Reader" "peek" j S_Reader_peek wNil xq ρ Q := by
  refine ⟨⟨v, as, _, h, rfl, rfl⟩, ⟨v, as, _, h⟩, ?_⟩
  show (ownI [WA.v j]).Nodup ∧ _
  refine ⟨by simp [ownI], ts, i, ?_, ok, hi, _, rfl, ?_⟩
  · unfold adsW
    rw [h]
    rfl
  · unfold putW
    rw [h]
    exact ⟨_, rfl, fun as' => q as'⟩
theorem me_fault (h : ρ[j]? = some (.ow v as (rdD ts i))) (ok : TsOk ts) (hi : i < ts.length) (q : Flt (xq (ρ.set j .un)) ts i) : yMeth "Reader" "fault" j S_Reader_fault wNil xq ρ Q := by
  refine ⟨⟨v, as, _, h, rfl, rfl⟩, ⟨v, as, _, h⟩, ?_⟩
  show (ownI [WA.v j]).Nodup ∧ _
  refine ⟨by simp [ownI], ts, i, ?_, ok, hi, q⟩
  unfold adsW
  rw [h]
  rfl
end
theorem TsOk.layW {ts : List Tok} {i : Nat} (ok : TsOk ts) (hi : i < ts.length) : lays (tk ts i).word = true := (ok.lay _ (tk_mem hi)).2
theorem TsOk.layK {ts : List Tok} {i : Nat} (ok : TsOk ts) (hi : i < ts.length) : lays (tk ts i).kind = true := (ok.lay _ (tk_mem hi)).1
def S_Reader_take : DFO := fun ads Q Xq => ∃ (ts : List Tok) (i : Nat) (w : Str), ads = [.o (rdD ts i), .d (.str w)] ∧ TsOk ts ∧ i < ts.length ∧ lays w = true ∧
  (if (tk ts i).word = w then Q (.d .non) [.o (rdD ts (i + 1)), .d (.str w)] else Flt Xq ts i)
theorem two {α : Type} {l : List α} (h : l.length = 2) : ∃ a b, l = [a, b] := by
  match l, h with
  | [a, b], _ => exact ⟨a, b, rfl⟩
theorem p_Reader_take : ∀ ads vs ass Qd Xq, S_Reader_take ads Qd Xq → vs.length = ads.length → ass.length = ads.length → b_Reader_take S_Reader_peek S_Reader_fault (kO ads vs Qd Xq) (startO 2 ads vs ass) := by
  rintro _ vs ass Qd Xq ⟨ts, i, w, rfl, ok, hi, lw, q⟩ hv ha
  obtain ⟨v, v2, rfl⟩ := two hv
  obtain ⟨as, as2, rfl⟩ := two ha
  show b_Reader_take _ _ _ [.ow v as (rdD ts i), .fz (.str w)]
  unfold b_Reader_take
  refine me_peek (ts := ts) (i := i) (v := v) (as := as) rfl ok hi fun as1 => ?_
  show yE (dVar 1) _ [.ow v as1 (rdD ts i), .fz (.str w)] _
  simp only [yE, dVar, List.getElem?_cons_succ, List.getElem?_cons_zero]
  rw [gNe_strL _ _ _ (ok.layW hi) lw]
  by_cases e : (tk ts i).word = w
  · rw [if_pos e] at q
    rw [decide_eq_true e]
    show b_Reader_take_r1 S_Reader_peek S_Reader_fault _ [.ow v as1 (rdD ts i), .fz (.str w)]
    unfold b_Reader_take_r1
    refine to_at (ts := ts) (i := i) (m := i + 1) rfl ?_ ?_
    · simp only [dLeaf, d2, dC]
      rw [fr_at rfl]
      exact ⟨rfl, rfl, fun as3 => ⟨as3, _, rfl, q⟩⟩
    · intro A B h z
      simp only [dLeaf, d2, dC] at z ⊢
      rw [fr_at rfl] at z ⊢
      exact ⟨z.1, h _ z.2⟩
  · rw [if_neg e] at q
    rw [decide_eq_false e]
    simp only [Bool.not_false, if_true]
    show yMeth _ _ _ _ _ _ _ _
    exact me_fault (ts := ts) (i := i) rfl ok hi q
section
variable {ts : List Tok} {i j : Nat} {v : V} {as : List Addr} {ρ : En} {xq : XF} {Q : D → En → Prop} {w : Str} {fe : DE}
theorem me_take (h : ρ[j]? = some (.ow v as (rdD ts i))) (ok : TsOk ts) (hi : i < ts.length) (lw : lays w = true) (he : ∀ A : D → Prop, A (.str w) → fe (xq ρ) ρ A)
    (q : if (tk ts i).word = w then ∀ as', Q .non (ρ.set j (.ow v as' (rdD ts (i + 1)))) else Flt (xq (ρ.set j .un)) ts i) : yMeth "Reader" "take" j S_Reader_take (wE fe wNil) xq ρ Q := by
  refine ⟨⟨v, as, _, h, rfl, rfl⟩, ⟨v, as, _, h⟩, ?_⟩
  refine he _ ?_
  show (ownI [WA.v j, WA.d (.str w)]).Nodup ∧ _
  refine ⟨by simp [ownI], ts, i, w, ?_, ok, hi, lw, ?_⟩
  · unfold adsW
    rw [h]
    rfl
  · by_cases e : (tk ts i).word = w
    · rw [if_pos e] at q ⊢
      refine ⟨_, rfl, ?_⟩
      unfold putW
      rw [h]
      exact ⟨_, rfl, fun as' => q as'⟩
    · rw [if_neg e] at q ⊢
      exact q
end
def S_Reader_sees_number : DFO := fun ads Q _ => ∃ (ts : List Tok) (i : Nat), ads = [.o (rdD ts i)] ∧ TsOk ts ∧ i < ts.length ∧ Q (.d (.bl (decide ((tk ts i).kind = "number")))) [.o (rdD ts i)]
theorem p_Reader_sees_number : ∀ ads vs ass Qd Xq, S_Reader_sees_number ads Qd Xq → vs.length = ads.length → ass.length = ads.length → b_Reader_sees_number (kO ads vs Qd Xq) (startO 1 ads vs ass) := by
  rintro _ vs ass Qd Xq ⟨ts, i, rfl, ok, hi, q⟩ hv ha
  obtain ⟨v, rfl⟩ := List.length_eq_one_iff.mp hv
  obtain ⟨as, rfl⟩ := List.length_eq_one_iff.mp ha
  show b_Reader_sees_number _ [.ow v as (rdD ts i)]
  unfold b_Reader_sees_number
  simp only [dRet, d2, dC]
  rw [fr_tokens rfl, fr_at rfl, tokAt hi]
  unfold tokD
  rw [gIx_tup0, gEq_strL _ _ _ (ok.layK hi) (by decide +kernel)]
  exact ⟨as, _, rfl, q⟩
def S_Reader_take_end : DFO := fun ads Q Xq => ∃ (ts : List Tok) (i : Nat), ads = [.o (rdD ts i)] ∧ TsOk ts ∧ i < ts.length ∧ (if (tk ts i).kind = "end" then Q (.d .non) [.o (rdD ts i)] else Flt Xq ts i)
theorem p_Reader_take_end : ∀ ads vs ass Qd Xq, S_Reader_take_end ads Qd Xq → vs.length = ads.length → ass.length = ads.length → b_Reader_take_end S_Reader_fault (kO ads vs Qd Xq) (startO 1 ads vs ass) := by
  rintro _ vs ass Qd Xq ⟨ts, i, rfl, ok, hi, q⟩ hv ha
  obtain ⟨v, rfl⟩ := List.length_eq_one_iff.mp hv
  obtain ⟨as, rfl⟩ := List.length_eq_one_iff.mp ha
  show b_Reader_take_end _ _ [.ow v as (rdD ts i)]
  unfold b_Reader_take_end
  simp only [dIfS, dB, d2, dC]
  rw [fr_tokens rfl, fr_at rfl, tokAt hi]
  unfold tokD
  rw [gIx_tup0, gNe_strL _ _ _ (ok.layK hi) (by decide +kernel)]
  by_cases e : (tk ts i).kind = "end"
  · rw [if_pos e] at q
    rw [decide_eq_true e]
    simp only [Bool.not_true, Bool.false_eq_true, if_false]
    exact ⟨as, _, rfl, q⟩
  · rw [if_neg e] at q
    rw [decide_eq_false e]
    simp only [Bool.not_false, if_true]
    show yMeth _ _ _ _ _ _ _ _
    exact me_fault (ts := ts) (i := i) rfl ok hi q
section
variable {ts : List Tok} {i j : Nat} {v : V} {as : List Addr} {ρ : En} {xq : XF} {Q : D → En → Prop}
theorem me_sees_number (h : ρ[j]? = some (.ow v as (rdD ts i))) (ok : TsOk ts) (hi : i < ts.length) (q : ∀ as', Q (.bl (decide ((tk ts i).kind = "number"))) (ρ.set j (.ow v as' (rdD ts i)))) : yMeth "Reader" "sees_number" j S_Reader_sees_number wNil xq ρ Q := by
  refine ⟨⟨v, as, _, h, rfl, rfl⟩, ⟨v, as, _, h⟩, ?_⟩
  show (ownI [WA.v j]).Nodup ∧ _
  refine ⟨by simp [ownI], ts, i, ?_, ok, hi, _, rfl, ?_⟩
  · unfold adsW
    rw [h]
    rfl
  · unfold putW
    rw [h]
    exact ⟨_, rfl, fun as' => q as'⟩
end
theorem back {i : Nat} : ((i + 1 : Nat) : Int) - 1 = (i : Int) := by omega
def S_Reader_take_number : DFO := fun ads Q Xq => ∃ (ts : List Tok) (i : Nat), ads = [.o (rdD ts i)] ∧ TsOk ts ∧ i < ts.length ∧ (if (tk ts i).kind = "number" then Q (.d (.int (numW (tk ts i).word))) [.o (rdD ts (i + 1))] else Flt Xq ts i)
theorem p_Reader_take_number : ∀ ads vs ass Qd Xq, S_Reader_take_number ads Qd Xq → vs.length = ads.length → ass.length = ads.length → b_Reader_take_number S_Reader_sees_number S_Reader_fault (kO ads vs Qd Xq) (startO 1 ads vs ass) := by
  rintro _ vs ass Qd Xq ⟨ts, i, rfl, ok, hi, q⟩ hv ha
  obtain ⟨v, rfl⟩ := List.length_eq_one_iff.mp hv
  obtain ⟨as, rfl⟩ := List.length_eq_one_iff.mp ha
  show b_Reader_take_number _ _ _ [.ow v as (rdD ts i)]
  unfold b_Reader_take_number
  refine me_sees_number (ts := ts) (i := i) (v := v) (as := as) rfl ok hi fun as1 => ?_
  by_cases e : (tk ts i).kind = "number"
  · rw [if_pos e] at q
    rw [decide_eq_true e]
    show b_Reader_take_number_r1 S_Reader_sees_number S_Reader_fault _ [.ow v as1 (rdD ts i)]
    unfold b_Reader_take_number_r1
    refine to_at (ts := ts) (i := i) (m := i + 1) rfl ?_ ?_
    · simp only [dLeaf, d2, dC]
      rw [fr_at rfl]
      refine ⟨rfl, rfl, fun as3 => ?_⟩
      show dRet _ _ [.ow v as3 (rdD ts (i + 1))]
      simp only [dRet, d1, d2, dC]
      rw [fr_tokens rfl, fr_at rfl, gMns_int, back, tokAt hi]
      obtain ⟨n, hn, hl⟩ := ok.num _ (tk_mem hi) e
      refine ⟨n, hn, hl, as3, _, rfl, ?_⟩
      unfold numW at q
      rw [hn] at q
      exact q
    · intro A B h z
      simp only [dLeaf, d2, dC] at z ⊢
      rw [fr_at rfl] at z ⊢
      exact ⟨z.1, h _ z.2⟩
  · rw [if_neg e] at q
    rw [decide_eq_false e]
    simp only [Bool.not_false, if_true]
    show yMeth _ _ _ _ _ _ _ _
    exact me_fault (ts := ts) (i := i) rfl ok hi q
def S_Reader_sees_name : DFO := fun ads Q _ => ∃ (ts : List Tok) (i : Nat), ads = [.o (rdD ts i)] ∧ TsOk ts ∧ i < ts.length ∧ Q (.d (.bl (isNm (tk ts i)))) [.o (rdD ts i)]
theorem lay_kw : ∀ y ∈ keywords, lays y = true := by unfold keywords; decide +kernel
theorem p_Reader_sees_name : ∀ ads vs ass Qd Xq, S_Reader_sees_name ads Qd Xq → vs.length = ads.length → ass.length = ads.length → b_Reader_sees_name S_Reader_peek (kO ads vs Qd Xq) (startO 1 ads vs ass) := by
  rintro _ vs ass Qd Xq ⟨ts, i, rfl, ok, hi, q⟩ hv ha
  obtain ⟨v, rfl⟩ := List.length_eq_one_iff.mp hv
  obtain ⟨as, rfl⟩ := List.length_eq_one_iff.mp ha
  show b_Reader_sees_name _ _ [.ow v as (rdD ts i)]
  unfold b_Reader_sees_name
  simp only [dRetY, yAndV, yB, yE, d2, dC]
  rw [fr_tokens rfl, fr_at rfl, tokAt hi]
  unfold tokD
  rw [gIx_tup0, gEq_strL _ _ _ (ok.layK hi) (by decide +kernel)]
  unfold isNm at q
  by_cases e : (tk ts i).kind = "word"
  · rw [decide_eq_true e] at q ⊢
    simp only [if_true]
    refine me_peek (ts := ts) (i := i) (v := v) (as := as) rfl ok hi fun as1 => ?_
    have g := fun Q => gIn_strT (a := (tk ts i).word) true (ok.layW hi) lay_kw Q
    unfold keywords at g q
    simp only [yE, dC]
    rw [g]
    exact ⟨as1, _, rfl, q⟩
  · rw [decide_eq_false e] at q ⊢
    exact ⟨as, _, rfl, q⟩
section
variable {ts : List Tok} {i j : Nat} {v : V} {as : List Addr} {ρ : En} {xq : XF} {Q : D → En → Prop}
theorem me_sees_name (h : ρ[j]? = some (.ow v as (rdD ts i))) (ok : TsOk ts) (hi : i < ts.length) (q : ∀ as', Q (.bl (isNm (tk ts i))) (ρ.set j (.ow v as' (rdD ts i)))) : yMeth "Reader" "sees_name" j S_Reader_sees_name wNil xq ρ Q := by
  refine ⟨⟨v, as, _, h, rfl, rfl⟩, ⟨v, as, _, h⟩, ?_⟩
  show (ownI [WA.v j]).Nodup ∧ _
  refine ⟨by simp [ownI], ts, i, ?_, ok, hi, _, rfl, ?_⟩
  · unfold adsW
    rw [h]
    rfl
  · unfold putW
    rw [h]
    exact ⟨_, rfl, fun as' => q as'⟩
theorem me_take_number (h : ρ[j]? = some (.ow v as (rdD ts i))) (ok : TsOk ts) (hi : i < ts.length) (q : if (tk ts i).kind = "number" then ∀ as', Q (.int (numW (tk ts i).word)) (ρ.set j (.ow v as' (rdD ts (i + 1)))) else Flt (xq (ρ.set j .un)) ts i) : yMeth "Reader" "take_number" j S_Reader_take_number wNil xq ρ Q := by
  refine ⟨⟨v, as, _, h, rfl, rfl⟩, ⟨v, as, _, h⟩, ?_⟩
  show (ownI [WA.v j]).Nodup ∧ _
  refine ⟨by simp [ownI], ts, i, ?_, ok, hi, ?_⟩
  · unfold adsW
    rw [h]
    rfl
  · by_cases e : (tk ts i).kind = "number"
    · rw [if_pos e] at q ⊢
      refine ⟨_, rfl, ?_⟩
      unfold putW
      rw [h]
      exact ⟨_, rfl, fun as' => q as'⟩
    · rw [if_neg e] at q ⊢
      exact q
end
def S_Reader_take_name : DFO := fun ads Q Xq => ∃ (ts : List Tok) (i : Nat), ads = [.o (rdD ts i)] ∧ TsOk ts ∧ i < ts.length ∧ (if isNm (tk ts i) = true then Q (.d (.str (tk ts i).word)) [.o (rdD ts (i + 1))] else Flt Xq ts i)
theorem p_Reader_take_name : ∀ ads vs ass Qd Xq, S_Reader_take_name ads Qd Xq → vs.length = ads.length → ass.length = ads.length → b_Reader_take_name S_Reader_sees_name S_Reader_fault (kO ads vs Qd Xq) (startO 1 ads vs ass) := by
  rintro _ vs ass Qd Xq ⟨ts, i, rfl, ok, hi, q⟩ hv ha
  obtain ⟨v, rfl⟩ := List.length_eq_one_iff.mp hv
  obtain ⟨as, rfl⟩ := List.length_eq_one_iff.mp ha
  show b_Reader_take_name _ _ _ [.ow v as (rdD ts i)]
  unfold b_Reader_take_name
  refine me_sees_name (ts := ts) (i := i) (v := v) (as := as) rfl ok hi fun as1 => ?_
  cases e : isNm (tk ts i) with
  | true =>
    rw [if_pos e] at q
    show b_Reader_take_name_r1 S_Reader_sees_name S_Reader_fault _ [.ow v as1 (rdD ts i)]
    unfold b_Reader_take_name_r1
    refine to_at (ts := ts) (i := i) (m := i + 1) rfl ?_ ?_
    · simp only [dLeaf, d2, dC]
      rw [fr_at rfl]
      refine ⟨rfl, rfl, fun as3 => ?_⟩
      show dRet _ _ [.ow v as3 (rdD ts (i + 1))]
      simp only [dRet, d1, d2, dC]
      rw [fr_tokens rfl, fr_at rfl, gMns_int, back, tokAt hi]
      exact ⟨as3, _, rfl, q⟩
    · intro A B h z
      simp only [dLeaf, d2, dC] at z ⊢
      rw [fr_at rfl] at z ⊢
      exact ⟨z.1, h _ z.2⟩
  | false =>
    rw [if_neg (by rw [e]; simp)] at q
    simp only [Bool.not_false, if_true]
    show yMeth _ _ _ _ _ _ _ _
    exact me_fault (ts := ts) (i := i) rfl ok hi q
section
variable {ts : List Tok} {i p o j : Nat} {v : V} {as : List Addr} {ρ : En}
theorem to_ops {kk : DK} {fo : DE} {m : Nat} (h : ρ[j]? = some (.ow v as (msD p o))) (q : fo (kk.xq ρ) ρ fun x => x = .int m ∧ ∀ as', kk.nx (ρ.set j (.ow v as' (msD p m)))) (mono : ∀ {A B : D → Prop}, (∀ d, A d → B d) → fo (kk.xq ρ) ρ A → fo (kk.xq ρ) ρ B) : dPutFld (dP0 j) ["Measure"] "operators" fo kk ρ := by
  unfold dPutFld dP0
  rw [h]
  refine mono (fun x ⟨e, z⟩ => ?_) q
  subst e
  refine ⟨List.mem_cons_self .., rfl, rfl, (by show 2 < 1000; omega), ?_⟩
  unfold putS
  rw [h]
  exact z
theorem to_par {kk : DK} {fo : DE} {m : Nat} (h : ρ[j]? = some (.ow v as (msD p o))) (q : fo (kk.xq ρ) ρ fun x => x = .int m ∧ ∀ as', kk.nx (ρ.set j (.ow v as' (msD m o)))) (mono : ∀ {A B : D → Prop}, (∀ d, A d → B d) → fo (kk.xq ρ) ρ A → fo (kk.xq ρ) ρ B) : dPutFld (dP0 j) ["Measure"] "parentheses" fo kk ρ := by
  unfold dPutFld dP0
  rw [h]
  refine mono (fun x ⟨e, z⟩ => ?_) q
  subst e
  refine ⟨List.mem_cons_self .., rfl, rfl, (by show 2 < 1000; omega), ?_⟩
  unfold putS
  rw [h]
  exact z
end
def Ans {α : Type} (enc : α → D) (ts : List Tok) (p : Nat) (Q : AD → List AD → Prop) (Xq : XQ) : Rs α → Prop
  | .ok a i o => Q (.d (enc a)) [.o (rdD ts i), .o (msD p o)]
  | .bad q => Xq "InvalidText" [("position", .int q)]
def S_take_operator : DFO := fun ads Q Xq => ∃ (ts : List Tok) (i p o : Nat), ads = [.o (rdD ts i), .o (msD p o)] ∧ TsOk ts ∧ i < ts.length ∧ Ans D.str ts p Q Xq (opT ts i o)
theorem p_take_operator : ∀ ads vs ass Qd Xq, S_take_operator ads Qd Xq → vs.length = ads.length → ass.length = ads.length → b_take_operator S_Reader_fault S_Reader_peek S_Reader_take (kO ads vs Qd Xq) (startO 3 ads vs ass) := by
  rintro _ vs ass Qd Xq ⟨ts, i, p, o, rfl, ok, hi, q⟩ hv ha
  obtain ⟨v, v2, rfl⟩ := two hv
  obtain ⟨as, as2, rfl⟩ := two ha
  show b_take_operator _ _ _ _ [.ow v as (rdD ts i), .ow v2 as2 (msD p o), .un]
  unfold b_take_operator
  simp only [dSeq, dIfS, dB, d2, dC]
  rw [fr_ops rfl, gEq_int]
  unfold opT at q
  by_cases e : o = 40
  · rw [if_pos e] at q
    rw [decide_eq_true (show (o : Int) = 40 by omega)]
    simp only [if_true]
    show yMeth _ _ _ _ _ _ _ _
    exact me_fault (ts := ts) (i := i) rfl ok hi q
  · rw [if_neg e] at q
    rw [decide_eq_false (show ¬ (o : Int) = 40 by omega)]
    simp only [Bool.false_eq_true, if_false]
    show b_take_operator_r1 S_Reader_fault S_Reader_peek S_Reader_take _ [.ow v as (rdD ts i), .ow v2 as2 (msD p o), .un]
    unfold b_take_operator_r1
    refine to_ops (p := p) (o := o) (m := o + 1) rfl ?_ ?_
    · simp only [dLeaf, d2, dC]
      rw [fr_ops rfl]
      refine ⟨rfl, rfl, fun as3 => ?_⟩
      refine me_peek (ts := ts) (i := i) (v := v) (as := as) rfl ok hi fun as4 => ?_
      refine me_take (ts := ts) (i := i) (v := v) (as := as4) (w := (tk ts i).word) rfl ok hi (ok.layW hi) (fun A z => z) ?_
      rw [if_pos rfl]
      exact fun as5 => ⟨as5, _, rfl, as3, _, rfl, q⟩
    · intro A B h z
      simp only [dLeaf, d2, dC] at z ⊢
      rw [fr_ops rfl] at z ⊢
      exact ⟨z.1, h _ z.2⟩
def Cont {α : Type} (enc : α → D) (ts : List Tok) (p j k : Nat) (v v2 : V) (xq : XF) (ρ : En) (Q : D → En → Prop) : Rs α → Prop
  | .ok a i o => ∀ as as2, Q (enc a) ((ρ.set j (.ow v as (rdD ts i))).set k (.ow v2 as2 (msD p o)))
  | .bad z => xq ((ρ.set j .un).set k .un) "InvalidText" [("position", .int z)]
theorem me_call {α : Type} {enc : α → D} {ts : List Tok} {i p o j k : Nat} {v v2 : V} {as as2 : List Addr} {ρ : En} {xq : XF} {Q : D → En → Prop} {S : DFO} {r : Rs α} (hj : ρ[j]? = some (.ow v as (rdD ts i))) (hk : ρ[k]? = some (.ow v2 as2 (msD p o))) (ne : j ≠ k)
    (hS : ∀ Q' X', Ans enc ts p Q' X' r → S [.o (rdD ts i), .o (msD p o)] Q' X') (q : Cont enc ts p j k v v2 xq ρ Q r) : yCall S (wV j (wV k wNil)) xq ρ Q := by
  refine ⟨⟨v, as, _, hj⟩, ⟨v2, as2, _, hk⟩, ?_⟩
  show (ownI [WA.v j, WA.v k]).Nodup ∧ _
  refine ⟨by simp [ownI, ne], ?_⟩
  have ea : adsW ρ [WA.v j, WA.v k] = [.o (rdD ts i), .o (msD p o)] := by
    unfold adsW
    rw [hj]
    unfold adsW
    rw [hk]
    rfl
  rw [ea]
  refine hS _ _ ?_
  cases r with
  | ok a i' o' =>
    refine ⟨_, rfl, ?_⟩
    unfold putW
    rw [hj]
    refine ⟨_, rfl, fun as' => ?_⟩
    unfold putW
    rw [List.getElem?_set_ne ne, hk]
    exact ⟨_, rfl, fun as2' => q as' as2'⟩
  | bad z => exact q
structure Pre (ts : List Tok) (j i p o : Nat) : Prop where
  ok : TsOk ts
  hi : i < ts.length
  hp : p ≤ 10
  hj : 11 ≤ p + j
  ho : o ≤ 40
def SP (f : List Tok → (Nat → Nat → Nat → Rs Ex) → Nat → Nat → Nat → Rs Ex) (j : Nat) : DFO := fun ads Q Xq => ∃ (ts : List Tok) (i p o : Nat), ads = [.o (rdD ts i), .o (msD p o)] ∧ Pre ts (j + 1) i p o ∧ Ans exD ts p Q Xq (f ts (pE ts j) p i o)
abbrev S_read_atom (j : Nat) : DFO := SP pAtom j
abbrev S_read_product (j : Nat) : DFO := SP pProd j
abbrev S_read_sum (j : Nat) : DFO := SP pSum j
abbrev S_read_compared (j : Nat) : DFO := SP pCmp j
abbrev S_read_plain (j : Nat) : DFO := SP pPlain j
abbrev S_read_each (j : Nat) : DFO := SP pEach j
def S_read_either (j : Nat) : DFO := fun ads Q Xq => ∃ (ts : List Tok) (i p o : Nat), ads = [.o (rdD ts i), .o (msD p o)] ∧ Pre ts j i p o ∧ Ans exD ts p Q Xq (pE ts j p i o)
theorem z_read_either : ∀ ads Q Xq, S_read_either 0 ads Q Xq → False := fun ads Q Xq ⟨ts, i, p, o, _, k, _⟩ => by
  have := k.hp
  have := k.hj
  omega
end Par
namespace Par
open PySem L2 Dl
open _root_.Expr hiding lays
def Kp {α : Type} (ts : List Tok) : Rs α → Prop
  | .ok _ i o => i < ts.length ∧ o ≤ 40
  | .bad _ => True
theorem Kp.then {α β : Type} {ts : List Tok} {r : Rs α} {f : α → Nat → Nat → Rs β} (h : Kp ts r) (hf : ∀ a i o, i < ts.length → o ≤ 40 → Kp ts (f a i o)) : Kp ts (r.then f) := by
  cases r with
  | ok a i o => exact hf a i o h.1 h.2
  | bad q => trivial
section
variable {ts : List Tok} (ok : TsOk ts)
include ok
theorem kp_op {i o : Nat} (hi : i < ts.length) (ho : o ≤ 40) (hw : (tk ts i).word ≠ "") : Kp ts (opT ts i o) := by
  unfold opT
  split
  · trivial
  · exact ⟨ok.more hi (.inl hw), by omega⟩
theorem kp_take {w : Str} {i o : Nat} (hi : i < ts.length) (ho : o ≤ 40) (hw : w ≠ "") : Kp ts (takeW ts w i o) := by
  unfold takeW
  split
  · rename_i e
    exact ⟨ok.more hi (.inl (by rw [e]; exact hw)), ho⟩
  · trivial
theorem kp_loop {next : Nat → Nat → Rs Ex} {okw : Str → Bool} (hn : ∀ i o, i < ts.length → o ≤ 40 → Kp ts (next i o)) (he : okw "" = false) : ∀ (n : Nat) (e : Ex) (i o : Nat), i < ts.length → o ≤ 40 → Kp ts (loop ts next okw n e i o)
  | 0, e, i, o, hi, ho => by
    unfold loop
    split
    · trivial
    · exact ⟨hi, ho⟩
  | n + 1, e, i, o, hi, ho => by
    unfold loop
    split
    · rename_i c
      refine (kp_op ok hi ho fun z => ?_).then fun s i o hi ho => (hn i o hi ho).then fun e2 i o hi ho => kp_loop hn he n _ i o hi ho
      rw [z, he] at c
      cases c
    · exact ⟨hi, ho⟩
theorem kp_atom {E : Nat → Nat → Nat → Rs Ex} {p : Nat} (hE : ∀ p i o, i < ts.length → o ≤ 40 → Kp ts (E p i o)) {i o : Nat} (hi : i < ts.length) (ho : o ≤ 40) : Kp ts (pAtom ts E p i o) := by
  unfold pAtom
  split
  · rename_i e
    exact ⟨ok.more hi (.inr e), ho⟩
  · split
    · rename_i e
      split
      · trivial
      · exact (hE _ _ _ (ok.more hi (.inl (by rw [e]; decide))) ho).then fun e i o hi ho => (kp_take ok hi ho (by decide)).then fun _ i o hi ho => ⟨hi, ho⟩
    · split
      · rename_i e
        refine ⟨?_, ho⟩
        by_cases z : i + 1 = ts.length
        · obtain ⟨_, h2⟩ := ok.last (tk ts i) (by rw [show ts.length - 1 = i by omega]; exact tk_at hi)
          unfold isNm at e
          rw [Bool.and_eq_true] at e
          have k := of_decide_eq_true e.1
          rw [k] at h2
          rcases h2 with h2 | h2 <;> exact absurd h2 (by decide)
        · omega
      · trivial
theorem kp_prod {E : Nat → Nat → Nat → Rs Ex} {p : Nat} (hE : ∀ p i o, i < ts.length → o ≤ 40 → Kp ts (E p i o)) {i o : Nat} (hi : i < ts.length) (ho : o ≤ 40) : Kp ts (pProd ts E p i o) :=
  (kp_atom ok hE hi ho).then fun e i o hi ho => kp_loop ok (fun i o hi ho => kp_atom ok hE hi ho) (by decide) _ e i o hi ho
theorem kp_sum {E : Nat → Nat → Nat → Rs Ex} {p : Nat} (hE : ∀ p i o, i < ts.length → o ≤ 40 → Kp ts (E p i o)) {i o : Nat} (hi : i < ts.length) (ho : o ≤ 40) : Kp ts (pSum ts E p i o) :=
  (kp_prod ok hE hi ho).then fun e i o hi ho => kp_loop ok (fun i o hi ho => kp_prod ok hE hi ho) (by decide) _ e i o hi ho
theorem kp_cmp {E : Nat → Nat → Nat → Rs Ex} {p : Nat} (hE : ∀ p i o, i < ts.length → o ≤ 40 → Kp ts (E p i o)) {i o : Nat} (hi : i < ts.length) (ho : o ≤ 40) : Kp ts (pCmp ts E p i o) :=
  (kp_sum ok hE hi ho).then fun e i o hi ho => by
    split
    · rename_i c
      exact (kp_op ok hi ho (by rcases c with c | c <;> rw [c] <;> decide)).then fun s i o hi ho => (kp_sum ok hE hi ho).then fun e2 i o hi ho => ⟨hi, ho⟩
    · exact ⟨hi, ho⟩
theorem kp_plain {E : Nat → Nat → Nat → Rs Ex} {p : Nat} (hE : ∀ p i o, i < ts.length → o ≤ 40 → Kp ts (E p i o)) {i o : Nat} (hi : i < ts.length) (ho : o ≤ 40) : Kp ts (pPlain ts E p i o) := by
  unfold pPlain
  split
  · rename_i c
    exact (kp_op ok hi ho (by rw [c]; decide)).then fun s i o hi ho => (kp_cmp ok hE hi ho).then fun e2 i o hi ho => ⟨hi, ho⟩
  · exact kp_cmp ok hE hi ho
theorem kp_each {E : Nat → Nat → Nat → Rs Ex} {p : Nat} (hE : ∀ p i o, i < ts.length → o ≤ 40 → Kp ts (E p i o)) {i o : Nat} (hi : i < ts.length) (ho : o ≤ 40) : Kp ts (pEach ts E p i o) :=
  (kp_plain ok hE hi ho).then fun e i o hi ho => kp_loop ok (fun i o hi ho => kp_plain ok hE hi ho) (by decide) _ e i o hi ho
theorem kp_eith {E : Nat → Nat → Nat → Rs Ex} {p : Nat} (hE : ∀ p i o, i < ts.length → o ≤ 40 → Kp ts (E p i o)) {i o : Nat} (hi : i < ts.length) (ho : o ≤ 40) : Kp ts (pEith ts E p i o) :=
  (kp_each ok hE hi ho).then fun e i o hi ho => kp_loop ok (fun i o hi ho => kp_each ok hE hi ho) (by decide) _ e i o hi ho
theorem kp_E : ∀ (d p i o : Nat), i < ts.length → o ≤ 40 → Kp ts (pE ts d p i o)
  | 0, p, i, o, _, _ => trivial
  | d + 1, p, i, o, hi, ho => kp_eith ok (fun p i o hi ho => kp_E d p i o hi ho) hi ho
end
end Par
namespace Par
open PySem L2 Dl
open _root_.Expr hiding lays
theorem Pre.kp {ts : List Tok} {j i p o : Nat} (k : Pre ts j i p o) {d : Nat} : ∀ p i o, i < ts.length → o ≤ 40 → Kp ts (pE ts d p i o) := fun p i o hi ho => kp_E k.ok d p i o hi ho
theorem p_read_plain (j : Nat) : ∀ ads vs ass Qd Xq, S_read_plain j ads Qd Xq → vs.length = ads.length → ass.length = ads.length → b_read_plain S_Reader_peek (S_read_compared j) S_take_operator (kO ads vs Qd Xq) (startO 3 ads vs ass) := by
  rintro _ vs ass Qd Xq ⟨ts, i, p, o, rfl, k, q⟩ hv ha
  obtain ⟨v, v2, rfl⟩ := two hv
  obtain ⟨as, as2, rfl⟩ := two ha
  show b_read_plain _ _ _ _ [.ow v as (rdD ts i), .ow v2 as2 (msD p o), .un]
  unfold b_read_plain
  refine me_peek (ts := ts) (i := i) (v := v) (as := as) rfl k.ok k.hi fun as1 => ?_
  simp only [yE, dC]
  rw [gNe_strL _ _ _ (k.ok.layW k.hi) (by decide +kernel)]
  unfold pPlain at q
  by_cases e : (tk ts i).word = "not"
  · rw [if_pos e] at q
    rw [decide_eq_true e]
    simp only [Bool.not_true, Bool.false_eq_true, if_false, dNext, dSeq]
    show dSetY _ _ _ [.ow v as1 (rdD ts i), .ow v2 as2 (msD p o), .un]
    refine me_call (enc := D.str) (ts := ts) (i := i) (p := p) (o := o) (v := v) (v2 := v2) (as := as1) (as2 := as2) (r := opT ts i o) rfl rfl (by decide) (fun Q' X' a => ⟨ts, i, p, o, rfl, k.ok, k.hi, a⟩) ?_
    have kk := kp_op k.ok k.hi k.ho (show (tk ts i).word ≠ "" by rw [e]; decide)
    cases r : opT ts i o with
    | bad z => rw [r] at q; exact q
    | ok s i1 o1 =>
      rw [r] at q kk
      intro as3 as4
      have es : s = "not" := by
        unfold opT at r
        split at r
        · cases r
        · cases r
          exact e
      subst es
      dsimp only
      show dRetY _ _ [.ow v as3 (rdD ts i1), .ow v2 as4 (msD p o1), .fz (.str "not")]
      refine me_call (enc := exD) (ts := ts) (i := i1) (p := p) (o := o1) (v := v) (v2 := v2) (as := as3) (as2 := as4) (r := pCmp ts (pE ts j) p i1 o1) rfl rfl (by decide) (fun Q' X' a => ⟨ts, i1, p, o1, rfl, ⟨k.ok, kk.1, k.hp, k.hj, kk.2⟩, a⟩) ?_
      have q2 : Ans exD ts p Qd Xq ((pCmp ts (pE ts j) p i1 o1).then fun e i o => .ok (.no e) i o) := q
      cases r2 : pCmp ts (pE ts j) p i1 o1 with
      | bad z => rw [r2] at q2; exact q2
      | ok e2 i2 o2 =>
        rw [r2] at q2
        exact fun as5 as6 => ⟨as5, _, rfl, as6, _, rfl, q2⟩
  · rw [if_neg e] at q
    rw [decide_eq_false e]
    simp only [Bool.not_false, if_true]
    show dRetY _ _ [.ow v as1 (rdD ts i), .ow v2 as2 (msD p o), .un]
    refine me_call (enc := exD) (ts := ts) (i := i) (p := p) (o := o) (v := v) (v2 := v2) (as := as1) (as2 := as2) (r := pCmp ts (pE ts j) p i o) rfl rfl (by decide) (fun Q' X' a => ⟨ts, i, p, o, rfl, k, a⟩) ?_
    cases r2 : pCmp ts (pE ts j) p i o with
    | bad z => rw [r2] at q; exact q
    | ok e2 i2 o2 =>
      rw [r2] at q
      exact fun as5 as6 => ⟨as5, _, rfl, as6, _, rfl, q⟩
end Par
namespace Par
open PySem L2 Dl Expr
def nops : Ex → Nat
  | .num _ => 0
  | .nam _ => 0
  | .no e => nops e + 1
  | .bin _ a b => nops a + nops b + 1
def opLv (s : Str) : Nat := if s = "or" then 1 else if s = "and" then 2 else if s = "==" then 4 else if s = "<" then 4 else if s = "+" then 5 else if s = "-" then 5 else 6
def lv : Ex → Nat
  | .num _ => 7
  | .nam _ => 7
  | .no _ => 3
  | .bin s _ _ => opLv s
def lft (s : Str) : Nat := if opLv s = 4 then 5 else opLv s
abbrev numS (n : Int) : Str := Str.ofString (toString n)
def isL (c : Nat) : Bool := decide (97 ≤ c) && decide (c ≤ 122)
def isDg (c : Nat) : Bool := decide (48 ≤ c) && decide (c ≤ 57)
def isW (c : Nat) : Bool := isL c || isDg c
structure NameOk (s : Str) : Prop where
  hd : ∃ c r, s.cps.toList = c :: r ∧ isL c = true
  al : ∀ c ∈ s.cps.toList, isW c = true
  kw : s ∉ keywords
  ln : s.length ≤ 15
inductive W : Nat → Nat → Ex → List Str → Prop where
  | num {r l : Nat} (n : Int) (h0 : 0 ≤ n) (h1 : n < 10000) : W r l (.num n) [numS n]
  | nam {r l : Nat} (s : Str) (h : NameOk s) : W r l (.nam s) [s]
  | par {r l : Nat} {e : Ex} {ws : List Str} (h : W r 1 e ws) : W (r + 1) l e (("(" : Str) :: (ws ++ [(")" : Str)]))
  | no {r l : Nat} {e : Ex} {ws : List Str} (hl : l ≤ 3) (h : W r 4 e ws) : W r l (.no e) ("not" :: ws)
  | bin {r l : Nat} {s : Str} {a b : Ex} {A B : List Str} (hs : s ∈ ops) (hl : l ≤ opLv s) (ha : W r (lft s) a A) (hb : W r (opLv s + 1) b B) : W r l (.bin s a b) (A ++ s :: B)
theorem W.more {r l : Nat} {e : Ex} {ws : List Str} (h : W r l e ws) : ∀ {r' : Nat}, r ≤ r' → W r' l e ws := by
  induction h with
  | num n h0 h1 => exact fun _ => .num n h0 h1
  | nam s h => exact fun _ => .nam s h
  | par h ih =>
    intro r' hr
    match r', hr with
    | r' + 1, hr => exact .par (ih (by omega))
  | no hl h ih => exact fun hr => .no hl (ih hr)
  | bin hs hl ha hb iha ihb => exact fun hr => .bin hs hl (iha hr) (ihb hr)
theorem W.less {r l l' : Nat} {e : Ex} {ws : List Str} (h : W r l e ws) (hl : l' ≤ l) : W r l' e ws := by
  cases h with
  | num n h0 h1 => exact .num n h0 h1
  | nam s h => exact .nam s h
  | par h => exact .par h
  | no hl' h => exact .no (by omega) h
  | bin hs hl' ha hb => exact .bin hs (by omega) ha hb
def kd (w : Str) : Str := match w.cps.toList with
  | [] => "end"
  | c :: _ => if isL c then "word" else if isDg c then "number" else "sign"
def At (ts : List Tok) (i : Nat) (ws : List Str) : Prop := ∀ k w, ws[k]? = some w → (tk ts (i + k)).word = w ∧ (tk ts (i + k)).kind = kd w
theorem At.app {ts : List Tok} {i : Nat} {A B : List Str} (h : At ts i (A ++ B)) : At ts i A ∧ At ts (i + A.length) B := by
  refine ⟨fun k w e => h k w ?_, fun k w e => ?_⟩
  · rw [List.getElem?_append_left (List.getElem?_eq_some_iff.mp e).1]
    exact e
  · have := h (A.length + k) w (by rw [List.getElem?_append_right (by omega)]; rw [show A.length + k - A.length = k by omega]; exact e)
    rw [← Nat.add_assoc] at this
    exact this
theorem At.cons {ts : List Tok} {i : Nat} {w : Str} {ws : List Str} (h : At ts i (w :: ws)) : ((tk ts i).word = w ∧ (tk ts i).kind = kd w) ∧ At ts (i + 1) ws := by
  refine ⟨h 0 w rfl, fun k x e => ?_⟩
  have := h (k + 1) x e
  rw [show i + (k + 1) = i + 1 + k by omega] at this
  exact this
def rd (ts : List Tok) (E : Nat → Nat → Nat → Rs Ex) : Nat → Nat → Nat → Nat → Rs Ex
  | 0 => pEith ts E
  | 1 => pEith ts E
  | 2 => pEach ts E
  | 3 => pPlain ts E
  | 4 => pCmp ts E
  | 5 => pSum ts E
  | 6 => pProd ts E
  | _ => pAtom ts E
def okf : Nat → Str → Bool
  | 1 => fun w => w == "or"
  | 2 => fun w => w == "and"
  | 5 => fun w => w == "+" || w == "-"
  | 6 => fun w => w == "*"
  | _ => fun _ => false
def isLoop (l : Nat) : Prop := l = 1 ∨ l = 2 ∨ l = 5 ∨ l = 6
theorem rd_loop {ts : List Tok} {E : Nat → Nat → Nat → Rs Ex} {l : Nat} (h : isLoop l) (p i o : Nat) : rd ts E l p i o = (rd ts E (l + 1) p i o).then fun e i o => loop ts (fun i o => rd ts E (l + 1) p i o) (okf l) (40 - o) e i o := by
  rcases h with rfl | rfl | rfl | rfl <;> rfl
def Stop (l : Nat) (w : Str) : Prop := ∀ s ∈ ops, l ≤ opLv s → w ≠ s
theorem Stop.le {l l' : Nat} {w : Str} (h : Stop l w) (k : l ≤ l') : Stop l' w := fun s hs hl => h s hs (by omega)
theorem lv_ops : ∀ s ∈ ops, opLv s = 1 ∨ opLv s = 2 ∨ opLv s = 4 ∨ opLv s = 5 ∨ opLv s = 6 := by unfold ops; decide +kernel
theorem okf_of {l : Nat} {w : Str} (h : okf l w = true) : w ∈ ops ∧ opLv w = l := by
  have key : ∀ l' : Nat, l' = l → w ∈ ops ∧ opLv w = l' := by
    intro l' e
    unfold okf at h
    split at h
    · rw [e, eq_of_beq h]; decide +kernel
    · rw [e, eq_of_beq h]; decide +kernel
    · rw [Bool.or_eq_true] at h
      rcases h with h | h
      · rw [e, eq_of_beq h]; decide +kernel
      · rw [e, eq_of_beq h]; decide +kernel
    · rw [e, eq_of_beq h]; decide +kernel
    · cases h
  exact key l rfl
theorem okf_op : ∀ s ∈ ops, opLv s = 4 ∨ (isLoop (opLv s) ∧ okf (opLv s) s = true) := by
  intro s hs
  unfold ops at hs
  simp only [List.mem_cons, List.not_mem_nil, or_false] at hs
  rcases hs with rfl | rfl | rfl | rfl | rfl | rfl | rfl
  · exact .inr ⟨.inr (.inr (.inl (by decide +kernel))), by decide +kernel⟩
  · exact .inr ⟨.inr (.inr (.inl (by decide +kernel))), by decide +kernel⟩
  · exact .inr ⟨.inr (.inr (.inr (by decide +kernel))), by decide +kernel⟩
  · exact .inl (by decide +kernel)
  · exact .inl (by decide +kernel)
  · exact .inr ⟨.inr (.inl (by decide +kernel)), by decide +kernel⟩
  · exact .inr ⟨.inl (by decide +kernel), by decide +kernel⟩
theorem Stop.okf {l : Nat} {w : Str} (h : Stop l w) : okf l w = false := by
  cases e : Par.okf l w with
  | false => rfl
  | true => exact absurd rfl (h w (okf_of e).1 (by rw [(okf_of e).2]; exact Nat.le_refl _))
theorem loop_end {ts : List Tok} {next : Nat → Nat → Rs Ex} {ok : Str → Bool} {n i o : Nat} {e : Ex} (h : ok (tk ts i).word = false) : loop ts next ok n e i o = .ok e i o := by
  cases n with
  | zero => unfold loop; rw [h]; rfl
  | succ n => unfold loop; rw [h]; rfl
def Cl (l : Nat) (e : Ex) (ws : List Str) (r : Nat) : Prop := ∀ (ts : List Tok) (p i o j : Nat), p + r ≤ 10 → r ≤ j → At ts i ws → o + nops e ≤ 40 → Stop l (tk ts (i + ws.length)).word →
  rd ts (pE ts j) l p i o = .ok e (i + ws.length) (o + nops e)
def Lp (l : Nat) (e : Ex) (ws : List Str) (r : Nat) : Prop := ∀ (ts : List Tok) (p i o j : Nat), p + r ≤ 10 → r ≤ j → At ts i ws → o + nops e ≤ 40 → Stop (l + 1) (tk ts (i + ws.length)).word →
  ∃ n, 40 ≤ n + (o + nops e) ∧ rd ts (pE ts j) l p i o = loop ts (fun i o => rd ts (pE ts j) (l + 1) p i o) (okf l) n e (i + ws.length) (o + nops e)
theorem Lp.cl {l : Nat} {e : Ex} {ws : List Str} {r : Nat} (h : Lp l e ws r) : Cl l e ws r := fun ts p i o j h1 h2 h3 h4 h5 => by
  obtain ⟨n, _, q⟩ := h ts p i o j h1 h2 h3 h4 (h5.le (by omega))
  rw [q]
  exact loop_end h5.okf
theorem Cl.lp {l : Nat} {e : Ex} {ws : List Str} {r : Nat} (hl : isLoop l) (h : Cl (l + 1) e ws r) : Lp l e ws r := fun ts p i o j h1 h2 h3 h4 h5 => by
  refine ⟨40 - (o + nops e), by omega, ?_⟩
  rw [rd_loop hl, h ts p i o j h1 h2 h3 h4 h5]
  rfl
theorem stop4 {w : Str} (h : Stop 4 w) : ¬ (w = "==" ∨ w = "<") := fun c => by
  rcases c with c | c
  · exact h "==" (by decide +kernel) (by decide +kernel) c
  · exact h "<" (by decide +kernel) (by decide +kernel) c
theorem Cl.four {e : Ex} {ws : List Str} {r : Nat} (h : Cl 5 e ws r) : Cl 4 e ws r := fun ts p i o j h1 h2 h3 h4 h5 => by
  show pCmp ts (pE ts j) p i o = _
  unfold pCmp
  have : pSum ts (pE ts j) p i o = _ := h ts p i o j h1 h2 h3 h4 (h5.le (by omega))
  rw [this]
  show (if _ then _ else _) = _
  rw [if_neg (stop4 h5)]
theorem Cl.three {e : Ex} {ws : List Str} {r : Nat} (hw : ∃ w t, ws = w :: t ∧ w ≠ "not") (h : Cl 4 e ws r) : Cl 3 e ws r := fun ts p i o j h1 h2 h3 h4 h5 => by
  show pPlain ts (pE ts j) p i o = _
  unfold pPlain
  obtain ⟨w, t, rfl, hw⟩ := hw
  rw [if_neg (by rw [h3.cons.1.1]; exact hw)]
  exact h ts p i o j h1 h2 h3 h4 (h5.le (by omega))
theorem Cl.down {e : Ex} {ws : List Str} {r m : Nat} (hm : m ≤ 7) (hw : 4 ≤ m → ∃ w t, ws = w :: t ∧ w ≠ "not") (h : Cl m e ws r) : ∀ {k l : Nat}, l + k = m → 1 ≤ l → Cl l e ws r ∧ (k ≠ 0 → isLoop l → Lp l e ws r)
  | 0, l, e, _ => ⟨by rw [Nat.add_zero] at e; rw [e]; exact h, fun z => absurd rfl z⟩
  | k + 1, l, e, hl => by
    have up := (Cl.down (k := k) (l := l + 1) hm hw h (by omega) (by omega)).1
    have : l = 1 ∨ l = 2 ∨ l = 3 ∨ l = 4 ∨ l = 5 ∨ l = 6 := by omega
    have lp : isLoop l → Lp l _ ws r := fun z => up.lp z
    refine ⟨?_, fun _ => lp⟩
    rcases this with z | z | z | z | z | z
    · exact (lp (.inl z)).cl
    · exact (lp (.inr (.inl z))).cl
    · subst z; exact up.three (hw (by omega))
    · subst z; exact up.four
    · exact (lp (.inr (.inr (.inl z)))).cl
    · exact (lp (.inr (.inr (.inr z)))).cl
theorem lft_ge {s : Str} : opLv s ≤ lft s := by unfold lft; split <;> omega
open SX in
theorem numS_S {n : Int} (h : 0 ≤ n) : numS n = S (TL.numL n.toNat) := by
  rw [← num_S]
  unfold numS
  rw [Int.toNat_of_nonneg h]
theorem numS_hd {n : Int} (h : 0 ≤ n) : ∃ c r, (numS n).cps.toList = c :: r ∧ isDg c = true := by
  rw [numS_S h]
  show ∃ c r, TL.numL n.toNat = c :: r ∧ _
  cases e : TL.numL n.toNat with
  | nil => exact absurd e (TL.numL_ne _)
  | cons c r =>
    refine ⟨c, r, rfl, ?_⟩
    have := TL.numL_digits n.toNat c (by rw [e]; exact List.mem_cons_self ..)
    unfold isDg
    rw [decide_eq_true this.1, decide_eq_true this.2]
    rfl
theorem dg_l {c : Nat} (h : isDg c = true) : isL c = false := by
  unfold isDg at h
  rw [Bool.and_eq_true, decide_eq_true_eq, decide_eq_true_eq] at h
  unfold isL
  rw [decide_eq_false (show ¬ 97 ≤ c by omega)]
  rfl
theorem numS_kd {n : Int} (h : 0 ≤ n) : kd (numS n) = "number" := by
  obtain ⟨c, r, e, hd⟩ := numS_hd h
  unfold kd
  rw [e]
  show (if isL c = true then _ else if isDg c = true then _ else _) = _
  rw [dg_l hd, hd]
  rfl
theorem NameOk.kd {s : Str} (h : NameOk s) : Par.kd s = "word" := by
  obtain ⟨c, r, e, hl⟩ := h.hd
  unfold Par.kd
  rw [e]
  show (if isL c = true then _ else if isDg c = true then _ else _) = _
  rw [hl]
  rfl
theorem W.head {r l : Nat} {e : Ex} {ws : List Str} (h : W r l e ws) : 4 ≤ l → ∃ w t, ws = w :: t ∧ w ≠ "not" := by
  induction h with
  | num n h0 h1 =>
    refine fun _ => ⟨_, _, rfl, fun z => ?_⟩
    have := numS_kd h0
    rw [show numS n = ("not" : Str) from z] at this
    exact absurd this (by decide +kernel)
  | nam s h => exact fun _ => ⟨_, _, rfl, fun z => h.kw (by rw [z]; decide +kernel)⟩
  | par h ih => exact fun _ => ⟨_, _, rfl, by decide +kernel⟩
  | no hl h ih => exact fun z => by omega
  | bin hs hl ha hb iha ihb =>
    intro hl'
    obtain ⟨w, t, rfl, k⟩ := iha (by have := @lft_ge; exact Nat.le_trans (Nat.le_trans hl' hl) this)
    exact ⟨w, _, rfl, k⟩
theorem numW_numS {n : Int} (h0 : 0 ≤ n) (h1 : n < 10000) : numW (numS n) = n := by
  unfold numW
  have := TL.int_num (n := n.toNat) (Nat.le_trans (TL.numL_len (k := 4) (by decide) (by omega)) (by decide))
  rw [Int.toNat_of_nonneg h0] at this
  unfold numS
  rw [this]
  rfl
theorem W.reads {r l : Nat} {e : Ex} {ws : List Str} (h : W r l e ws) : 1 ≤ l → l ≤ 7 → Cl l e ws r ∧ (isLoop l → Lp l e ws r) := by
  induction h with
  | @num r l n h0 h1 =>
    intro a b
    have c7 : Cl 7 (.num n) [numS n] r := fun ts p i o j _ _ h3 _ _ => by
      show pAtom ts (pE ts j) p i o = _
      unfold pAtom
      rw [if_pos (by rw [h3.cons.1.2, numS_kd h0]), h3.cons.1.1, numW_numS h0 h1]
      rfl
    obtain ⟨x, y⟩ := c7.down (m := 7) (k := 7 - l) (l := l) (by omega) (fun z => W.head (.num (r := r) (l := 7) n h0 h1) z) (by omega) a
    refine ⟨x, fun z => y ?_ z⟩
    rcases z with z | z | z | z <;> omega
  | @nam r l s hs =>
    intro a b
    have c7 : Cl 7 (.nam s) [s] r := fun ts p i o j _ _ h3 _ _ => by
      show pAtom ts (pE ts j) p i o = _
      obtain ⟨ew, ek⟩ := h3.cons.1
      unfold pAtom
      rw [hs.kd] at ek
      rw [if_neg (by rw [ek]; decide +kernel), if_neg (by
        rw [ew]
        intro z
        have := hs.kd
        rw [z] at this
        exact absurd this (by decide +kernel))]
      unfold isNm
      rw [ek, ew, decide_eq_false hs.kw]
      rfl
    obtain ⟨x, y⟩ := c7.down (m := 7) (k := 7 - l) (l := l) (by omega) (fun z => W.head (.nam (r := r) (l := 7) s hs) z) (by omega) a
    refine ⟨x, fun z => y ?_ z⟩
    rcases z with z | z | z | z <;> omega
  | @par r l e ws h ih =>
    intro a b
    have c7 : Cl 7 e (("(" : Str) :: (ws ++ [(")" : Str)])) (r + 1) := fun ts p i o j h1 h2 h3 h4 _ => by
      show pAtom ts (pE ts j) p i o = _
      obtain ⟨⟨ew, ek⟩, h3⟩ := h3.cons
      obtain ⟨h3, h3'⟩ := h3.app
      obtain ⟨⟨ew', _⟩, _⟩ := h3'.cons
      unfold pAtom
      rw [if_neg (by rw [ek]; decide +kernel), if_pos ew, if_neg (by omega)]
      match j, h2 with
      | j + 1, h2 =>
        have := (ih (by omega) (by omega)).1 ts (p + 1) (i + 1) o j (by omega) (by omega) h3 h4 (by
          rw [ew']
          exact fun s hs _ z => by subst z; exact absurd hs (by decide +kernel))
        have q : pE ts (j + 1) (p + 1) (i + 1) o = .ok e (i + 1 + ws.length) (o + nops e) := this
        rw [q]
        show (takeW ts ")" (i + 1 + ws.length) (o + nops e)).then _ = _
        unfold takeW
        rw [if_pos ew']
        show Rs.ok e _ _ = _
        rw [List.length_cons, List.length_append, List.length_singleton, show i + 1 + ws.length + 1 = i + (ws.length + 1 + 1) by omega]
    obtain ⟨x, y⟩ := c7.down (m := 7) (k := 7 - l) (l := l) (by omega) (fun z => W.head (.par (l := 7) h) z) (by omega) a
    refine ⟨x, fun z => y ?_ z⟩
    rcases z with z | z | z | z <;> omega
  | @no r l e ws hl h ih =>
    intro a b
    have c3 : Cl 3 (.no e) ("not" :: ws) r := fun ts p i o j h1 h2 h3 h4 h5 => by
      show pPlain ts (pE ts j) p i o = _
      obtain ⟨⟨ew, ek⟩, h3⟩ := h3.cons
      unfold pPlain
      have h4' : o + (nops e + 1) ≤ 40 := h4
      rw [if_pos ew]
      unfold opT
      rw [if_neg (by omega)]
      show (pCmp ts (pE ts j) p (i + 1) (o + 1)).then _ = _
      rw [List.length_cons, ← Nat.add_assoc, Nat.add_right_comm] at h5
      have : pCmp ts (pE ts j) p (i + 1) (o + 1) = _ := (ih (by omega) (by omega)).1 ts p (i + 1) (o + 1) j h1 h2 h3 (by omega) (h5.le (by omega))
      rw [this]
      show Rs.ok _ _ _ = Rs.ok _ _ _
      rw [List.length_cons, show i + 1 + ws.length = i + (ws.length + 1) by omega, show o + 1 + nops e = o + (nops e + 1) by omega]
      rfl
    obtain ⟨x, y⟩ := c3.down (m := 3) (k := 3 - l) (l := l) (by omega) (fun z => by omega) (by omega) a
    refine ⟨x, fun z => y ?_ z⟩
    rcases z with z | z | z | z <;> omega
  | @bin r l s A B wA wB hs hl ha hb iha ihb =>
    intro a b
    have g := lv_ops s hs
    have lg := @lft_ge s
    have lf : lft s ≤ 7 := by unfold lft; split <;> omega
    obtain ⟨ca, la⟩ := iha (by omega) lf
    obtain ⟨cb, _⟩ := ihb (by omega) (by omega)
    have len : ∀ i : Nat, i + (wA ++ s :: wB).length = i + wA.length + 1 + wB.length := fun i => by rw [List.length_append, List.length_cons]; omega
    have hd : 4 ≤ opLv s → ∃ w t, wA ++ s :: wB = w :: t ∧ w ≠ "not" := fun z => W.head (.bin (r := r) (l := opLv s) hs (Nat.le_refl _) ha hb) z
    rcases okf_op s hs with z4 | ⟨zl, zo⟩
    · have e5 : lft s = 5 := by unfold lft; rw [if_pos z4]
      have c4 : Cl 4 (.bin s A B) (wA ++ s :: wB) r := fun ts p i o j h1 h2 h3 h4 h5 => by
        show pCmp ts (pE ts j) p i o = _
        obtain ⟨h3, h3'⟩ := h3.app
        obtain ⟨⟨ew, _⟩, h3'⟩ := h3'.cons
        have h4' : o + (nops A + nops B + 1) ≤ 40 := h4
        rw [len] at h5
        unfold pCmp
        rw [e5] at ca
        rw [z4] at cb
        have q1 : pSum ts (pE ts j) p i o = _ := ca ts p i o j h1 h2 h3 (by omega) (by
          rw [ew]
          intro s' hs' hl' z
          rw [← z, z4] at hl'
          omega)
        rw [q1]
        show (if _ then _ else _) = _
        have ws : s = "==" ∨ s = "<" := by
          have : ∀ s ∈ ops, opLv s = 4 → s = "==" ∨ s = "<" := by unfold ops; decide +kernel
          exact this s hs z4
        rw [if_pos (by rw [ew]; exact ws)]
        unfold opT
        rw [if_neg (by omega), ew]
        show (pSum ts (pE ts j) p (i + wA.length + 1) (o + nops A + 1)).then _ = _
        have q2 : pSum ts (pE ts j) p (i + wA.length + 1) (o + nops A + 1) = _ := cb ts p (i + wA.length + 1) (o + nops A + 1) j h1 h2 h3' (by omega) (h5.le (by omega))
        rw [q2]
        show Rs.ok _ _ _ = Rs.ok _ _ _
        rw [len, show o + nops A + 1 + nops B = o + (nops A + nops B + 1) by omega]
        rfl
      obtain ⟨x, y⟩ := c4.down (m := 4) (k := 4 - l) (l := l) (by omega) (fun _ => hd (by omega)) (by omega) a
      refine ⟨x, fun z => y ?_ z⟩
      rcases z with z | z | z | z <;> omega
    · have n4 : opLv s ≠ 4 := by rcases zl with z | z | z | z <;> omega
      have el : lft s = opLv s := by unfold lft; rw [if_neg n4]
      have lp : Lp (opLv s) (.bin s A B) (wA ++ s :: wB) r := fun ts p i o j h1 h2 h3 h4 h5 => by
        obtain ⟨h3, h3'⟩ := h3.app
        obtain ⟨⟨ew, _⟩, h3'⟩ := h3'.cons
        have h4' : o + (nops A + nops B + 1) ≤ 40 := h4
        rw [len] at h5
        rw [el] at la
        obtain ⟨n, hn, q⟩ := la zl ts p i o j h1 h2 h3 (by omega) (by
          rw [ew]
          intro s' hs' hl' z
          rw [← z] at hl'
          omega)
        match n, hn with
        | 0, hn => omega
        | n + 1, hn =>
          refine ⟨n, by show 40 ≤ n + (o + (nops A + nops B + 1)); omega, ?_⟩
          rw [q]
          conv => lhs; unfold loop
          rw [ew, zo, if_pos rfl]
          unfold opT
          rw [if_neg (by omega), ew]
          show (rd ts (pE ts j) (opLv s + 1) p (i + wA.length + 1) (o + nops A + 1)).then _ = _
          rw [cb ts p (i + wA.length + 1) (o + nops A + 1) j h1 h2 h3' (by omega) h5]
          show loop _ _ _ _ _ _ _ = _
          rw [len, show o + nops A + 1 + nops B = o + nops (.bin s A B) by show _ = o + (nops A + nops B + 1); omega]
      by_cases z : l = opLv s
      · subst z
        exact ⟨lp.cl, fun _ => lp⟩
      · obtain ⟨x, y⟩ := lp.cl.down (m := opLv s) (k := opLv s - l) (l := l) (by omega) hd (by omega) a
        exact ⟨x, fun z => y (by omega) z⟩
end Par
namespace Par
open PySem L2 Dl Expr
def pc (ts : List Tok) : Nat → Nat
  | 0 => 0
  | i + 1 => pc ts i + if (tk ts i).word = "(" then 1 else 0
def pq (e : Ex) (l : Nat) : Nat := if lv e < l then 1 else 0
def np : Ex → Nat
  | .num _ => 0
  | .nam _ => 0
  | .no e => np e + pq e 4
  | .bin s a b => np a + pq a (lft s) + (np b + pq b (opLv s + 1))
def ExL : Ex → Prop
  | .num _ => True
  | .nam s => Expr.lays s = true
  | .no e => ExL e
  | .bin s a b => s ∈ ops ∧ ExL a ∧ ExL b
theorem pq_le {e : Ex} {l l' : Nat} (h : l ≤ l') : pq e l ≤ pq e l' := by
  unfold pq
  split
  · rw [if_pos (by omega)]; exact Nat.le_refl _
  · exact Nat.zero_le _
theorem pq_one {e : Ex} {l : Nat} : pq e l ≤ 1 := by
  unfold pq
  split <;> omega
theorem pc_succ {ts : List Tok} {i : Nat} : pc ts i ≤ pc ts (i + 1) := by
  show _ ≤ pc ts i + _
  omega
theorem opLv_pos (s : Str) : 1 ≤ opLv s := by
  unfold opLv
  repeat' split
  all_goals omega
theorem lv_pos (e : Ex) : 1 ≤ lv e := by
  cases e with
  | num n => show 1 ≤ 7; omega
  | nam s => show 1 ≤ 7; omega
  | no e => show 1 ≤ 3; omega
  | bin s a b => exact opLv_pos s
def Rd (ts : List Tok) (l i : Nat) : Rs Ex → Prop
  | .ok e i' _ => pc ts i + np e + pq e l ≤ pc ts i' ∧ ExL e
  | .bad _ => True
theorem Rd.then {ts : List Tok} {l i l' i0 : Nat} {r : Rs Ex} {f : Ex → Nat → Nat → Rs Ex} (h : Rd ts l i r) (hf : ∀ e i' o', pc ts i + np e + pq e l ≤ pc ts i' → ExL e → Rd ts l' i0 (f e i' o')) : Rd ts l' i0 (r.then f) := by
  cases r with
  | ok e i' o' => exact hf e i' o' h.1 h.2
  | bad q => trivial
theorem op_then {ts : List Tok} {l i i0 o : Nat} {f : Str → Nat → Nat → Rs Ex} (hf : Rd ts l i0 (f (tk ts i).word (i + 1) (o + 1))) : Rd ts l i0 ((opT ts i o).then f) := by
  unfold opT
  split
  · trivial
  · exact hf
theorem Rd.le {ts : List Tok} {l l' i : Nat} {r : Rs Ex} (h : Rd ts l i r) (k : l' ≤ l) : Rd ts l' i r := by
  cases r with
  | ok e i' o' =>
    have := pq_le (e := e) k
    have h1 := h.1
    exact ⟨by omega, h.2⟩
  | bad q => trivial
section
variable {ts : List Tok} {E : Nat → Nat → Nat → Rs Ex} (hl : ∀ i, Expr.lays (tk ts i).word = true) (hE : ∀ p i o, Rd ts 1 i (E p i o))
include hl hE
theorem rd_atom (p i o : Nat) : Rd ts 7 i (pAtom ts E p i o) := by
  unfold pAtom
  split
  · have := @pc_succ ts i
    exact ⟨by show pc ts i + 0 + 0 ≤ _; omega, trivial⟩
  · split
    · rename_i e
      split
      · trivial
      · refine (hE (p + 1) (i + 1) o).then fun e' i' o' h1 h2 => ?_
        unfold takeW
        split
        · have a : pc ts (i + 1) = pc ts i + if (tk ts i).word = "(" then 1 else 0 := rfl
          rw [if_pos e] at a
          have b := @pc_succ ts i'
          have c := @pq_one e' 7
          exact ⟨by show pc ts i + np e' + pq e' 7 ≤ pc ts (i' + 1); omega, h2⟩
        · trivial
    · split
      · have := @pc_succ ts i
        exact ⟨by show pc ts i + 0 + 0 ≤ _; omega, hl i⟩
      · trivial
omit hl hE in
theorem rd_lp {l i0 : Nat} {next : Nat → Nat → Rs Ex} (hlp : isLoop l) (hn : ∀ i o, Rd ts (l + 1) i (next i o)) : ∀ (n : Nat) (e : Ex) (i o : Nat), pc ts i0 + np e + pq e l ≤ pc ts i → ExL e → Rd ts l i0 (loop ts next (okf l) n e i o)
  | 0, e, i, o, h1, h2 => by
    unfold loop
    split
    · trivial
    · exact ⟨h1, h2⟩
  | n + 1, e, i, o, h1, h2 => by
    unfold loop
    split
    · rename_i c
      refine op_then ?_
      obtain ⟨z1, z2⟩ := okf_of c
      refine (hn (i + 1) (o + 1)).then fun e2 i2 o2 k1 k2 => ?_
      refine rd_lp hlp hn n _ i2 o2 ?_ ⟨z1, h2, k2⟩
      have a : lft (tk ts i).word = l := by
        unfold lft
        rw [if_neg (by rw [z2]; rcases hlp with z | z | z | z <;> omega), z2]
      have b : pq (.bin (tk ts i).word e e2) l = 0 := if_neg (by show ¬ opLv (tk ts i).word < l; omega)
      have c := @pc_succ ts i
      rw [b]
      show pc ts i0 + (np e + pq e (lft (tk ts i).word) + (np e2 + pq e2 (opLv (tk ts i).word + 1))) + 0 ≤ _
      rw [a, z2]
      omega
    · exact ⟨h1, h2⟩
theorem rd_prod (p i o : Nat) : Rd ts 6 i (pProd ts E p i o) := (rd_atom hl hE p i o).then fun e i' o' h1 h2 => rd_lp (l := 6) (.inr (.inr (.inr rfl))) (fun i o => rd_atom hl hE p i o) _ e i' o' (by have := @pq_le e 6 7 (by omega); omega) h2
theorem rd_sum (p i o : Nat) : Rd ts 5 i (pSum ts E p i o) := (rd_prod hl hE p i o).then fun e i' o' h1 h2 => rd_lp (l := 5) (.inr (.inr (.inl rfl))) (fun i o => rd_prod hl hE p i o) _ e i' o' (by have := @pq_le e 5 6 (by omega); omega) h2
theorem rd_cmp (p i o : Nat) : Rd ts 4 i (pCmp ts E p i o) := (rd_sum hl hE p i o).then fun e i' o' h1 h2 => by
  split
  · rename_i c
    refine op_then ?_
    have z : (tk ts i').word ∈ ops ∧ opLv (tk ts i').word = 4 := by
      rcases c with c | c
      · rw [c]; decide +kernel
      · rw [c]; decide +kernel
    refine (rd_sum hl hE p (i' + 1) (o' + 1)).then fun e2 i2 o2 k1 k2 => ⟨?_, z.1, h2, k2⟩
    have a : lft (tk ts i').word = 5 := by
      unfold lft
      rw [if_pos z.2]
    have b : pq (.bin (tk ts i').word e e2) 4 = 0 := if_neg (by show ¬ opLv (tk ts i').word < 4; omega)
    have c := @pc_succ ts i'
    rw [b]
    show pc ts i + (np e + pq e (lft (tk ts i').word) + (np e2 + pq e2 (opLv (tk ts i').word + 1))) + 0 ≤ _
    rw [a, z.2]
    have k1' : pc ts (i' + 1) + np e2 + pq e2 (4 + 1) ≤ pc ts i2 := k1
    omega
  · exact ⟨by have := @pq_le e 4 5 (by omega); omega, h2⟩
theorem rd_plain (p i o : Nat) : Rd ts 3 i (pPlain ts E p i o) := by
  unfold pPlain
  split
  · refine op_then ?_
    refine (rd_cmp hl hE p (i + 1) (o + 1)).then fun e2 i2 o2 k1 k2 => ⟨?_, k2⟩
    have c := @pc_succ ts i
    show pc ts i + (np e2 + pq e2 4) + 0 ≤ _
    omega
  · exact (rd_cmp hl hE p i o).le (by omega)
theorem rd_each (p i o : Nat) : Rd ts 2 i (pEach ts E p i o) := (rd_plain hl hE p i o).then fun e i' o' h1 h2 => rd_lp (l := 2) (.inr (.inl rfl)) (fun i o => rd_plain hl hE p i o) _ e i' o' (by have := @pq_le e 2 3 (by omega); omega) h2
theorem rd_eith (p i o : Nat) : Rd ts 1 i (pEith ts E p i o) := (rd_each hl hE p i o).then fun e i' o' h1 h2 => rd_lp (l := 1) (.inl rfl) (fun i o => rd_each hl hE p i o) _ e i' o' (by have := @pq_le e 1 2 (by omega); omega) h2
end
theorem rd_E {ts : List Tok} (hl : ∀ i, Expr.lays (tk ts i).word = true) : ∀ (d p i o : Nat), Rd ts 1 i (pE ts d p i o)
  | 0, _, _, _ => trivial
  | d + 1, p, i, o => rd_eith hl (fun p i o => rd_E hl d p i o) p i o
def isP (t : Tok) : Bool := decide (t.word = "(")
theorem pc_take {ts : List Tok} : ∀ i, pc ts i = (ts.take i).countP isP
  | 0 => by rw [List.take_zero]; rfl
  | i + 1 => by
    rw [List.take_add_one, List.countP_append, ← pc_take i]
    show pc ts i + _ = _
    congr 1
    unfold tk
    cases e : ts[i]? with
    | none =>
      show (if ("" : Str) = "(" then 1 else 0) = List.countP isP []
      decide +kernel
    | some t =>
      show (if t.word = "(" then 1 else 0) = List.countP isP [t]
      rw [List.countP_cons, List.countP_nil]
      unfold isP
      by_cases z : t.word = "("
      · rw [if_pos z, decide_eq_true z]; rfl
      · rw [if_neg z, decide_eq_false z]; rfl
theorem pc_le {ts : List Tok} {i : Nat} : pc ts i ≤ ts.countP isP := by
  rw [pc_take]
  exact List.Sublist.countP_le (List.take_sublist i ts)
end Par
namespace Par
open PySem L2 Dl Expr SX
def isB (c : Nat) : Bool := decide (c = 32) || decide (c = 10)
def isNum (ds : List Nat) : Bool := decide (ds.length ≤ 4) && (decide (ds = [48]) || !decide (ds.head? = some 48))
def signL : List Nat := [40, 41, 44, 61, 60, 43, 45, 42]
def tokOf : List Nat → Str × List Nat
  | [] => ("fault", [])
  | c :: r =>
    if isL c = true then ("word", (c :: r).takeWhile isW)
    else if isDg c = true then (if isNum ((c :: r).takeWhile isDg) = true then ("number", (c :: r).takeWhile isDg) else ("fault", []))
    else if c = 61 ∧ r.head? = some 61 then ("sign", [61, 61])
    else if c ∈ signL then ("sign", [c])
    else ("fault", [])
def lexA : Nat → List Nat → Nat → List Tok
  | 0, _, p => [⟨"end", "", p⟩]
  | _ + 1, [], p => [⟨"end", "", p⟩]
  | n + 1, c :: r, p =>
    if (tokOf (c :: r)).1 = "fault" then [⟨"fault", "", p⟩]
    else ⟨(tokOf (c :: r)).1, S (tokOf (c :: r)).2, p⟩ ::
      lexA n (((c :: r).drop (tokOf (c :: r)).2.length).dropWhile isB) (p + (tokOf (c :: r)).2.length + (((c :: r).drop (tokOf (c :: r)).2.length).takeWhile isB).length)
def lexT (cs : List Nat) : List Tok := if 4000 < cs.length then [⟨"fault", "", 4000⟩] else lexA (cs.length + 1) (cs.dropWhile isB) (cs.takeWhile isB).length
theorem tokOf_cons (c : Nat) (r : List Nat) : tokOf (c :: r) = if isL c = true then (("word" : Str), (c :: r).takeWhile isW)
    else if isDg c = true then (if isNum ((c :: r).takeWhile isDg) = true then (("number" : Str), (c :: r).takeWhile isDg) else (("fault" : Str), []))
    else if c = 61 ∧ r.head? = some 61 then (("sign" : Str), [61, 61])
    else if c ∈ signL then (("sign" : Str), [c])
    else (("fault" : Str), []) := rfl
theorem tokOf_pre (l : List Nat) : ∃ q, l = (tokOf l).2 ++ q := by
  have tw : ∀ P : Nat → Bool, ∃ q, l = l.takeWhile P ++ q := fun P => ⟨l.dropWhile P, (List.takeWhile_append_dropWhile).symm⟩
  cases l with
  | nil => exact ⟨[], rfl⟩
  | cons c r =>
    rw [tokOf_cons]
    split
    · exact tw _
    split
    · split
      · exact tw _
      · exact ⟨_, rfl⟩
    split
    · rename_i h
      obtain ⟨rfl, h⟩ := h
      cases r with
      | nil => cases h
      | cons d r =>
        cases h
        exact ⟨r, rfl⟩
    split
    · exact ⟨r, rfl⟩
    · exact ⟨_, rfl⟩
theorem tokOf_ne {c : Nat} {r : List Nat} (h : (tokOf (c :: r)).1 ≠ "fault") : 0 < (tokOf (c :: r)).2.length := by
  rw [tokOf_cons] at h ⊢
  split
  · rename_i e
    show 0 < ((c :: r).takeWhile isW).length
    rw [List.takeWhile_cons, if_pos (by unfold isW; rw [e]; rfl)]
    exact Nat.succ_pos _
  · rename_i e
    rw [if_neg e] at h
    split
    · rename_i e
      rw [if_pos e] at h
      split
      · show 0 < ((c :: r).takeWhile isDg).length
        rw [List.takeWhile_cons, if_pos e]
        exact Nat.succ_pos _
      · rename_i e
        rw [if_neg e] at h
        exact absurd rfl h
    · rename_i e
      rw [if_neg e] at h
      split
      · exact Nat.succ_pos _
      · rename_i e
        rw [if_neg e] at h
        split
        · exact Nat.succ_pos _
        · rename_i e
          rw [if_neg e] at h
          exact absurd rfl h
theorem tokOf_num {l : List Nat} (h : (tokOf l).1 = "number") : (tokOf l).2.all (fun c => decide (48 ≤ c) && decide (c ≤ 57)) = true ∧ (tokOf l).2 ≠ [] ∧ (tokOf l).2.length ≤ 4 := by
  have w1 : ("word" : Str) ≠ "number" := by decide +kernel
  have w2 : ("fault" : Str) ≠ "number" := by decide +kernel
  have w3 : ("sign" : Str) ≠ "number" := by decide +kernel
  cases l with
  | nil => exact absurd h w2
  | cons c r =>
    rw [tokOf_cons] at h ⊢
    split
    · rename_i e
      rw [if_pos e] at h
      exact absurd h w1
    rename_i e
    rw [if_neg e] at h
    split
    · rename_i e
      rw [if_pos e] at h
      split
      · rename_i e2
        refine ⟨?_, ?_, ?_⟩
        · rw [List.all_eq_true]
          intro x hx
          have : isDg x = true := by
            have := List.all_takeWhile (l := c :: r) (p := isDg)
            exact (List.all_eq_true.mp this) x hx
          exact this
        · show (c :: r).takeWhile isDg ≠ []
          rw [List.takeWhile_cons, if_pos e]
          exact List.cons_ne_nil _ _
        · unfold isNum at e2
          rw [Bool.and_eq_true] at e2
          exact of_decide_eq_true e2.1
      · rename_i e
        rw [if_neg e] at h
        exact absurd h w2
    rename_i e
    rw [if_neg e] at h
    split
    · rename_i e
      rw [if_pos e] at h
      exact absurd h w3
    rename_i e
    rw [if_neg e] at h
    split
    · rename_i e
      rw [if_pos e] at h
      exact absurd h w3
    rename_i e
    rw [if_neg e] at h
    exact absurd h w2
theorem tokOf_kind (l : List Nat) : (tokOf l).1 = "word" ∨ (tokOf l).1 = "number" ∨ (tokOf l).1 = "sign" ∨ (tokOf l).1 = "fault" := by
  cases l with
  | nil => exact .inr (.inr (.inr rfl))
  | cons c r =>
    rw [tokOf_cons]
    split
    · exact .inl rfl
    split
    · split
      · exact .inr (.inl rfl)
      · exact .inr (.inr (.inr rfl))
    split
    · exact .inr (.inr (.inl rfl))
    split
    · exact .inr (.inr (.inl rfl))
    · exact .inr (.inr (.inr rfl))
def Ch (l : List Nat) : Prop := ∀ c ∈ l, c < 1114112
theorem lays_S {l : List Nat} (h : Ch l) : Expr.lays (S l) = true := by
  unfold Expr.lays PyData.canLay0
  show Array.all _ _ = true
  rw [← Array.all_toList]
  exact List.all_eq_true.mpr fun c hc => decide_eq_true (h c hc)
theorem Ch.app {a b : List Nat} (h : Ch (a ++ b)) : Ch a ∧ Ch b := ⟨fun c hc => h c (List.mem_append_left _ hc), fun c hc => h c (List.mem_append_right _ hc)⟩
theorem Ch.sub {a b : List Nat} (h : Ch b) (s : a.Sublist b) : Ch a := fun c hc => h c (s.subset hc)
theorem dropW_len {P : Nat → Bool} (l : List Nat) : (l.dropWhile P).length ≤ l.length := List.Sublist.length_le (List.dropWhile_sublist P)
theorem lone {k : Str} (hk : k = "end" ∨ k = "fault") (p : Int) (m : Nat) : 0 < [(⟨k, "", p⟩ : Tok)].length ∧ (∀ t ∈ [(⟨k, "", p⟩ : Tok)], Expr.lays t.kind = true ∧ Expr.lays t.word = true) ∧ (∀ t ∈ [(⟨k, "", p⟩ : Tok)], t.kind = "number" → ∃ n, PySem.intText? t.word = some n ∧ t.word.length ≤ 640) ∧
    (∀ t, [(⟨k, "", p⟩ : Tok)][[(⟨k, "", p⟩ : Tok)].length - 1]? = some t → t.word = "" ∧ (t.kind = "end" ∨ t.kind = "fault")) ∧ [(⟨k, "", p⟩ : Tok)].countP isP ≤ m := by
  refine ⟨Nat.succ_pos _, fun t ht => ?_, fun t ht h => ?_, fun t ht => ?_, ?_⟩
  · rw [List.mem_singleton.mp ht]
    refine ⟨?_, (by decide +kernel : Expr.lays ("" : Str) = true)⟩
    show Expr.lays k = true
    rcases hk with rfl | rfl <;> decide +kernel
  · rw [List.mem_singleton.mp ht] at h
    have h' : k = "number" := h
    rcases hk with rfl | rfl <;> exact absurd h' (by decide +kernel)
  · cases ht; exact ⟨rfl, hk⟩
  · rw [List.countP_cons, List.countP_nil]
    have : isP ⟨k, "", p⟩ = false := by
      show decide (("" : Str) = "(") = false
      decide +kernel
    rw [this]
    exact Nat.zero_le _
theorem lexA_ok : ∀ (n : Nat) (l : List Nat) (p : Nat), l.length < n → Ch l → 0 < (lexA n l p).length ∧ (∀ t ∈ lexA n l p, Expr.lays t.kind = true ∧ Expr.lays t.word = true) ∧ (∀ t ∈ lexA n l p, t.kind = "number" → ∃ n, PySem.intText? t.word = some n ∧ t.word.length ≤ 640) ∧
    (∀ t, (lexA n l p)[(lexA n l p).length - 1]? = some t → t.word = "" ∧ (t.kind = "end" ∨ t.kind = "fault")) ∧ (lexA n l p).countP isP ≤ l.count 40
  | 0, l, p, h, _ => absurd h (Nat.not_lt_zero _)
  | n + 1, [], p, _, _ => lone (.inl rfl) p _
  | n + 1, c :: r, p, h, k => by
    unfold lexA
    split
    · exact lone (.inr rfl) p _
    · rename_i hf
      obtain ⟨q, e⟩ := tokOf_pre (c :: r)
      have ed : (c :: r).drop (tokOf (c :: r)).2.length = q := by
        conv => lhs; rw [e]
        have e2 : ((tokOf (c :: r)).2 ++ q).drop (tokOf (c :: r)).2.length = q := List.drop_left
        rw [← e]
        conv at e2 => lhs; arg 2; rw [← e]
        exact e2
      rw [ed]
      have hp := tokOf_ne hf
      have hl : (c :: r).length = (tokOf (c :: r)).2.length + q.length := by
        conv => lhs; rw [e]
        exact List.length_append
      have kq : Ch (tokOf (c :: r)).2 ∧ Ch q := by
        rw [e] at k
        exact k.app
      have lq := dropW_len (P := isB) q
      obtain ⟨i1, i2, i3, i4, i5⟩ := lexA_ok n (q.dropWhile isB) (p + (tokOf (c :: r)).2.length + (q.takeWhile isB).length) (by omega) (kq.2.sub (List.dropWhile_sublist _))
      refine ⟨Nat.succ_pos _, fun t ht => ?_, fun t ht hn => ?_, fun t ht => ?_, ?_⟩
      · rcases List.mem_cons.mp ht with rfl | ht
        · refine ⟨?_, lays_S kq.1⟩
          show Expr.lays (tokOf (c :: r)).1 = true
          rcases tokOf_kind (c :: r) with z | z | z | z <;> rw [z] <;> decide +kernel
        · exact i2 t ht
      · rcases List.mem_cons.mp ht with rfl | ht
        · obtain ⟨a1, a2, a3⟩ := tokOf_num hn
          exact ⟨_, int_S a1 a2 (by omega), by rw [S_len]; omega⟩
        · exact i3 t ht hn
      · rw [List.length_cons, Nat.add_sub_cancel] at ht
        have : (lexA n (q.dropWhile isB) (p + (tokOf (c :: r)).2.length + (q.takeWhile isB).length)).length = (lexA n (q.dropWhile isB) (p + (tokOf (c :: r)).2.length + (q.takeWhile isB).length)).length - 1 + 1 := by omega
        rw [this, List.getElem?_cons_succ] at ht
        exact i4 t ht
      · rw [List.countP_cons]
        have a : (c :: r).count 40 = (tokOf (c :: r)).2.count 40 + q.count 40 := by
          conv => lhs; rw [e]
          exact List.count_append
        have b : (q.dropWhile isB).count 40 ≤ q.count 40 := List.Sublist.count_le 40 (List.dropWhile_sublist _)
        rw [a]
        split
        · rename_i z
          have z2 : S (tokOf (c :: r)).2 = "(" := of_decide_eq_true z
          have z3 : (tokOf (c :: r)).2 = [40] := S_inj (z2.trans (by decide +kernel))
          have z4 : (tokOf (c :: r)).2.count 40 = 1 := by rw [z3]; decide
          omega
        · omega
theorem lexT_ok {cs : List Nat} (h : Ch cs) : 0 < (lexT cs).length ∧ (∀ t ∈ lexT cs, Expr.lays t.kind = true ∧ Expr.lays t.word = true) ∧ (∀ t ∈ lexT cs, t.kind = "number" → ∃ n, PySem.intText? t.word = some n ∧ t.word.length ≤ 640) ∧
    (∀ t, (lexT cs)[(lexT cs).length - 1]? = some t → t.word = "" ∧ (t.kind = "end" ∨ t.kind = "fault")) ∧ (lexT cs).countP isP ≤ cs.count 40 := by
  unfold lexT
  split
  · exact lone (.inr rfl) _ _
  · have l := dropW_len (P := isB) cs
    obtain ⟨a, b, c, d, e⟩ := lexA_ok (cs.length + 1) (cs.dropWhile isB) (cs.takeWhile isB).length (by omega) (h.sub (List.dropWhile_sublist _))
    exact ⟨a, b, c, d, Nat.le_trans e (List.Sublist.count_le 40 (List.dropWhile_sublist _))⟩
def Wk (w : List Nat) : Prop := (∃ c r, w = c :: r ∧ isL c = true ∧ ∀ x ∈ w, isW x = true) ∨ (∃ c r, w = c :: r ∧ isNum w = true ∧ ∀ x ∈ w, isDg x = true) ∨ w ∈ [[40], [41], [60], [43], [45], [42], [61, 61]]
def Bd (w x : List Nat) : Prop := ∀ c, x.head? = some c → (isL (w.headD 0) = true → isW c = false) ∧ (isDg (w.headD 0) = true → isDg c = false)
theorem tw_app {P : Nat → Bool} : ∀ {w t : List Nat}, (∀ c ∈ w, P c = true) → (∀ c, t.head? = some c → P c = false) → (w ++ t).takeWhile P = w ∧ (w ++ t).dropWhile P = t
  | [], [], _, _ => ⟨rfl, rfl⟩
  | [], c :: r, _, h => by
    have := h c rfl
    rw [List.nil_append, List.takeWhile_cons, List.dropWhile_cons, this]
    exact ⟨rfl, rfl⟩
  | c :: w, t, h, k => by
    obtain ⟨a, b⟩ := tw_app (P := P) (w := w) (t := t) (fun c hc => h c (List.mem_cons_of_mem _ hc)) k
    rw [List.cons_append, List.takeWhile_cons, List.dropWhile_cons, h c (List.mem_cons_self ..)]
    exact ⟨congrArg _ a, b⟩
theorem Wk.ne {w : List Nat} (h : Wk w) : ∃ c r, w = c :: r ∧ isB c = false := by
  have nb : ∀ c, (isL c = true ∨ isDg c = true) → isB c = false := by
    intro c h
    unfold isB
    rw [decide_eq_false, decide_eq_false]
    · rfl
    · rintro rfl; rcases h with h | h <;> exact absurd h (by decide)
    · rintro rfl; rcases h with h | h <;> exact absurd h (by decide)
  rcases h with ⟨c, r, rfl, h, _⟩ | ⟨c, r, rfl, _, h⟩ | h
  · exact ⟨c, r, rfl, nb c (.inl h)⟩
  · exact ⟨c, r, rfl, nb c (.inr (h c (List.mem_cons_self ..)))⟩
  · simp only [List.mem_cons, List.not_mem_nil, or_false] at h
    rcases h with rfl | rfl | rfl | rfl | rfl | rfl | rfl <;> exact ⟨_, _, rfl, by decide⟩
theorem kd_S (w : List Nat) : kd (S w) = match w with
  | [] => ("end" : Str)
  | c :: _ => if isL c then "word" else if isDg c then "number" else "sign" := rfl
theorem tokOf_word {w t : List Nat} (h : Wk w) (b : Bd w t) : tokOf (w ++ t) = (kd (S w), w) := by
  rw [kd_S]
  rcases h with ⟨c, r, rfl, hc, hw⟩ | ⟨c, r, rfl, hn, hd⟩ | h
  · have a := (tw_app (P := isW) (t := t) hw fun x hx => (b x hx).1 hc).1
    rw [List.cons_append] at a ⊢
    rw [tokOf_cons]
    rw [if_pos hc, a]
    simp only [hc, if_true]
  · have hc := hd c (List.mem_cons_self ..)
    have a := (tw_app (P := isDg) (t := t) hd fun x hx => (b x hx).2 hc).1
    rw [List.cons_append] at a ⊢
    rw [tokOf_cons]
    rw [if_neg (by rw [dg_l hc]; exact Bool.false_ne_true), if_pos hc, a, if_pos hn]
    simp only [hc, dg_l hc, if_true, Bool.false_eq_true, if_false]
  · simp only [List.mem_cons, List.not_mem_nil, or_false] at h
    rcases h with rfl | rfl | rfl | rfl | rfl | rfl | rfl
    all_goals first | rfl | rfl | skip
inductive Tx : List (List Nat) → List Nat → Prop where
  | nil : Tx [] []
  | cons {w : List Nat} {ws : List (List Nat)} {g t : List Nat} (hw : Wk w) (hg : ∀ c ∈ g, isB c = true) (ht : Tx ws t) (hb : Bd w (g ++ t)) : Tx (w :: ws) (w ++ (g ++ t))
theorem Tx.nb {ws : List (List Nat)} {t : List Nat} (h : Tx ws t) : ∀ c, t.head? = some c → isB c = false := by
  cases h with
  | nil => intro c h; cases h
  | cons hw hg ht hb =>
    obtain ⟨c, r, rfl, k⟩ := hw.ne
    intro x hx
    cases hx
    exact k
theorem lex_tx {ws : List (List Nat)} {t : List Nat} (h : Tx ws t) : ∀ (n p : Nat), t.length < n → (lexA n t p).map (fun k => (k.kind, k.word)) = ws.map (fun w => (kd (S w), S w)) ++ [(("end" : Str), ("" : Str))] := by
  induction h with
  | nil =>
    intro n p hn
    match n, hn with
    | n + 1, _ => rfl
  | @cons w ws g t hw hg ht hb ih =>
    intro n p hn
    match n, hn with
    | n + 1, hn =>
      have e := tokOf_word (t := g ++ t) hw hb
      obtain ⟨c, r, rfl, _⟩ := hw.ne
      rw [List.cons_append] at e ⊢
      unfold lexA
      rw [e]
      have kf : kd (S (c :: r)) ≠ "fault" := by
        rw [kd_S]
        show (if isL c = true then _ else if isDg c = true then _ else _) ≠ _
        split
        · decide +kernel
        split
        · decide +kernel
        · decide +kernel
      rw [if_neg kf]
      have ed : (c :: (r ++ (g ++ t))).drop (c :: r).length = g ++ t := by
        rw [← List.cons_append]
        exact List.drop_left
      obtain ⟨a1, a2⟩ := tw_app (P := isB) (w := g) (t := t) hg ht.nb
      simp only [ed, a1, a2, List.map_cons, List.cons_append]
      rw [ih n _ (by simp only [List.cons_append, List.length_cons, List.length_append] at hn; omega)]
theorem lexT_tx {ws : List (List Nat)} {g t : List Nat} (hg : ∀ c ∈ g, isB c = true) (h : Tx ws t) (hl : (g ++ t).length ≤ 4000) : (lexT (g ++ t)).map (fun k => (k.kind, k.word)) = ws.map (fun w => (kd (S w), S w)) ++ [(("end" : Str), ("" : Str))] := by
  unfold lexT
  rw [if_neg (by omega)]
  obtain ⟨a1, a2⟩ := tw_app (P := isB) (w := g) (t := t) hg h.nb
  rw [a1, a2]
  exact lex_tx h _ _ (by rw [List.length_append]; omega)
end Par
namespace Par
open PySem L2 Dl Expr SX
abbrev tl (s : Str) : List Nat := s.cps.toList
def Bl (g : List Nat) : Prop := ∀ c ∈ g, isB c = true
theorem isB_W {c : Nat} (h : isB c = true) : isW c = false ∧ isDg c = false := by
  unfold isB at h
  rw [Bool.or_eq_true, decide_eq_true_eq, decide_eq_true_eq] at h
  rcases h with rfl | rfl <;> decide
theorem bd_par {x : List Nat} : Bd [40] x := fun c _ => ⟨fun h => absurd h (by decide), fun h => absurd h (by decide)⟩
theorem bd_c {w x : List Nat} {c : Nat} (h : isW c = false) : Bd w (c :: x) := fun d hd => by
  cases hd
  refine ⟨fun _ => h, fun _ => ?_⟩
  unfold isW at h
  rw [Bool.or_eq_false_iff] at h
  exact h.2
theorem bd_bl {w g x : List Nat} (hg : Bl g) (ne : g ≠ []) : Bd w (g ++ x) := by
  cases g with
  | nil => exact absurd rfl ne
  | cons c g => exact bd_c (isB_W (hg c (List.mem_cons_self ..))).1
theorem bd_nil {w : List Nat} : Bd w [] := fun c h => by cases h
theorem bd_end {w g : List Nat} (hg : Bl g) : Bd w (g ++ []) := by
  cases g with
  | nil => exact bd_nil
  | cons c g => exact bd_bl hg (List.cons_ne_nil _ _)
theorem bd_more {l g w x : List Nat} (ne : w ≠ []) (h : Bd l (g ++ w)) : Bd l (g ++ (w ++ x)) := fun c hc => h c (by
  cases g with
  | cons d g => exact hc
  | nil =>
    cases w with
    | nil => exact absurd rfl ne
    | cons d w => exact hc)
def TxL (ws : List (List Nat)) (last text : List Nat) : Prop := ∀ (g : List Nat) (ws' : List (List Nat)) (t : List Nat), Bl g → Tx ws' t → Bd last (g ++ t) → ∃ g0 t', Bl g0 ∧ Tx (ws ++ ws') t' ∧ text ++ (g ++ t) = g0 ++ t'
theorem TxL.start {g0 : List Nat} (h : Bl g0) : TxL [] [40] g0 := fun g ws' t hg ht _ => ⟨g0 ++ g, t, fun c hc => (List.mem_append.mp hc).elim (h c) (hg c), ht, by rw [List.append_assoc]⟩
theorem TxL.step {ws : List (List Nat)} {last text w g : List Nat} (h : TxL ws last text) (hw : Wk w) (hg : Bl g) (hb : Bd last (g ++ w)) : TxL (ws ++ [w]) w (text ++ (g ++ w)) := fun g' ws' t hg' ht hb' => by
  have ne : w ≠ [] := by
    obtain ⟨c, r, e, _⟩ := hw.ne
    rw [e]
    exact List.cons_ne_nil _ _
  obtain ⟨g0, t', a, b, c⟩ := h g (w :: ws') (w ++ (g' ++ t)) hg (.cons hw hg' ht hb') (bd_more ne hb)
  refine ⟨g0, t', a, by rw [List.append_assoc]; exact b, ?_⟩
  rw [← c]
  simp only [List.append_assoc]
theorem TxL.fin {ws : List (List Nat)} {last text g : List Nat} (h : TxL ws last text) (hg : Bl g) : ∃ g0 t', Bl g0 ∧ Tx ws t' ∧ text ++ g = g0 ++ t' := by
  obtain ⟨g0, t', a, b, c⟩ := h g [] [] hg .nil (bd_end hg)
  rw [List.append_nil] at b c
  exact ⟨g0, t', a, b, c⟩
def App (ws : List (List Nat)) (x : List Nat) : Prop := x ≠ [] ∧ ∀ ws0 last text g, TxL ws0 last text → Bl g → Bd last (g ++ x) → ∃ last', TxL (ws0 ++ ws) last' (text ++ (g ++ x))
theorem App.word {w : List Nat} (h : Wk w) : App [w] w := ⟨by
  obtain ⟨c, r, e, _⟩ := h.ne
  rw [e]
  exact List.cons_ne_nil _ _, fun ws0 last text g a b c => ⟨w, a.step h b c⟩⟩
theorem App.then {A B : List (List Nat)} {x y g : List Nat} (h : App A x) (k : App B y) (hg : Bl g) (ne : g ≠ []) : App (A ++ B) (x ++ (g ++ y)) := ⟨by
  intro e
  exact h.1 (List.append_eq_nil_iff.mp e).1, fun ws0 last text g0 a b c => by
  obtain ⟨l1, t1⟩ := h.2 ws0 last text g0 a b (by
    intro d hd
    refine c d ?_
    cases g0 with
    | cons e g0 => exact hd
    | nil =>
      cases x with
      | nil => exact absurd rfl h.1
      | cons e x => exact hd)
  obtain ⟨l2, t2⟩ := k.2 _ l1 _ g t1 hg (bd_bl hg ne)
  refine ⟨l2, ?_⟩
  simp only [List.append_assoc] at t2 ⊢
  exact t2⟩
theorem bl_nil : Bl [] := fun c h => nomatch h
theorem bl_sp : Bl [32] := fun c h => by rw [List.mem_singleton.mp h]; decide
theorem wk_lp : Wk [40] := .inr (.inr (by decide))
theorem wk_rp : Wk [41] := .inr (.inr (by decide))
theorem App.par {A : List (List Nat)} {x : List Nat} (h : App A x) : App ([40] :: (A ++ [[41]])) (40 :: (x ++ [41])) := ⟨List.cons_ne_nil _ _, fun ws0 last text g a b c => by
  have s1 := a.step wk_lp b (by
    intro d hd
    refine c d ?_
    cases g with
    | cons e g => exact hd
    | nil => exact hd)
  obtain ⟨l1, s2⟩ := h.2 _ _ _ [] s1 bl_nil bd_par
  have s3 := s2.step wk_rp bl_nil (bd_c (by decide))
  refine ⟨[41], ?_⟩
  simp only [List.append_assoc, List.nil_append, List.cons_append] at s3 ⊢
  exact s3⟩
def wrapL (b : Bool) (x : List Nat) : List Nat := if b = true then 40 :: (x ++ [41]) else x
def wrapW (b : Bool) (ws : List Str) : List Str := if b = true then "(" :: (ws ++ [(")" : Str)]) else ws
def prtL : Ex → List Nat
  | .num n => tl (numS n)
  | .nam s => tl s
  | .no e => [110, 111, 116, 32] ++ wrapL (decide (lv e < 4)) (prtL e)
  | .bin s a b => wrapL (decide (lv a < lft s)) (prtL a) ++ (32 :: (tl s ++ (32 :: wrapL (decide (lv b < opLv s + 1)) (prtL b))))
def pw : Ex → List Str
  | .num n => [numS n]
  | .nam s => [s]
  | .no e => "not" :: wrapW (decide (lv e < 4)) (pw e)
  | .bin s a b => wrapW (decide (lv a < lft s)) (pw a) ++ s :: wrapW (decide (lv b < opLv s + 1)) (pw b)
def need : Ex → Nat
  | .num _ => 0
  | .nam _ => 0
  | .no e => need e + pq e 4
  | .bin s a b => max (need a + pq a (lft s)) (need b + pq b (opLv s + 1))
def ExOk : Ex → Prop
  | .num n => 0 ≤ n ∧ n < 10000
  | .nam s => NameOk s
  | .no e => ExOk e
  | .bin s a b => s ∈ ops ∧ ExOk a ∧ ExOk b
theorem wrap_W {r l : Nat} {e : Ex} (h : ∀ r, need e ≤ r → W r (lv e) e (pw e)) (hr : need e + pq e l ≤ r) : W r l e (wrapW (decide (lv e < l)) (pw e)) := by
  unfold wrapW
  unfold pq at hr
  by_cases z : lv e < l
  · rw [if_pos z] at hr
    rw [if_pos (decide_eq_true z)]
    match r, hr with
    | r + 1, hr => exact .par ((h r (by omega)).less (lv_pos e))
  · rw [if_neg (by rw [decide_eq_false z]; exact Bool.false_ne_true)]
    exact (h r (by omega)).less (by omega)
theorem pw_W : ∀ {e : Ex}, ExOk e → ∀ r, need e ≤ r → W r (lv e) e (pw e)
  | .num n, h, r, _ => .num n h.1 h.2
  | .nam s, h, r, _ => .nam s h
  | .no e, h, r, hr => .no (Nat.le_refl _) (wrap_W (pw_W (e := e) h) hr)
  | .bin s a b, h, r, hr => by
    have hr' : max (need a + pq a (lft s)) (need b + pq b (opLv s + 1)) ≤ r := hr
    exact .bin h.1 (Nat.le_refl _) (wrap_W (pw_W h.2.1) (by omega)) (wrap_W (pw_W h.2.2) (by omega))
theorem wk_op : ∀ s ∈ ops, Wk (tl s) := by
  intro s hs
  unfold ops at hs
  simp only [List.mem_cons, List.not_mem_nil, or_false] at hs
  rcases hs with rfl | rfl | rfl | rfl | rfl | rfl | rfl
  · exact .inr (.inr (by decide +kernel))
  · exact .inr (.inr (by decide +kernel))
  · exact .inr (.inr (by decide +kernel))
  · exact .inr (.inr (by decide +kernel))
  · exact .inr (.inr (by decide +kernel))
  · exact .inl ⟨97, [110, 100], by decide +kernel, by decide, by decide +kernel⟩
  · exact .inl ⟨111, [114], by decide +kernel, by decide, by decide +kernel⟩
theorem wk_not : Wk (tl "not") := .inl ⟨110, [111, 116], by decide +kernel, by decide, by decide +kernel⟩
theorem numL_head : ∀ n : Nat, n ≠ 0 → (TL.numL n).head? ≠ some 48 := by
  intro n
  induction n using Nat.strongRecOn with
  | _ n ih =>
    intro h0
    by_cases h : n < 10
    · rw [TL.numL_lt h]
      show some (48 + n) ≠ some 48
      intro e
      have := Option.some.inj e
      omega
    · rw [TL.numL_step (by omega)]
      have := ih (n / 10) (by omega) (by omega)
      cases e : TL.numL (n / 10) with
      | nil => exact absurd e (TL.numL_ne _)
      | cons c r =>
        rw [e] at this
        exact this
theorem wk_num {n : Int} (h0 : 0 ≤ n) (h1 : n < 10000) : Wk (tl (numS n)) := by
  rw [numS_S h0]
  show Wk (TL.numL n.toNat)
  cases e : TL.numL n.toNat with
  | nil => exact absurd e (TL.numL_ne _)
  | cons c r =>
    rw [← e]
    refine .inr (.inl ⟨c, r, e, ?_, fun x hx => ?_⟩)
    · unfold isNum
      rw [decide_eq_true (TL.numL_len (k := 4) (by decide) (by omega)), Bool.true_and]
      by_cases z : n.toNat = 0
      · rw [z]; decide +kernel
      · rw [decide_eq_false (numL_head _ z)]
        exact Bool.or_true _
    · have := TL.numL_digits n.toNat x hx
      unfold isDg
      rw [decide_eq_true this.1, decide_eq_true this.2]
      rfl
theorem wk_name {s : Str} (h : NameOk s) : Wk (tl s) := by
  obtain ⟨c, r, e, k⟩ := h.hd
  exact .inl ⟨c, r, e, k, h.al⟩
theorem wrap_app {b : Bool} {ws : List Str} {x : List Nat} (h : App (ws.map tl) x) : App ((wrapW b ws).map tl) (wrapL b x) := by
  unfold wrapW wrapL
  cases b with
  | false => exact h
  | true =>
    rw [if_pos rfl, if_pos rfl, List.map_cons, List.map_append]
    exact h.par
theorem pw_app : ∀ {e : Ex}, ExOk e → App ((pw e).map tl) (prtL e)
  | .num n, h => .word (wk_num h.1 h.2)
  | .nam s, h => .word (wk_name h)
  | .no e, h => (App.word wk_not).then (wrap_app (pw_app (e := e) h)) bl_sp (List.cons_ne_nil _ _)
  | .bin s a b, h => by
    show App ((wrapW (decide (lv a < lft s)) (pw a) ++ s :: wrapW (decide (lv b < opLv s + 1)) (pw b)).map tl) (wrapL (decide (lv a < lft s)) (prtL a) ++ (32 :: (tl s ++ (32 :: wrapL (decide (lv b < opLv s + 1)) (prtL b)))))
    rw [List.map_append, List.map_cons]
    exact (wrap_app (pw_app h.2.1)).then ((App.word (wk_op s h.1)).then (wrap_app (pw_app h.2.2)) bl_sp (List.cons_ne_nil _ _)) bl_sp (List.cons_ne_nil _ _)
def wt : List Str → Nat
  | [] => 0
  | w :: r => w.length + 3 + wt r
theorem wt_app : ∀ A B : List Str, wt (A ++ B) = wt A + wt B
  | [], B => by rw [List.nil_append]; show _ = 0 + _; omega
  | a :: A, B => by
    show a.length + 3 + wt (A ++ B) = a.length + 3 + wt A + wt B
    rw [wt_app A B]
    omega
def wb (m : Nat) : Ex → Nat
  | .num _ => 18 + 8 * (m + 1)
  | .nam _ => 18 + 8 * (m + 1)
  | .no e => 6 + 8 * (m + 1) + wb m e
  | .bin _ a b => 6 + 8 * (m + 1) + wb m a + wb m b
theorem len_op : ∀ s ∈ ops, s.length ≤ 3 := by unfold ops; decide +kernel
theorem len_num {n : Int} (h0 : 0 ≤ n) (h1 : n < 10000) : (numS n).length ≤ 4 := by
  rw [numS_S h0, S_len]
  exact TL.numL_len (k := 4) (by decide) (by omega)
theorem wt_wrap {b : Bool} {ws : List Str} : wt (wrapW b ws) ≤ wt ws + 8 := by
  unfold wrapW
  split
  · show (("(" : Str).length + 3 + wt (ws ++ [(")" : Str)])) ≤ _
    rw [wt_app]
    have a : ("(" : Str).length = 1 := by decide +kernel
    have c : wt [(")" : Str)] = 4 := by decide +kernel
    omega
  · omega
theorem wt_pw {m : Nat} : ∀ {e : Ex}, ExOk e → wt (pw e) + 8 ≤ wb m e
  | .num n, h => by
    have := len_num h.1 h.2
    show (numS n).length + 3 + 0 + 8 ≤ 18 + 8 * (m + 1)
    omega
  | .nam s, h => by
    have := NameOk.ln h
    show s.length + 3 + 0 + 8 ≤ 18 + 8 * (m + 1)
    omega
  | .no e, h => by
    have a := wt_pw (m := m) (e := e) h
    have b := @wt_wrap (decide (lv e < 4)) (pw e)
    have c : ("not" : Str).length = 3 := by decide +kernel
    show ("not" : Str).length + 3 + wt (wrapW (decide (lv e < 4)) (pw e)) + 8 ≤ 6 + 8 * (m + 1) + wb m e
    omega
  | .bin s x y, h => by
    have a := wt_pw (m := m) h.2.1
    have b := wt_pw (m := m) h.2.2
    have a' := @wt_wrap (decide (lv x < lft s)) (pw x)
    have b' := @wt_wrap (decide (lv y < opLv s + 1)) (pw y)
    have c := len_op s h.1
    show wt (wrapW (decide (lv x < lft s)) (pw x) ++ s :: wrapW (decide (lv y < opLv s + 1)) (pw y)) + 8 ≤ 6 + 8 * (m + 1) + wb m x + wb m y
    rw [wt_app]
    show wt (wrapW (decide (lv x < lft s)) (pw x)) + (s.length + 3 + wt (wrapW (decide (lv y < opLv s + 1)) (pw y))) + 8 ≤ _
    omega
theorem wrapL_len {b : Bool} {x : List Nat} : (wrapL b x).length = x.length + (if b = true then 2 else 0) := by
  unfold wrapL
  split
  · rw [List.length_cons, List.length_append, List.length_singleton]
  · rfl
theorem wt_wrapE {b : Bool} {ws : List Str} : wt (wrapW b ws) = wt ws + (if b = true then 8 else 0) := by
  unfold wrapW
  split
  · show (("(" : Str).length + 3 + wt (ws ++ [(")" : Str)])) = _
    rw [wt_app]
    have a : ("(" : Str).length = 1 := by decide +kernel
    have c : wt [(")" : Str)] = 4 := by decide +kernel
    omega
  · omega
theorem prtL_len : ∀ e : Ex, (prtL e).length ≤ wt (pw e)
  | .num n => by show (numS n).length ≤ (numS n).length + 3 + 0; omega
  | .nam s => by show s.length ≤ s.length + 3 + 0; omega
  | .no e => by
    have a := prtL_len e
    have c : ("not" : Str).length = 3 := by decide +kernel
    show ([110, 111, 116, 32] ++ wrapL (decide (lv e < 4)) (prtL e)).length ≤ ("not" : Str).length + 3 + wt (wrapW (decide (lv e < 4)) (pw e))
    rw [List.length_append, wrapL_len, wt_wrapE]
    show 4 + _ ≤ _
    split <;> omega
  | .bin s x y => by
    have a := prtL_len x
    have b := prtL_len y
    show (wrapL (decide (lv x < lft s)) (prtL x) ++ (32 :: (tl s ++ (32 :: wrapL (decide (lv y < opLv s + 1)) (prtL y))))).length ≤ wt (wrapW (decide (lv x < lft s)) (pw x) ++ s :: wrapW (decide (lv y < opLv s + 1)) (pw y))
    rw [wt_app]
    show _ ≤ wt (wrapW (decide (lv x < lft s)) (pw x)) + (s.length + 3 + wt (wrapW (decide (lv y < opLv s + 1)) (pw y)))
    simp only [List.length_append, List.length_cons]
    rw [wrapL_len, wrapL_len, wt_wrapE, wt_wrapE]
    have c : (tl s).length = s.length := rfl
    rw [c]
    split <;> split <;> omega
theorem no40 {l : List Nat} (h : ∀ c ∈ l, isW c = true) : l.count 40 = 0 := List.count_eq_zero.mpr fun m => absurd (h 40 m) (by decide)
theorem count_wrap {b : Bool} {x : List Nat} : (wrapL b x).count 40 = x.count 40 + (if b = true then 1 else 0) := by
  unfold wrapL
  split
  · rw [List.count_cons, List.count_append]
    show x.count 40 + [41].count 40 + 1 = _
    have : [41].count 40 = 0 := by decide
    omega
  · rfl
theorem count_op : ∀ s ∈ ops, (tl s).count 40 = 0 := by unfold ops; decide +kernel
theorem prtL_np : ∀ {e : Ex}, ExOk e → (prtL e).count 40 = np e
  | .num n, h => by
    refine no40 fun c hc => ?_
    have hc' : c ∈ TL.numL n.toNat := by
      have : tl (numS n) = TL.numL n.toNat := by rw [numS_S h.1]
      rw [← this]
      exact hc
    have := TL.numL_digits n.toNat c hc'
    unfold isW isDg
    rw [decide_eq_true this.1, decide_eq_true this.2]
    exact Bool.or_true _
  | .nam s, h => no40 h.al
  | .no e, h => by
    have a := prtL_np (e := e) h
    show ([110, 111, 116, 32] ++ wrapL (decide (lv e < 4)) (prtL e)).count 40 = np e + pq e 4
    rw [List.count_append, count_wrap, a]
    have : [110, 111, 116, 32].count 40 = 0 := by decide
    rw [this]
    unfold pq
    simp only [decide_eq_true_eq]
    omega
  | .bin s x y, h => by
    have a := prtL_np h.2.1
    have b := prtL_np h.2.2
    show (wrapL (decide (lv x < lft s)) (prtL x) ++ (32 :: (tl s ++ (32 :: wrapL (decide (lv y < opLv s + 1)) (prtL y))))).count 40 = np x + pq x (lft s) + (np y + pq y (opLv s + 1))
    rw [List.count_append, count_wrap, a, List.count_cons, List.count_append, count_op s h.1, List.count_cons, count_wrap, b]
    unfold pq
    simp only [decide_eq_true_eq]
    have c : ((32 : Nat) == 40) = false := by decide
    rw [c]
    simp only [Bool.false_eq_true, if_false]
    omega
theorem at_of {ts : List Tok} {ws : List Str} (h : ts.map (fun k => (k.kind, k.word)) = ws.map (fun w => (kd w, w)) ++ [(("end" : Str), ("" : Str))]) : At ts 0 ws ∧ ((tk ts ws.length).kind = "end" ∧ (tk ts ws.length).word = "") := by
  have key : ∀ (k : Nat) (x : Str × Str), (ws.map (fun w => (kd w, w)) ++ [(("end" : Str), ("" : Str))])[k]? = some x → ((tk ts k).kind, (tk ts k).word) = x := by
    intro k x e
    rw [← h, List.getElem?_map] at e
    unfold tk
    cases q : ts[k]? with
    | none => rw [q] at e; cases e
    | some t => rw [q] at e; exact Option.some.inj e
  refine ⟨fun k w e => ?_, ?_⟩
  · have := key k (kd w, w) (by
      rw [List.getElem?_append_left (by rw [List.length_map]; exact (List.getElem?_eq_some_iff.mp e).1), List.getElem?_map, e]
      rfl)
    rw [Nat.zero_add]
    exact ⟨congrArg Prod.snd this, congrArg Prod.fst this⟩
  · have := key ws.length ("end", "") (by
      rw [List.getElem?_append_right (by rw [List.length_map]; exact Nat.le_refl _), List.length_map, Nat.sub_self]
      rfl)
    exact ⟨congrArg Prod.fst this, congrArg Prod.snd this⟩
theorem reads {e : Ex} {ws : List Str} {last text g : List Nat} (hw : W 10 1 e ws) (ho : nops e ≤ 40) (h : TxL (ws.map tl) last text) (hg : Bl g) (hl : (text ++ g).length ≤ 4000) :
    pE (lexT (text ++ g)) 11 0 0 0 = .ok e ws.length (nops e) ∧ (tk (lexT (text ++ g)) ws.length).kind = "end" := by
  obtain ⟨g0, t', a, b, c⟩ := h.fin hg
  rw [c] at hl ⊢
  have q := lexT_tx a b hl
  have q2 : (lexT (g0 ++ t')).map (fun k => (k.kind, k.word)) = ws.map (fun w => (kd w, w)) ++ [(("end" : Str), ("" : Str))] := by
    rw [q, List.map_map]
    congr 1
  obtain ⟨h1, h2, h3⟩ := at_of q2
  refine ⟨?_, h2⟩
  have := (hw.reads (by omega) (by omega)).1 (lexT (g0 ++ t')) 0 0 0 10 (by omega) (by omega) h1 (by omega) (by
    rw [Nat.zero_add, h3]
    intro s hs _ z
    subst z
    exact absurd hs (by decide +kernel))
  rw [Nat.zero_add, Nat.zero_add] at this
  exact this
theorem less_pair {e : Ex} (h : ExOk e) {cs : List Nat} (hc : Ch cs) (hn : cs.count 40 < (prtL e).count 40) {i o : Nat} : pE (lexT cs) 11 0 0 0 ≠ .ok e i o := fun z => by
  have ok := lexT_ok hc
  have hl : ∀ i, Expr.lays (tk (lexT cs) i).word = true := fun i => by
    unfold tk
    cases q : (lexT cs)[i]? with
    | none => exact (by decide +kernel : Expr.lays ("" : Str) = true)
    | some t => exact (ok.2.1 t (List.mem_of_getElem? q)).2
  have r := rd_E hl 11 0 0 0
  rw [z] at r
  have a : pc (lexT cs) 0 + np e + pq e 1 ≤ pc (lexT cs) i := r.1
  have b := @pc_le (lexT cs) i
  have c := ok.2.2.2.2
  rw [prtL_np h] at hn
  omega
end Par
namespace Par
open PySem L2 Dl
open _root_.Expr hiding lays
def Mo {α : Type} (o0 : Nat) : Rs α → Prop
  | .ok _ _ o => o0 ≤ o
  | .bad _ => True
theorem Mo.then {α β : Type} {o0 : Nat} {r : Rs α} {f : α → Nat → Nat → Rs β} (h : Mo o0 r) (hf : ∀ a i o, o0 ≤ o → Mo o0 (f a i o)) : Mo o0 (r.then f) := by
  cases r with
  | ok a i o => exact hf a i o h
  | bad q => trivial
theorem Mo.le {α : Type} {o0 o1 : Nat} {r : Rs α} (h : Mo o1 r) (k : o0 ≤ o1) : Mo o0 r := by
  cases r with
  | ok a i o => exact Nat.le_trans k h
  | bad q => trivial
section
variable {ts : List Tok}
theorem mo_op {i o : Nat} : Mo (o + 1) (opT ts i o) := by
  unfold opT
  split
  · trivial
  · exact Nat.le_refl _
theorem mo_take {w : Str} {i o : Nat} : Mo o (takeW ts w i o) := by
  unfold takeW
  split
  · exact Nat.le_refl _
  · trivial
theorem mo_loop {next : Nat → Nat → Rs Ex} {okw : Str → Bool} (hn : ∀ i o, Mo o (next i o)) : ∀ (n : Nat) (e : Ex) (i o : Nat), Mo o (loop ts next okw n e i o)
  | 0, e, i, o => by
    unfold loop
    split
    · trivial
    · exact Nat.le_refl _
  | n + 1, e, i, o => by
    unfold loop
    split
    · exact (mo_op.le (Nat.le_succ o)).then fun s i o1 h1 => ((hn i o1).le h1).then fun e2 i o2 h2 => (mo_loop hn n _ i o2).le h2
    · exact Nat.le_refl _
theorem mo_atom {E : Nat → Nat → Nat → Rs Ex} (hE : ∀ p i o, Mo o (E p i o)) (p i o : Nat) : Mo o (pAtom ts E p i o) := by
  unfold pAtom
  split
  · exact Nat.le_refl _
  split
  · split
    · trivial
    · exact (hE _ _ _).then fun e i o1 h1 => (mo_take.le h1).then fun _ i o2 h2 => h2
  split
  · exact Nat.le_refl _
  · trivial
theorem mo_prod {E : Nat → Nat → Nat → Rs Ex} (hE : ∀ p i o, Mo o (E p i o)) (p i o : Nat) : Mo o (pProd ts E p i o) := (mo_atom hE p i o).then fun e i o1 h => (mo_loop (fun i o => mo_atom hE p i o) _ e i o1).le h
theorem mo_sum {E : Nat → Nat → Nat → Rs Ex} (hE : ∀ p i o, Mo o (E p i o)) (p i o : Nat) : Mo o (pSum ts E p i o) := (mo_prod hE p i o).then fun e i o1 h => (mo_loop (fun i o => mo_prod hE p i o) _ e i o1).le h
theorem mo_cmp {E : Nat → Nat → Nat → Rs Ex} (hE : ∀ p i o, Mo o (E p i o)) (p i o : Nat) : Mo o (pCmp ts E p i o) := (mo_sum hE p i o).then fun e i o1 h => by
  split
  · exact (mo_op.le (by omega)).then fun s i o2 h2 => ((mo_sum hE p i o2).le h2).then fun e2 i o3 h3 => h3
  · exact h
theorem mo_plain {E : Nat → Nat → Nat → Rs Ex} (hE : ∀ p i o, Mo o (E p i o)) (p i o : Nat) : Mo o (pPlain ts E p i o) := by
  unfold pPlain
  split
  · exact (mo_op.le (by omega)).then fun s i o2 h2 => ((mo_cmp hE p i o2).le h2).then fun e2 i o3 h3 => h3
  · exact mo_cmp hE p i o
theorem mo_each {E : Nat → Nat → Nat → Rs Ex} (hE : ∀ p i o, Mo o (E p i o)) (p i o : Nat) : Mo o (pEach ts E p i o) := (mo_plain hE p i o).then fun e i o1 h => (mo_loop (fun i o => mo_plain hE p i o) _ e i o1).le h
theorem mo_eith {E : Nat → Nat → Nat → Rs Ex} (hE : ∀ p i o, Mo o (E p i o)) (p i o : Nat) : Mo o (pEith ts E p i o) := (mo_each hE p i o).then fun e i o1 h => (mo_loop (fun i o => mo_each hE p i o) _ e i o1).le h
theorem mo_E : ∀ (d p i o : Nat), Mo o (pE ts d p i o)
  | 0, _, _, _ => trivial
  | d + 1, p, i, o => mo_eith (fun p i o => mo_E d p i o) p i o
end
abbrev bodyY (Snext : DFO) : DS := dSeq (dSetY 3 (yCall S_take_operator (wV 0 (wV 1 wNil))))
    (dSetY 2 (yTup (yCons (yE (dVar 3)) (yCons (yE (dVar 2)) (yCons (yCall Snext (wV 0 (wV 1 wNil))) yNil)))))
def Fin (ts : List Tok) (p : Nat) (kk : DK) (v v2 : V) : Rs Ex → Prop
  | .ok e i o => ∀ as as2 s, kk.nx [.ow v as (rdD ts i), .ow v2 as2 (msD p o), .fz (exD e), s]
  | .bad z => ∀ ρ, kk.ex "InvalidText" [("position", .int z)] ρ
section
variable {ts : List Tok} {p : Nat} {okw : Str → Bool} {ft : DYT} {Snext : DFO} {next : Nat → Nat → Rs Ex} {v v2 : V}
theorem loop_w (ok : TsOk ts) (hft : ∀ (xq : XF) (as : List Addr) (rest : En) (i : Nat) (Q : Bool → En → Prop), i < ts.length → (∀ as', Q (okw (tk ts i).word) (.ow v as' (rdD ts i) :: rest)) → ft xq (.ow v as (rdD ts i) :: rest) Q)
    (hS : ∀ i o Q X, i < ts.length → o ≤ 40 → Ans exD ts p Q X (next i o) → Snext [.o (rdD ts i), .o (msD p o)] Q X)
    (hk : ∀ i o, i < ts.length → o ≤ 40 → Kp ts (next i o)) (hm : ∀ i o, Mo o (next i o)) (he : okw "" = false) (kk : DK) : ∀ (n i o : Nat) (e : Ex) (as as2 : List Addr) (s3 : Dl.S), i < ts.length → o ≤ 40 → 40 ≤ n + o →
      Fin ts p kk v v2 (loop ts next okw n e i o) → whileY ft (bodyY Snext) kk (n + 1) [.ow v as (rdD ts i), .ow v2 as2 (msD p o), .fz (exD e), s3]
  | n, i, o, e, as, as2, s3, hi, ho, hn, q => by
    unfold whileY
    refine hft _ _ _ i _ hi fun as1 => ?_
    cases c : okw (tk ts i).word with
    | false =>
      rw [loop_end c] at q
      simp only [Bool.false_eq_true, if_false]
      exact q as1 as2 s3
    | true =>
      simp only [if_true]
      have hw : (tk ts i).word ≠ "" := fun z => by rw [z, he] at c; cases c
      have kop := kp_op ok hi ho hw
      have mop := @mo_op ts i o
      show dSetY 3 _ _ [.ow v as1 (rdD ts i), .ow v2 as2 (msD p o), .fz (exD e), s3]
      refine me_call (enc := D.str) (ts := ts) (i := i) (p := p) (o := o) (v := v) (v2 := v2) (as := as1) (as2 := as2) (r := opT ts i o) rfl rfl (by decide) (fun Q' X' a => ⟨ts, i, p, o, rfl, ok, hi, a⟩) ?_
      match n, hn with
      | 0, hn =>
        unfold loop at q
        rw [c, if_pos rfl] at q
        unfold opT
        rw [if_pos (show o = 40 by omega)]
        exact q _
      | n + 1, hn =>
        unfold loop at q
        rw [c, if_pos rfl] at q
        cases r : opT ts i o with
        | bad z => rw [r] at q; exact q _
        | ok s i1 o1 =>
          rw [r] at q kop mop
          intro as3 as4
          dsimp only
          have q1 : Fin ts p kk v v2 ((next i1 o1).then fun e2 i o => loop ts next okw n (.bin s e e2) i o) := q
          have kn := hk i1 o1 kop.1 kop.2
          have mn := hm i1 o1
          show dSetY 2 _ _ [.ow v as3 (rdD ts i1), .ow v2 as4 (msD p o1), .fz (exD e), .fz (.str s)]
          refine me_call (enc := exD) (ts := ts) (i := i1) (p := p) (o := o1) (v := v) (v2 := v2) (as := as3) (as2 := as4) (r := next i1 o1) rfl rfl (by decide) (fun Q' X' a => hS i1 o1 Q' X' kop.1 kop.2 a) ?_
          cases r2 : next i1 o1 with
          | bad z => rw [r2] at q1; exact q1 _
          | ok e2 i2 o2 =>
            rw [r2] at q1 kn mn
            intro as5 as6
            have m1 : o + 1 ≤ o1 := mop
            have m2 : o1 ≤ o2 := mn
            exact loop_w ok hft hS hk hm he kk n i2 o2 (.bin s e e2) as5 as6 (.fz (.str s)) kn.1 kn.2 (by omega) q1
theorem p_loop (ok : TsOk ts) (hft : ∀ (xq : XF) (as : List Addr) (rest : En) (i : Nat) (Q : Bool → En → Prop), i < ts.length → (∀ as', Q (okw (tk ts i).word) (.ow v as' (rdD ts i) :: rest)) → ft xq (.ow v as (rdD ts i) :: rest) Q)
    (hS : ∀ i o Q X, i < ts.length → o ≤ 40 → Ans exD ts p Q X (next i o) → Snext [.o (rdD ts i), .o (msD p o)] Q X)
    (hk : ∀ i o, i < ts.length → o ≤ 40 → Kp ts (next i o)) (hm : ∀ i o, Mo o (next i o)) (he : okw "" = false) {i o : Nat} {Qd : AD → List AD → Prop} {Xq : XQ} {as as2 : List Addr} (hi : i < ts.length) (ho : o ≤ 40)
    (q : Ans exD ts p Qd Xq ((next i o).then fun e i o => loop ts next okw (40 - o) e i o)) :
    dSeq (dSetY 2 (yCall Snext (wV 0 (wV 1 wNil)))) (dSeq (dWhileY ft (bodyY Snext)) (dRetV 2)) (kO [.o (rdD ts i), .o (msD p o)] [v, v2] Qd Xq) [.ow v as (rdD ts i), .ow v2 as2 (msD p o), .un, .un] := by
  show dSetY 2 _ _ [.ow v as (rdD ts i), .ow v2 as2 (msD p o), .un, .un]
  have kn := hk i o hi ho
  refine me_call (enc := exD) (ts := ts) (i := i) (p := p) (o := o) (v := v) (v2 := v2) (as := as) (as2 := as2) (r := next i o) rfl rfl (by decide) (fun Q' X' a => hS i o Q' X' hi ho a) ?_
  cases r2 : next i o with
  | bad z => rw [r2] at q; exact q
  | ok e2 i2 o2 =>
    rw [r2] at q kn
    intro as5 as6
    refine ⟨40 - o2 + 1, loop_w ok hft hS hk hm he _ (40 - o2) i2 o2 e2 as5 as6 .un kn.1 kn.2 (by have := kn.2; omega) ?_⟩
    have q1 : Ans exD ts p Qd Xq (loop ts next okw (40 - o2) e2 i2 o2) := q
    cases r3 : loop ts next okw (40 - o2) e2 i2 o2 with
    | bad z => rw [r3] at q1; exact fun _ => q1
    | ok e3 i3 o3 => rw [r3] at q1; exact fun as7 as8 s => ⟨as7, _, rfl, as8, _, rfl, q1⟩
end
theorem ft_eq {ts : List Tok} {v : V} (ok : TsOk ts) {w : Str} (lw : lays w = true) (xq : XF) (as : List Addr) (rest : En) (i : Nat) (Q : Bool → En → Prop) (hi : i < ts.length) (q : ∀ as', Q ((tk ts i).word == w) (.ow v as' (rdD ts i) :: rest)) :
    yB (yOp gEq (yMeth "Reader" "peek" 0 S_Reader_peek wNil) (yE (dC (.str w)))) xq (.ow v as (rdD ts i) :: rest) Q := by
  refine me_peek (ts := ts) (i := i) (v := v) (as := as) rfl ok hi fun as1 => ?_
  simp only [yE, dC]
  rw [gEq_strL _ _ _ (ok.layW hi) lw]
  exact q as1
theorem ft_in {ts : List Tok} {v : V} (ok : TsOk ts) (xq : XF) (as : List Addr) (rest : En) (i : Nat) (Q : Bool → En → Prop) (hi : i < ts.length) (q : ∀ as', Q ((tk ts i).word == "+" || (tk ts i).word == "-") (.ow v as' (rdD ts i) :: rest)) :
    yB (yOp (gIn false) (yMeth "Reader" "peek" 0 S_Reader_peek wNil) (yE (dTup (dCons (dC (.str "+")) (dCons (dC (.str "-")) dNil))))) xq (.ow v as (rdD ts i) :: rest) Q := by
  refine me_peek (ts := ts) (i := i) (v := v) (as := as) rfl ok hi fun as1 => ?_
  simp only [yE, dC, dTup, dCons, dNil]
  rw [show ([.str ("+" : Str), .str ("-" : Str)] : List D) = (["+", "-"] : List Str).map D.str from rfl, gIn_strT false (ok.layW hi) (by decide +kernel)]
  have e : (decide ((tk ts i).word ∈ (["+", "-"] : List Str))) = ((tk ts i).word == "+" || (tk ts i).word == "-") := by
    rw [Bool.eq_iff_iff]
    simp
  simp only [Bool.false_eq_true, if_false]
  rw [e]
  exact q as1
section
variable {ts : List Tok} {j i p o : Nat}
theorem Pre.kE (k : Pre ts (j + 1) i p o) : ∀ p i o, i < ts.length → o ≤ 40 → Kp ts (pE ts j p i o) := fun p i o hi ho => kp_E k.ok j p i o hi ho
theorem Pre.at {i' o' : Nat} (k : Pre ts (j + 1) i p o) (hi : i' < ts.length) (ho : o' ≤ 40) : Pre ts (j + 1) i' p o' := ⟨k.ok, hi, k.hp, k.hj, ho⟩
end
theorem p_read_product (j : Nat) : ∀ ads vs ass Qd Xq, S_read_product j ads Qd Xq → vs.length = ads.length → ass.length = ads.length → b_read_product (S_read_atom j) S_Reader_peek S_take_operator (kO ads vs Qd Xq) (startO 4 ads vs ass) := by
  rintro _ vs ass Qd Xq ⟨ts, i, p, o, rfl, k, q⟩ hv ha
  obtain ⟨v, v2, rfl⟩ := two hv
  obtain ⟨as, as2, rfl⟩ := two ha
  exact p_loop (next := fun i o => pAtom ts (pE ts j) p i o) (okw := fun w => w == "*") k.ok (fun xq as rest i Q hi q => ft_eq k.ok (by decide +kernel) xq as rest i Q hi q)
    (fun i o Q X hi ho a => ⟨ts, i, p, o, rfl, k.at hi ho, a⟩) (fun i o hi ho => kp_atom k.ok k.kE hi ho) (fun i o => mo_atom (fun p i o => mo_E j p i o) p i o) (by decide +kernel) k.hi k.ho q
theorem p_read_sum (j : Nat) : ∀ ads vs ass Qd Xq, S_read_sum j ads Qd Xq → vs.length = ads.length → ass.length = ads.length → b_read_sum (S_read_product j) S_Reader_peek S_take_operator (kO ads vs Qd Xq) (startO 4 ads vs ass) := by
  rintro _ vs ass Qd Xq ⟨ts, i, p, o, rfl, k, q⟩ hv ha
  obtain ⟨v, v2, rfl⟩ := two hv
  obtain ⟨as, as2, rfl⟩ := two ha
  exact p_loop (next := fun i o => pProd ts (pE ts j) p i o) (okw := fun w => w == "+" || w == "-") k.ok (fun xq as rest i Q hi q => ft_in k.ok xq as rest i Q hi q)
    (fun i o Q X hi ho a => ⟨ts, i, p, o, rfl, k.at hi ho, a⟩) (fun i o hi ho => kp_prod k.ok k.kE hi ho) (fun i o => mo_prod (fun p i o => mo_E j p i o) p i o) (by decide +kernel) k.hi k.ho q
theorem p_read_each (j : Nat) : ∀ ads vs ass Qd Xq, S_read_each j ads Qd Xq → vs.length = ads.length → ass.length = ads.length → b_read_each (S_read_plain j) S_Reader_peek S_take_operator (kO ads vs Qd Xq) (startO 4 ads vs ass) := by
  rintro _ vs ass Qd Xq ⟨ts, i, p, o, rfl, k, q⟩ hv ha
  obtain ⟨v, v2, rfl⟩ := two hv
  obtain ⟨as, as2, rfl⟩ := two ha
  exact p_loop (next := fun i o => pPlain ts (pE ts j) p i o) (okw := fun w => w == "and") k.ok (fun xq as rest i Q hi q => ft_eq k.ok (by decide +kernel) xq as rest i Q hi q)
    (fun i o Q X hi ho a => ⟨ts, i, p, o, rfl, k.at hi ho, a⟩) (fun i o hi ho => kp_plain k.ok k.kE hi ho) (fun i o => mo_plain (fun p i o => mo_E j p i o) p i o) (by decide +kernel) k.hi k.ho q
theorem p_read_either (j : Nat) : ∀ ads vs ass Qd Xq, S_read_either (j + 1) ads Qd Xq → vs.length = ads.length → ass.length = ads.length → b_read_either (S_read_each j) S_Reader_peek S_take_operator (kO ads vs Qd Xq) (startO 4 ads vs ass) := by
  rintro _ vs ass Qd Xq ⟨ts, i, p, o, rfl, k, q⟩ hv ha
  obtain ⟨v, v2, rfl⟩ := two hv
  obtain ⟨as, as2, rfl⟩ := two ha
  exact p_loop (next := fun i o => pEach ts (pE ts j) p i o) (okw := fun w => w == "or") k.ok (fun xq as rest i Q hi q => ft_eq k.ok (by decide +kernel) xq as rest i Q hi q)
    (fun i o Q X hi ho a => ⟨ts, i, p, o, rfl, k.at hi ho, a⟩) (fun i o hi ho => kp_each k.ok k.kE hi ho) (fun i o => mo_each (fun p i o => mo_E j p i o) p i o) (by decide +kernel) k.hi k.ho q
theorem p_read_compared (j : Nat) : ∀ ads vs ass Qd Xq, S_read_compared j ads Qd Xq → vs.length = ads.length → ass.length = ads.length → b_read_compared (S_read_sum j) S_Reader_peek S_take_operator (kO ads vs Qd Xq) (startO 4 ads vs ass) := by
  rintro _ vs ass Qd Xq ⟨ts, i, p, o, rfl, k, q⟩ hv ha
  obtain ⟨v, v2, rfl⟩ := two hv
  obtain ⟨as, as2, rfl⟩ := two ha
  show b_read_compared _ _ _ _ [.ow v as (rdD ts i), .ow v2 as2 (msD p o), .un, .un]
  unfold b_read_compared
  have kn := kp_sum (p := p) k.ok k.kE k.hi k.ho
  have q0 : Ans exD ts p Qd Xq ((pSum ts (pE ts j) p i o).then fun e i o => if (tk ts i).word = "==" ∨ (tk ts i).word = "<" then (opT ts i o).then fun s i o => (pSum ts (pE ts j) p i o).then fun e2 i o => .ok (.bin s e e2) i o else .ok e i o) := q
  show dSetY 2 _ _ [.ow v as (rdD ts i), .ow v2 as2 (msD p o), .un, .un]
  refine me_call (enc := exD) (ts := ts) (i := i) (p := p) (o := o) (v := v) (v2 := v2) (as := as) (as2 := as2) (r := pSum ts (pE ts j) p i o) rfl rfl (by decide) (fun Q' X' a => ⟨ts, i, p, o, rfl, k, a⟩) ?_
  cases r1 : pSum ts (pE ts j) p i o with
  | bad z => rw [r1] at q0; exact q0
  | ok e1 i1 o1 =>
    rw [r1] at q0 kn
    intro as3 as4
    simp only [dSeq]
    show dIfY (yB _) _ _ _ [.ow v as3 (rdD ts i1), .ow v2 as4 (msD p o1), .fz (exD e1), .un]
    refine me_peek (ts := ts) (i := i1) (v := v) (as := as3) rfl k.ok kn.1 fun as5 => ?_
    simp only [yE, dC, dTup, dCons, dNil]
    rw [show ([.str ("==" : Str), .str ("<" : Str)] : List D) = (["==", "<"] : List Str).map D.str from rfl, gIn_strT true (k.ok.layW kn.1) (by decide +kernel)]
    have e : (decide ((tk ts i1).word ∈ (["==", "<"] : List Str))) = decide ((tk ts i1).word = "==" ∨ (tk ts i1).word = "<") := by
      rw [Bool.eq_iff_iff]
      simp
    simp only [if_true]
    rw [e]
    have q1 : Ans exD ts p Qd Xq (if (tk ts i1).word = "==" ∨ (tk ts i1).word = "<" then (opT ts i1 o1).then fun s i o => (pSum ts (pE ts j) p i o).then fun e2 i o => .ok (.bin s e1 e2) i o else .ok e1 i1 o1) := q0
    by_cases c : (tk ts i1).word = "==" ∨ (tk ts i1).word = "<"
    · rw [if_pos c] at q1
      rw [decide_eq_true c]
      simp only [Bool.not_true, Bool.false_eq_true, if_false, dNext, dSeq]
      show dSetY 3 _ _ [.ow v as5 (rdD ts i1), .ow v2 as4 (msD p o1), .fz (exD e1), .un]
      have kop := kp_op k.ok kn.1 kn.2 (show (tk ts i1).word ≠ "" by rcases c with c | c <;> rw [c] <;> decide +kernel)
      refine me_call (enc := D.str) (ts := ts) (i := i1) (p := p) (o := o1) (v := v) (v2 := v2) (as := as5) (as2 := as4) (r := opT ts i1 o1) rfl rfl (by decide) (fun Q' X' a => ⟨ts, i1, p, o1, rfl, k.ok, kn.1, a⟩) ?_
      cases r2 : opT ts i1 o1 with
      | bad z => rw [r2] at q1; exact q1
      | ok s i2 o2 =>
        rw [r2] at q1 kop
        intro as6 as7
        dsimp only
        show dRetY _ _ [.ow v as6 (rdD ts i2), .ow v2 as7 (msD p o2), .fz (exD e1), .fz (.str s)]
        refine me_call (enc := exD) (ts := ts) (i := i2) (p := p) (o := o2) (v := v) (v2 := v2) (as := as6) (as2 := as7) (r := pSum ts (pE ts j) p i2 o2) rfl rfl (by decide) (fun Q' X' a => ⟨ts, i2, p, o2, rfl, k.at kop.1 kop.2, a⟩) ?_
        have q2 : Ans exD ts p Qd Xq ((pSum ts (pE ts j) p i2 o2).then fun e2 i o => .ok (.bin s e1 e2) i o) := q1
        cases r3 : pSum ts (pE ts j) p i2 o2 with
        | bad z => rw [r3] at q2; exact q2
        | ok e3 i3 o3 =>
          rw [r3] at q2
          exact fun as8 as9 => ⟨as8, _, rfl, as9, _, rfl, q2⟩
    · rw [if_neg c] at q1
      rw [decide_eq_false c]
      simp only [Bool.not_false, if_true]
      exact ⟨as5, _, rfl, as4, _, rfl, q1⟩
section
variable {ts : List Tok} {i j : Nat} {v : V} {as : List Addr} {ρ : En} {xq : XF} {Q : D → En → Prop}
theorem me_take_name (h : ρ[j]? = some (.ow v as (rdD ts i))) (ok : TsOk ts) (hi : i < ts.length) (q : if isNm (tk ts i) = true then ∀ as', Q (.str (tk ts i).word) (ρ.set j (.ow v as' (rdD ts (i + 1)))) else Flt (xq (ρ.set j .un)) ts i) : yMeth "Reader" "take_name" j S_Reader_take_name wNil xq ρ Q := by
  refine ⟨⟨v, as, _, h, rfl, rfl⟩, ⟨v, as, _, h⟩, ?_⟩
  show (ownI [WA.v j]).Nodup ∧ _
  refine ⟨by simp [ownI], ts, i, ?_, ok, hi, ?_⟩
  · unfold adsW
    rw [h]
    rfl
  · by_cases e : isNm (tk ts i) = true
    · rw [if_pos e] at q ⊢
      refine ⟨_, rfl, ?_⟩
      unfold putW
      rw [h]
      exact ⟨_, rfl, fun as' => q as'⟩
    · rw [if_neg e] at q ⊢
      exact q
end
theorem p_read_atom (j : Nat) : ∀ ads vs ass Qd Xq, S_read_atom j ads Qd Xq → vs.length = ads.length → ass.length = ads.length → b_read_atom S_Reader_sees_number S_Reader_take_number S_Reader_peek S_Reader_take_name S_Reader_fault S_Reader_take (S_read_either j) (kO ads vs Qd Xq) (startO 3 ads vs ass) := by
  rintro _ vs ass Qd Xq ⟨ts, i, p, o, rfl, k, q⟩ hv ha
  obtain ⟨v, v2, rfl⟩ := two hv
  obtain ⟨as, as2, rfl⟩ := two ha
  show b_read_atom _ _ _ _ _ _ _ _ [.ow v as (rdD ts i), .ow v2 as2 (msD p o), .un]
  unfold b_read_atom
  unfold pAtom at q
  refine me_sees_number (ts := ts) (i := i) (v := v) (as := as) rfl k.ok k.hi fun as1 => ?_
  by_cases e : (tk ts i).kind = "number"
  · rw [if_pos e] at q
    rw [decide_eq_true e]
    simp only [if_true]
    show dRetY _ _ [.ow v as1 (rdD ts i), .ow v2 as2 (msD p o), .un]
    refine me_take_number (ts := ts) (i := i) (v := v) (as := as1) rfl k.ok k.hi ?_
    rw [if_pos e]
    exact fun as3 => ⟨as3, _, rfl, as2, _, rfl, q⟩
  · rw [if_neg e] at q
    rw [decide_eq_false e]
    simp only [Bool.false_eq_true, if_false, dNext, dSeq]
    refine me_peek (ts := ts) (i := i) (v := v) (as := as1) rfl k.ok k.hi fun as3 => ?_
    simp only [yE, dC]
    rw [gNe_strL _ _ _ (k.ok.layW k.hi) (by decide +kernel)]
    by_cases e1 : (tk ts i).word = "("
    · rw [if_pos e1] at q
      rw [decide_eq_true e1]
      simp only [Bool.not_true, Bool.false_eq_true, if_false, dNext, dSeq]
      show dIfS (dB _) _ _ _ [.ow v as3 (rdD ts i), .ow v2 as2 (msD p o), .un]
      simp only [dIfS, dB, d2, dC]
      rw [fr_par rfl, gEq_int]
      by_cases e2 : p = 10
      · rw [if_pos e2] at q
        rw [decide_eq_true (show (p : Int) = 10 by omega)]
        simp only [if_true]
        show yMeth _ _ _ _ _ _ _ _
        exact me_fault (ts := ts) (i := i) rfl k.ok k.hi q
      · rw [if_neg e2] at q
        rw [decide_eq_false (show ¬ (p : Int) = 10 by omega)]
        simp only [Bool.false_eq_true, if_false]
        show b_read_atom_r1 S_Reader_sees_number S_Reader_take_number S_Reader_peek S_Reader_take_name S_Reader_fault S_Reader_take (S_read_either j) _ [.ow v as3 (rdD ts i), .ow v2 as2 (msD p o), .un]
        unfold b_read_atom_r1
        refine to_par (p := p) (o := o) (m := p + 1) rfl ?_ ?_
        · simp only [dLeaf, d2, dC]
          rw [fr_par rfl]
          refine ⟨rfl, rfl, fun as4 => ?_⟩
          show dExprY _ _ [.ow v as3 (rdD ts i), .ow v2 as4 (msD (p + 1) o), .un]
          refine me_take (ts := ts) (i := i) (v := v) (as := as3) (w := "(") rfl k.ok k.hi (by decide +kernel) (fun A z => z) ?_
          rw [if_pos e1]
          intro as5
          simp only [dSeq]
          show dSetY 2 (yCall _ _) _ [.ow v as5 (rdD ts (i + 1)), .ow v2 as4 (msD (p + 1) o), .un]
          have hi1 := k.ok.more k.hi (.inl (show (tk ts i).word ≠ "" by rw [e1]; decide +kernel))
          have kn := k.kE (p + 1) (i + 1) o hi1 k.ho
          have hp := k.hp
          have hj := k.hj
          refine me_call (enc := exD) (ts := ts) (i := i + 1) (p := p + 1) (o := o) (v := v) (v2 := v2) (as := as5) (as2 := as4) (r := pE ts j (p + 1) (i + 1) o) rfl rfl (by decide) (fun Q' X' a => ⟨ts, i + 1, p + 1, o, rfl, ⟨k.ok, hi1, by omega, by omega, k.ho⟩, a⟩) ?_
          cases r2 : pE ts j (p + 1) (i + 1) o with
          | bad z => rw [r2] at q; exact q
          | ok e2 i2 o2 =>
            rw [r2] at q kn
            intro as6 as7
            have q2 : Ans exD ts p Qd Xq ((takeW ts ")" i2 o2).then fun _ i o => .ok e2 i o) := q
            try simp only [dSeq]
            show dExprY (yMeth _ _ _ _ _) _ [.ow v as6 (rdD ts i2), .ow v2 as7 (msD (p + 1) o2), .fz (exD e2)]
            refine me_take (ts := ts) (i := i2) (v := v) (as := as6) (w := ")") rfl k.ok kn.1 (by decide +kernel) (fun A z => z) ?_
            unfold takeW at q2
            by_cases e3 : (tk ts i2).word = ")"
            · rw [if_pos e3] at q2 ⊢
              intro as8
              try simp only [dSeq]
              show dPutFld _ _ _ (dLeaf _) _ [.ow v as8 (rdD ts (i2 + 1)), .ow v2 as7 (msD (p + 1) o2), .fz (exD e2)]
              refine to_par (p := p + 1) (o := o2) (m := p) rfl ?_ ?_
              · simp only [dLeaf, d2, dC]
                rw [fr_par rfl, gMns_int, back]
                exact ⟨rfl, rfl, fun as9 => ⟨as8, _, rfl, as9, _, rfl, q2⟩⟩
              · intro A B h z
                simp only [dLeaf, d2, dC] at z ⊢
                rw [fr_par rfl] at z ⊢
                exact ⟨z.1, h _ z.2⟩
            · rw [if_neg e3] at q2 ⊢
              exact q2
        · intro A B h z
          simp only [dLeaf, d2, dC] at z ⊢
          rw [fr_par rfl] at z ⊢
          exact ⟨z.1, h _ z.2⟩
    · rw [if_neg e1] at q
      rw [decide_eq_false e1]
      simp only [Bool.not_false, if_true]
      show dRetY _ _ [.ow v as3 (rdD ts i), .ow v2 as2 (msD p o), .un]
      refine me_take_name (ts := ts) (i := i) (v := v) (as := as3) rfl k.ok k.hi ?_
      by_cases e2 : isNm (tk ts i) = true
      · rw [if_pos e2] at q ⊢
        exact fun as4 => ⟨as4, _, rfl, as2, _, rfl, q⟩
      · rw [if_neg e2] at q ⊢
        exact q
end Par
namespace Par
open PySem L2 Dl SX
open _root_.Expr hiding lays
theorem gLt_i (i j : Int) (Q : D → Prop) : gLt (.int i) (.int j) Q = Q (.bl (decide (i < j))) := rfl
theorem gLe_i (i j : Int) (Q : D → Prop) : gLe (.int i) (.int j) Q = Q (.bl (decide (i ≤ j))) := rfl
theorem gGt_i (i j : Int) (Q : D → Prop) : gGt (.int i) (.int j) Q = Q (.bl (decide (j < i))) := rfl
theorem gIx_S {cs : List Nat} {k c : Nat} (h : cs[k]? = some c) (hl : cs.length ≤ sizeLine) (Q : D → Prop) : gIx (.str (S cs)) (.int (k : Nat)) Q = Q (.str (S [c])) := by
  show ((S cs).length ≤ sizeLine ∧ match atI cs ((k : Nat) : Int) with
    | some c => Q (.str ⟨#[c]⟩)
    | none => False) = _
  rw [atI_nat h, S_len]
  exact propext ⟨fun z => z.2, fun z => ⟨hl, z⟩⟩
theorem gIn_c {c : Nat} {t : Str} {P : Nat → Bool} (h : decide (c ∈ tl t) = P c) (Q : D → Prop) : gIn false (.str (S [c])) (.str t) Q = Q (.bl (P c)) := by
  show Q (.bl (strIn (S [c]) t)) = _
  have : strIn (S [c]) t = decide (c ∈ tl t) := StrLaws.found_one t c
  rw [this, h]
theorem gLen_S {cs : List Nat} (hl : cs.length ≤ sizeLine) (Q : D → Prop) : gLen (.str (S cs)) Q = Q (.int (cs.length : Nat)) := by
  show ((S cs).length ≤ sizeLine ∧ Q (.int (S cs).length)) = _
  rw [S_len]
  exact propext ⟨fun z => z.2, fun z => ⟨hl, z⟩⟩
theorem cutS_S {cs : List Nat} {i j : Nat} (h1 : i ≤ j) (h2 : j ≤ cs.length) : cutS (S cs) (some (i : Nat)) (some (j : Nat)) = S ((cs.drop i).take (j - i)) := by
  have hn : (S cs).length = cs.length := S_len cs
  show (⟨((cs.drop (HT.sIx (S cs).length 0 (some (i : Int)))).take (HT.sIx (S cs).length (S cs).length (some (j : Int)) - HT.sIx (S cs).length 0 (some (i : Int)))).toArray⟩ : Str) = _
  rw [hn, HT.sIx_nat, HT.sIx_nat, Nat.min_eq_left (show i ≤ cs.length by omega), Nat.min_eq_left h2]
theorem isL_mem (c : Nat) : decide (c ∈ tl "abcdefghijklmnopqrstuvwxyz") = isL c := by
  rw [show tl "abcdefghijklmnopqrstuvwxyz" = List.range' 97 26 by decide +kernel, Bool.eq_iff_iff, decide_eq_true_eq, List.mem_range'_1]
  unfold isL
  rw [Bool.and_eq_true, decide_eq_true_eq, decide_eq_true_eq]
  omega
theorem isDg_mem (c : Nat) : decide (c ∈ tl "0123456789") = isDg c := by
  rw [show tl "0123456789" = List.range' 48 10 by decide +kernel, Bool.eq_iff_iff, decide_eq_true_eq, List.mem_range'_1]
  unfold isDg
  rw [Bool.and_eq_true, decide_eq_true_eq, decide_eq_true_eq]
  omega
theorem isW_mem (c : Nat) : decide (c ∈ tl "abcdefghijklmnopqrstuvwxyz0123456789") = isW c := by
  rw [show tl "abcdefghijklmnopqrstuvwxyz0123456789" = List.range' 97 26 ++ List.range' 48 10 by decide +kernel, Bool.eq_iff_iff, decide_eq_true_eq, List.mem_append, List.mem_range'_1, List.mem_range'_1]
  unfold isW isL isDg
  rw [Bool.or_eq_true, Bool.and_eq_true, Bool.and_eq_true, decide_eq_true_eq, decide_eq_true_eq, decide_eq_true_eq, decide_eq_true_eq]
  omega
theorem isB_mem (c : Nat) : decide (c ∈ tl " \n") = isB c := by
  rw [show tl " \n" = [32, 10] by decide +kernel, Bool.eq_iff_iff, decide_eq_true_eq]
  unfold isB
  rw [Bool.or_eq_true, decide_eq_true_eq, decide_eq_true_eq]
  simp
theorem sign_mem (c : Nat) : decide (c ∈ tl "(),=<+-*") = decide (c ∈ signL) := by
  rw [show tl "(),=<+-*" = signL by decide +kernel]
theorem drop_cons {cs : List Nat} {k : Nat} (h : k < cs.length) : ∃ c, cs[k]? = some c ∧ cs.drop k = c :: cs.drop (k + 1) := ⟨cs[k], List.getElem?_eq_getElem h, List.drop_eq_getElem_cons h⟩
def S_end_of : DF := fun ds Q _ => ∃ (cs : List Nat) (k : Nat) (t : Str) (P : Nat → Bool), ds = [.str (S cs), .int (k : Nat), .str t] ∧ k ≤ cs.length ∧ cs.length ≤ sizeLine ∧ (∀ c, decide (c ∈ tl t) = P c) ∧ Q (.int ((k + ((cs.drop k).takeWhile P).length : Nat)))
theorem len_end_of {ds : List D} {Q : D → Prop} {Xq : XQ} (h : S_end_of ds Q Xq) : ds.length = 3 := by
  obtain ⟨cs, k, t, P, rfl, _⟩ := h
  rfl
theorem p_end_of : ∀ ds Qd Xq, S_end_of ds Qd Xq → b_end_of (kD Qd Xq) (startD 4 ds) := by
  rintro _ Qd Xq ⟨cs, k, t, P, rfl, hk, hl, hP, q⟩
  show b_end_of _ [.fz (.str (S cs)), .fz (.int (k : Nat)), .fz (.str t), .un]
  unfold b_end_of
  simp only [dSeq, dSet, dVar, List.getElem?_cons_zero, List.getElem?_cons_succ, List.set_cons_zero, List.set_cons_succ]
  refine ⟨cs.length - k + 1, ?_⟩
  have key : ∀ (n m : Nat), cs.length - m < n → m ≤ cs.length → Qd (.int ((m + ((cs.drop m).takeWhile P).length : Nat))) →
      whileN (dAnd (dB (d2 gLt (dVar 3) (d1 gLen (dVar 0)))) (dB (d2 (gIn false) (d2 gIx (dVar 0) (dVar 3)) (dVar 2)))) (dSet 3 (d2 gAdd (dVar 3) (dC (.int 1)))) { kD Qd Xq with nx := dRetV 3 (kD Qd Xq) } n [.fz (.str (S cs)), .fz (.int (k : Nat)), .fz (.str t), .fz (.int (m : Nat))] := by
    intro n
    induction n with
    | zero => intro m h; omega
    | succ n ih =>
      intro m h hm q
      unfold whileN
      simp only [dAnd, dB, d1, d2, dVar, List.getElem?_cons_zero, List.getElem?_cons_succ]
      rw [gLen_S hl, gLt_i]
      simp only
      by_cases c : m < cs.length
      · rw [decide_eq_true (show (m : Int) < (cs.length : Int) by omega)]
        simp only [if_true]
        obtain ⟨x, ex, ed⟩ := drop_cons c
        rw [gIx_S ex hl, gIn_c (hP x)]
        simp only
        rw [ed, List.takeWhile_cons] at q
        cases e : P x with
        | true =>
          rw [e] at q
          simp only [if_true, List.length_cons] at q ⊢
          simp only [dSet, d2, dVar, dC, List.getElem?_cons_zero, List.getElem?_cons_succ, List.set_cons_zero, List.set_cons_succ, gAdd_int]
          refine ih (m + 1) (by omega) (by omega) ?_
          rw [show m + 1 + ((cs.drop (m + 1)).takeWhile P).length = m + (((cs.drop (m + 1)).takeWhile P).length + 1) by omega]
          exact q
        | false =>
          rw [e] at q
          simp only [Bool.false_eq_true, if_false, List.length_nil, Nat.add_zero] at q ⊢
          exact q
      · rw [decide_eq_false (show ¬ (m : Int) < (cs.length : Int) by omega)]
        simp only [Bool.false_eq_true, if_false]
        rw [List.drop_eq_nil_of_le (by omega)] at q
        exact q
  exact key _ k (by omega) hk q
def S_is_number : DF := fun ds Q _ => ∃ l : List Nat, ds = [.str (S l)] ∧ l ≠ [] ∧ l.length ≤ sizeLine ∧ Ch l ∧ Q (.bl (isNum l))
theorem len_is_number {ds : List D} {Q : D → Prop} {Xq : XQ} (h : S_is_number ds Q Xq) : ds.length = 1 := by
  obtain ⟨l, rfl, _⟩ := h
  rfl
theorem S_eq {l : List Nat} {t : Str} : decide (S l = t) = decide (l = tl t) := by
  rw [Bool.eq_iff_iff, decide_eq_true_eq, decide_eq_true_eq]
  exact ⟨fun h => by rw [← h], fun h => by rw [h]⟩
theorem p_is_number : ∀ ds Qd Xq, S_is_number ds Qd Xq → b_is_number (kD Qd Xq) (startD 1 ds) := by
  rintro _ Qd Xq ⟨l, rfl, ne, hl, hc, q⟩
  show b_is_number _ [.fz (.str (S l))]
  unfold b_is_number
  simp only [dRet, dAndV, dOrV, dB, d1, d2, dC, dVar, List.getElem?_cons_zero]
  rw [gLen_S hl, gLe_i]
  unfold isNum at q
  simp only
  by_cases c : l.length ≤ 4
  · rw [decide_eq_true c] at q
    rw [decide_eq_true (show (l.length : Int) ≤ 4 by omega)]
    simp only [if_true]
    rw [gEq_strL _ _ _ (lays_S hc) (by decide +kernel), S_eq, show tl ("0" : Str) = [48] by decide +kernel]
    simp only
    by_cases c2 : l = [48]
    · rw [decide_eq_true c2] at q ⊢
      exact q
    · rw [decide_eq_false c2] at q ⊢
      simp only [Bool.false_eq_true, if_false]
      cases l with
      | nil => exact absurd rfl ne
      | cons x r =>
        rw [show (D.int 0) = D.int ((0 : Nat) : Int) from rfl, gIx_S (k := 0) (c := x) rfl hl, gNe_strL _ _ _ (lays_S fun y hy => hc y (by rw [List.mem_singleton.mp hy]; exact List.mem_cons_self ..)) (by decide +kernel), S_eq, show tl ("0" : Str) = [48] by decide +kernel]
        have e : decide ([x] = [48]) = decide ((x :: r).head? = some 48) := by
          rw [Bool.eq_iff_iff, decide_eq_true_eq, decide_eq_true_eq]
          simp
        rw [e]
        exact q
  · rw [decide_eq_false c] at q
    rw [decide_eq_false (show ¬ (l.length : Int) ≤ 4 by omega)]
    exact q
def S_token_at : DF := fun ds Q _ => ∃ (cs : List Nat) (k : Nat), ds = [.str (S cs), .int (k : Nat)] ∧ k < cs.length ∧ cs.length ≤ sizeLine ∧ Ch cs ∧ Q (tokD ⟨(tokOf (cs.drop k)).1, S (tokOf (cs.drop k)).2, k⟩)
theorem len_token_at {ds : List D} {Q : D → Prop} {Xq : XQ} (h : S_token_at ds Q Xq) : ds.length = 2 := by
  obtain ⟨cs, k, rfl, _⟩ := h
  rfl
theorem tw_take {P : Nat → Bool} (l : List Nat) : l.take (l.takeWhile P).length = l.takeWhile P := by
  have := List.takeWhile_append_dropWhile (p := P) (l := l)
  conv => lhs; arg 2; rw [← this]
  exact List.take_left
theorem tw_le {P : Nat → Bool} (l : List Nat) : (l.takeWhile P).length ≤ l.length := List.Sublist.length_le (List.takeWhile_sublist P)
theorem p_token_at : ∀ ds Qd Xq, S_token_at ds Qd Xq → b_token_at S_end_of S_is_number (kD Qd Xq) (startD 3 ds) := by
  rintro _ Qd Xq ⟨cs, k, rfl, hk, hl, hc, q⟩
  show b_token_at _ _ _ [.fz (.str (S cs)), .fz (.int (k : Nat)), .un]
  unfold b_token_at
  obtain ⟨c, ex, ed⟩ := drop_cons hk
  have hcd : Ch (cs.drop k) := hc.sub (List.drop_sublist k cs)
  have ld : (cs.drop k).length = cs.length - k := List.length_drop
  simp only [dSeq, dSet, dIfS, dRet, dTru, dNext, dB, d2, dC, dVar, dTup, dCons, dNil, dSl, oSome, dCall, List.getElem?_cons_zero, List.getElem?_cons_succ, List.set_cons_zero, List.set_cons_succ]
  rw [gIx_S ex hl, gIn_c (isL_mem c)]
  simp only
  rw [ed, tokOf_cons, ← ed] at q
  by_cases c1 : isL c = true
  · rw [if_pos c1] at q
    rw [if_pos c1]
    have tw := tw_le (P := isW) (cs.drop k)
    refine ⟨cs, k, _, isW, rfl, by omega, hl, isW_mem, ?_⟩
    simp only
    rw [gSl_str, cutS_S (by omega) (by omega), Nat.add_sub_cancel_left, tw_take, S_len]
    exact ⟨hl, q⟩
  · rw [if_neg c1] at q
    rw [if_neg c1]
    rw [gIx_S ex hl, gIn_c (isDg_mem c)]
    simp only
    by_cases c2 : isDg c = true
    · rw [if_pos c2] at q
      rw [if_pos c2]
      have tw := tw_le (P := isDg) (cs.drop k)
      refine ⟨cs, k, _, isDg, rfl, by omega, hl, isDg_mem, ?_⟩
      simp only
      rw [gSl_str, cutS_S (by omega) (by omega), Nat.add_sub_cancel_left, tw_take, S_len]
      refine ⟨hl, ?_⟩
      refine ⟨_, rfl, ?_, by omega, hcd.sub (List.takeWhile_sublist _), ?_⟩
      · rw [ed, List.takeWhile_cons, if_pos c2]
        exact List.cons_ne_nil _ _
      · show gTru (.bl _) _
        rw [gTru_bl]
        by_cases c3 : isNum ((cs.drop k).takeWhile isDg) = true
        · rw [if_pos c3] at q
          rw [if_pos c3]
          exact q
        · rw [if_neg c3] at q
          rw [if_neg c3]
          exact q
    · rw [if_neg c2] at q
      rw [if_neg c2]
      simp only [gAdd_int]
      rw [gSl_str, S_len]
      refine ⟨hl, ?_⟩
      have e2 : cutS (S cs) (some ((k : Nat) : Int)) (some (((k : Nat) : Int) + 2)) = S ((cs.drop k).take 2) := by
        by_cases z : k + 2 ≤ cs.length
        · have := cutS_S (cs := cs) (i := k) (j := k + 2) (by omega) z
          rw [show k + 2 - k = 2 by omega] at this
          exact this
        · have hn : (S cs).length = cs.length := S_len cs
          show (⟨((cs.drop (HT.sIx (S cs).length 0 (some (k : Int)))).take (HT.sIx (S cs).length (S cs).length (some ((k : Int) + 2)) - HT.sIx (S cs).length 0 (some (k : Int)))).toArray⟩ : Str) = _
          rw [hn, show ((k : Nat) : Int) + 2 = ((k + 2 : Nat) : Int) by omega, HT.sIx_nat, HT.sIx_nat, Nat.min_eq_left (show k ≤ cs.length by omega), Nat.min_eq_right (show cs.length ≤ k + 2 by omega), List.take_of_length_le (show (cs.drop k).length ≤ cs.length - k by omega), List.take_of_length_le (show (cs.drop k).length ≤ 2 by omega)]
      rw [e2, gEq_strL _ _ _ (lays_S (hcd.sub (List.take_sublist _ _))) (by decide +kernel), S_eq, show tl ("==" : Str) = [61, 61] by decide +kernel]
      simp only
      have e3 : decide ((cs.drop k).take 2 = [61, 61]) = decide (c = 61 ∧ (cs.drop (k + 1)).head? = some 61) := by
        rw [ed, Bool.eq_iff_iff, decide_eq_true_eq, decide_eq_true_eq]
        cases cs.drop (k + 1) with
        | nil => simp
        | cons d r => simp
      rw [e3]
      by_cases c3 : c = 61 ∧ (cs.drop (k + 1)).head? = some 61
      · rw [if_pos c3] at q
        rw [decide_eq_true c3]
        exact q
      · rw [if_neg c3] at q
        rw [decide_eq_false c3]
        simp only [Bool.false_eq_true, if_false]
        rw [gIx_S ex hl, gIn_c (P := fun c => decide (c ∈ signL)) (sign_mem c)]
        simp only
        by_cases c4 : c ∈ signL
        · rw [if_pos c4] at q
          rw [decide_eq_true c4, if_pos rfl, gIx_S ex hl]
          exact q
        · rw [if_neg c4] at q
          rw [decide_eq_false c4]
          exact q
def S_split_words : DF := fun ds Q _ => ∃ cs : List Nat, ds = [.str (S cs)] ∧ cs.length ≤ sizeLine ∧ Ch cs ∧ Q (.lst ((lexT cs).map tokD))
theorem len_split_words {ds : List D} {Q : D → Prop} {Xq : XQ} (h : S_split_words ds Q Xq) : ds.length = 1 := by
  obtain ⟨cs, rfl, _⟩ := h
  rfl
theorem dw_drop {P : Nat → Bool} : ∀ l : List Nat, l.dropWhile P = l.drop (l.takeWhile P).length
  | [] => rfl
  | c :: r => by
    rw [List.dropWhile_cons, List.takeWhile_cons]
    cases P c with
    | true =>
      simp only [if_true]
      rw [dw_drop r]
      rfl
    | false => rfl
theorem tokOf_fault {l : List Nat} (h : (tokOf l).1 = "fault") : (tokOf l).2 = [] := by
  have w1 : ("word" : Str) ≠ "fault" := by decide +kernel
  have w2 : ("number" : Str) ≠ "fault" := by decide +kernel
  have w3 : ("sign" : Str) ≠ "fault" := by decide +kernel
  cases l with
  | nil => rfl
  | cons c r =>
    rw [tokOf_cons] at h ⊢
    by_cases e1 : isL c = true
    · rw [if_pos e1] at h; exact absurd h w1
    rw [if_neg e1] at h ⊢
    by_cases e2 : isDg c = true
    · rw [if_pos e2] at h ⊢
      by_cases e3 : isNum ((c :: r).takeWhile isDg) = true
      · rw [if_pos e3] at h; exact absurd h w2
      · rw [if_neg e3]
    rw [if_neg e2] at h ⊢
    by_cases e3 : c = 61 ∧ r.head? = some 61
    · rw [if_pos e3] at h; exact absurd h w3
    rw [if_neg e3] at h ⊢
    by_cases e4 : c ∈ signL
    · rw [if_pos e4] at h; exact absurd h w3
    rw [if_neg e4]
theorem tokOf_len (l : List Nat) : (tokOf l).2.length ≤ l.length := by
  obtain ⟨q, e⟩ := tokOf_pre l
  have := congrArg List.length e
  rw [List.length_append] at this
  omega
theorem p_split_words : ∀ ds Qd Xq, S_split_words ds Qd Xq → b_split_words S_end_of S_token_at (kD Qd Xq) (startD 4 ds) := by
  rintro _ Qd Xq ⟨cs, rfl, hl, hc, q⟩
  have hsz : 4002 ≤ sizeLine := by rw [sizeLine_eq]; decide
  show b_split_words _ _ _ [.fz (.str (S cs)), .un, .un, .un]
  unfold b_split_words
  unfold lexT at q
  simp only [dSeq, dIfS, dB, d1, d2, dC, dVar, List.getElem?_cons_zero, List.getElem?_cons_succ]
  rw [gLen_S hl, gGt_i]
  simp only
  by_cases c0 : 4000 < cs.length
  · rw [if_pos c0] at q
    rw [decide_eq_true (show (4000 : Int) < (cs.length : Int) by omega)]
    exact q
  rw [if_neg c0] at q
  rw [decide_eq_false (show ¬ (4000 : Int) < (cs.length : Int) by omega)]
  simp only [Bool.false_eq_true, if_false, dNext, dSetN, dNil, dSet, dCall, dCons, dVar, dC, List.getElem?_cons_zero, List.getElem?_cons_succ, List.set_cons_zero, List.set_cons_succ]
  refine ⟨cs, 0, _, isB, rfl, by omega, hl, isB_mem, ?_⟩
  rw [List.drop_zero, Nat.zero_add]
  have tw0 := tw_le (P := isB) cs
  refine ⟨cs.length - (cs.takeWhile isB).length + 1, ?_⟩
  have key : ∀ (n k : Nat) (acc : List Tok) (s3 : Dl.S), cs.length - k < n → k ≤ cs.length → acc.length ≤ k → Qd (.lst ((acc ++ lexA n (cs.drop k) k).map tokD)) →
      whileN (dB (d2 gLt (dVar 2) (d1 gLen (dVar 0))))
    (dSeq (dSet 3 (dCall S_token_at (dCons (dVar 0) (dCons (dVar 2) dNil))))
    (dSeq (dApp 1 (dVar 3))
    (dSeq (dIfS (dB (d2 gEq (d2 gIx (dVar 3) (dC (.int 0))) (dC (.str "fault"))))
      (dFrz 1 (dRetV 1))
      dNext)
    (dSet 2 (dCall S_end_of (dCons (dVar 0) (dCons (d2 gAdd (dVar 2) (d1 gLen (d2 gIx (dVar 3) (dC (.int 1))))) (dCons (dC (.str " \n")) dNil))))))))
      { kD Qd Xq with nx := dSeq (dApp 1 (dTup (dCons (dC (.str "end")) (dCons (dC (.str "")) (dCons (d1 gLen (dVar 0)) dNil))))) (dFrz 1 (dRetV 1)) (kD Qd Xq) } n [.fz (.str (S cs)), .op (acc.map tokD), .fz (.int (k : Nat)), s3] := by
    intro n
    induction n with
    | zero => intro k acc s3 h; omega
    | succ n ih =>
      intro k acc s3 h hk ha q
      unfold whileN
      simp only [dB, d1, d2, dVar, List.getElem?_cons_zero, List.getElem?_cons_succ]
      rw [gLen_S hl, gLt_i]
      simp only
      by_cases c : k < cs.length
      · rw [decide_eq_true (show (k : Int) < (cs.length : Int) by omega)]
        simp only [if_true, dSeq, dSet, dCall, dCons, dNil, dVar, List.getElem?_cons_zero, List.getElem?_cons_succ, List.set_cons_zero, List.set_cons_succ]
        obtain ⟨x, ex, ed⟩ := drop_cons c
        refine ⟨cs, k, rfl, c, hl, hc, ?_⟩
        have tl0 := tokOf_len (cs.drop k)
        have ld : (cs.drop k).length = cs.length - k := List.length_drop
        simp only [dApp, dVar, List.getElem?_cons_zero, List.getElem?_cons_succ, List.set_cons_zero, List.set_cons_succ]
        refine ⟨by rw [List.length_map]; omega, ?_⟩
        simp only [dSeq, dIfS, dB, d2, dC, dVar, List.getElem?_cons_zero, List.getElem?_cons_succ]
        unfold tokD
        rw [gIx_tup0]
        have lk : lays (tokOf (cs.drop k)).1 = true := by
          rcases tokOf_kind (cs.drop k) with z | z | z | z <;> rw [z] <;> decide +kernel
        rw [gEq_strL _ _ _ lk (by decide +kernel)]
        rw [ed] at q
        unfold lexA at q
        rw [← ed] at q
        by_cases cf : (tokOf (cs.drop k)).1 = "fault"
        · rw [if_pos cf] at q
          rw [decide_eq_true cf]
          rw [List.map_append] at q
          simp only [if_true, dFrz, frz, dRetV, List.getElem?_cons_zero, List.getElem?_cons_succ, List.set_cons_zero, List.set_cons_succ]
          rw [cf, tokOf_fault cf]
          exact q
        · rw [if_neg cf] at q
          rw [decide_eq_false cf]
          simp only [Bool.false_eq_true, if_false, dNext, dSet, dCall, dCons, dNil, d1, d2, dC, dVar, List.getElem?_cons_zero, List.getElem?_cons_succ, List.set_cons_zero, List.set_cons_succ]
          rw [gIx_tup1, gLen_S (by omega), gAdd_int]
          have hne : 0 < (tokOf (cs.drop k)).2.length := by
            rw [ed] at cf ⊢
            exact tokOf_ne cf
          have kl : k + (tokOf (cs.drop k)).2.length ≤ cs.length := by omega
          refine ⟨cs, k + (tokOf (cs.drop k)).2.length, _, isB, by rw [Int.natCast_add], kl, hl, isB_mem, ?_⟩
          have edd : (cs.drop k).drop (tokOf (cs.drop k)).2.length = cs.drop (k + (tokOf (cs.drop k)).2.length) := List.drop_drop
          rw [edd] at q
          have tw := tw_le (P := isB) (cs.drop (k + (tokOf (cs.drop k)).2.length))
          have ld2 : (cs.drop (k + (tokOf (cs.drop k)).2.length)).length = cs.length - (k + (tokOf (cs.drop k)).2.length) := List.length_drop
          have := ih (k + (tokOf (cs.drop k)).2.length + ((cs.drop (k + (tokOf (cs.drop k)).2.length)).takeWhile isB).length) (acc ++ [⟨(tokOf (cs.drop k)).1, S (tokOf (cs.drop k)).2, k⟩]) (.fz (.tup [.str (tokOf (cs.drop k)).1, .str (S (tokOf (cs.drop k)).2), .int (k : Nat)])) (by omega) (by omega) (by rw [List.length_append, List.length_singleton]; omega) (by
            rw [List.append_assoc, List.singleton_append]
            rw [dw_drop, List.drop_drop] at q
            exact q)
          rw [List.map_append] at this
          exact this
      · rw [decide_eq_false (show ¬ (k : Int) < (cs.length : Int) by omega)]
        have ek : k = cs.length := by omega
        rw [List.drop_eq_nil_of_le (by omega)] at q
        simp only [Bool.false_eq_true, if_false, dSeq, dApp, dTup, dCons, dNil, dC, d1, dVar, List.getElem?_cons_zero, List.getElem?_cons_succ, List.set_cons_zero, List.set_cons_succ]
        rw [gLen_S hl]
        refine ⟨by rw [List.length_map]; omega, ?_⟩
        simp only [dFrz, frz, dRetV, List.getElem?_cons_zero, List.getElem?_cons_succ, List.set_cons_zero, List.set_cons_succ]
        rw [List.map_append, ek] at q
        exact q
  refine key _ _ [] .un (by omega) tw0 (Nat.zero_le _) ?_
  have le : ∀ (n m : Nat) (l : List Nat) (p : Nat), l.length < n → l.length < m → lexA n l p = lexA m l p := by
    intro n
    induction n with
    | zero => intro m l p h; omega
    | succ n ih =>
      intro m l p h1 h2
      match m, h2 with
      | m + 1, h2 =>
        cases l with
        | nil => rfl
        | cons c r =>
          unfold lexA
          by_cases cf : (tokOf (c :: r)).1 = "fault"
          · rw [if_pos cf, if_pos cf]
          · rw [if_neg cf, if_neg cf]
            have := tokOf_ne cf
            have lc : (c :: r).length = r.length + 1 := rfl
            have d := dropW_len (P := isB) ((c :: r).drop (tokOf (c :: r)).2.length)
            rw [List.length_drop] at d
            rw [ih m _ _ (by omega) (by omega)]
  rw [dw_drop] at q
  rw [List.nil_append, le _ (cs.length + 1) _ _ (by rw [List.length_drop]; omega) (by rw [List.length_drop]; omega)]
  exact q
theorem tsOk {cs : List Nat} (h : Ch cs) : TsOk (lexT cs) := by
  obtain ⟨a, b, c, d, _⟩ := lexT_ok h
  exact ⟨a, b, c, d⟩
def S_Reader : DI := fun ds Qf _ => ∃ ts : List Tok, ds = [.lst (ts.map tokD)] ∧ Qf [("tokens", .lst (ts.map tokD)), ("at", .int 0)]
theorem len_Reader {ds : List D} {Qf : List (Str × D) → Prop} {Xq : XQ} (h : S_Reader ds Qf Xq) : ds.length = 1 := by
  obtain ⟨ts, rfl, _⟩ := h
  rfl
theorem p_Reader___init__ (a' : Addr) (ds : List D) (Qf : List (Str × D) → Prop) (Xq : XQ) (h : S_Reader ds Qf Xq) : b_Reader___init__ (kI a' "Reader" Qf Xq) (startI 2 a' "Reader" ds) := by
  obtain ⟨ts, rfl, q⟩ := h
  show b_Reader___init__ _ [.io a' "Reader" [], .fz (.lst (ts.map tokD))]
  unfold b_Reader___init__
  simp only [dSeq, dSetF, dLst, n1, dVar, dC, gListN_lst, putD, List.getElem?_cons_zero, List.getElem?_cons_succ, List.set_cons_zero, List.set_cons_succ]
  exact ⟨List.mem_cons_self .., (by show 0 < 999; omega), List.mem_cons_self .., (by show 1 < 999; omega), _, rfl, q⟩
def S_Measure : DI := fun ds Qf _ => ds = [] ∧ Qf [("parentheses", .int 0), ("operators", .int 0)]
theorem len_Measure {ds : List D} {Qf : List (Str × D) → Prop} {Xq : XQ} (h : S_Measure ds Qf Xq) : ds.length = 0 := by
  rw [h.1]
  rfl
theorem p_Measure___init__ (a' : Addr) (ds : List D) (Qf : List (Str × D) → Prop) (Xq : XQ) (h : S_Measure ds Qf Xq) : b_Measure___init__ (kI a' "Measure" Qf Xq) (startI 1 a' "Measure" ds) := by
  obtain ⟨rfl, q⟩ := h
  show b_Measure___init__ _ [.io a' "Measure" []]
  unfold b_Measure___init__
  simp only [dSeq, dSetF, dC, putD, List.getElem?_cons_zero, List.set_cons_zero]
  exact ⟨List.mem_cons_self .., by decide, List.mem_cons_self .., by decide, _, rfl, q⟩
def AnsP (ts : List Tok) (Q : AD → List AD → Prop) (Xq : XQ) : Rs Ex → Prop
  | .ok e i _ => Q (.d (exD e)) [.o (rdD ts i)]
  | .bad q => Xq "InvalidText" [("position", .int q)]
def S_read_place : DFO := fun ads Q Xq => ∃ (ts : List Tok) (i : Nat), ads = [.o (rdD ts i)] ∧ TsOk ts ∧ i < ts.length ∧ AnsP ts Q Xq (pE ts 11 0 i 0)
theorem p_read_place : ∀ ads vs ass Qd Xq, S_read_place ads Qd Xq → vs.length = ads.length → ass.length = ads.length → b_read_place (S_read_either 11) S_Measure (kO ads vs Qd Xq) (startO 1 ads vs ass) := by
  rintro _ vs ass Qd Xq ⟨ts, i, rfl, ok, hi, q⟩ hv ha
  obtain ⟨v, rfl⟩ := List.length_eq_one_iff.mp hv
  obtain ⟨as, rfl⟩ := List.length_eq_one_iff.mp ha
  show b_read_place _ _ _ [.ow v as (rdD ts i)]
  unfold b_read_place
  show yCallT _ _ _ _ _
  refine ⟨⟨v, as, _, rfl⟩, rfl, by decide, ?_⟩
  refine ⟨by simp [ownI], ts, i, 0, 0, rfl, ⟨ok, hi, by omega, by omega, by omega⟩, ?_⟩
  cases r : pE ts 11 0 i 0 with
  | bad z => rw [r] at q; exact q
  | ok e i' o' =>
    rw [r] at q
    exact ⟨_, rfl, _, rfl, fun as' => ⟨as', _, rfl, q⟩⟩
def AnsT (ts : List Tok) (Q : D → Prop) (Xq : XQ) : Rs Ex → Prop
  | .ok e i _ => if (tk ts i).kind = "end" then Q (exD e) else Xq "InvalidText" [("position", .int (tk ts i).pos)]
  | .bad q => Xq "InvalidText" [("position", .int q)]
def S_parse_expression : DF := fun ds Q Xq => ∃ cs : List Nat, ds = [.str (S cs)] ∧ cs.length ≤ sizeLine ∧ Ch cs ∧ AnsT (lexT cs) Q Xq (pE (lexT cs) 11 0 0 0)
theorem len_parse_expression {ds : List D} {Q : D → Prop} {Xq : XQ} (h : S_parse_expression ds Q Xq) : ds.length = 1 := by
  obtain ⟨cs, rfl, _⟩ := h
  rfl
theorem p_parse_expression : ∀ ds Qd Xq, S_parse_expression ds Qd Xq → b_parse_expression S_Reader S_split_words S_read_place S_Reader_take_end (kD Qd Xq) (startD 3 ds) := by
  rintro _ Qd Xq ⟨cs, rfl, hl, hc, q⟩
  show b_parse_expression _ _ _ _ _ [.fz (.str (S cs)), .un, .un]
  unfold b_parse_expression
  have ok := tsOk hc
  simp only [dSeq, dNewO, dMakeO, dCons, dCall, dVar, dNil, List.getElem?_cons_zero]
  refine ⟨cs, rfl, hl, hc, lexT cs, rfl, rfl, fun v as => ?_⟩
  show dSetY 2 (yCall _ _) _ [.fz (.str (S cs)), .ow v as (rdD (lexT cs) 0), .un]
  refine ⟨⟨v, as, _, rfl⟩, by simp [ownI], lexT cs, 0, rfl, ok, ok.ne, ?_⟩
  have kn := kp_E ok 11 0 0 0 ok.ne (by omega)
  cases r : pE (lexT cs) 11 0 0 0 with
  | bad z => rw [r] at q; exact q
  | ok e i o =>
    rw [r] at q kn
    refine ⟨_, rfl, _, rfl, fun as' => ?_⟩
    show dExprY (yMeth _ _ _ _ _) _ [.fz (.str (S cs)), .ow v as' (rdD (lexT cs) i), .fz (exD e)]
    refine ⟨⟨v, as', _, rfl, rfl, rfl⟩, ⟨v, as', _, rfl⟩, by simp [ownI], lexT cs, i, rfl, ok, kn.1, ?_⟩
    have q' : if (tk (lexT cs) i).kind = "end" then Qd (exD e) else Xq "InvalidText" [("position", .int (tk (lexT cs) i).pos)] := q
    by_cases c : (tk (lexT cs) i).kind = "end"
    · rw [if_pos c] at q' ⊢
      exact ⟨_, rfl, _, rfl, fun as'' => q'⟩
    · rw [if_neg c] at q' ⊢
      exact q'
end Par
open PySem L2 Dl in
local macro_rules | `(tactic| walk_at "dl") => `(tactic| try simp only [dSeq, dSet, dIfS, dB, d1, d2, dC, dVar, dNext, List.getElem?_cons_zero, List.getElem?_cons_succ, List.set_cons_zero, List.set_cons_succ])
namespace Par
open PySem L2 Dl SX
open _root_.Expr hiding lays
def hdS : Ex → Str
  | .num _ => "number"
  | .nam _ => "name"
  | .no _ => "not"
  | .bin s _ _ => s
theorem ix0 (e : Ex) (Q : D → Prop) : gIx (exD e) (.int 0) Q = Q (.str (hdS e)) := by
  cases e <;> exact gIx_tup0 _ _ _
theorem gkey_str {kvs : List (Str × Int)} {s : Str} {n : Int} (h : kvs.lookup s = some n) (Q : D → Prop) : gGKey kvs (.str s) Q = Q (.int n) := by
  unfold gGKey
  simp only [h]
theorem gkey_lv (e : Ex) (h : ExOk e) (Q : D → Prop) : gGKey [("or", 1), ("and", 2), ("not", 3), ("==", 4), ("<", 4), ("+", 5), ("-", 5), ("*", 6), ("number", 7), ("name", 7)] (.str (hdS e)) Q = Q (.int (lv e : Nat)) := by
  refine gkey_str ?_ Q
  cases e with
  | num n => exact (by decide +kernel : ([("or", 1), ("and", 2), ("not", 3), ("==", 4), ("<", 4), ("+", 5), ("-", 5), ("*", 6), ("number", 7), ("name", 7)] : List (Str × Int)).lookup ("number" : Str) = some 7)
  | nam s => exact (by decide +kernel : ([("or", 1), ("and", 2), ("not", 3), ("==", 4), ("<", 4), ("+", 5), ("-", 5), ("*", 6), ("number", 7), ("name", 7)] : List (Str × Int)).lookup ("name" : Str) = some 7)
  | no e => exact (by decide +kernel : ([("or", 1), ("and", 2), ("not", 3), ("==", 4), ("<", 4), ("+", 5), ("-", 5), ("*", 6), ("number", 7), ("name", 7)] : List (Str × Int)).lookup ("not" : Str) = some 3)
  | bin s a b =>
    have : ∀ s ∈ ops, ([("or", 1), ("and", 2), ("not", 3), ("==", 4), ("<", 4), ("+", 5), ("-", 5), ("*", 6), ("number", 7), ("name", 7)] : List (Str × Int)).lookup s = some ((opLv s : Nat) : Int) := by unfold ops; decide +kernel
    exact this s h.1
theorem lay_hd (e : Ex) (h : ExOk e) : lays (hdS e) = true := by
  cases e with
  | num n => exact (by decide +kernel : lays ("number" : Str) = true)
  | nam s => exact (by decide +kernel : lays ("name" : Str) = true)
  | no e => exact (by decide +kernel : lays ("not" : Str) = true)
  | bin s a b => exact lay_ops h.1
theorem hd_num {e : Ex} (h : ExOk e) : hdS e = "number" ↔ ∃ n, e = .num n := by
  cases e with
  | num n => exact ⟨fun _ => ⟨n, rfl⟩, fun _ => rfl⟩
  | nam s => exact ⟨fun z => absurd z (by show ("name" : Str) ≠ "number"; decide +kernel), fun ⟨n, z⟩ => by cases z⟩
  | no e => exact ⟨fun z => absurd z (by show ("not" : Str) ≠ "number"; decide +kernel), fun ⟨n, z⟩ => by cases z⟩
  | bin s a b => exact ⟨fun z => absurd h.1 (by rw [show s = "number" from z]; decide +kernel), fun ⟨n, z⟩ => by cases z⟩
theorem hd_name {e : Ex} (h : ExOk e) : hdS e = "name" ↔ ∃ n, e = .nam n := by
  cases e with
  | num n => exact ⟨fun z => absurd z (by show ("number" : Str) ≠ "name"; decide +kernel), fun ⟨n, z⟩ => by cases z⟩
  | nam s => exact ⟨fun _ => ⟨s, rfl⟩, fun _ => rfl⟩
  | no e => exact ⟨fun z => absurd z (by show ("not" : Str) ≠ "name"; decide +kernel), fun ⟨n, z⟩ => by cases z⟩
  | bin s a b => exact ⟨fun z => absurd h.1 (by rw [show s = "name" from z]; decide +kernel), fun ⟨n, z⟩ => by cases z⟩
theorem hd_not {e : Ex} (h : ExOk e) : hdS e = "not" ↔ ∃ n, e = .no n := by
  cases e with
  | num n => exact ⟨fun z => absurd z (by show ("number" : Str) ≠ "not"; decide +kernel), fun ⟨n, z⟩ => by cases z⟩
  | nam s => exact ⟨fun z => absurd z (by show ("name" : Str) ≠ "not"; decide +kernel), fun ⟨n, z⟩ => by cases z⟩
  | no e => exact ⟨fun _ => ⟨e, rfl⟩, fun _ => rfl⟩
  | bin s a b => exact ⟨fun z => absurd h.1 (by rw [show s = "not" from z]; decide +kernel), fun ⟨n, z⟩ => by cases z⟩
theorem add_S {a b : List Nat} {s t : Str} (hs : s = S a) (ht : t = S b) (hl : a.length + b.length ≤ 4000) (Q : D → Prop) : gAdd (.str s) (.str t) Q = Q (.str (S (a ++ b))) := by
  subst hs ht
  rw [gAdd_str, S_len, S_len, S_cat]
  have : 4000 ≤ sizeLine := by rw [sizeLine_eq]; decide
  exact propext ⟨fun z => z.2, fun z => ⟨by omega, z⟩⟩
theorem num_ok {n : Int} (h0 : 0 ≤ n) (h1 : n < 10000) (Q : D → Prop) : gStr (.int n) Q = Q (.str (numS n)) := by
  rw [gStr_int]
  refine propext ⟨fun z => z.2, fun z => ⟨?_, z⟩⟩
  have h : n.natAbs < 2 ^ 14 := by omega
  by_cases z : n.natAbs = 0
  · rw [z]; decide
  · have := (Nat.log2_lt z).mpr h
    omega
def S_print_expression (n : Nat) : DF := fun ds Q _ => ∃ e : Ex, ds = [exD e] ∧ ExOk e ∧ dep e < n ∧ (prtL e).length ≤ 4000 ∧ Q (.str (S (prtL e)))
def S_written_part (n : Nat) : DF := fun ds Q _ => ∃ (e : Ex) (l : Nat), ds = [exD e, .int (l : Nat)] ∧ ExOk e ∧ dep e < n ∧ (wrapL (decide (lv e < l)) (prtL e)).length ≤ 4000 ∧ Q (.str (S (wrapL (decide (lv e < l)) (prtL e))))
theorem z_print_expression : ∀ ds Q Xq, S_print_expression 0 ds Q Xq → False := fun ds Q Xq ⟨e, _, _, h, _⟩ => Nat.not_lt_zero _ h
theorem p_written_part (n : Nat) : ∀ ds Qd Xq, S_written_part n ds Qd Xq → b_written_part (S_print_expression n) (kD Qd Xq) (startD 3 ds) := by
  rintro _ Qd Xq ⟨e, l, rfl, ok, hd, hl, q⟩
  show b_written_part _ _ [.fz (exD e), .fz (.int (l : Nat)), .un]
  unfold b_written_part
  simp only [dSeq, dSet, dCall, dCons, dNil, dVar, List.getElem?_cons_zero, List.getElem?_cons_succ, List.set_cons_zero, List.set_cons_succ]
  have wl := @wrapL_len (decide (lv e < l)) (prtL e)
  refine ⟨e, rfl, ok, hd, by omega, ?_⟩
  simp only [dIfS, dB, d1, d2, dC, dVar, List.getElem?_cons_zero, List.getElem?_cons_succ]
  rw [ix0]
  rw [gkey_lv e ok, gLt_i]
  simp only
  by_cases c : lv e < l
  · rw [decide_eq_true c] at q wl
    rw [decide_eq_true (show ((lv e : Nat) : Int) < (l : Int) by omega), if_pos rfl]
    simp only [dRet, d2, dC, dVar, List.getElem?_cons_zero, List.getElem?_cons_succ]
    simp only [if_true] at wl
    rw [decide_eq_true c] at hl
    rw [add_S (a := [40]) (b := prtL e) (by decide +kernel) rfl (by rw [List.length_singleton]; omega)]
    rw [add_S (a := [40] ++ prtL e) (b := [41]) rfl (by decide +kernel) (by rw [List.length_append, List.length_singleton, List.length_singleton]; omega)]
    exact q
  · rw [decide_eq_false c] at q
    rw [decide_eq_false (show ¬ ((lv e : Nat) : Int) < (l : Int) by omega)]
    exact q
theorem eq_hd {e : Ex} (h : ExOk e) {t : Str} (lt : lays t = true) (Q : D → Prop) : gEq (.str (hdS e)) (.str t) Q = Q (.bl (decide (hdS e = t))) := gEq_strL _ _ _ (lay_hd e h) lt
theorem p_print_expression (n : Nat) : ∀ ds Qd Xq, S_print_expression (n + 1) ds Qd Xq → b_print_expression (S_written_part n) (kD Qd Xq) (startD 5 ds) := by
  rintro _ Qd Xq ⟨e, rfl, ok, hd, hl, q⟩
  show b_print_expression _ _ [.fz (exD e), .un, .un, .un, .un]
  unfold b_print_expression
  simp only [dSeq, dSet, dIfS, dB, d1, d2, dC, dVar, List.getElem?_cons_zero, List.getElem?_cons_succ, List.set_cons_zero, List.set_cons_succ]
  rw [ix0]
  walk_at "dl"
  rw [eq_hd ok (by decide +kernel)]
  walk_at "dl"
  by_cases c1 : hdS e = "number"
  · rw [decide_eq_true c1, if_pos rfl]
    obtain ⟨m, rfl⟩ := (hd_num ok).mp c1
    show dRet _ _ _
    simp only [dRet, d1, d2, dC, dVar, List.getElem?_cons_zero]
    rw [show exD (.num m) = .tup [.str "number", .int m] from rfl, gIx_tup1, num_ok ok.1 ok.2]
    have e1 : S (prtL (.num m)) = numS m := S_tl _
    rw [e1] at q
    exact q
  rw [decide_eq_false c1]
  simp only [Bool.false_eq_true, if_false]
  walk_at "dl"
  rw [eq_hd ok (by decide +kernel)]
  walk_at "dl"
  by_cases c2 : hdS e = "name"
  · rw [decide_eq_true c2, if_pos rfl]
    obtain ⟨m, rfl⟩ := (hd_name ok).mp c2
    show dRet _ _ _
    simp only [dRet, d1, d2, dC, dVar, List.getElem?_cons_zero]
    rw [show exD (.nam m) = .tup [.str "name", .str m] from rfl, gIx_tup1]
    have e1 : S (prtL (.nam m)) = m := S_tl _
    rw [e1] at q
    exact q
  rw [decide_eq_false c2]
  simp only [Bool.false_eq_true, if_false]
  walk_at "dl"
  rw [gkey_lv e ok, gAdd_int]
  walk_at "dl"
  rw [eq_hd ok (by decide +kernel)]
  walk_at "dl"
  by_cases c3 : hdS e = "not"
  · rw [decide_eq_true c3, if_pos rfl]
    obtain ⟨m, rfl⟩ := (hd_not ok).mp c3
    show dRet _ _ _
    simp only [dRet, d1, d2, dC, dCall, dCons, dNil, dVar, List.getElem?_cons_zero, List.getElem?_cons_succ]
    rw [show exD (.no m) = .tup [.str "not", exD m] from rfl, gIx_tup1]
    have hl2 : ([110, 111, 116, 32] ++ wrapL (decide (lv m < 4)) (prtL m)).length ≤ 4000 := hl
    rw [List.length_append] at hl2
    have hd2 : dep m + 1 < n + 1 := hd
    refine ⟨m, 4, rfl, ok, by omega, by omega, ?_⟩
    show gAdd _ _ _
    rw [add_S (a := [110, 111, 116, 32]) (by decide +kernel) rfl hl2]
    exact q
  rw [decide_eq_false c3]
  simp only [Bool.false_eq_true, if_false]
  walk_at "dl"
  rw [gkey_lv e ok]
  walk_at "dl"
  simp only [dTup, dCons, dNil, dC]
  rw [show ([.str ("==" : Str), .str ("<" : Str)] : List D) = (["==", "<"] : List Str).map D.str from rfl, gIn_strT false (lay_hd e ok) (by decide +kernel)]
  simp only [Bool.false_eq_true, if_false]
  cases e with
  | num m => exact absurd rfl c1
  | nam m => exact absurd rfl c2
  | no m => exact absurd rfl c3
  | bin s a b =>
    have hl2 : (wrapL (decide (lv a < lft s)) (prtL a) ++ (32 :: (tl s ++ (32 :: wrapL (decide (lv b < opLv s + 1)) (prtL b))))).length ≤ 4000 := hl
    simp only [List.length_append, List.length_cons] at hl2
    have hd2 : max (dep a) (dep b) + 1 < n + 1 := hd
    have fin : ∀ (s2 : Dl.S), b_print_expression_r1 (S_written_part n) (kD Qd Xq) [.fz (exD (.bin s a b)), .fz (.str s), .fz (.int ((opLv s + 1 : Nat) : Int)), .fz (.int ((lft s : Nat) : Int)), s2] := by
      intro s2
      unfold b_print_expression_r1
      simp only [dSeq, dSet, dRet, d2, dC, dCall, dCons, dNil, dVar, List.getElem?_cons_zero, List.getElem?_cons_succ, List.set_cons_zero, List.set_cons_succ]
      rw [show exD (.bin s a b) = .tup [.str s, exD a, exD b] from rfl, gIx_tup1]
      refine ⟨a, lft s, rfl, ok.2.1, by omega, by omega, ?_⟩
      walk_at "dl"
      rw [add_S (b := [32]) rfl (by decide +kernel) (by rw [List.length_singleton]; omega)]
      rw [add_S (b := tl s) rfl (S_tl s).symm (by rw [List.length_append, List.length_singleton]; omega)]
      rw [add_S (b := [32]) rfl (by decide +kernel) (by simp only [List.length_append, List.length_singleton]; omega)]
      rw [gIx_tup2]
      refine ⟨b, opLv s + 1, rfl, ok.2.2, by omega, by omega, ?_⟩
      show gAdd _ _ _
      rw [add_S rfl rfl (by simp only [List.length_append, List.length_singleton]; omega)]
      have e1 : wrapL (decide (lv a < lft s)) (prtL a) ++ [32] ++ tl s ++ [32] ++ wrapL (decide (lv b < opLv s + 1)) (prtL b) = prtL (.bin s a b) := by
        show _ = wrapL (decide (lv a < lft s)) (prtL a) ++ (32 :: (tl s ++ (32 :: wrapL (decide (lv b < opLv s + 1)) (prtL b))))
        simp only [List.append_assoc, List.nil_append, List.cons_append]
      rw [e1]
      exact q
    by_cases c4 : s ∈ (["==", "<"] : List Str)
    · have e4 : opLv s = 4 := by
        have : ∀ s ∈ (["==", "<"] : List Str), opLv s = 4 := by decide +kernel
        exact this s c4
      rw [decide_eq_true (show hdS (.bin s a b) ∈ (["==", "<"] : List Str) from c4), if_pos rfl]
      have e5 : lft s = opLv s + 1 := by unfold lft; rw [if_pos e4, e4]
      have := fin .un
      rw [e5] at this
      exact this
    · have e4 : ∀ s ∈ ops, s ∉ (["==", "<"] : List Str) → opLv s ≠ 4 := by unfold ops; decide +kernel
      have e5 : lft s = opLv s := by unfold lft; rw [if_neg (e4 s ok.1 c4)]
      rw [decide_eq_false (show ¬ hdS (.bin s a b) ∈ (["==", "<"] : List Str) from c4)]
      have := fin .un
      rw [e5] at this
      exact this
end Par
open PySem L2 Dl in
local macro_rules | `(tactic| walk_at "dl") => `(tactic| try simp only [dSeq, dSet, dSetN, dIfS, dRet, dRetV, dApp, dFor, dB, d1, d2, n1, n2, dC, dVar, dVarQ, dTup, dLst, dCons, dNil, dCall, dAnd, dOr, dNot, dTru, iR1, iR2, iIt, dNext, dSplit, gSplit, List.getElem?_cons_zero, List.getElem?_cons_succ, List.set_cons_zero, List.set_cons_succ, gAdd_int, gMns_int, gMax_int, gEq_int, gNe_int, gTru_bl])
namespace K07
open PySem L2 Dl Par
open SX (S_len S_tl S_cat)
open _root_.Expr hiding lays
abbrev S' (l : List Nat) : Str := SX.S l
def P0 (s : Str) (n : Nat) : Prop := (∃ c r, tl s = c :: r ∧ isL c = true) ∧ (∀ c ∈ tl s, isW c = true) ∧ s.length ≤ n
theorem isW_lt {c : Nat} (h : isW c = true) : c < 1114112 := by
  unfold isW isL isDg at h
  rw [Bool.or_eq_true, Bool.and_eq_true, Bool.and_eq_true, decide_eq_true_eq, decide_eq_true_eq, decide_eq_true_eq, decide_eq_true_eq] at h
  omega
theorem lays_W {s : Str} (h : ∀ c ∈ tl s, isW c = true) : lays s = true := by
  have := lays_S (l := tl s) fun c hc => isW_lt (h c hc)
  rw [S_tl] at this
  exact this
theorem P0.lay {s : Str} {n : Nat} (h : P0 s n) : lays s = true := lays_W h.2.1
theorem P0.le {s : Str} {n m : Nat} (h : P0 s n) (k : n ≤ m) : P0 s m := ⟨h.1, h.2.1, Nat.le_trans h.2.2 k⟩
theorem kw_P0 : ∀ s ∈ keywords, P0 s 7 := by
  intro s hs
  have h : ∀ s ∈ keywords, tl s ≠ [] ∧ isL ((tl s).headD 0) = true ∧ (∀ c ∈ tl s, isW c = true) ∧ s.length ≤ 7 := by unfold keywords; decide +kernel
  obtain ⟨h1, h2, h3, h4⟩ := h s hs
  refine ⟨?_, h3, h4⟩
  cases e : tl s with
  | nil => exact absurd e h1
  | cons c r => rw [e] at h2; exact ⟨c, r, rfl, h2⟩
theorem kw_0 : ∀ s ∈ keywords, s ++ "0" ∉ keywords := by unfold keywords; decide +kernel
theorem tl_app (a b : Str) : tl (a ++ b) = tl a ++ tl b := Array.toList_append
theorem len_app (a b : Str) : (a ++ b).length = a.length + b.length := Array.size_append
theorem P0.add {s : Str} {n c : Nat} (h : P0 s n) (hc : isW c = true) : P0 (s ++ S' [c]) (n + 1) := by
  obtain ⟨⟨d, r, e, k⟩, h2, h3⟩ := h
  refine ⟨⟨d, r ++ [c], ?_, k⟩, fun x hx => ?_, ?_⟩
  · rw [tl_app, e]; rfl
  · rw [tl_app] at hx
    rcases List.mem_append.mp hx with hx | hx
    · exact h2 x hx
    · rw [List.mem_singleton.mp hx]; exact hc
  · rw [len_app]
    show s.length + 1 ≤ n + 1
    omega
theorem szl : 100000 ≤ sizeLine := by rw [sizeLine_eq]; decide
theorem gIx_lit {t : Str} {k : Int} {n : Nat} (hl : (tl t).length = n) (hn : n ≤ 1000) (h0 : 0 ≤ k) (h1 : k < n) (Q : D → Prop) (q : ∀ c ∈ tl t, Q (.str (S' [c]))) : gIx (.str t) (.int k) Q := by
  obtain ⟨a, e, m⟩ := atI_in (l := tl t) h0 (by omega)
  have := szl
  refine ⟨(by show (tl t).length ≤ _; omega), ?_⟩
  show (match atI (tl t) k with | some c => Q (.str ⟨#[c]⟩) | none => False)
  rw [e]
  exact q a m
theorem gIx_strs {ys : List Str} {k : Int} (h0 : 0 ≤ k) (h1 : k < ys.length) (Q : D → Prop) (q : ∀ y ∈ ys, Q (.str y)) : gIx (.lst (ys.map D.str)) (.int k) Q := by
  obtain ⟨a, e, m⟩ := atI_in (l := ys) h0 h1
  show (match atI (ys.map D.str) k with | some c => Q c | none => False)
  rw [atI_map', e]
  exact q a m
def S__law_name : DF := fun ds Q _ => ds = [.rd] ∧ ∀ s, NameOk s → Q (.str s)
theorem split_kw : Txt.split "letters answers global proc local read write if then else while do call skip end and or not" " " = keywords := by unfold keywords; decide +kernel
theorem p__law_name (ds : List D) (Qd : D → Prop) (Xq : XQ) (h : S__law_name ds Qd Xq) : b__law_name S_next (kD Qd Xq) (startD 6 ds) := by
  obtain ⟨rfl, h⟩ := h
  have hz := szl
  show b__law_name S_next (kD Qd Xq) [.fz .rd, .un, .un, .un, .un, .un]
  unfold b__law_name
  walk_at "dl"
  refine ⟨by decide +kernel, by rw [sizeLine_eq]; decide +kernel, ?_⟩
  rw [split_kw]
  walk_at "dl"
  rw [gAdd_str]
  refine ⟨by rw [sizeLine_eq]; decide +kernel, ?_⟩
  walk_at "dl"
  refine ⟨26, rfl, by decide, by decide, fun k1 a1 b1 => ?_⟩
  refine gIx_lit (n := 26) (by decide +kernel) (by decide) a1 b1 _ fun c hc => ?_
  have hcL : isL c = true := by rw [← isL_mem]; exact decide_eq_true hc
  have tail : ∀ s : Str, P0 s 7 → b__law_name_r2 S_next (kD Qd Xq) [.fz .rd, .fz (.lst (keywords.map D.str)), .fz (.str "abcdefghijklmnopqrstuvwxyz"), .fz (.str (("abcdefghijklmnopqrstuvwxyz" : Str) ++ "0123456789")), .fz (.str s), .un] := by
    intro s hs
    unfold b__law_name_r2
    walk_at "dl"
    refine ⟨8, rfl, by decide, by decide, fun m a2 b2 => ?_⟩
    refine ⟨by omega, by omega, ?_⟩
    refine for_rng (fun j ρ => ∃ (s : Str) (s5 : Dl.S), ρ = [.fz .rd, .fz (.lst (keywords.map D.str)), .fz (.str "abcdefghijklmnopqrstuvwxyz"), .fz (.str (("abcdefghijklmnopqrstuvwxyz" : Str) ++ "0123456789")), .fz (.str s), s5] ∧ P0 s (7 + j)) ⟨s, _, rfl, hs⟩ (fun j ρ N hj hi hN => ?_) (fun ρ hi => ?_)
    · obtain ⟨s, s5, rfl, hs⟩ := hi
      walk_at "dl"
      refine ⟨36, rfl, by decide, by decide, fun m a2 b2 => ?_⟩
      refine gIx_lit (n := 36) (by decide +kernel) (by decide) a2 b2 _ fun c hc => ?_
      have hcW : isW c = true := by
        rw [← isW_mem]
        refine decide_eq_true ?_
        have e : (("abcdefghijklmnopqrstuvwxyz" : Str) ++ "0123456789") = "abcdefghijklmnopqrstuvwxyz0123456789" := by decide +kernel
        rw [← e]
        exact hc
      show gAdd _ _ _
      rw [gAdd_str]
      refine ⟨?_, ?_⟩
      · show s.length + 1 ≤ _
        have := hs.2.2
        omega
      · exact hN _ ⟨_, _, rfl, hs.add hcW⟩
    · obtain ⟨s, s5, rfl, hs⟩ := hi
      have hs14 : P0 s 14 := hs.le (by omega)
      walk_at "dl"
      rw [gIn_strLs false hs.lay lay_kw]
      simp only [Bool.false_eq_true, if_false]
      by_cases c : s ∈ keywords
      · rw [decide_eq_true c, if_pos rfl]
        walk_at "dl"
        rw [gAdd_str]
        refine ⟨?_, ?_⟩
        · show s.length + 1 ≤ _
          have := hs14.2.2
          omega
        · have e : ("0" : Str) = S' [48] := by decide +kernel
          have p := hs14.add (c := 48) (by decide)
          rw [← e] at p
          exact h _ ⟨p.1, p.2.1, kw_0 s c, p.2.2⟩
      · rw [decide_eq_false c]
        exact h _ ⟨hs14.1, hs14.2.1, c, Nat.le_trans hs14.2.2 (by decide)⟩
  walk_at "dl"
  refine ⟨4, rfl, by decide, by decide, fun k2 a2 b2 => ?_⟩
  walk_at "dl"
  have one : P0 (S' [c]) 7 := ⟨⟨c, [], rfl, hcL⟩, fun x hx => by rw [List.mem_singleton.mp hx]; unfold isW; rw [hcL]; rfl, (by show 1 ≤ 7; decide)⟩
  by_cases c2 : k2 = 0
  · rw [decide_eq_true c2, if_pos rfl]
    walk_at "dl"
    refine ⟨18, rfl, by decide, by decide, fun k3 a3 b3 => ?_⟩
    exact gIx_strs a3 (by have : keywords.length = 18 := by decide
                          omega) _ fun y hy => tail y (kw_P0 y hy)
  · rw [decide_eq_false c2]
    exact tail _ one
def NamesOk (names : List Str) : Prop := 0 < names.length ∧ names.length ≤ 1000 ∧ ∀ s ∈ names, NameOk s
def S__law_atom : DF := fun ds Q _ => ∃ names : List Str, ds = [.rd, .lst (names.map D.str)] ∧ NamesOk names ∧ (∀ n : Int, 0 ≤ n → n < 10000 → Q (exD (.num n))) ∧ ∀ s, NameOk s → Q (exD (.nam s))
theorem p__law_atom (ds : List D) (Qd : D → Prop) (Xq : XQ) (h : S__law_atom ds Qd Xq) : b__law_atom S_next (kD Qd Xq) (startD 3 ds) := by
  obtain ⟨names, rfl, ⟨n0, n1, nk⟩, h1, h2⟩ := h
  show b__law_atom S_next (kD Qd Xq) [.fz .rd, .fz (.lst (names.map D.str)), .un]
  unfold b__law_atom
  walk_at "dl"
  refine ⟨5, rfl, by decide, by decide, fun k1 a1 b1 => ?_⟩
  walk_at "dl"
  rw [gLt_i]
  simp only
  by_cases c : k1 < 3
  · rw [decide_eq_true c, if_pos rfl]
    walk_at "dl"
    rw [gLen_lst, List.length_map]
    refine ⟨names.length, rfl, by omega, by omega, fun k a b => ?_⟩
    exact gIx_strs a b _ fun y hy => h2 y (nk y hy)
  · rw [decide_eq_false c]
    simp only [Bool.false_eq_true, if_false]
    walk_at "dl"
    have : k1 = 3 ∨ k1 = 4 := by omega
    rcases this with rfl | rfl
    · show gIx _ (.int 0) _
      rw [gIx_lst0]
      exact ⟨10, rfl, by decide, by decide, fun k a b => h1 k a (by omega)⟩
    · show gIx _ (.int 1) _
      rw [gIx_lst1]
      exact ⟨10000, rfl, by decide, by decide, fun k a b => h1 k a (by omega)⟩
def S__law_expression (n : Nat) : DF := fun ds Q _ => ∃ (names : List Str) (d bare : Int), ds = [.rd, .lst (names.map D.str), .int d, .int bare] ∧ NamesOk names ∧ 0 ≤ d ∧ d < n ∧ ∀ e, ExOk e → (dep e : Int) ≤ d → Q (exD e)
theorem z__law_expression : ∀ ds Q Xq, S__law_expression 0 ds Q Xq → False := fun ds Q Xq ⟨_, d, _, _, _, h0, h1, _⟩ => by
  have : d < 0 := h1
  omega
theorem p__law_expression (n : Nat) (ds : List D) (Qd : D → Prop) (Xq : XQ) (h : S__law_expression (n + 1) ds Qd Xq) : b__law_expression S_next S__law_atom (S__law_expression n) (kD Qd Xq) (startD 7 ds) := by
  obtain ⟨names, d, bare, rfl, nk, h0, h1, h⟩ := h
  show b__law_expression S_next S__law_atom (S__law_expression n) (kD Qd Xq) [.fz .rd, .fz (.lst (names.map D.str)), .fz (.int d), .fz (.int bare), .un, .un, .un]
  unfold b__law_expression
  have h1' : d < (n : Int) + 1 := h1
  walk_at "dl"
  refine ⟨9, rfl, by decide, by decide, fun k1 a1 b1 => ?_⟩
  walk_at "dl"
  have leaf : ∀ s6 s5 : Dl.S, S__law_atom [.rd, .lst (names.map D.str)] Qd Xq := fun _ _ => ⟨names, rfl, nk, fun n a b => h (.num n) ⟨a, b⟩ h0, fun s hs => h (.nam s) hs h0⟩
  by_cases c1 : d = 0
  · rw [decide_eq_true c1]
    simp only [if_true]
    exact leaf .un .un
  · rw [decide_eq_false c1]
    simp only [Bool.false_eq_true, if_false]
    rw [gLt_i]
    simp only
    by_cases c2 : k1 < bare
    · rw [decide_eq_true c2]
      exact leaf .un .un
    · rw [decide_eq_false c2]
      simp only [Bool.false_eq_true, if_false]
      walk_at "dl"
      by_cases c3 : k1 = 8
      · rw [decide_eq_true c3, if_pos rfl]
        walk_at "dl"
        exact ⟨names, d - 1, bare, rfl, nk, by omega, by omega, fun e ok hd => h (.no e) ok (by show ((dep e + 1 : Nat) : Int) ≤ d; omega)⟩
      · rw [decide_eq_false c3]
        simp only [Bool.false_eq_true, if_false]
        walk_at "dl"
        refine ⟨7, rfl, by decide, by decide, fun k2 a2 b2 => ?_⟩
        show gIx (.lst (ops.map D.str)) _ _
        refine gIx_strs (ys := ops) a2 b2 _ fun s hs => ?_
        walk_at "dl"
        refine ⟨names, d - 1, bare, rfl, nk, by omega, by omega, fun e ok hd => ?_⟩
        walk_at "dl"
        exact ⟨names, d - 1, bare, rfl, nk, by omega, by omega, fun e2 ok2 hd2 => h (.bin s e e2) ⟨hs, ok, ok2⟩ (by show ((max (dep e) (dep e2) + 1 : Nat) : Int) ≤ d; omega)⟩
structure ChP (e : Ex) (k g : Nat) : Prop where
  ok : ExOk e
  no : nops e ≤ k
  de : dep e ≤ k
  ne : need e = 0
  lv : g ≤ lv e
  wb : Par.wb 1 e ≤ 34 + 56 * k
def glv (a : Int) : Nat := if a = 0 then 6 else if a = 1 then 5 else if a = 2 then 2 else 1
theorem ChP.le {e : Ex} {k g k' g' : Nat} (h : ChP e k g) (hk : k ≤ k') (hg : g' ≤ g) : ChP e k' g' := ⟨h.ok, Nat.le_trans h.no hk, Nat.le_trans h.de hk, h.ne, Nat.le_trans hg h.lv, by have := h.wb; omega⟩
theorem chp_atom {e : Ex} (h : (∃ n : Int, e = .num n ∧ 0 ≤ n ∧ n < 10000) ∨ ∃ s, e = .nam s ∧ NameOk s) : ChP e 0 7 := by
  rcases h with ⟨n, rfl, a, b⟩ | ⟨s, rfl, a⟩
  · exact ⟨⟨a, b⟩, Nat.le_refl _, Nat.le_refl _, rfl, Nat.le_refl _, Nat.le_refl _⟩
  · exact ⟨a, Nat.le_refl _, Nat.le_refl _, rfl, Nat.le_refl _, Nat.le_refl _⟩
theorem chp_bin {e f : Ex} {k g : Nat} {s : Str} (h : ChP e k g) (hf : ChP f 0 7) (hs : s ∈ ops) (eg : opLv s = g) (g4 : g ≠ 4) : ChP (.bin s e f) (k + 1) g := by
  have l6 : opLv s ≤ 6 := by
    have := lv_ops s hs
    omega
  have el : lft s = opLv s := by unfold lft; rw [if_neg (by rw [eg]; exact g4)]
  have p1 : pq e (lft s) = 0 := if_neg (by have := h.lv; rw [el, eg]; omega)
  have p2 : pq f (opLv s + 1) = 0 := if_neg (by have := hf.lv; omega)
  refine ⟨⟨hs, h.ok, hf.ok⟩, ?_, ?_, ?_, ?_, ?_⟩
  · have a := h.no
    have b := hf.no
    show nops e + nops f + 1 ≤ k + 1
    omega
  · have a := h.de
    have b := hf.de
    show max (dep e) (dep f) + 1 ≤ k + 1
    omega
  · show max (need e + pq e (lft s)) (need f + pq f (opLv s + 1)) = 0
    rw [p1, p2, h.ne, hf.ne]
    rfl
  · show g ≤ opLv s
    omega
  · have a := h.wb
    have b := hf.wb
    show 6 + 8 * (1 + 1) + Par.wb 1 e + Par.wb 1 f ≤ 34 + 56 * (k + 1)
    omega
def S__law_chain : DF := fun ds Q _ => ∃ names : List Str, ds = [.rd, .lst (names.map D.str)] ∧ NamesOk names ∧ ∀ e, ChP e 40 1 → Q (exD e)
abbrev grp : List D := [.lst [.str "*"], .lst [.str "+", .str "-"], .lst [.str "and"], .lst [.str "or"]]
theorem p__law_chain (ds : List D) (Qd : D → Prop) (Xq : XQ) (h : S__law_chain ds Qd Xq) : b__law_chain S_next S__law_atom (kD Qd Xq) (startD 7 ds) := by
  obtain ⟨names, rfl, nk, h⟩ := h
  show b__law_chain S_next S__law_atom (kD Qd Xq) [.fz .rd, .fz (.lst (names.map D.str)), .un, .un, .un, .un, .un]
  unfold b__law_chain
  walk_at "dl"
  refine ⟨4, rfl, by decide, by decide, fun k1 a1 b1 => ?_⟩
  walk_at "dl"
  have start : ∀ e, ChP e 0 7 → dFor (iR1 (d2 gAdd (dC (.int 1)) (dCall S_next (dCons (dVar 0) (dCons (dC (.int 40)) dNil))))) 5
    (dSeq (dIfS (dAnd (dB (d2 gLt (dVar 3) (dC (.int 3)))) (dB (d2 gEq (dCall S_next (dCons (dVar 0) (dCons (dC (.int 12)) dNil))) (dC (.int 0)))))
      (dSet 3 (d2 gAdd (dVar 3) (dC (.int 1))))
      dNext)
    (b__law_chain_r1 S_next S__law_atom)) { kD Qd Xq with nx := dRetV 4 (kD Qd Xq) } [.fz .rd, .fz (.lst (names.map D.str)), .fz (.lst grp), .fz (.int k1), .fz (exD e), .un, .un] := by
    intro e he
    walk_at "dl"
    refine ⟨40, rfl, by decide, by decide, fun m a2 b2 => ?_⟩
    refine ⟨by omega, by omega, ?_⟩
    refine for_rng (fun j ρ => ∃ (a : Int) (e : Ex) (s5 s6 : Dl.S), ρ = [.fz .rd, .fz (.lst (names.map D.str)), .fz (.lst grp), .fz (.int a), .fz (exD e), s5, s6] ∧ 0 ≤ a ∧ a < 4 ∧ ChP e j (glv a)) ⟨k1, e, _, _, rfl, a1, b1, he.le (Nat.le_refl _) (by unfold glv; split <;> (try split) <;> (try split) <;> omega)⟩ (fun j ρ N hj hi hN => ?_) (fun ρ hi => ?_)
    · obtain ⟨a, e, s5, s6, rfl, ha0, ha1, ch⟩ := hi
      have body : ∀ a' : Int, 0 ≤ a' → a' < 4 → glv a' ≤ glv a → b__law_chain_r1 S_next S__law_atom { kD Qd Xq with nx := N, ct := N, bk := (dRetV 4 (kD Qd Xq)) } [.fz .rd, .fz (.lst (names.map D.str)), .fz (.lst grp), .fz (.int a'), .fz (exD e), .fz (.int (0 + (j : Int))), s6] := by
        intro a' z0 z1 zg
        have ch' := ch.le (Nat.le_refl j) zg
        unfold b__law_chain_r1
        have fin : ∀ (gs : List Str) (xq : XQ), gs ≠ [] → gs.length ≤ 2 → (∀ s ∈ gs, s ∈ ops ∧ opLv s = glv a') → glv a' ≠ 4 → ∀ K : D → Prop, (∀ s ∈ gs, K (.str s)) → S_next [.rd, .int gs.length] (fun y => gIx (.lst (gs.map D.str)) y K) xq := by
          intro gs xq ne l2 hg g4 K hK
          have : 0 < gs.length := List.length_pos_iff.mpr ne
          exact ⟨gs.length, rfl, by omega, by omega, fun k a b => gIx_strs a b _ hK⟩
        have go : ∀ gs : List Str, gs ≠ [] → gs.length ≤ 2 → (∀ s ∈ gs, s ∈ ops ∧ opLv s = glv a') → glv a' ≠ 4 → gIx (.lst grp) (.int a') (fun d => d = .lst (gs.map D.str)) → ∀ s ∈ gs, s ∈ ops ∧ opLv s = glv a' := fun gs _ _ hg _ _ => hg
        have key : ∀ gs : List Str, gs ≠ [] → gs.length ≤ 2 → (∀ s ∈ gs, s ∈ ops ∧ opLv s = glv a') → glv a' ≠ 4 → (∀ Q : D → Prop, gIx (.lst grp) (.int a') Q = Q (.lst (gs.map D.str))) → dSeq (dSet 6 (d2 gIx (dVar 2) (dVar 3)))
              (dSet 4 (dTup (dCons (d2 gIx (dVar 6) (dCall S_next (dCons (dVar 0) (dCons (d1 gLen (dVar 6)) dNil)))) (dCons (dVar 4) (dCons (dCall S__law_atom (dCons (dVar 0) (dCons (dVar 1) dNil))) dNil))))) { kD Qd Xq with nx := N, ct := N, bk := (dRetV 4 (kD Qd Xq)) } [.fz .rd, .fz (.lst (names.map D.str)), .fz (.lst grp), .fz (.int a'), .fz (exD e), .fz (.int (0 + (j : Int))), s6] := by
          intro gs ne l2 hg g4 hix
          walk_at "dl"
          rw [hix]
          walk_at "dl"
          rw [gLen_lst, List.length_map]
          refine fin gs _ ne l2 hg g4 _ fun s hs => ?_
          have at' : ∀ f, ChP f 0 7 → N [.fz .rd, .fz (.lst (names.map D.str)), .fz (.lst grp), .fz (.int a'), .fz (exD (.bin s e f)), .fz (.int (0 + (j : Int))), .fz (.lst (gs.map D.str))] := fun f hf =>
            hN _ ⟨a', .bin s e f, _, _, rfl, z0, z1, chp_bin ch' hf (hg s hs).1 (hg s hs).2 g4⟩
          exact ⟨names, rfl, nk, fun n a b => at' (.num n) (chp_atom (.inl ⟨n, rfl, a, b⟩)), fun s hs => at' (.nam s) (chp_atom (.inr ⟨s, rfl, hs⟩))⟩
        have : a' = 0 ∨ a' = 1 ∨ a' = 2 ∨ a' = 3 := by omega
        rcases this with rfl | rfl | rfl | rfl
        · exact key ["*"] (by decide) (by decide) (by decide +kernel) (by decide) fun Q => gIx_lst0 _ _ Q
        · exact key ["+", "-"] (by decide) (by decide) (by decide +kernel) (by decide) fun Q => gIx_lst1 _ _ _ Q
        · exact key ["and"] (by decide) (by decide) (by decide +kernel) (by decide) fun Q => gIx_lst2 _ _ _ _ Q
        · exact key ["or"] (by decide) (by decide) (by decide +kernel) (by decide) fun Q => gIx_lst3 _ _ _ _ _ Q
      walk_at "dl"
      rw [gLt_i]
      simp only
      by_cases c : a < 3
      · rw [decide_eq_true c]
        simp only [if_true]
        refine ⟨12, rfl, by decide, by decide, fun k2 a2 b2 => ?_⟩
        walk_at "dl"
        by_cases c2 : k2 = 0
        · rw [decide_eq_true c2, if_pos rfl]
          refine body (a + 1) (by omega) (by omega) ?_
          have : a = 0 ∨ a = 1 ∨ a = 2 := by omega
          rcases this with rfl | rfl | rfl <;> decide
        · rw [decide_eq_false c2]
          exact body a ha0 ha1 (Nat.le_refl _)
      · rw [decide_eq_false c]
        exact body a ha0 ha1 (Nat.le_refl _)
    · obtain ⟨a, e, s5, s6, rfl, ha0, ha1, ch⟩ := hi
      refine h e (ch.le (by omega) ?_)
      unfold glv
      split <;> (try split) <;> (try split) <;> omega
  exact ⟨names, rfl, nk, fun n a b => start (.num n) (chp_atom (.inl ⟨n, rfl, a, b⟩)), fun s hs => start (.nam s) (chp_atom (.inr ⟨s, rfl, hs⟩))⟩
end K07
namespace K07
open PySem L2 Dl Par
open SX (S_len S_tl S_cat)
open _root_.Expr hiding lays
abbrev LVs : List (Str × Int) := [("or", 1), ("and", 2), ("not", 3), ("==", 4), ("<", 4), ("+", 5), ("-", 5), ("*", 6), ("number", 7), ("name", 7)]
theorem lookup_lv (e : Ex) (h : ExOk e) : LVs.lookup (hdS e) = some ((lv e : Nat) : Int) := by
  cases e with
  | num n => exact (by decide +kernel : LVs.lookup ("number" : Str) = some 7)
  | nam s => exact (by decide +kernel : LVs.lookup ("name" : Str) = some 7)
  | no e => exact (by decide +kernel : LVs.lookup ("not" : Str) = some 3)
  | bin s a b =>
    have : ∀ s ∈ ops, LVs.lookup s = some ((opLv s : Nat) : Int) := by unfold ops; decide +kernel
    exact this s h.1
def kvI (l : List (Str × Int)) : List (Key × D) := l.map fun q => (.inr q.1, .int q.2)
theorem getK_kvI (s : Str) : ∀ l : List (Str × Int), getK (kvI l) (.inr s) = (l.lookup s).map D.int
  | [] => rfl
  | (x, n) :: r => by
    show (if (Sum.inr x : Key) = .inr s then some (D.int n) else getK (kvI r) (.inr s)) = _
    rw [List.lookup_cons]
    by_cases c : x = s
    · subst c
      rw [if_pos rfl, beq_self_eq_true]
      rfl
    · rw [if_neg (fun z => c (Sum.inr.inj z)), beq_eq_false_iff_ne.mpr (fun z => c z.symm), getK_kvI s r]
theorem gKey_dic {kvs : List (Key × D)} {k : Key} {n : Int} (h : getK kvs k = some (.int n)) (Q : D → Prop) : gKey k (.dic kvs) Q = Q (.int n) := by
  unfold gKey
  simp only [h]
def S__law_level : DF := fun ds Q _ => ∃ e : Ex, ds = [exD e] ∧ ExOk e ∧ Q (.int (lv e : Nat))
theorem p__law_level (ds : List D) (Qd : D → Prop) (Xq : XQ) (h : S__law_level ds Qd Xq) : b__law_level (kD Qd Xq) (startD 2 ds) := by
  obtain ⟨e, rfl, ok, h⟩ := h
  show b__law_level (kD Qd Xq) [.fz (exD e), .un]
  unfold b__law_level
  simp only [dSeq, dSet, dTmp, dDic, dCons, dNil, dLeaf, dC]
  refine ⟨rfl, rfl, rfl, rfl, rfl, rfl, rfl, rfl, rfl, rfl, ?_⟩
  show dRet _ _ [.fz (exD e), .fz (.dic (kvI LVs))]
  simp only [dRet, dKeyV, d2, dC, dVar, List.getElem?_cons_zero, List.getElem?_cons_succ]
  rw [ix0]
  show gKey (.inr (hdS e)) (.dic (kvI LVs)) _
  rw [gKey_dic (by rw [getK_kvI, lookup_lv e ok]; rfl)]
  exact h
def lstE : Ex → Nat → Nat
  | .no _, _ => 4
  | .bin s _ _, k => if k = 2 then opLv s + 1 else lft s
  | _, _ => 0
def S__law_least : DF := fun ds Q _ => ∃ (e : Ex) (k : Nat), ds = [exD e, .int (k : Nat)] ∧ ExOk e ∧ ((∃ a, e = .no a ∧ k = 1) ∨ ∃ s a b, e = .bin s a b ∧ (k = 1 ∨ k = 2)) ∧ Q (.int (lstE e k : Nat))
theorem p__law_least (ds : List D) (Qd : D → Prop) (Xq : XQ) (h : S__law_least ds Qd Xq) : b__law_least S__law_level (kD Qd Xq) (startD 2 ds) := by
  obtain ⟨e, k, rfl, ok, hk, h⟩ := h
  show b__law_least S__law_level (kD Qd Xq) [.fz (exD e), .fz (.int (k : Nat))]
  unfold b__law_least
  walk_at "dl"
  have up : Qd (.int ((lv e + 1 : Nat) : Int)) → S__law_level [exD e] (fun x => gAdd x (.int 1) fun d => Qd d) Xq := fun z => ⟨e, rfl, ok, z⟩
  by_cases c : k = 2
  · rw [decide_eq_true (show (k : Int) = 2 by omega)]
    simp only [if_true]
    refine up ?_
    rcases hk with ⟨a, rfl, rfl⟩ | ⟨s, a, b, rfl, _⟩
    · exact absurd c (by decide)
    · have h : Qd (.int ((if k = 2 then opLv s + 1 else lft s : Nat) : Int)) := h
      rw [if_pos c] at h
      exact h
  · rw [decide_eq_false (show ¬ (k : Int) = 2 by omega)]
    simp only [Bool.false_eq_true, if_false]
    rw [ix0]
    rw [show ([.str ("not" : Str), .str ("==" : Str), .str ("<" : Str)] : List D) = (["not", "==", "<"] : List Str).map D.str from rfl, gIn_strLs false (lay_hd e ok) (by decide +kernel)]
    simp only [Bool.false_eq_true, if_false]
    rcases hk with ⟨a, rfl, _⟩ | ⟨s, a, b, rfl, _⟩
    · rw [decide_eq_true (show hdS (.no a) ∈ (["not", "==", "<"] : List Str) from List.mem_cons_self ..)]
      simp only [if_true]
      exact up h
    · have h : Qd (.int ((if k = 2 then opLv s + 1 else lft s : Nat) : Int)) := h
      rw [if_neg c] at h
      have key : ∀ s ∈ ops, (s ∈ (["not", "==", "<"] : List Str) ∧ lft s = opLv s + 1) ∨ (s ∉ (["not", "==", "<"] : List Str) ∧ lft s = opLv s) := by unfold ops; decide +kernel
      rcases key s ok.1 with ⟨z1, z2⟩ | ⟨z1, z2⟩
      · rw [decide_eq_true (show hdS (.bin s a b) ∈ (["not", "==", "<"] : List Str) from z1)]
        simp only [if_true]
        rw [z2] at h
        exact up h
      · rw [decide_eq_false (show ¬ hdS (.bin s a b) ∈ (["not", "==", "<"] : List Str) from z1)]
        simp only [Bool.false_eq_true, if_false]
        rw [z2] at h
        exact ⟨_, rfl, ok, h⟩
def S__law_print (n : Nat) : DF := fun ds Q _ => ∃ e : Ex, ds = [exD e] ∧ ExOk e ∧ dep e < n ∧ (prtL e).length ≤ 4000 ∧ Q (.str (S' (prtL e)))
theorem z__law_print : ∀ ds Q Xq, S__law_print 0 ds Q Xq → False := fun ds Q Xq ⟨e, _, _, h, _⟩ => Nat.not_lt_zero _ h
abbrev bodyP (n : Nat) : DS := dSeq (dSet 3 (dCall (S__law_print n) (dCons (d2 gIx (dVar 0) (dVar 2)) dNil)))
    (dSeq (dIfS (dB (d2 gLt (dCall S__law_level (dCons (d2 gIx (dVar 0) (dVar 2)) dNil)) (dCall S__law_least (dCons (dVar 0) (dCons (dVar 2) dNil)))))
      (dSet 3 (d2 gAdd (d2 gAdd (dC (.str "(")) (dVar 3)) (dC (.str ")"))))
      dNext)
    (b__law_print_r1 (S__law_print n) S__law_level S__law_least))
abbrev tailP : DS := dSeq (dIfS (dB (d2 gEq (d2 gIx (dVar 0) (dC (.int 0))) (dC (.str "not"))))
    (dRet (d2 gAdd (dC (.str "not ")) (d2 gIx (dVarQ 1) (dC (.int 0)))))
    dNext)
  (dRet (d2 gAdd (d2 gAdd (d2 gAdd (d2 gAdd (d2 gIx (dVarQ 1) (dC (.int 0))) (dC (.str " "))) (d2 gIx (dVar 0) (dC (.int 0)))) (dC (.str " "))) (d2 gIx (dVarQ 1) (dC (.int 1)))))
theorem print_step {n : Nat} {e c : Ex} {k : Nat} {parts : List D} {s3 : Dl.S} {K : DK} (ok : ExOk e) (hk : (∃ a, e = .no a ∧ k = 1) ∨ ∃ s a b, e = .bin s a b ∧ (k = 1 ∨ k = 2)) (hc : ∀ Q : D → Prop, gIx (exD e) (.int (k : Nat)) Q = Q (exD c)) (okc : ExOk c) (hd : dep c < n)
    (hl : (wrapL (decide (lv c < lstE e k)) (prtL c)).length ≤ 4000) (hp : parts.length < 10) (q : ∀ s3, K.nx [.fz (exD e), .op (parts ++ [.str (S' (wrapL (decide (lv c < lstE e k)) (prtL c)))]), .fz (.int (k : Nat)), s3]) :
    bodyP n K [.fz (exD e), .op parts, .fz (.int (k : Nat)), s3] := by
  have := szl
  have wl := @wrapL_len (decide (lv c < lstE e k)) (prtL c)
  walk_at "dl"
  rw [hc]
  refine ⟨c, rfl, okc, hd, by omega, ?_⟩
  walk_at "dl"
  rw [hc]
  refine ⟨c, rfl, okc, ?_⟩
  refine ⟨e, k, rfl, ok, hk, ?_⟩
  show gLt _ _ _
  rw [gLt_i]
  simp only
  by_cases z : lv c < lstE e k
  · rw [decide_eq_true z] at q wl hl
    simp only [if_true] at wl
    rw [decide_eq_true (show ((lv c : Nat) : Int) < (lstE e k : Nat) by omega), if_pos rfl]
    rw [add_S (a := [40]) (b := prtL c) (by decide +kernel) rfl (by rw [List.length_singleton]; omega)]
    rw [add_S (a := [40] ++ prtL c) (b := [41]) rfl (by decide +kernel) (by rw [List.length_append, List.length_singleton, List.length_singleton]; omega)]
    walk_at "dl"
    unfold b__law_print_r1
    walk_at "dl"
    exact ⟨by omega, q _⟩
  · rw [decide_eq_false z] at q
    rw [decide_eq_false (show ¬ ((lv c : Nat) : Int) < (lstE e k : Nat) by omega)]
    simp only [Bool.false_eq_true, if_false]
    unfold b__law_print_r1
    walk_at "dl"
    exact ⟨by omega, q _⟩
theorem p__law_print (n : Nat) (ds : List D) (Qd : D → Prop) (Xq : XQ) (h : S__law_print (n + 1) ds Qd Xq) : b__law_print (S__law_print n) S__law_level S__law_least (kD Qd Xq) (startD 4 ds) := by
  obtain ⟨e, rfl, ok, hd, hl, q⟩ := h
  show b__law_print (S__law_print n) S__law_level S__law_least (kD Qd Xq) [.fz (exD e), .un, .un, .un]
  unfold b__law_print
  walk_at "dl"
  rw [ix0, eq_hd ok (by decide +kernel)]
  simp only
  by_cases c1 : hdS e = "number"
  · rw [decide_eq_true c1, if_pos rfl]
    obtain ⟨m, rfl⟩ := (hd_num ok).mp c1
    rw [show exD (.num m) = .tup [.str "number", .int m] from rfl, gIx_tup1, num_ok ok.1 ok.2]
    have e1 : S' (prtL (.num m)) = numS m := S_tl _
    rw [e1] at q
    exact q
  rw [decide_eq_false c1]
  simp only [Bool.false_eq_true, if_false]
  rw [ix0, eq_hd ok (by decide +kernel)]
  simp only
  by_cases c2 : hdS e = "name"
  · rw [decide_eq_true c2, if_pos rfl]
    obtain ⟨m, rfl⟩ := (hd_name ok).mp c2
    rw [show exD (.nam m) = .tup [.str "name", .str m] from rfl, gIx_tup1]
    have e1 : S' (prtL (.nam m)) = m := S_tl _
    rw [e1] at q
    exact q
  rw [decide_eq_false c2]
  simp only [Bool.false_eq_true, if_false]
  cases e with
  | num m => exact absurd rfl c1
  | nam m => exact absurd rfl c2
  | no m =>
    have hl2 : ([110, 111, 116, 32] ++ wrapL (decide (lv m < 4)) (prtL m)).length ≤ 4000 := hl
    rw [List.length_append] at hl2
    have hd2 : dep m + 1 < n + 1 := hd
    rw [show exD (.no m) = .tup [.str "not", exD m] from rfl, gLen_tup]
    refine ⟨by simp only [List.length_cons, List.length_nil]; decide, ?_⟩
    show bodyP n _ [.fz (exD (.no m)), .op [], .fz (.int (1 : Nat)), .un]
    refine print_step (c := m) ok (.inl ⟨m, rfl, rfl⟩) (fun Q => gIx_tup1 _ _ _ Q) ok (by omega) (by show (wrapL (decide (lv m < 4)) (prtL m)).length ≤ 4000; omega) (by show 0 < 10; omega) fun s3 => ?_
    show tailP (kD Qd Xq) [.fz (exD (.no m)), .op [.str (S' (wrapL (decide (lv m < 4)) (prtL m)))], .fz (.int (1 : Nat)), s3]
    walk_at "dl"
    rw [ix0, eq_hd ok (by decide +kernel), decide_eq_true (show hdS (.no m) = "not" from rfl)]
    simp only [if_true]
    rw [gIx_lst0, add_S (a := [110, 111, 116, 32]) (by decide +kernel) rfl hl2]
    exact q
  | bin s a b =>
    have hl2 : (wrapL (decide (lv a < lft s)) (prtL a) ++ (32 :: (tl s ++ (32 :: wrapL (decide (lv b < opLv s + 1)) (prtL b))))).length ≤ 4000 := hl
    simp only [List.length_append, List.length_cons] at hl2
    have hd2 : max (dep a) (dep b) + 1 < n + 1 := hd
    rw [show exD (.bin s a b) = .tup [.str s, exD a, exD b] from rfl, gLen_tup]
    refine ⟨by simp only [List.length_cons, List.length_nil]; decide, ?_⟩
    show bodyP n _ [.fz (exD (.bin s a b)), .op [], .fz (.int (1 : Nat)), .un]
    refine print_step (c := a) ok (.inr ⟨s, a, b, rfl, .inl rfl⟩) (fun Q => gIx_tup1 _ _ _ Q) ok.2.1 (by omega) (by show (wrapL (decide (lv a < lft s)) (prtL a)).length ≤ 4000; omega) (by show 0 < 10; omega) fun s3 => ?_
    show bodyP n _ [.fz (exD (.bin s a b)), .op [.str (S' (wrapL (decide (lv a < lft s)) (prtL a)))], .fz (.int (2 : Nat)), s3]
    refine print_step (c := b) ok (.inr ⟨s, a, b, rfl, .inr rfl⟩) (fun Q => gIx_tup2 _ _ _ _ Q) ok.2.2 (by omega) (by show (wrapL (decide (lv b < opLv s + 1)) (prtL b)).length ≤ 4000; omega) (by show 1 < 10; omega) fun s3 => ?_
    show tailP (kD Qd Xq) [.fz (exD (.bin s a b)), .op [.str (S' (wrapL (decide (lv a < lft s)) (prtL a))), .str (S' (wrapL (decide (lv b < opLv s + 1)) (prtL b)))], .fz (.int (2 : Nat)), s3]
    walk_at "dl"
    rw [ix0, eq_hd ok (by decide +kernel), decide_eq_false (show ¬ hdS (.bin s a b) = "not" from fun z => by
      obtain ⟨m, z⟩ := (hd_not ok).mp z
      cases z)]
    simp only [Bool.false_eq_true, if_false]
    rw [gIx_lst0]
    rw [add_S (b := [32]) rfl (by decide +kernel) (by rw [List.length_singleton]; omega)]
    rw [ix0]
    rw [show hdS (.bin s a b) = s from rfl]
    rw [add_S (b := tl s) rfl (S_tl s).symm (by rw [List.length_append, List.length_singleton]; omega)]
    rw [add_S (b := [32]) rfl (by decide +kernel) (by simp only [List.length_append, List.length_singleton]; omega)]
    rw [gIx_lst1]
    rw [add_S rfl rfl (by simp only [List.length_append, List.length_singleton]; omega)]
    have e1 : wrapL (decide (lv a < lft s)) (prtL a) ++ [32] ++ tl s ++ [32] ++ wrapL (decide (lv b < opLv s + 1)) (prtL b) = prtL (.bin s a b) := by
      show _ = wrapL (decide (lv a < lft s)) (prtL a) ++ (32 :: (tl s ++ (32 :: wrapL (decide (lv b < opLv s + 1)) (prtL b))))
      simp only [List.append_assoc, List.nil_append, List.cons_append]
    rw [e1]
    exact q
def S__law_need (n : Nat) : DF := fun ds Q _ => ∃ e : Ex, ds = [exD e] ∧ ExOk e ∧ dep e < n ∧ Q (.int (need e : Nat))
theorem z__law_need : ∀ ds Q Xq, S__law_need 0 ds Q Xq → False := fun ds Q Xq ⟨e, _, _, h, _⟩ => Nat.not_lt_zero _ h
abbrev bodyN (n : Nat) : DS := dSet 1 (d2 gMax (dVar 1) (d2 gAdd (dCall (S__law_need n) (dCons (d2 gIx (dVar 0) (dVar 2)) dNil)) (d1 gInt (d2 gLt (dCall S__law_level (dCons (d2 gIx (dVar 0) (dVar 2)) dNil)) (dCall S__law_least (dCons (dVar 0) (dCons (dVar 2) dNil)))))))
theorem need_step {n : Nat} {e c : Ex} {k m : Nat} {K : DK} (ok : ExOk e) (hk : (∃ a, e = .no a ∧ k = 1) ∨ ∃ s a b, e = .bin s a b ∧ (k = 1 ∨ k = 2)) (hc : ∀ Q : D → Prop, gIx (exD e) (.int (k : Nat)) Q = Q (exD c)) (okc : ExOk c) (hd : dep c < n)
    (q : K.nx [.fz (exD e), .fz (.int ((max m (need c + pq c (lstE e k)) : Nat) : Int)), .fz (.int (k : Nat))]) : bodyN n K [.fz (exD e), .fz (.int (m : Nat)), .fz (.int (k : Nat))] := by
  walk_at "dl"
  rw [hc]
  refine ⟨c, rfl, okc, hd, ?_⟩
  show gIx _ _ _
  rw [hc]
  refine ⟨c, rfl, okc, ?_⟩
  refine ⟨e, k, rfl, ok, hk, ?_⟩
  show gLt _ _ _
  rw [gLt_i]
  unfold pq at q
  have fin : ∀ b : Nat, K.nx [.fz (exD e), .fz (.int ((max m (need c + b) : Nat) : Int)), .fz (.int (k : Nat))] → gMax (.int (m : Nat)) (.int ((need c : Nat) + (b : Int))) fun d => K.nx [.fz (exD e), .fz d, .fz (.int (k : Nat))] := by
    intro b z
    rw [gMax_int]
    have : (if ((need c : Nat) : Int) + (b : Int) > (m : Nat) then ((need c : Nat) : Int) + (b : Int) else (m : Nat)) = ((max m (need c + b) : Nat) : Int) := by
      split <;> omega
    rw [this]
    exact z
  by_cases z : lv c < lstE e k
  · rw [if_pos z] at q
    rw [decide_eq_true (show ((lv c : Nat) : Int) < (lstE e k : Nat) by omega)]
    exact fin 1 q
  · rw [if_neg z] at q
    rw [decide_eq_false (show ¬ ((lv c : Nat) : Int) < (lstE e k : Nat) by omega)]
    exact fin 0 q
theorem lv_bin {s : Str} {a b : Ex} (h : ExOk (.bin s a b)) : opLv s < 7 := by
  have := lv_ops s h.1
  omega
theorem p__law_need (n : Nat) (ds : List D) (Qd : D → Prop) (Xq : XQ) (h : S__law_need (n + 1) ds Qd Xq) : b__law_need S__law_level (S__law_need n) S__law_least (kD Qd Xq) (startD 3 ds) := by
  obtain ⟨e, rfl, ok, hd, q⟩ := h
  show b__law_need S__law_level (S__law_need n) S__law_least (kD Qd Xq) [.fz (exD e), .un, .un]
  unfold b__law_need
  walk_at "dl"
  refine ⟨e, rfl, ok, ?_⟩
  show gLt _ _ _
  rw [gLt_i]
  simp only
  cases e with
  | num m => exact q
  | nam m => exact q
  | no m =>
    have hd2 : dep m + 1 < n + 1 := hd
    rw [decide_eq_true (show ((lv (.no m) : Nat) : Int) < 7 from by show (3 : Int) < 7; omega), if_pos rfl]
    rw [show exD (.no m) = .tup [.str "not", exD m] from rfl, gLen_tup]
    refine ⟨by simp only [List.length_cons, List.length_nil]; decide, ?_⟩
    show bodyN n _ [.fz (exD (.no m)), .fz (.int (0 : Nat)), .fz (.int (1 : Nat))]
    refine need_step (c := m) ok (.inl ⟨m, rfl, rfl⟩) (fun Q => gIx_tup1 _ _ _ Q) ok (by omega) ?_
    show Qd (.int ((max 0 (need m + pq m 4) : Nat) : Int))
    rw [Nat.zero_max]
    exact q
  | bin s a b =>
    have hd2 : max (dep a) (dep b) + 1 < n + 1 := hd
    have := lv_bin ok
    rw [decide_eq_true (show ((lv (.bin s a b) : Nat) : Int) < 7 from by show ((opLv s : Nat) : Int) < 7; omega), if_pos rfl]
    rw [show exD (.bin s a b) = .tup [.str s, exD a, exD b] from rfl, gLen_tup]
    refine ⟨by simp only [List.length_cons, List.length_nil]; decide, ?_⟩
    show bodyN n _ [.fz (exD (.bin s a b)), .fz (.int (0 : Nat)), .fz (.int (1 : Nat))]
    refine need_step (c := a) ok (.inr ⟨s, a, b, rfl, .inl rfl⟩) (fun Q => gIx_tup1 _ _ _ Q) ok.2.1 (by omega) ?_
    show bodyN n _ [.fz (exD (.bin s a b)), .fz (.int ((max 0 (need a + pq a (lft s)) : Nat) : Int)), .fz (.int (2 : Nat))]
    refine need_step (c := b) ok (.inr ⟨s, a, b, rfl, .inr rfl⟩) (fun Q => gIx_tup2 _ _ _ _ Q) ok.2.2 (by omega) ?_
    show Qd (.int ((max (max 0 (need a + pq a (lft s))) (need b + pq b (opLv s + 1)) : Nat) : Int))
    rw [Nat.zero_max]
    exact q
end K07
open PySem L2 Dl in
local macro_rules | `(tactic| walk_at "dl") => `(tactic| try simp only [dSeq, dSet, dSetN, dIfS, dRet, dRetV, dApp, dFor, dB, d1, d2, n1, n2, dC, dVar, dVarQ, dTup, dLst, dCons, dNil, dCall, dAnd, dOr, dNot, dTru, dMin3, iR1, iR2, iIt, gItems_lst, dNext, dSplit, gSplit, List.getElem?_cons_zero, List.getElem?_cons_succ, List.set_cons_zero, List.set_cons_succ, gAdd_int, gMns_int, gMax_int, gEq_int, gNe_int, gTru_bl])
namespace K07
open PySem L2 Dl Par
open SX (S_len S_tl S_cat)
open _root_.Expr hiding lays
theorem gIx_ints {ys : List Int} {k : Int} (h0 : 0 ≤ k) (h1 : k < ys.length) (Q : D → Prop) (q : ∀ y ∈ ys, Q (.int y)) : gIx (.lst (ys.map D.int)) (.int k) Q := by
  obtain ⟨a, e, m⟩ := atI_in (l := ys) h0 h1
  show (match atI (ys.map D.int) k with | some c => Q c | none => False)
  rw [atI_map', e]
  exact q a m
def parN (q : Nat) (ws : List Str) : List Str := List.replicate q ("(" : Str) ++ ws ++ List.replicate q (")" : Str)
theorem parN_succ (q : Nat) (ws : List Str) : parN (q + 1) ws = ("(" : Str) :: (parN q ws ++ [(")" : Str)]) := by
  unfold parN
  rw [List.replicate_succ, List.replicate_succ']
  simp only [List.append_assoc, List.cons_append]
theorem parN_W {r l : Nat} {e : Ex} {ws : List Str} (h : Par.W r l e ws) (hl : 1 ≤ l) : ∀ q, Par.W (r + q) l e (parN q ws)
  | 0 => by
    have : parN 0 ws = ws := by unfold parN; simp
    rw [this]
    exact h
  | q + 1 => by
    rw [parN_succ]
    exact .par ((parN_W h hl q).less hl)
theorem parN_wt (q : Nat) (ws : List Str) : wt (parN q ws) = wt ws + 8 * q := by
  induction q with
  | zero => unfold parN; simp
  | succ q ih =>
    rw [parN_succ]
    show ("(" : Str).length + 3 + wt (parN q ws ++ [(")" : Str)]) = _
    rw [wt_app, ih]
    have a : ("(" : Str).length = 1 := by decide +kernel
    have c : wt [(")" : Str)] = 4 := by decide +kernel
    omega
theorem len_wt : ∀ ws : List Str, ws.length ≤ wt ws
  | [] => Nat.le_refl _
  | w :: r => by
    have := len_wt r
    show r.length + 1 ≤ w.length + 3 + wt r
    omega
def S__law_full (n : Nat) : DF := fun ds Q _ => ∃ (e : Ex) (r m : Nat), ds = [.rd, exD e, .int (r : Nat), .int (m : Nat)] ∧ ExOk e ∧ (dep e < n ∧ dep e < 42) ∧ need e ≤ r ∧ r ≤ 10 ∧ m ≤ 10 ∧ wb m e ≤ 4000 ∧ ∀ ws, Par.W r (lv e) e ws → wt ws + 8 ≤ wb m e → Q (.lst (ws.map D.str))
theorem z__law_full : ∀ ds Q Xq, S__law_full 0 ds Q Xq → False := fun ds Q Xq ⟨e, _, _, _, _, h, _⟩ => Nat.not_lt_zero _ h.1
abbrev slF (e : Ex) (r m : Nat) (sp : Int) (q : Nat) (T : List Str) (s7 : Dl.S) : En := [.fz .rd, .fz (exD e), .fz (.int (r : Nat)), .fz (.int (m : Nat)), .fz (.int sp), .fz (.int (q : Nat)), .op (T.map D.str), s7]
abbrev bodyF (n : Nat) : DS := dSeq (dIfS (dB (d2 gEq (dVar 7) (dC (.int 2))))
        (dApp 6 (d2 gIx (dVar 1) (dC (.int 0))))
        dNext)
      (b__law_full_r1 (S__law_need 42) S_next S__law_level S__law_least (S__law_full n))
theorem full_r1 {n : Nat} {e c : Ex} {k r m q : Nat} {sp : Int} {T : List Str} {K : DK} (ok : ExOk e) (hk : (∃ a, e = .no a ∧ k = 1) ∨ ∃ s a b, e = .bin s a b ∧ (k = 1 ∨ k = 2)) (hc : ∀ Q : D → Prop, gIx (exD e) (.int (k : Nat)) Q = Q (exD c)) (okc : ExOk c) (hd : dep c < n ∧ dep c < 42)
    (hn : need c + pq c (lstE e k) + q ≤ r) (hr : r ≤ 10) (hm : m ≤ 10) (hb : wb m c ≤ 4000) (hT : T.length ≤ 5000) (hl1 : 1 ≤ lstE e k)
    (qq : ∀ ws, Par.W (r - q) (lstE e k) c ws → wt ws ≤ wb m c → K.nx (slF e r m sp q (T ++ ws) (.fz (.int (k : Nat))))) :
    b__law_full_r1 (S__law_need 42) S_next S__law_level S__law_least (S__law_full n) K (slF e r m sp q T (.fz (.int (k : Nat)))) := by
  have sz := szl
  unfold b__law_full_r1
  walk_at "dl"
  rw [hc]
  refine ⟨c, rfl, okc, ?_⟩
  refine ⟨e, k, rfl, ok, hk, ?_⟩
  show gLt _ _ _
  rw [gLt_i]
  simp only
  unfold pq at hn
  by_cases z : lv c < lstE e k
  · rw [if_pos z] at hn
    rw [decide_eq_true (show ((lv c : Nat) : Int) < (lstE e k : Nat) by omega), if_pos rfl]
    rw [gAdd_lst]
    refine ⟨by rw [List.length_map]; show T.length + 1 ≤ _; omega, ?_⟩
    rw [hc]
    refine ⟨c, r - q - 1, m, ?_, okc, hd, by omega, by omega, hm, hb, fun ws h1 h2 => ?_⟩
    · rw [show ((r : Nat) : Int) - (q : Nat) - 1 = ((r - q - 1 : Nat) : Int) by omega]
    have lw := len_wt ws
    show gAdd _ _ _
    rw [gAdd_lst]
    refine ⟨by simp only [List.length_append, List.length_map, List.length_cons, List.length_nil]; omega, ?_⟩
    rw [gCat_lst]
    refine ⟨by simp only [List.length_append, List.length_map, List.length_cons, List.length_nil]; omega, ?_⟩
    have := qq ("(" :: (ws ++ [(")" : Str)])) (by
      have : r - q = (r - q - 1) + 1 := by omega
      rw [this]
      exact .par (h1.less (lv_pos c))) (by
      show ("(" : Str).length + 3 + wt (ws ++ [(")" : Str)]) ≤ _
      rw [wt_app]
      have a : ("(" : Str).length = 1 := by decide +kernel
      have c : wt [(")" : Str)] = 4 := by decide +kernel
      omega)
    have e1 : (T ++ ("(" : Str) :: (ws ++ [(")" : Str)])).map D.str = T.map D.str ++ [.str "("] ++ ws.map D.str ++ [.str ")"] := by
      simp only [List.map_append, List.map_cons, List.map_nil, List.append_assoc, List.cons_append, List.nil_append]
    unfold slF at this
    rw [e1] at this
    exact this
  · rw [if_neg z] at hn
    rw [decide_eq_false (show ¬ ((lv c : Nat) : Int) < (lstE e k : Nat) by omega)]
    simp only [Bool.false_eq_true, if_false]
    rw [hc]
    refine ⟨c, r - q, m, ?_, okc, hd, by omega, by omega, hm, hb, fun ws h1 h2 => ?_⟩
    · rw [show ((r : Nat) : Int) - (q : Nat) = ((r - q : Nat) : Int) by omega]
    have lw := len_wt ws
    show gCat _ _ _
    rw [gCat_lst]
    refine ⟨by simp only [List.length_map]; omega, ?_⟩
    have := qq ws (h1.less (by omega)) (by omega)
    unfold slF at this
    rw [List.map_append] at this
    exact this
theorem min3_ok {i j l : Int} {x y : Nat} (hi : i = (x : Nat)) (hj : j = (y : Nat)) (hl : 0 ≤ l) (Q : D → Prop) (q : ∀ z : Nat, z ≤ x → z ≤ y → Q (.int (z : Nat))) : gMin3 (.int i) (.int j) (.int l) Q := by
  show Q (.int (if l < (if j < i then j else i) then l else if j < i then j else i))
  subst hi hj
  have key : ∀ v : Int, 0 ≤ v → v ≤ (x : Nat) → v ≤ (y : Nat) → Q (.int v) := fun v h1 h2 h3 => by
    have := q v.toNat (by omega) (by omega)
    rwa [Int.toNat_of_nonneg h1] at this
  have b1 : (if ((y : Nat) : Int) < (x : Nat) then ((y : Nat) : Int) else (x : Nat)) = ((min x y : Nat) : Int) := by split <;> omega
  rw [b1]
  refine key _ ?_ ?_ ?_
  · split <;> omega
  · split <;> omega
  · split <;> omega
theorem rep_flat (q : Nat) (w : Str) : (List.replicate q [D.str w]).flatten = (List.replicate q w).map D.str := by
  induction q with
  | zero => rfl
  | succ q ih => rw [List.replicate_succ, List.flatten_cons, ih, List.replicate_succ, List.map_cons]; rfl
theorem full_r2 {n : Nat} {e : Ex} {r m q : Nat} {sp : Int} {T : List Str} {s7 : Dl.S} {Qd : D → Prop} {Xq : XQ} (hq : q ≤ r) (hm : q ≤ m) (hr : r ≤ 10) (hT : T.length ≤ 5000) (h1 : Par.W (r - q) (lv e) e T) (h2 : wt T + 8 * (m + 1) ≤ wb m e)
    (qq : ∀ ws, Par.W r (lv e) e ws → wt ws + 8 ≤ wb m e → Qd (.lst (ws.map D.str))) : b__law_full_r2 (S__law_need 42) S_next S__law_level S__law_least (S__law_full n) (kD Qd Xq) (slF e r m sp q T s7) := by
  have sz := szl
  unfold b__law_full_r2
  walk_at "dl"
  refine ⟨by omega, by omega, by simp only [List.length_cons, List.length_nil]; omega, ?_⟩
  show gAdd _ _ _
  rw [rep_flat, Int.toNat_natCast, gAdd_lst]
  refine ⟨by simp only [List.length_map, List.length_replicate]; omega, ?_⟩
  refine ⟨by omega, by omega, by simp only [List.length_cons, List.length_nil]; omega, ?_⟩
  show gAdd _ _ _
  rw [rep_flat, Int.toNat_natCast, gAdd_lst]
  refine ⟨by simp only [List.length_append, List.length_map, List.length_replicate]; omega, ?_⟩
  have := qq (parN q T) (by
    have := parN_W h1 (lv_pos e) q
    rw [Nat.sub_add_cancel hq] at this
    exact this) (by rw [parN_wt]; omega)
  unfold parN at this
  rw [List.map_append, List.map_append] at this
  exact this
theorem p__law_full (n : Nat) (ds : List D) (Qd : D → Prop) (Xq : XQ) (h : S__law_full (n + 1) ds Qd Xq) : b__law_full (S__law_need 42) S_next S__law_level S__law_least (S__law_full n) (kD Qd Xq) (startD 8 ds) := by
  obtain ⟨e, r, m, rfl, ok, ⟨hd, hd2⟩, hn, hr, hm, hb, qq⟩ := h
  show b__law_full (S__law_need 42) S_next S__law_level S__law_least (S__law_full n) (kD Qd Xq) [.fz .rd, .fz (exD e), .fz (.int (r : Nat)), .fz (.int (m : Nat)), .un, .un, .un, .un]
  unfold b__law_full
  walk_at "dl"
  refine ⟨e, rfl, ok, hd2, ?_⟩
  show gMns _ _ _
  rw [gMns_int]
  show S_next _ _ _
  refine ⟨5, rfl, by decide, by decide, fun k a b => ?_⟩
  show gIx (.lst (([0, 0, 1, 2, (r : Int) - (need e : Nat)] : List Int).map D.int)) _ _
  refine gIx_ints (ys := [0, 0, 1, 2, (r : Int) - (need e : Nat)]) a b _ fun y hy => ?_
  have hy0 : 0 ≤ y := by
    simp only [List.mem_cons, List.not_mem_nil, or_false] at hy
    rcases hy with rfl | rfl | rfl | rfl | rfl <;> omega
  refine min3_ok (x := r - need e) (y := m) (by omega) rfl hy0 _ fun q hq1 hq2 => ?_
  have hq : q ≤ r := by omega
  walk_at "dl"
  rw [ix0, eq_hd ok (by decide +kernel)]
  simp only
  have fin : ∀ (T : List Str) (s7 : Dl.S), T.length ≤ 5000 → Par.W (r - q) (lv e) e T → wt T + 8 * (m + 1) ≤ wb m e → b__law_full_r2 (S__law_need 42) S_next S__law_level S__law_least (S__law_full n) (kD Qd Xq) (slF e r m ((r : Int) - (need e : Nat)) q T s7) := fun T s7 h0 h1 h2 => full_r2 hq hq2 hr h0 h1 h2 qq
  have leaf : ∀ (T : List Str) (s7 : Dl.S), 7 ≤ lv e → T.length ≤ 5000 → Par.W (r - q) (lv e) e T → wt T + 8 * (m + 1) ≤ wb m e → b__law_full_r3 (S__law_need 42) S_next S__law_level S__law_least (S__law_full n) (kD Qd Xq) (slF e r m ((r : Int) - (need e : Nat)) q T s7) := fun T s7 l7 h0 h1 h2 => by
    unfold b__law_full_r3
    walk_at "dl"
    refine ⟨e, rfl, ok, ?_⟩
    show gLt _ _ _
    rw [gLt_i, decide_eq_false (show ¬ ((lv e : Nat) : Int) < 7 by omega)]
    exact fin T s7 h0 h1 h2
  cases e with
  | num k =>
    rw [decide_eq_true (show hdS (.num k) = "number" from rfl)]
    simp only [if_true]
    rw [show exD (.num k) = .tup [.str "number", .int k] from rfl, gIx_tup1, num_ok ok.1 ok.2]
    walk_at "dl"
    unfold b__law_full_r5
    walk_at "dl"
    rw [gIx_tup0]
    rw [gEq_strL _ _ _ (by decide +kernel) (by decide +kernel)]
    simp only
    rw [decide_eq_false (show ¬ ("number" : Str) = "name" by decide +kernel)]
    simp only [Bool.false_eq_true, if_false]
    unfold b__law_full_r4
    walk_at "dl"
    rw [gIx_tup0]
    rw [gEq_strL _ _ _ (by decide +kernel) (by decide +kernel)]
    simp only
    rw [decide_eq_false (show ¬ ("number" : Str) = "not" by decide +kernel)]
    simp only [Bool.false_eq_true, if_false]
    have l := len_num ok.1 ok.2
    exact leaf [numS k] .un (Nat.le_refl _) (by show 1 ≤ 5000; omega) (.num k ok.1 ok.2) (by show (numS k).length + 3 + 0 + 8 * (m + 1) ≤ 18 + 8 * (m + 1); omega)
  | nam k =>
    rw [decide_eq_false (show ¬ hdS (.nam k) = "number" from (by decide +kernel : ¬ ("name" : Str) = "number"))]
    simp only [Bool.false_eq_true, if_false]
    walk_at "dl"
    unfold b__law_full_r5
    walk_at "dl"
    rw [show exD (.nam k) = .tup [.str "name", .str k] from rfl, gIx_tup0]
    rw [gEq_strL _ _ _ (by decide +kernel) (by decide +kernel)]
    simp only
    simp only [decide_true, if_true]
    rw [gIx_tup1]
    walk_at "dl"
    unfold b__law_full_r4
    walk_at "dl"
    rw [gIx_tup0]
    rw [gEq_strL _ _ _ (by decide +kernel) (by decide +kernel)]
    simp only
    rw [decide_eq_false (show ¬ ("name" : Str) = "not" by decide +kernel)]
    simp only [Bool.false_eq_true, if_false]
    have l := NameOk.ln ok
    exact leaf [k] .un (Nat.le_refl _) (by show 1 ≤ 5000; omega) (.nam k ok) (by show k.length + 3 + 0 + 8 * (m + 1) ≤ 18 + 8 * (m + 1); omega)
  | no c =>
    have hd3 : dep c + 1 < n + 1 := hd
    have hd4 : dep c + 1 < 42 := hd2
    have hn2 : need c + pq c 4 ≤ r := hn
    have hq1' : q ≤ r - (need c + pq c 4) := hq1
    have hb2 : 6 + 8 * (m + 1) + wb m c ≤ 4000 := hb
    rw [decide_eq_false (show ¬ hdS (.no c) = "number" from (by decide +kernel : ¬ ("not" : Str) = "number"))]
    simp only [Bool.false_eq_true, if_false]
    walk_at "dl"
    unfold b__law_full_r5
    walk_at "dl"
    rw [ix0, eq_hd ok (by decide +kernel)]
    simp only
    rw [decide_eq_false (show ¬ hdS (.no c) = "name" from (by decide +kernel : ¬ ("not" : Str) = "name"))]
    simp only [Bool.false_eq_true, if_false]
    unfold b__law_full_r4
    walk_at "dl"
    rw [ix0, eq_hd ok (by decide +kernel)]
    simp only
    rw [decide_eq_true (show hdS (.no c) = "not" from rfl)]
    simp only [if_true]
    walk_at "dl"
    unfold b__law_full_r3
    walk_at "dl"
    refine ⟨.no c, rfl, ok, ?_⟩
    show gLt _ _ _
    rw [gLt_i, decide_eq_true (show ((lv (.no c) : Nat) : Int) < 7 from by show (3 : Int) < 7; omega)]
    simp only [if_true]
    rw [show gLen (exD (.no c)) = gLen (.tup [.str "not", exD c]) from rfl, gLen_tup]
    refine ⟨by simp only [List.length_cons, List.length_nil]; decide, ?_⟩
    show bodyF n _ (slF (.no c) r m ((r : Int) - (need (.no c) : Nat)) q ["not"] (.fz (.int (1 : Nat))))
    unfold bodyF
    walk_at "dl"
    rw [decide_eq_false (show ¬ ((1 : Nat) : Int) = 2 by omega)]
    simp only [Bool.false_eq_true, if_false]
    refine full_r1 (c := c) (T := ["not"]) ok (.inl ⟨c, rfl, rfl⟩) (fun Q => gIx_tup1 _ _ _ Q) ok ⟨by omega, by omega⟩ (by show need c + pq c 4 + q ≤ r; omega) hr hm (by omega) (by show 1 ≤ 5000; omega) (by show 1 ≤ 4; omega) fun ws h1 h2 => ?_
    have lw := len_wt ws
    refine fin ("not" :: ws) _ (by rw [List.length_cons]; omega) (.no (Nat.le_refl _) h1) ?_
    show ("not" : Str).length + 3 + wt ws + 8 * (m + 1) ≤ 6 + 8 * (m + 1) + wb m c
    have c3 : ("not" : Str).length = 3 := by decide +kernel
    omega
  | bin s x y =>
    have hd3 : max (dep x) (dep y) + 1 < n + 1 := hd
    have hd4 : max (dep x) (dep y) + 1 < 42 := hd2
    have hn2 : max (need x + pq x (lft s)) (need y + pq y (opLv s + 1)) ≤ r := hn
    have hq1' : q ≤ r - max (need x + pq x (lft s)) (need y + pq y (opLv s + 1)) := hq1
    have hb2 : 6 + 8 * (m + 1) + wb m x + wb m y ≤ 4000 := hb
    have n1 : ¬ hdS (.bin s x y) = "number" := fun z => by
      obtain ⟨m, z⟩ := (hd_num ok).mp z
      cases z
    have n2 : ¬ hdS (.bin s x y) = "name" := fun z => by
      obtain ⟨m, z⟩ := (hd_name ok).mp z
      cases z
    have n3 : ¬ hdS (.bin s x y) = "not" := fun z => by
      obtain ⟨m, z⟩ := (hd_not ok).mp z
      cases z
    rw [decide_eq_false n1]
    simp only [Bool.false_eq_true, if_false]
    walk_at "dl"
    unfold b__law_full_r5
    walk_at "dl"
    rw [ix0, eq_hd ok (by decide +kernel)]
    simp only
    rw [decide_eq_false n2]
    simp only [Bool.false_eq_true, if_false]
    unfold b__law_full_r4
    walk_at "dl"
    rw [ix0, eq_hd ok (by decide +kernel)]
    simp only
    rw [decide_eq_false n3]
    simp only [Bool.false_eq_true, if_false]
    unfold b__law_full_r3
    walk_at "dl"
    refine ⟨.bin s x y, rfl, ok, ?_⟩
    have l7 := lv_bin ok
    show gLt _ _ _
    rw [gLt_i, decide_eq_true (show ((lv (.bin s x y) : Nat) : Int) < 7 from by show ((opLv s : Nat) : Int) < 7; omega)]
    simp only [if_true]
    rw [show gLen (exD (.bin s x y)) = gLen (.tup [.str s, exD x, exD y]) from rfl, gLen_tup]
    refine ⟨by simp only [List.length_cons, List.length_nil]; decide, ?_⟩
    show bodyF n _ (slF (.bin s x y) r m ((r : Int) - (need (.bin s x y) : Nat)) q [] (.fz (.int (1 : Nat))))
    unfold bodyF
    walk_at "dl"
    rw [decide_eq_false (show ¬ ((1 : Nat) : Int) = 2 by omega)]
    simp only [Bool.false_eq_true, if_false]
    have pl := opLv_pos s
    have gl := @lft_ge s
    refine full_r1 (c := x) (T := []) ok (.inr ⟨s, x, y, rfl, .inl rfl⟩) (fun Q => gIx_tup1 _ _ _ Q) ok.2.1 ⟨by omega, by omega⟩ (by show need x + pq x (lft s) + q ≤ r; omega) hr hm (by omega) (by show 0 ≤ 5000; omega) (by show 1 ≤ lft s; omega) fun ws h1 h2 => ?_
    have lw := len_wt ws
    show bodyF n _ (slF (.bin s x y) r m ((r : Int) - (need (.bin s x y) : Nat)) q ws (.fz (.int (2 : Nat))))
    unfold bodyF
    walk_at "dl"
    rw [decide_eq_true (show ((2 : Nat) : Int) = 2 by omega)]
    simp only [if_true]
    walk_at "dl"
    rw [ix0]
    have sz := szl
    refine ⟨by rw [List.length_map]; omega, ?_⟩
    have em : ws.map D.str ++ [.str (hdS (.bin s x y))] = (ws ++ [s]).map D.str := by rw [List.map_append]; rfl
    rw [em]
    refine full_r1 (c := y) (T := ws ++ [s]) ok (.inr ⟨s, x, y, rfl, .inr rfl⟩) (fun Q => gIx_tup2 _ _ _ _ Q) ok.2.2 ⟨by omega, by omega⟩ (by show need y + pq y (opLv s + 1) + q ≤ r; omega) hr hm (by omega) (by rw [List.length_append, List.length_singleton]; omega) (by show 1 ≤ opLv s + 1; omega) fun ws2 k1 k2 => ?_
    have lw2 := len_wt ws2
    refine fin (ws ++ [s] ++ ws2) _ (by simp only [List.length_append, List.length_singleton]; omega) ?_ ?_
    · rw [List.append_assoc]
      exact .bin ok.1 (Nat.le_refl _) h1 k1
    · rw [wt_app, wt_app]
      have c := len_op s ok.1
      show wt ws + (s.length + 3 + 0) + wt ws2 + 8 * (m + 1) ≤ 6 + 8 * (m + 1) + wb m x + wb m y
      omega
def dgS (w : Str) : Bool := isDg ((tl w).headD 0)
def adj : List Str → Prop
  | a :: b :: r => ¬ (dgS a = true ∧ dgS b = true) ∧ adj (b :: r)
  | _ => True
theorem adj_cons {a : Str} {A : List Str} (h : dgS a = false) (k : adj A) : adj (a :: A) := by
  cases A with
  | nil => trivial
  | cons b r => exact ⟨fun z => (by rw [h] at z; cases z.1), k⟩
theorem adj_app : ∀ {A B : List Str} {s : Str}, adj A → adj B → dgS s = false → adj (A ++ s :: B)
  | [], B, s, _, k, h => adj_cons h k
  | [a], B, s, _, k, h => ⟨fun z => (by rw [h] at z; cases z.2), adj_cons h k⟩
  | a :: b :: r, B, s, j, k, h => ⟨j.1, adj_app j.2 k h⟩
theorem W_adj {r l : Nat} {e : Ex} {ws : List Str} (h : Par.W r l e ws) : adj ws ∧ ∀ w ∈ ws, Wk (tl w) := by
  induction h with
  | num n h0 h1 => exact ⟨trivial, fun w hw => by rw [List.mem_singleton.mp hw]; exact wk_num h0 h1⟩
  | nam s h => exact ⟨trivial, fun w hw => by rw [List.mem_singleton.mp hw]; exact wk_name h⟩
  | par h ih =>
    refine ⟨adj_cons (by decide +kernel) (adj_app ih.1 trivial (by decide +kernel)), fun w hw => ?_⟩
    rcases List.mem_cons.mp hw with rfl | hw
    · exact wk_lp
    rcases List.mem_append.mp hw with hw | hw
    · exact ih.2 w hw
    · rw [List.mem_singleton.mp hw]; exact wk_rp
  | no hl h ih =>
    refine ⟨adj_cons (by decide +kernel) ih.1, fun w hw => ?_⟩
    rcases List.mem_cons.mp hw with rfl | hw
    · exact wk_not
    · exact ih.2 w hw
  | bin hs hl ha hb iha ihb =>
    have hd : ∀ s ∈ ops, dgS s = false := by unfold ops; decide +kernel
    refine ⟨adj_app iha.1 ihb.1 (hd _ hs), fun w hw => ?_⟩
    rcases List.mem_append.mp hw with hw | hw
    · exact iha.2 w hw
    rcases List.mem_cons.mp hw with rfl | hw
    · exact wk_op _ hs
    · exact ihb.2 w hw
def gaps : List Str := ["", "", " ", "\n", "  ", " \n "]
theorem gaps_ok : ∀ g ∈ gaps, g.length ≤ 3 ∧ Bl (tl g) := by unfold gaps Bl; decide +kernel
def S__law_text : DF := fun ds Q _ => ∃ ws : List Str, ds = [.rd, .lst (ws.map D.str)] ∧ (∀ w ∈ ws, Wk (tl w)) ∧ adj ws ∧ wt ws ≤ 3900 ∧
  ∀ (last text g : List Nat), TxL (ws.map tl) last text → Bl g → (text ++ g).length ≤ 4000 → Q (.str (S' (text ++ g)))
theorem wk_W {w : List Nat} (h : Wk w) : Ch w := by
  rcases h with ⟨c, r, rfl, h, k⟩ | ⟨c, r, rfl, _, h⟩ | h
  · exact fun x hx => isW_lt (k x hx)
  · exact fun x hx => isW_lt (by unfold isW; rw [h x hx]; exact Bool.or_true _)
  · simp only [List.mem_cons, List.not_mem_nil, or_false] at h
    rcases h with rfl | rfl | rfl | rfl | rfl | rfl | rfl <;> (unfold Ch; decide)
theorem p__law_text (ds : List D) (Qd : D → Prop) (Xq : XQ) (h : S__law_text ds Qd Xq) : b__law_text S_next (kD Qd Xq) (startD 8 ds) := by
  obtain ⟨ws, rfl, hw, ha, hl, q⟩ := h
  have sz := szl
  show b__law_text S_next (kD Qd Xq) [.fz .rd, .fz (.lst (ws.map D.str)), .un, .un, .un, .un, .un, .un]
  unfold b__law_text
  walk_at "dl"
  refine ⟨6, rfl, by decide, by decide, fun k a b => ?_⟩
  show gIx (.lst (gaps.map D.str)) _ _
  refine gIx_strs (ys := gaps) a b _ fun g0 hg0 => ?_
  obtain ⟨l0, b0⟩ := gaps_ok g0 hg0
  walk_at "dl"
  refine for_ind D.str ws (fun pre post ρ => ∃ (text last : Str) (s6 s7 : Dl.S), ρ = [.fz .rd, .fz (.lst (ws.map D.str)), .fz (.str "abcdefghijklmnopqrstuvwxyz"), .fz (.lst (gaps.map D.str)), .fz (.str text), .fz (.str last), s6, s7] ∧ TxL (pre.map tl) (tl last) (tl text) ∧ text.length ≤ wt pre + 3 ∧ (Wk (tl last) ∧ last.length ≤ 5000) ∧ adj (last :: post))
    ⟨g0, "(", _, _, rfl, (by rw [show tl ("(" : Str) = [40] by decide +kernel]; exact TxL.start b0), (by show g0.length ≤ 0 + 3; omega), ⟨wk_lp, by decide +kernel⟩, adj_cons (by decide +kernel) ha⟩ (fun pre w post ρ N e hi hN => ?_) (fun ρ hi => ?_)
  · obtain ⟨text, last, s6, s7, rfl, tx, ln, ⟨wl, ll⟩, ad⟩ := hi
    have hww := hw w (by rw [e]; simp)
    have wtl : wt pre + (w.length + 3 + wt post) = wt ws := by rw [e, wt_app]; rfl
    walk_at "dl"
    refine ⟨6, rfl, by decide, by decide, fun k a b => ?_⟩
    refine gIx_strs (ys := gaps) a b _ fun g hg => ?_
    obtain ⟨lg, bg⟩ := gaps_ok g hg
    walk_at "dl"
    obtain ⟨c1, r1, e1, _⟩ := wl.ne
    obtain ⟨c2, r2, e2, _⟩ := hww.ne
    have chl := wk_W wl
    have ad' : adj (w :: post) := ad.2
    have fin : ∀ (K : DK), K.nx = N → ∀ g : Str, g.length ≤ 3 → Bl (tl g) → Bd (tl last) (tl g ++ tl w) → b__law_text_r1 S_next K [.fz .rd, .fz (.lst (ws.map D.str)), .fz (.str "abcdefghijklmnopqrstuvwxyz"), .fz (.lst (gaps.map D.str)), .fz (.str text), .fz (.str last), .fz (.str w), .fz (.str g)] := by
      intro K hK g lg bg bd
      unfold b__law_text_r1
      walk_at "dl"
      rw [gAdd_str]
      refine ⟨by omega, ?_⟩
      rw [gAdd_str]
      refine ⟨by rw [len_app]; omega, ?_⟩
      have tx' := tx.step hww bg bd
      rw [hK]
      refine hN _ ⟨_, _, _, _, rfl, ?_, ?_, ⟨hww, by omega⟩, ad'⟩
      · rw [tl_app, tl_app, List.append_assoc, List.map_append]
        exact tx'
      · rw [len_app, len_app, wt_app]
        show text.length + g.length + w.length ≤ wt pre + (w.length + 3 + 0) + 3
        omega
    have ix : ∀ (t : Str) (c : Nat) (r : List Nat) (Q : D → Prop), tl t = c :: r → t.length ≤ 5000 → gIx (.str t) (.int 0) Q = Q (.str (S' [c])) := by
      intro t c r Q e hl
      have h1 : (tl t).length = t.length := rfl
      have := gIx_S (cs := tl t) (k := 0) (c := c) (by rw [e]; rfl) (by omega) Q
      rw [S_tl] at this
      exact this
    have wne : tl g = [] → tl g ++ tl w = c2 :: r2 := fun z => by rw [z, e2]; rfl
    have hdl : (tl last).headD 0 = c1 := by rw [e1]; rfl
    have nogap : (isL c1 = true → isW c2 = false) → (isDg c1 = true → isDg c2 = false) → Bd (tl last) (tl g ++ tl w) := by
      intro z1 z2
      by_cases z : tl g = []
      · rw [wne z]
        intro c hc
        cases hc
        rw [hdl]
        exact ⟨z1, z2⟩
      · exact bd_bl bg z
    rw [ix last c1 r1 _ e1 ll, gIn_c (isL_mem c1)]
    simp only
    cases h1 : isL c1 with
    | false =>
      simp only [Bool.false_eq_true, if_false]
      refine fin _ rfl g lg bg (nogap (fun z => by rw [h1] at z; cases z) fun z => ?_)
      have := ad.1
      unfold dgS at this
      rw [e1, e2] at this
      cases h2 : isDg c2 with
      | false => rfl
      | true => exact absurd ⟨z, h2⟩ this
    | true =>
      simp only [if_true]
      rw [ix w c2 r2 _ e2 (by omega), gAdd_str]
      refine ⟨by rw [sizeLine_eq]; decide +kernel, ?_⟩
      have eW : decide (c2 ∈ tl (("abcdefghijklmnopqrstuvwxyz" : Str) ++ "0123456789")) = isW c2 := by
        rw [← isW_mem]
        have e : (("abcdefghijklmnopqrstuvwxyz" : Str) ++ "0123456789") = "abcdefghijklmnopqrstuvwxyz0123456789" := by decide +kernel
        rw [e]
      rw [gIn_c eW]
      simp only
      have nd : isDg c1 = true → isDg c2 = false := fun z => by
        have := dg_l z
        rw [h1] at this
        cases this
      cases h2 : isW c2 with
      | false =>
        simp only [Bool.false_eq_true, if_false]
        exact fin _ rfl g lg bg (nogap (fun _ => h2) nd)
      | true =>
        simp only [if_true]
        have lgg : lays g = true := by
          have : ∀ g ∈ gaps, lays g = true := by unfold gaps; decide +kernel
          exact this g hg
        rw [gEq_strL _ _ _ lgg (by decide +kernel)]
        simp only
        by_cases hge : g = ""
        · rw [decide_eq_true hge]
          simp only [if_true]
          refine ⟨2, rfl, by decide, by decide, fun k a b => ?_⟩
          show gIx (.lst (([" ", "\n"] : List Str).map D.str)) _ _
          refine gIx_strs (ys := [" ", "\n"]) a b _ fun g2 hg2 => ?_
          have : ∀ g ∈ ([" ", "\n"] : List Str), g.length ≤ 3 ∧ Bl (tl g) ∧ tl g ≠ [] := by unfold Bl; decide +kernel
          obtain ⟨k1, k2, k3⟩ := this g2 hg2
          exact fin _ rfl g2 k1 k2 (bd_bl k2 k3)
        · rw [decide_eq_false hge]
          simp only [Bool.false_eq_true, if_false]
          refine fin _ rfl g lg bg (bd_bl bg fun z => hge ?_)
          have := S_tl g
          rw [show g.cps.toList = [] from z] at this
          exact this.symm
  · obtain ⟨text, last, s6, s7, rfl, tx, ln, ⟨wl, ll⟩, ad⟩ := hi
    walk_at "dl"
    refine ⟨6, rfl, by decide, by decide, fun k a b => ?_⟩
    refine gIx_strs (ys := gaps) a b _ fun g hg => ?_
    obtain ⟨lg, bg⟩ := gaps_ok g hg
    show gAdd _ _ _
    rw [gAdd_str]
    have lx : (tl text ++ tl g).length = text.length + g.length := List.length_append
    have := q (tl last) (tl text) (tl g) tx bg (by omega)
    have e9 : S' (tl text ++ tl g) = text ++ g := (S_cat (tl text) (tl g)).symm.trans (by rw [S_tl, S_tl])
    rw [e9] at this
    exact ⟨by omega, this⟩
end K07
open PySem L2 Dl in
local macro_rules | `(tactic| walk_at "dl") => `(tactic| try simp only [dSeq, dSet, dSetN, dIfS, dRet, dRetV, dApp, dFor, dB, d1, d2, n1, n2, dC, dVar, dVarQ, dTup, dLst, dCons, dNil, dCall, dAnd, dOr, dNot, dTru, dAndV, dOrV, dNotV, dMin3, dLc, dSl, oNo, oSome, iR1, iR2, iIt, gItems_lst, dNext, dSplit, gSplit, List.getElem?_cons_zero, List.getElem?_cons_succ, List.set_cons_zero, List.set_cons_succ, gAdd_int, gMns_int, gMax_int, gEq_int, gNe_int, gTru_bl])
namespace K07
open PySem L2 Dl Par
open SX (S_len S_tl S_cat)
open _root_.Expr hiding lays
inductive Dt where
  | ex (e : Ex)
  | st (s : Str)
  | nu (i : Int)
def dtD : Dt → D
  | .ex e => exD e
  | .st s => .str s
  | .nu i => .int i
def dtL : Dt → Prop
  | .ex e => ExL e
  | .st s => lays s = true
  | .nu _ => True
def dtN : Dt → Nat
  | .ex e => dep e + 1
  | _ => 0
def parts : Ex → List Dt
  | .num n => [.st "number", .nu n]
  | .nam s => [.st "name", .st s]
  | .no e => [.st "not", .ex e]
  | .bin s a b => [.st s, .ex a, .ex b]
theorem exD_parts (e : Ex) : exD e = .tup ((parts e).map dtD) := by cases e <;> rfl
theorem parts_inj {a b : Ex} (h : parts a = parts b) : a = b := by
  cases a <;> cases b <;> simp only [parts, List.cons.injEq, Dt.st.injEq, Dt.nu.injEq, Dt.ex.injEq, and_true, reduceCtorEq, and_false, false_and] at h
  · rw [h.2]
  · rw [h.2]
  · rw [h.2]
  · obtain ⟨rfl, rfl, rfl⟩ := h; rfl
theorem parts_L {e : Ex} (h : ExL e) : ∀ x ∈ parts e, dtL x := by
  intro x hx
  cases e with
  | num n =>
    simp only [parts, List.mem_cons, List.not_mem_nil, or_false] at hx
    rcases hx with rfl | rfl
    · exact (by decide +kernel : lays ("number" : Str) = true)
    · trivial
  | nam s =>
    simp only [parts, List.mem_cons, List.not_mem_nil, or_false] at hx
    rcases hx with rfl | rfl
    · exact (by decide +kernel : lays ("name" : Str) = true)
    · exact h
  | no e =>
    simp only [parts, List.mem_cons, List.not_mem_nil, or_false] at hx
    rcases hx with rfl | rfl
    · exact (by decide +kernel : lays ("not" : Str) = true)
    · exact h
  | bin s a b =>
    simp only [parts, List.mem_cons, List.not_mem_nil, or_false] at hx
    rcases hx with rfl | rfl | rfl
    · exact lay_ops h.1
    · exact h.2.1
    · exact h.2.2
theorem parts_N {e : Ex} : ∀ x ∈ parts e, dtN x < dep e + 1 := by
  intro x hx
  cases e with
  | num n =>
    simp only [parts, List.mem_cons, List.not_mem_nil, or_false] at hx
    rcases hx with rfl | rfl <;> exact Nat.succ_pos _
  | nam s =>
    simp only [parts, List.mem_cons, List.not_mem_nil, or_false] at hx
    rcases hx with rfl | rfl <;> exact Nat.succ_pos _
  | no e =>
    simp only [parts, List.mem_cons, List.not_mem_nil, or_false] at hx
    rcases hx with rfl | rfl
    · exact Nat.succ_pos _
    · exact Nat.lt_succ_self _
  | bin s a b =>
    simp only [parts, List.mem_cons, List.not_mem_nil, or_false] at hx
    rcases hx with rfl | rfl | rfl
    · exact Nat.succ_pos _
    · show dep a + 1 < max (dep a) (dep b) + 1 + 1
      omega
    · show dep b + 1 < max (dep a) (dep b) + 1 + 1
      omega
theorem parts_len (e : Ex) : (parts e).length ≤ 3 := by cases e <;> simp [parts]
noncomputable def eqb (x y : Dt) : Bool := @decide (x = y) (Classical.propDecidable _)
theorem eqb_t {x y : Dt} (h : x = y) : eqb x y = true := by unfold eqb; rw [@decide_eq_true_eq _ (Classical.propDecidable _)]; exact h
theorem eqb_f {x y : Dt} (h : x ≠ y) : eqb x y = false := by unfold eqb; rw [@decide_eq_false_iff_not _ (Classical.propDecidable _)]; exact h
theorem eqb_of {x y : Dt} (h : eqb x y = true) : x = y := by
  unfold eqb at h
  rwa [@decide_eq_true_eq _ (Classical.propDecidable _)] at h
def S__law_same (n : Nat) : DF := fun ds Q _ => ∃ x y : Dt, ds = [dtD x, dtD y] ∧ dtL x ∧ dtL y ∧ dtN y < n ∧ Q (.bl (eqb x y))
theorem z__law_same : ∀ ds Q Xq, S__law_same 0 ds Q Xq → False := fun ds Q Xq ⟨_, _, _, _, _, h, _⟩ => Nat.not_lt_zero _ h
def nth (l : List Dt) (j : Nat) : Dt := (l[j]?).getD (.nu 0)
theorem nth_ix {l : List Dt} {j : Nat} (h : j < l.length) (Q : D → Prop) : gIx (.tup (l.map dtD)) (.int (0 + (j : Int))) Q = Q (dtD (nth l j)) := by
  rw [Int.zero_add]
  refine gIx_tup (atI_nat ?_) Q
  rw [List.getElem?_map, List.getElem?_eq_getElem h]
  unfold nth
  rw [List.getElem?_eq_getElem h]
  rfl
theorem nth_mem {l : List Dt} {j : Nat} (h : j < l.length) : nth l j ∈ l := by
  unfold nth
  rw [List.getElem?_eq_getElem h]
  exact List.getElem_mem h
theorem all_eq {l m : List Dt} (h : l.length = m.length) (k : ∀ j, j < l.length → nth l j = nth m j) : l = m := by
  apply List.ext_getElem h
  intro i h1 h2
  have := k i h1
  unfold nth at this
  rw [List.getElem?_eq_getElem h1, List.getElem?_eq_getElem h2] at this
  exact this
theorem p__law_same (n : Nat) (ds : List D) (Qd : D → Prop) (Xq : XQ) (h : S__law_same (n + 1) ds Qd Xq) : b__law_same (S__law_same n) (kD Qd Xq) (startD 3 ds) := by
  obtain ⟨x, y, rfl, hx, hy, hn, q⟩ := h
  have sz := szl
  show b__law_same (S__law_same n) (kD Qd Xq) [.fz (dtD x), .fz (dtD y), .un]
  unfold b__law_same
  walk_at "dl"
  cases y with
  | ex e2 =>
    have e2p : dtD (.ex e2) = .tup ((parts e2).map dtD) := exD_parts e2
    rw [e2p, gIsi_tuple_tup]
    simp only [if_true]
    cases x with
    | st s =>
      rw [show dtD (.st s) = .str s from rfl, gIsi_tuple_str]
      simp only [Bool.not_false, if_true]
      rw [eqb_f (fun z => by cases z)] at q
      exact q
    | nu s =>
      rw [show dtD (.nu s) = .int s from rfl, gIsi_tuple_int]
      simp only [Bool.not_false, if_true]
      rw [eqb_f (fun z => by cases z)] at q
      exact q
    | ex e1 =>
      have e1p : dtD (.ex e1) = .tup ((parts e1).map dtD) := exD_parts e1
      rw [e1p, gIsi_tuple_tup]
      simp only [Bool.not_true, Bool.false_eq_true, if_false]
      rw [gLen_tup, gLen_tup, gNe_int, List.length_map, List.length_map]
      simp only
      by_cases c : (parts e1).length = (parts e2).length
      · rw [decide_eq_true (show (((parts e1).length : Nat) : Int) = ((parts e2).length : Nat) by rw [c])]
        simp only [Bool.not_true, Bool.false_eq_true, if_false]
        have l3 := parts_len e2
        rw [gLen_tup, List.length_map]
        refine ⟨by omega, by omega, ?_⟩
        rw [Int.toNat_natCast]
        refine ⟨by unfold rng; rw [List.length_map, List.length_range]; omega, ?_⟩
        unfold rng
        refine lc_map (fun (j : Nat) => D.int (0 + (j : Int))) (List.range (parts e2).length) (fun j => .bl (eqb (nth (parts e1) j) (nth (parts e2) j))) (fun j hj xq Q z => ?_) ?_
        · have hj2 := List.mem_range.mp hj
          walk_at "dl"
          rw [nth_ix (by omega), nth_ix hj2]
          exact ⟨_, _, rfl, parts_L hx _ (nth_mem (by omega)), parts_L hy _ (nth_mem hj2), by have := parts_N (e := e2) _ (nth_mem hj2); have hn' : dep e2 + 1 < n + 1 := hn; omega, z⟩
        · show gAll _ _
          rw [gAll_map]
          have fin : ((List.range (parts e2).length).all fun j => eqb (nth (parts e1) j) (nth (parts e2) j)) = eqb (.ex e1) (.ex e2) := by
            by_cases z : e1 = e2
            · subst z
              rw [eqb_t rfl, List.all_eq_true]
              intro j _
              exact eqb_t rfl
            · rw [eqb_f (fun w => z (Dt.ex.inj w))]
              rw [Bool.eq_false_iff]
              intro w
              rw [List.all_eq_true] at w
              refine z (parts_inj (all_eq c fun j hj => ?_))
              exact eqb_of (w j (List.mem_range.mpr (by omega)))
          rw [fin]
          exact q
      · rw [decide_eq_false (show ¬ (((parts e1).length : Nat) : Int) = ((parts e2).length : Nat) by omega)]
        simp only [Bool.not_false, if_true]
        rw [eqb_f (fun z => c (by rw [Dt.ex.inj z]))] at q
        exact q
  | st s2 =>
    rw [show dtD (.st s2) = .str s2 from rfl, gIsi_tuple_str]
    simp only [Bool.false_eq_true, if_false]
    rw [gIsi_str_str]
    simp only [if_true]
    cases x with
    | ex e1 =>
      have e1p : dtD (.ex e1) = .tup ((parts e1).map dtD) := exD_parts e1
      rw [e1p, gIsi_str_tup]
      rw [eqb_f (fun z => by cases z)] at q
      exact q
    | nu i =>
      rw [show dtD (.nu i) = .int i from rfl, gIsi_str_int]
      rw [eqb_f (fun z => by cases z)] at q
      exact q
    | st s =>
      rw [show dtD (.st s) = .str s from rfl, gIsi_str_str]
      simp only [if_true]
      rw [gEq_strL _ _ _ hx hy]
      by_cases z : s = s2
      · rw [decide_eq_true z]
        rw [eqb_t (congrArg _ z)] at q
        exact q
      · rw [decide_eq_false z]
        rw [eqb_f (fun w => z (Dt.st.inj w))] at q
        exact q
  | nu i2 =>
    rw [show dtD (.nu i2) = .int i2 from rfl, gIsi_tuple_int]
    simp only [Bool.false_eq_true, if_false]
    rw [gIsi_str_int]
    simp only [Bool.false_eq_true, if_false]
    cases x with
    | ex e1 =>
      have e1p : dtD (.ex e1) = .tup ((parts e1).map dtD) := exD_parts e1
      rw [e1p, gIsi_int_tup]
      rw [eqb_f (fun z => by cases z)] at q
      exact q
    | st s =>
      rw [show dtD (.st s) = .str s from rfl, gIsi_int_str]
      rw [eqb_f (fun z => by cases z)] at q
      exact q
    | nu i =>
      rw [show dtD (.nu i) = .int i from rfl, gIsi_int_int]
      simp only [if_true]
      rw [gIsi_bool_int]
      simp only [Bool.not_false, if_true]
      rw [gEq_int]
      by_cases z : i = i2
      · rw [decide_eq_true z]
        rw [eqb_t (congrArg _ z)] at q
        exact q
      · rw [decide_eq_false z]
        rw [eqb_f (fun w => z (Dt.nu.inj w))] at q
        exact q
def PE (cs : List Nat) (e : Ex) : Prop := ∃ i o, pE (lexT cs) 11 0 0 0 = .ok e i o ∧ (tk (lexT cs) i).kind = "end"
theorem PE.ans {cs : List Nat} {e : Ex} (h : PE cs e) {Q : D → Prop} {Xq : XQ} (q : Q (exD e)) : AnsT (lexT cs) Q Xq (pE (lexT cs) 11 0 0 0) := by
  obtain ⟨i, o, h1, h2⟩ := h
  rw [h1]
  show (if _ then _ else _)
  rw [if_pos h2]
  exact q
theorem exL_of : ∀ {e : Ex}, ExOk e → ExL e
  | .num _, _ => trivial
  | .nam _, h => lays_W h.al
  | .no e, h => exL_of (e := e) h
  | .bin _ _ _, h => ⟨h.1, exL_of h.2.1, exL_of h.2.2⟩
structure Good (e : Ex) (full : List Nat) : Prop where
  ok : ExOk e
  de : dep e ≤ 40
  pl : (prtL e).length ≤ 4000
  fl : full.length ≤ 4000
  pc : Ch (prtL e)
  fc : Ch full
  pp : PE (prtL e) e
  pf : PE full e
def S__law_kept : DF := fun ds Q _ => ∃ (e : Ex) (full : List Nat), ds = [exD e, .str (S' (prtL e)), .str (S' full)] ∧ Good e full ∧ Q (.bl true)
theorem p__law_kept (ds : List D) (Qd : D → Prop) (Xq : XQ) (h : S__law_kept ds Qd Xq) : b__law_kept (S_print_expression 42) (S__law_same 42) S_parse_expression (kD Qd Xq) (startD 5 ds) := by
  obtain ⟨e, full, rfl, g, q⟩ := h
  have sz := szl
  show b__law_kept (S_print_expression 42) (S__law_same 42) S_parse_expression (kD Qd Xq) [.fz (exD e), .fz (.str (S' (prtL e))), .fz (.str (S' full)), .un, .un]
  have hd := g.de
  have lp := lays_S g.pc
  unfold b__law_kept
  walk_at "dl"
  refine ⟨e, rfl, g.ok, by omega, g.pl, ?_⟩
  show gIsi "str" _ _
  rw [gIsi_str_str]
  simp only [Bool.not_true, Bool.false_eq_true, if_false]
  show gNe _ _ _
  rw [gNe_strL _ _ _ lp lp, decide_eq_true rfl]
  simp only [Bool.not_true, Bool.false_eq_true, if_false]
  show forLoop _ _ _ ([S' full, S' (prtL e), S' full].map D.str) _
  refine for_ind D.str [S' full, S' (prtL e), S' full] (fun _ _ ρ => ∃ s4, ρ = [.fz (exD e), .fz (.str (S' (prtL e))), .fz (.str (S' full)), .fz (.str (S' (prtL e))), s4]) ⟨_, rfl⟩ (fun pre w post ρ N eq hi hN => ?_) (fun ρ hi => ?_)
  · obtain ⟨s4, rfl⟩ := hi
    walk_at "dl"
    have hw : ∃ cs : List Nat, w = S' cs ∧ cs.length ≤ 4000 ∧ Ch cs ∧ PE cs e := by
      have : w ∈ [S' full, S' (prtL e), S' full] := by rw [eq]; simp
      simp only [List.mem_cons, List.not_mem_nil, or_false] at this
      rcases this with rfl | rfl | rfl
      · exact ⟨_, rfl, g.fl, g.fc, g.pf⟩
      · exact ⟨_, rfl, g.pl, g.pc, g.pp⟩
      · exact ⟨_, rfl, g.fl, g.fc, g.pf⟩
    obtain ⟨cs, rfl, hl, hc, hp⟩ := hw
    refine ⟨cs, rfl, by omega, hc, hp.ans ?_⟩
    refine ⟨.ex e, .ex e, rfl, exL_of g.ok, exL_of g.ok, by show dep e + 1 < 42; omega, ?_⟩
    rw [eqb_t rfl]
    show N _
    exact hN _ ⟨_, rfl⟩
  · obtain ⟨s4, rfl⟩ := hi
    walk_at "dl"
    have fl := g.fl
    refine ⟨full, rfl, by omega, g.fc, g.pf.ans ?_⟩
    refine ⟨e, rfl, g.ok, by omega, g.pl, ?_⟩
    show gEq _ _ _
    rw [gEq_strL _ _ _ lp lp, decide_eq_true rfl]
    exact q
def S__law_needed : DF := fun ds Q _ => ∃ e : Ex, ds = [.rd, exD e, .str (S' (prtL e))] ∧ ExOk e ∧ dep e ≤ 40 ∧ (prtL e).length ≤ 4000 ∧ Ch (prtL e) ∧ Q (.bl true)
theorem pE_L {cs : List Nat} (hc : Ch cs) {e : Ex} {i o : Nat} (h : pE (lexT cs) 11 0 0 0 = .ok e i o) : ExL e := by
  have ok := lexT_ok hc
  have r := rd_E (ts := lexT cs) (fun i => by
    unfold tk
    cases q : (lexT cs)[i]? with
    | none => exact (by decide +kernel : Expr.lays ("" : Str) = true)
    | some t => exact (ok.2.1 t (List.mem_of_getElem? q)).2) 11 0 0 0
  rw [h] at r
  exact r.2
theorem cut_to {cs : List Nat} {p : Nat} (h : p ≤ cs.length) : cutS (S' cs) none (some (p : Nat)) = S' (cs.take p) := by
  have hn : (S' cs).length = cs.length := S_len cs
  show (⟨((cs.drop (HT.sIx (S' cs).length 0 none)).take (HT.sIx (S' cs).length (S' cs).length (some (p : Int)) - HT.sIx (S' cs).length 0 none)).toArray⟩ : Str) = _
  rw [hn, HT.sIx_none, HT.sIx_nat, Nat.min_eq_left h, List.drop_zero, Nat.sub_zero]
theorem cut_from {cs : List Nat} {p : Nat} : cutS (S' cs) (some ((p : Nat) : Int)) none = S' (cs.drop p) := by
  have hn : (S' cs).length = cs.length := S_len cs
  show (⟨((cs.drop (HT.sIx (S' cs).length 0 (some (p : Int)))).take (HT.sIx (S' cs).length (S' cs).length none - HT.sIx (S' cs).length 0 (some (p : Int)))).toArray⟩ : Str) = _
  rw [hn, HT.sIx_none, HT.sIx_nat]
  by_cases h : p ≤ cs.length
  · rw [Nat.min_eq_left h, List.take_of_length_le (by rw [List.length_drop]; exact Nat.le_refl _)]
  · rw [Nat.min_eq_right (by omega), List.drop_length, List.drop_of_length_le (show cs.length ≤ p by omega), List.take_nil]
theorem cut_mid {cs : List Nat} {p q : Nat} (h : p ≤ cs.length) (hq : q ≤ cs.length) : cutS (S' cs) (some ((p : Nat) : Int)) (some ((q : Nat) : Int)) = S' ((cs.drop p).take (q - p)) := by
  have hn : (S' cs).length = cs.length := S_len cs
  show (⟨((cs.drop (HT.sIx (S' cs).length 0 (some (p : Int)))).take (HT.sIx (S' cs).length (S' cs).length (some (q : Int)) - HT.sIx (S' cs).length 0 (some (p : Int)))).toArray⟩ : Str) = _
  rw [hn, HT.sIx_nat, HT.sIx_nat, Nat.min_eq_left h, Nat.min_eq_left hq]
theorem less_count {cs : List Nat} {p en : Nat} (h : cs[p]? = some 40) (hpe : p ≤ en) : (cs.take p ++ (cs.drop (p + 1)).take (en - (p + 1)) ++ cs.drop (en + 1)).count 40 < cs.count 40 := by
  obtain ⟨hp, _⟩ := List.getElem?_eq_some_iff.mp h
  obtain ⟨c, ec, ed⟩ := drop_cons hp
  rw [h] at ec
  cases ec
  have e1 : cs.count 40 = (cs.take p).count 40 + ((cs.drop (p + 1)).count 40 + 1) := by
    conv => lhs; rw [← List.take_append_drop p cs]
    rw [List.count_append, ed, List.count_cons]
    rfl
  have e2 : ((cs.drop (p + 1)).take (en - (p + 1))).count 40 + (cs.drop (en + 1)).count 40 ≤ (cs.drop (p + 1)).count 40 := by
    conv => rhs; rw [← List.take_append_drop (en - (p + 1)) (cs.drop (p + 1))]
    rw [List.count_append, List.drop_drop]
    have : (cs.drop (en + 1)).count 40 ≤ (cs.drop (p + 1 + (en - (p + 1)))).count 40 := by
      refine List.Sublist.count_le 40 ?_
      have : en + 1 = p + 1 + (en - (p + 1)) + (en + 1 - (p + 1 + (en - (p + 1)))) := by omega
      rw [this, ← List.drop_drop]
      exact List.drop_sublist _ _
    omega
  rw [List.count_append, List.count_append]
  omega
theorem p__law_needed (ds : List D) (Qd : D → Prop) (Xq : XQ) (h : S__law_needed ds Qd Xq) : b__law_needed S_next (S__law_same 42) S_parse_expression (kD Qd Xq) (startD 8 ds) := by
  obtain ⟨e, rfl, ok, de, pl, ch, q⟩ := h
  have sz := szl
  show b__law_needed S_next (S__law_same 42) S_parse_expression (kD Qd Xq) [.fz .rd, .fz (exD e), .fz (.str (S' (prtL e))), .un, .un, .un, .un, .un]
  unfold b__law_needed
  generalize hcs : prtL e = cs at *
  walk_at "dl"
  rw [gLen_S (cs := cs) (by omega)]
  refine ⟨by omega, by omega, ?_⟩
  rw [Int.toNat_natCast]
  refine ⟨by unfold rng; rw [List.length_map, List.length_range]; omega, ?_⟩
  unfold rng
  have one : ∀ (c : Nat) (t : Str) (a : Nat), c < 1114112 → tl t = [a] → lays t = true → ∀ Q : D → Prop, gEq (.str (S' [c])) (.str t) Q = Q (.bl (decide (c = a))) := by
    intro c t a hc ht lt Q
    rw [gEq_strL _ _ _ (lays_S fun x hx => by rw [List.mem_singleton.mp hx]; exact hc) lt, S_eq, ht]
    have : decide ([c] = [a]) = decide (c = a) := by rw [Bool.eq_iff_iff, decide_eq_true_eq, decide_eq_true_eq]; simp
    rw [this]
  have ix : ∀ (j : Nat) (Q : D → Prop), j < cs.length → gIx (.str (S' cs)) (.int (0 + (j : Int))) Q = Q (.str (S' [(cs[j]?).getD 0])) := by
    intro j Q hj
    rw [Int.zero_add]
    refine gIx_S ?_ (by omega) Q
    rw [List.getElem?_eq_getElem hj]
    rfl
  have cj : ∀ j, j < cs.length → (cs[j]?).getD 0 < 1114112 := fun j hj => by
    rw [List.getElem?_eq_getElem hj]
    exact ch _ (List.getElem_mem hj)
  refine lc_ind (fun (j : Nat) => D.int (0 + (j : Int))) (List.range cs.length) (fun j => decide ((cs[j]?).getD 0 = 40)) (fun j => .int (0 + (j : Int))) (fun j hj xq Q z => ?_) (fun j hj _ xq Q z => ?_) ?_
  · have hj2 := List.mem_range.mp hj
    walk_at "dl"
    rw [ix j _ hj2, one _ "(" 40 (cj j hj2) (by decide +kernel) (by decide +kernel)]
    exact z
  · walk_at "dl"
    exact z
  walk_at "dl"
  generalize hps : (List.range cs.length).filter (fun j => decide ((cs[j]?).getD 0 = 40)) = ps
  rw [gLen_lst, List.length_map]
  by_cases c0 : ps.length = 0
  · rw [gEq_int, decide_eq_true (show ((ps.length : Nat) : Int) = 0 by omega)]
    exact q
  rw [gEq_int, decide_eq_false (show ¬ ((ps.length : Nat) : Int) = 0 by omega)]
  simp only [Bool.false_eq_true, if_false]
  rw [gLen_lst, List.length_map]
  have lps : ps.length ≤ cs.length := by
    rw [← hps]
    have := List.length_filter_le (fun j => decide ((cs[j]?).getD 0 = 40)) (List.range cs.length)
    rwa [List.length_range] at this
  refine ⟨ps.length, rfl, by omega, by omega, fun k a b => ?_⟩
  obtain ⟨p, ep, mp⟩ := atI_in (l := ps) a b
  have hp : p < cs.length ∧ cs[p]? = some 40 := by
    rw [← hps] at mp
    obtain ⟨m1, m2⟩ := List.mem_filter.mp mp
    have m1 := List.mem_range.mp m1
    refine ⟨m1, ?_⟩
    have m2 := of_decide_eq_true m2
    rw [List.getElem?_eq_getElem m1] at m2 ⊢
    exact congrArg some m2
  have eix : ∀ Q : D → Prop, gIx (.lst (ps.map fun (j : Nat) => D.int (0 + (j : Int)))) (.int k) Q = Q (.int (p : Nat)) := by
    intro Q
    show (match atI (ps.map fun (j : Nat) => D.int (0 + (j : Int))) k with | some c => Q c | none => False) = _
    rw [atI_map', ep]
    show Q (.int (0 + (p : Int))) = _
    rw [Int.zero_add]
  rw [eix]
  walk_at "dl"
  rw [gLen_S (cs := cs) (by omega)]
  simp only
  refine ⟨⟨by omega, by omega, by omega, by omega⟩, ?_⟩
  have fin : ∀ (en : Nat) (s4 s6 : Dl.S), p ≤ en → en < cs.length → dTryN ["InvalidText"]
    (dRet (dNotV (dB (dCall (S__law_same 42) (dCons (dCall S_parse_expression (dCons (d2 gAdd (d2 gAdd (dSl (dVar 2) oNo (oSome (dVar 5))) (dSl (dVar 2) (oSome (d2 gAdd (dVar 5) (dC (.int 1)))) (oSome (dVar 7)))) (dSl (dVar 2) (oSome (d2 gAdd (dVar 7) (dC (.int 1)))) oNo)) dNil)) (dCons (dVar 1) dNil))))))
    (fun ea1 ed1 ec1 ef1 => dRet (dC (.bl true))) (kD Qd Xq) [.fz .rd, .fz (exD e), .fz (.str (S' cs)), .fz (.lst (ps.map fun (j : Nat) => D.int (0 + (j : Int)))), s4, .fz (.int (p : Nat)), s6, .fz (.int (en : Nat))] := by
    intro en s4 s6 h1 h2
    unfold dTryN
    walk_at "dl"
    rw [gSl_str, S_len]
    refine ⟨by omega, ?_⟩
    rw [gSl_str, S_len]
    refine ⟨by omega, ?_⟩
    rw [cut_to (by omega), show ((p : Nat) : Int) + 1 = ((p + 1 : Nat) : Int) by omega, cut_mid (by omega) (by omega)]
    have l1 : (cs.take p).length ≤ cs.length := (List.take_sublist _ _).length_le
    have l2 : ((cs.drop (p + 1)).take (en - (p + 1))).length ≤ cs.length := by rw [List.length_take, List.length_drop]; omega
    rw [gAdd_str, S_len, S_len]
    refine ⟨by omega, ?_⟩
    rw [show ((en : Nat) : Int) + 1 = ((en + 1 : Nat) : Int) by omega]
    rw [gSl_str, S_len]
    refine ⟨by omega, ?_⟩
    rw [cut_from]
    have e1 : S' (cs.take p) ++ S' ((cs.drop (p + 1)).take (en - (p + 1))) = S' (cs.take p ++ (cs.drop (p + 1)).take (en - (p + 1))) := S_cat _ _
    rw [e1, gAdd_str, S_len, S_len]
    have l3 : (cs.drop (en + 1)).length ≤ cs.length := by rw [List.length_drop]; omega
    refine ⟨by rw [List.length_append]; omega, ?_⟩
    have e2 : S' (cs.take p ++ (cs.drop (p + 1)).take (en - (p + 1))) ++ S' (cs.drop (en + 1)) = S' (cs.take p ++ (cs.drop (p + 1)).take (en - (p + 1)) ++ cs.drop (en + 1)) := S_cat _ _
    rw [e2]
    have lc := less_count hp.2 h1
    generalize hds : cs.take p ++ (cs.drop (p + 1)).take (en - (p + 1)) ++ cs.drop (en + 1) = ds at *
    have chd : Ch ds := by
      rw [← hds]
      intro c hc
      rcases List.mem_append.mp hc with hc | hc
      · rcases List.mem_append.mp hc with hc | hc
        · exact ch c ((List.take_sublist _ _).subset hc)
        · exact ch c ((List.drop_sublist _ _).subset ((List.take_sublist _ _).subset hc))
      · exact ch c ((List.drop_sublist _ _).subset hc)
    refine ⟨ds, rfl, ?_, chd, ?_⟩
    · rw [← hds]
      simp only [List.length_append]
      omega
    · cases r : pE (lexT ds) 11 0 0 0 with
      | bad z => exact ⟨List.mem_cons_self .., fun _ _ => q⟩
      | ok e2 i o =>
        show (if _ then _ else _)
        split
        · refine ⟨.ex e2, .ex e, rfl, pE_L chd r, exL_of ok, by show dep e + 1 < 42; omega, ?_⟩
          have ne : e2 ≠ e := fun z => by
            subst z
            exact less_pair ok chd (by rw [hcs]; exact lc) r
          rw [eqb_f (fun z => ne (Dt.ex.inj z))]
          exact q
        · exact ⟨List.mem_cons_self .., fun _ _ => q⟩
  have n1 : (((cs.length : Nat) : Int) - (p : Nat)).toNat = cs.length - p := by omega
  rw [n1]
  refine for_rng (fun j ρ => ∃ (z : Int) (s4 : Dl.S), ρ = [.fz .rd, .fz (exD e), .fz (.str (S' cs)), .fz (.lst (ps.map fun (j : Nat) => D.int (0 + (j : Int)))), s4, .fz (.int (p : Nat)), .fz (.int z), .fz (.int (p : Nat))]) ⟨0, _, rfl⟩ (fun j ρ N hj hi hN => ?_) (fun ρ hi => ?_)
  · obtain ⟨z, s4, rfl⟩ := hi
    walk_at "dl"
    have ix2 : ∀ Q : D → Prop, gIx (.str (S' cs)) (.int ((p : Nat) + (j : Int))) Q = Q (.str (S' [(cs[p + j]?).getD 0])) := fun Q => by
      have := ix (p + j) Q (by omega)
      rw [Int.zero_add, Int.natCast_add] at this
      exact this
    rw [ix2, one _ "(" 40 (cj _ (by omega)) (by decide +kernel) (by decide +kernel)]
    simp only [gInt_bl, gAdd_int]
    rw [ix2, one _ ")" 41 (cj _ (by omega)) (by decide +kernel) (by decide +kernel)]
    simp only [gInt_bl, gMns_int]
    generalize (if decide ((cs[p + j]?).getD 0 = 40) = true then (1 : Int) else 0) = u1
    generalize (if decide ((cs[p + j]?).getD 0 = 41) = true then (1 : Int) else 0) = u2
    rw [gEq_int]
    simp only
    split
    · exact fin (p + j) _ _ (by omega) (by omega)
    · exact hN _ ⟨_, _, rfl⟩
  · obtain ⟨z, s4, rfl⟩ := hi
    exact fin p _ _ (Nat.le_refl _) hp.1
end K07
namespace K07
open PySem L2 Dl Par
open SX (S_len S_tl S_cat)
open _root_.Expr hiding lays
theorem tx_ch {ws : List (List Nat)} {t : List Nat} (h : Tx ws t) : Ch t := by
  induction h with
  | nil => exact fun c hc => nomatch hc
  | cons hw hg ht hb ih =>
    intro c hc
    rcases List.mem_append.mp hc with hc | hc
    · exact wk_W hw c hc
    · rcases List.mem_append.mp hc with hc | hc
      · have := hg c hc
        unfold isB at this
        rw [Bool.or_eq_true, decide_eq_true_eq, decide_eq_true_eq] at this
        omega
      · exact ih c hc
theorem txl_ch {ws : List (List Nat)} {last text g : List Nat} (h : TxL ws last text) (hg : Bl g) : Ch (text ++ g) := by
  obtain ⟨g0, t', a, b, c⟩ := h.fin hg
  rw [c]
  intro x hx
  rcases List.mem_append.mp hx with hx | hx
  · have := a x hx
    unfold isB at this
    rw [Bool.or_eq_true, decide_eq_true_eq, decide_eq_true_eq] at this
    omega
  · exact tx_ch b x hx
structure Drawn (e : Ex) (m : Nat) : Prop where
  ok : ExOk e
  de : dep e ≤ 40
  no : nops e ≤ 40
  ne : need e ≤ 10
  wb : Par.wb m e ≤ 3900
  m : m ≤ 10
theorem tree_sz : ∀ e : Ex, nops e + 1 ≤ 2 ^ dep e ∧ need e ≤ dep e ∧ Par.wb 10 e + 94 ≤ 200 * 2 ^ dep e
  | .num n => ⟨(by show 0 + 1 ≤ 2 ^ 0; decide), Nat.le_refl _, by show 18 + 8 * (10 + 1) + 94 ≤ 200 * 2 ^ 0; decide⟩
  | .nam n => ⟨(by show 0 + 1 ≤ 2 ^ 0; decide), Nat.le_refl _, by show 18 + 8 * (10 + 1) + 94 ≤ 200 * 2 ^ 0; decide⟩
  | .no e => by
    obtain ⟨a, b, c⟩ := tree_sz e
    have p := @pq_one e 4
    refine ⟨?_, ?_, ?_⟩
    · show nops e + 1 + 1 ≤ 2 ^ (dep e + 1)
      rw [Nat.pow_succ]
      omega
    · show need e + pq e 4 ≤ dep e + 1
      omega
    · show 6 + 8 * (10 + 1) + Par.wb 10 e + 94 ≤ 200 * 2 ^ (dep e + 1)
      rw [Nat.pow_succ]
      omega
  | .bin s x y => by
    obtain ⟨a, b, c⟩ := tree_sz x
    obtain ⟨a', b', c'⟩ := tree_sz y
    have p := @pq_one x (lft s)
    have p' := @pq_one y (opLv s + 1)
    have h1 : 2 ^ dep x ≤ 2 ^ max (dep x) (dep y) := Nat.pow_le_pow_right (by decide) (Nat.le_max_left _ _)
    have h2 : 2 ^ dep y ≤ 2 ^ max (dep x) (dep y) := Nat.pow_le_pow_right (by decide) (Nat.le_max_right _ _)
    refine ⟨?_, ?_, ?_⟩
    · show nops x + nops y + 1 + 1 ≤ 2 ^ (max (dep x) (dep y) + 1)
      rw [Nat.pow_succ]
      omega
    · show max (need x + pq x (lft s)) (need y + pq y (opLv s + 1)) ≤ max (dep x) (dep y) + 1
      omega
    · show 6 + 8 * (10 + 1) + Par.wb 10 x + Par.wb 10 y + 94 ≤ 200 * 2 ^ (max (dep x) (dep y) + 1)
      rw [Nat.pow_succ]
      omega
theorem drawn_tree {e : Ex} (h : ExOk e) (hd : dep e ≤ 4) : Drawn e 10 := by
  obtain ⟨a, b, c⟩ := tree_sz e
  have p : 2 ^ dep e ≤ 2 ^ 4 := Nat.pow_le_pow_right (by decide) hd
  have p4 : 2 ^ 4 = 16 := rfl
  exact ⟨h, by omega, by omega, by omega, by omega, Nat.le_refl _⟩
theorem drawn_chain {e : Ex} (h : ChP e 40 1) : Drawn e 1 := ⟨h.ok, h.de, h.no, by rw [h.ne]; omega, by have := h.wb; omega, by omega⟩
theorem Drawn.pr {e : Ex} {m : Nat} (h : Drawn e m) : (prtL e).length ≤ 4000 ∧ Ch (prtL e) ∧ PE (prtL e) e := by
  have l1 := prtL_len e
  have l2 := wt_pw (m := m) h.ok
  have l3 := h.wb
  obtain ⟨last, tx⟩ := (pw_app h.ok).2 [] [40] [] [] (TxL.start bl_nil) bl_nil bd_par
  rw [List.nil_append, List.nil_append, List.nil_append] at tx
  have lx : (prtL e ++ []).length ≤ 4000 := by rw [List.append_nil]; omega
  have rr := reads ((pw_W h.ok 10 h.ne).less (lv_pos e)) h.no tx bl_nil lx
  have cc := txl_ch tx bl_nil
  rw [List.append_nil] at rr cc
  exact ⟨by omega, cc, _, _, rr.1, rr.2⟩
def Ent (d : D) : Prop := ∃ (e : Ex) (full : List Nat), d = .tup [exD e, .str (S' (prtL e)), .str (S' full)] ∧ Good e full
theorem names_of {ys : List D} (h : ∀ y ∈ ys, ∃ s, NameOk s ∧ y = .str s) : ∃ ss : List Str, ys = ss.map D.str ∧ ∀ s ∈ ss, NameOk s := by
  induction ys with
  | nil => exact ⟨[], rfl, fun s hs => nomatch hs⟩
  | cons y ys ih =>
    obtain ⟨ss, rfl, k⟩ := ih fun y hy => h y (List.mem_cons_of_mem _ hy)
    obtain ⟨s, hs, rfl⟩ := h y (List.mem_cons_self ..)
    refine ⟨s :: ss, rfl, fun x hx => ?_⟩
    rcases List.mem_cons.mp hx with rfl | hx
    · exact hs
    · exact k x hx
theorem p_law (ds : List D) (Qd : D → Prop) (Xq : XQ) (h : S_law ds Qd Xq) : b_law S_reader S_cell S_next S__law_name (S__law_expression 5) S__law_chain (S__law_print 42) S__law_text (S__law_full 42) S__law_kept S__law_needed (kD Qd Xq) (startD 9 ds) := by
  obtain ⟨ns, rfl, _, q⟩ := h
  have sz := szl
  show b_law _ _ _ _ _ _ _ _ _ _ _ _ [.fz (.scr ns), .un, .un, .un, .un, .un, .un, .un, .un]
  unfold b_law
  walk_at "dl"
  refine ⟨by decide, by decide, ?_⟩
  refine for_rng (fun j ρ => ∃ (ds : List D) (s2 s3 s4 s5 s6 s7 s8 : Dl.S), ρ = [.fz (.scr ns), .op ds, s2, s3, s4, s5, s6, s7, s8] ∧ ds.length = j ∧ ∀ d ∈ ds, Ent d) ⟨[], _, _, _, _, _, _, _, rfl, rfl, fun d hd => nomatch hd⟩ (fun j ρ N hj hi hN => ?_) (fun ρ hi => ?_)
  · obtain ⟨ds, s2, s3, s4, s5, s6, s7, s8, rfl, hl, hd⟩ := hi
    walk_at "dl"
    refine ⟨.inl ⟨by decide, by decide⟩, ns, _, rfl, by omega, fun c => ?_⟩
    refine ⟨c, rfl, ?_⟩
    walk_at "dl"
    refine ⟨4, rfl, by decide, by decide, fun k1 a1 b1 => ?_⟩
    walk_at "dl"
    refine ⟨by omega, by omega, ?_⟩
    have lr : (rng 0 (1 + k1).toNat).length = (1 + k1).toNat := by unfold rng; rw [List.length_map, List.length_range]
    refine ⟨by omega, ?_⟩
    refine lc_some _ (fun y => ∃ s, NameOk s ∧ y = .str s) (fun d _ Q' hQ => ?_) fun ys hys hy => ?_
    · exact ⟨rfl, fun s hs => hQ _ ⟨s, hs, rfl⟩⟩
    obtain ⟨names, rfl, hnm⟩ := names_of hy
    have nk : NamesOk names := by
      rw [lr, List.length_map] at hys
      exact ⟨by omega, by omega, hnm⟩
    walk_at "dl"
    refine ⟨5, rfl, by decide, by decide, fun k2 a2 b2 => ?_⟩
    refine ⟨5, rfl, by decide, by decide, fun k3 a3 b3 => ?_⟩
    refine ⟨names, k2, k3, rfl, nk, a2, by omega, fun e ok de => ?_⟩
    walk_at "dl"
    have tail : ∀ (e : Ex) (m : Nat) (s5 : Dl.S) (K : DK), Drawn e m → K.nx = N → b_law_r1 S_reader S_cell S_next S__law_name (S__law_expression 5) S__law_chain (S__law_print 42) S__law_text (S__law_full 42) S__law_kept S__law_needed K
        [.fz (.scr ns), .op ds, .fz (.int (0 + (j : Int))), .fz .rd, .fz (.lst (names.map D.str)), s5, .fz (.int (m : Nat)), .fz (exD e), s8] := by
      intro e m s5 K dr hK
      obtain ⟨p1, p2, p3⟩ := dr.pr
      have hde := dr.de
      unfold b_law_r1
      walk_at "dl"
      refine ⟨.inl ⟨by decide, by decide⟩, ns, _, rfl, by omega, fun c => ?_⟩
      refine ⟨c, rfl, ?_⟩
      walk_at "dl"
      refine ⟨e, rfl, dr.ok, by omega, p1, ?_⟩
      refine ⟨e, 10, m, rfl, dr.ok, ⟨by omega, by omega⟩, dr.ne, Nat.le_refl _, dr.m, Nat.le_trans dr.wb (by decide), fun ws h1 h2 => ?_⟩
      have lw := dr.wb
      refine ⟨ws, rfl, (W_adj h1).2, (W_adj h1).1, by omega, fun last text g tx bg hl2 => ?_⟩
      refine ⟨by omega, ?_⟩
      rw [hK]
      refine hN _ ⟨_, _, _, _, _, _, _, _, rfl, by rw [List.length_append, hl]; rfl, fun d hd2 => ?_⟩
      rcases List.mem_append.mp hd2 with hd2 | hd2
      · exact hd d hd2
      · rw [List.mem_singleton.mp hd2]
        have rr := reads (h1.less (lv_pos e)) dr.no tx bg hl2
        exact ⟨e, text ++ g, rfl, dr.ok, hde, p1, hl2, p2, txl_ch tx bg, p3, _, _, rr.1, rr.2⟩
    refine ⟨4, rfl, by decide, by decide, fun k4 a4 b4 => ?_⟩
    walk_at "dl"
    by_cases c4 : k4 = 0
    · rw [decide_eq_true c4]
      simp only [if_true]
      refine ⟨names, rfl, nk, fun e2 ch => ?_⟩
      exact tail e2 1 _ _ (drawn_chain ch) rfl
    · rw [decide_eq_false c4]
      simp only [Bool.false_eq_true, if_false]
      exact tail e 10 _ _ (drawn_tree ok (by omega)) rfl
  · obtain ⟨ds, s2, s3, s4, s5, s6, s7, s8, rfl, hl, hd⟩ := hi
    have hl2 : ds.length = 2 := hl
    have pick : ∀ k : Int, 0 ≤ k → k < 2 → ∃ (e : Ex) (full : List Nat), Good e full ∧ ∀ Q : D → Prop, gIx (.lst ds) (.int k) Q = Q (.tup [exD e, .str (S' (prtL e)), .str (S' full)]) := by
      intro k h0 h1
      obtain ⟨a, ea, ma⟩ := atI_in (l := ds) h0 (by omega)
      obtain ⟨e, full, rfl, g⟩ := hd a ma
      refine ⟨e, full, g, fun Q => ?_⟩
      show (match atI ds k with | some c => Q c | none => False) = _
      rw [ea]
    walk_at "dl"
    show forLoop _ _ _ (([0, 1, 0] : List Int).map D.int) _
    refine for_ind D.int [0, 1, 0] (fun _ _ ρ => ∃ s2, ρ = [.fz (.scr ns), .op ds, s2, s3, s4, s5, s6, s7, s8]) ⟨_, rfl⟩ (fun pre k post ρ N eq hi hN => ?_) (fun ρ hi => ?_)
    · obtain ⟨s2, rfl⟩ := hi
      have hk : 0 ≤ k ∧ k < 2 := by
        have : k ∈ ([0, 1, 0] : List Int) := by rw [eq]; simp
        simp only [List.mem_cons, List.not_mem_nil, or_false] at this
        rcases this with rfl | rfl | rfl <;> decide
      obtain ⟨e, full, g, hp⟩ := pick k hk.1 hk.2
      walk_at "dl"
      rw [hp, gIx_tup0]
      rw [hp, gIx_tup1]
      rw [hp, gIx_tup2]
      refine ⟨e, full, rfl, g, ?_⟩
      exact hN _ ⟨_, rfl⟩
    · obtain ⟨s2, rfl⟩ := hi
      obtain ⟨e, full, g, hp⟩ := pick 0 (by decide) (by decide)
      walk_at "dl"
      refine ⟨ns, _, rfl, by decide, fun c => ?_⟩
      refine ⟨c, rfl, ?_⟩
      show gIx _ _ _
      rw [hp, gIx_tup0]
      show gIx _ _ _
      rw [hp, gIx_tup1]
      exact ⟨e, rfl, g.ok, g.de, g.pl, g.pc, q⟩
end K07
namespace K07
open PySem L2 Dl PyProof.Rows Rnd Par
section
variable {P : Program} {w : World} {K : PySem.W.Frag} {mg : Str → Option Value} {base : Heap} {C : Str → Addr}
theorem sc_end_of : FnScope ["text", "start", "chars", "at"] ["text", "start", "chars"] (defScope st_end_of) := ⟨rfl, rfl, rfl, by decide +kernel, rfl, by decide +kernel, by decide +kernel⟩
theorem c_end_of {f : Addr} {fd : FuncData} {k : Nat} {S : DF} (F : FunD K "end_of" "end_of" (defArgs st_end_of) (defBody st_end_of) (defScope st_end_of) [] [] f fd) (gf : mg "end_of" = some (.ref f)) (hbl : ∀ n, bl0 n = true → mg n = none) (kc : KC K mg C TB) (kg : GDs P w K mg C GDS)
    (len : ∀ ds Q Xq, S ds Q Xq → ds.length = 3) (spec : ∀ ds Qd Xq, S ds Qd Xq → b_end_of (kD Qd Xq) (startD 4 ds)) : Cal P w K mg base C (k + 1) "end_of" S := by
  refine dfn F gf sc_end_of (FunD.bindsN F fun _ _ _ _ _ _ us hl => match us, hl with | [_, _, _], _ => rfl) hbl len (fun cdv A outer s H E g => ?_) spec
  exact (css_cons (cs_set 3 sc_end_of.nd (ce_var (pv 1)))
  (css_cons (cs_while g (CW.t (cw_and (ct_lt (CE.q (ce_var (pv 3))) (CE.q (ce_len g.toGE (CE.q (ce_var (pv 0)))))) (cw_and1 (ct_in g.toGE (CE.q (ce_ix (CE.q (ce_var (pv 0))) (CE.q (ce_var (pv 3))))) (CE.q (ce_var (pv 2)))))))
    (css_one (cs_set 3 sc_end_of.nd (ce_add (CE.q (ce_var (pv 3))) (CE.q ce_int)))))
  (css_one (cs_retv (pv 3)))))
theorem sc_is_number : FnScope ["digits"] ["digits"] (defScope st_is_number) := ⟨rfl, rfl, rfl, by decide +kernel, rfl, by decide +kernel, by decide +kernel⟩
theorem c_is_number {f : Addr} {fd : FuncData} {k : Nat} {S : DF} (F : FunD K "is_number" "is_number" (defArgs st_is_number) (defBody st_is_number) (defScope st_is_number) [] [] f fd) (gf : mg "is_number" = some (.ref f)) (hbl : ∀ n, bl0 n = true → mg n = none) (kc : KC K mg C TB) (kg : GDs P w K mg C GDS)
    (len : ∀ ds Q Xq, S ds Q Xq → ds.length = 1) (spec : ∀ ds Qd Xq, S ds Qd Xq → b_is_number (kD Qd Xq) (startD 1 ds)) : Cal P w K mg base C (k + 1) "is_number" S := by
  refine dfn F gf sc_is_number (FunD.bindsN F fun _ _ _ _ _ _ us hl => match us, hl with | [_], _ => rfl) hbl len (fun cdv A outer s H E g => ?_) spec
  exact (css_one (cs_ret (ce_and (CE.q (ce_le (CE.q (ce_len g.toGE (CE.q (ce_var (pv 0))))) (CE.q (ce_gInt kc.int)))) (ce_and1 (ce_or (CE.q (ce_eq g.toGE (CE.q (ce_var (pv 0))) (CE.q ce_str))) (ce_and1 (ce_ne g.toGE (CE.q (ce_ix (CE.q (ce_var (pv 0))) (CE.q ce_int))) (CE.q ce_str))))))))
theorem sc_token_at : FnScope ["text", "start", "digits"] ["text", "start"] (defScope st_token_at) := ⟨rfl, rfl, rfl, by decide +kernel, rfl, by decide +kernel, by decide +kernel⟩
theorem c_token_at {f : Addr} {fd : FuncData} {k : Nat} {S : DF} {S_end_of : DF} {S_is_number : DF} (F : FunD K "token_at" "token_at" (defArgs st_token_at) (defBody st_token_at) (defScope st_token_at) [] [] f fd) (gf : mg "token_at" = some (.ref f)) (hbl : ∀ n, bl0 n = true → mg n = none) (kc : KC K mg C TB) (kg : GDs P w K mg C GDS)
    (h_end_of : Cal P w K mg base C k "end_of" S_end_of)
    (h_is_number : Cal P w K mg base C k "is_number" S_is_number)
    (len : ∀ ds Q Xq, S ds Q Xq → ds.length = 2) (spec : ∀ ds Qd Xq, S ds Qd Xq → b_token_at S_end_of S_is_number (kD Qd Xq) (startD 3 ds)) : Cal P w K mg base C (k + 1) "token_at" S := by
  refine dfn F gf sc_token_at (FunD.bindsN F fun _ _ _ _ _ _ us hl => match us, hl with | [_, _], _ => rfl) hbl len (fun cdv A outer s H E g => ?_) spec
  exact (css_cons (cs_if (ct_in g.toGE (CE.q (ce_ix (CE.q (ce_var (pv 0))) (CE.q (ce_var (pv 1))))) (CE.q (ce_gStr kc.str)))
    (css_one (cs_ret (ce_tup (ca_cons ce_str (ca_cons (ce_sl (CE.q (ce_var (pv 0))) (co_some (CE.q (ce_var (pv 1)))) (co_some (CE.q (ce_call h_end_of g.toGE (ca_cons (ce_var (pv 0)) (ca_cons (ce_var (pv 1)) (ca_cons (ce_gStr kc.str) ca_nil))) (Nat.le_refl _))))) (ca_cons (ce_var (pv 1)) ca_nil))))))
    css_nil)
  (css_cons (cs_if (ct_in g.toGE (CE.q (ce_ix (CE.q (ce_var (pv 0))) (CE.q (ce_var (pv 1))))) (CE.q (ce_gStr kc.str)))
    (css_cons (cs_set 2 sc_token_at.nd (ce_sl (CE.q (ce_var (pv 0))) (co_some (CE.q (ce_var (pv 1)))) (co_some (CE.q (ce_call h_end_of g.toGE (ca_cons (ce_var (pv 0)) (ca_cons (ce_var (pv 1)) (ca_cons (ce_gStr kc.str) ca_nil))) (Nat.le_refl _))))))
    (css_cons (cs_if (ct_tru (CE.q (ce_call h_is_number g.toGE (ca_cons (ce_var (pv 2)) ca_nil) (Nat.le_refl _))))
      (css_one (cs_ret (ce_tup (ca_cons ce_str (ca_cons (ce_var (pv 2)) (ca_cons (ce_var (pv 1)) ca_nil))))))
      css_nil)
    (css_one (cs_ret (ce_tup (ca_cons ce_str (ca_cons ce_str (ca_cons (ce_var (pv 1)) ca_nil))))))))
    css_nil)
  (css_cons (cs_if (ct_eq g.toGE (CE.q (ce_sl (CE.q (ce_var (pv 0))) (co_some (CE.q (ce_var (pv 1)))) (co_some (CE.q (ce_add (CE.q (ce_var (pv 1))) (CE.q ce_int)))))) (CE.q ce_str))
    (css_one (cs_ret (ce_tup (ca_cons ce_str (ca_cons ce_str (ca_cons (ce_var (pv 1)) ca_nil))))))
    css_nil)
  (css_cons (cs_if (ct_in g.toGE (CE.q (ce_ix (CE.q (ce_var (pv 0))) (CE.q (ce_var (pv 1))))) (CE.q (ce_gStr kc.str)))
    (css_one (cs_ret (ce_tup (ca_cons ce_str (ca_cons (ce_ix (CE.q (ce_var (pv 0))) (CE.q (ce_var (pv 1)))) (ca_cons (ce_var (pv 1)) ca_nil))))))
    css_nil)
  (css_one (cs_ret (ce_tup (ca_cons ce_str (ca_cons ce_str (ca_cons (ce_var (pv 1)) ca_nil))))))))))
theorem sc_split_words : FnScope ["text", "tokens", "at", "token"] ["text"] (defScope st_split_words) := ⟨rfl, rfl, rfl, by decide +kernel, rfl, by decide +kernel, by decide +kernel⟩
theorem c_split_words {f : Addr} {fd : FuncData} {k : Nat} {S : DF} {S_end_of : DF} {S_token_at : DF} (F : FunD K "split_words" "split_words" (defArgs st_split_words) (defBody st_split_words) (defScope st_split_words) [] [] f fd) (gf : mg "split_words" = some (.ref f)) (hbl : ∀ n, bl0 n = true → mg n = none) (kc : KC K mg C TB) (kg : GDs P w K mg C GDS)
    (h_end_of : Cal P w K mg base C k "end_of" S_end_of)
    (h_token_at : Cal P w K mg base C k "token_at" S_token_at)
    (len : ∀ ds Q Xq, S ds Q Xq → ds.length = 1) (spec : ∀ ds Qd Xq, S ds Qd Xq → b_split_words S_end_of S_token_at (kD Qd Xq) (startD 4 ds)) : Cal P w K mg base C (k + 1) "split_words" S := by
  refine dfn F gf sc_split_words (FunD.bindsN F fun _ _ _ _ _ _ us hl => match us, hl with | [_], _ => rfl) hbl len (fun cdv A outer s H E g => ?_) spec
  exact (css_cons (cs_if (ct_gt (CE.q (ce_len g.toGE (CE.q (ce_var (pv 0))))) (CE.q (ce_gInt kc.int)))
    (css_one (cs_ret (CN.own (cn_lst (ca_cons (ce_tup (ca_cons ce_str (ca_cons ce_str (ca_cons (ce_gInt kc.int) ca_nil)))) ca_nil)))))
    css_nil)
  (css_cons (cs_setN 1 sc_split_words.nd (cn_lst ca_nil))
  (css_cons (cs_set 2 sc_split_words.nd (ce_call h_end_of g.toGE (ca_cons (ce_var (pv 0)) (ca_cons ce_int (ca_cons (ce_gStr kc.str) ca_nil))) (Nat.le_refl _)))
  (css_cons (cs_while g (ct_lt (CE.q (ce_var (pv 2))) (CE.q (ce_len g.toGE (CE.q (ce_var (pv 0))))))
    (css_cons (cs_set 3 sc_split_words.nd (ce_call h_token_at g.toGE (ca_cons (ce_var (pv 0)) (ca_cons (ce_var (pv 2)) ca_nil)) (Nat.le_refl _)))
    (css_cons (cs_app 1 (pv 1) (ce_var (pv 3)))
    (css_cons (cs_if (ct_eq g.toGE (CE.q (ce_ix (CE.q (ce_var (pv 3))) (CE.q ce_int))) (CE.q ce_str))
      (css_frz 1 (css_one (cs_retv (pv 1))))
      css_nil)
    (css_one (cs_set 2 sc_split_words.nd (ce_call h_end_of g.toGE (ca_cons (ce_var (pv 0)) (ca_cons (ce_add (CE.q (ce_var (pv 2))) (CE.q (ce_len g.toGE (CE.q (ce_ix (CE.q (ce_var (pv 3))) (CE.q ce_int)))))) (ca_cons (ce_gStr kc.str) ca_nil))) (Nat.le_refl _))))))))
  (css_cons (cs_app 1 (pv 1) (ce_tup (ca_cons ce_str (ca_cons ce_str (ca_cons (ce_len g.toGE (CE.q (ce_var (pv 0)))) ca_nil)))))
  (css_frz 1 (css_one (cs_retv (pv 1)))))))))
theorem sc_Reader___init__ : FnScope ["self", "tokens"] ["self", "tokens"] (defScope st_Reader___init__) := ⟨rfl, rfl, rfl, by decide +kernel, rfl, by decide +kernel, by decide +kernel⟩
theorem c_Reader___init__ {fd : FuncData} {k : Nat} {S : DI} (F : FunD K "__init__" "Reader.__init__" (defArgs st_Reader___init__) (defBody st_Reader___init__) (defScope st_Reader___init__) [] [] (He.ma K (C "Reader") "__init__") fd) (hbl : ∀ n, bl0 n = true → mg n = none) (kc : KC K mg C TB) (kg : GDs P w K mg C GDS)
    (len : ∀ ds Q Xq, S ds Q Xq → ds.length = 1) (spec : ∀ a ds Qf Xq, S ds Qf Xq → b_Reader___init__ (kI a "Reader" Qf Xq) (startI 2 a "Reader" ds)) : CalI P w K mg base C (k + 1) "Reader" S := by
  refine ⟨_, fd, ["self", "tokens"], dinit F sc_Reader___init__ hbl (fun ds Q Xq h => by rw [len ds Q Xq h]; rfl) (fun cdv A outer s H E g => ?_) spec, kc.mkr, kc.g, FunD.bindsN F fun _ _ _ _ _ _ us hl => match us, hl with | [_, _], _ => rfl⟩
  exact (css_cons (cs_setF (ks := ["Reader"]) 0 kc.fld (pv 0) (CN.own (cn_list g.toGE (CE.q (ce_var (pv 1))))))
  (css_one (cs_setF (ks := ["Reader"]) 0 kc.fld (pv 0) ce_int)))
theorem sc_Reader_peek : FnScope ["self"] ["self"] (defScope st_Reader_peek) := ⟨rfl, rfl, rfl, by decide +kernel, rfl, by decide +kernel, by decide +kernel⟩
theorem c_Reader_peek {fd : FuncData} {k : Nat} {S : DFO} (F : FunD K "peek" "Reader.peek" (defArgs st_Reader_peek) (defBody st_Reader_peek) (defScope st_Reader_peek) [] [] (He.ma K (C "Reader") "peek") fd) (hbl : ∀ n, bl0 n = true → mg n = none) (kc : KC K mg C TB) (kg : GDs P w K mg C GDS)
    (len : ∀ ds Q Xq, S ds Q Xq → ds.length = 1) (spec : ∀ ads vs ass Qd Xq, S ads Qd Xq → vs.length = ads.length → ass.length = ads.length → b_Reader_peek (kO ads vs Qd Xq) (startO 1 ads vs ass)) : CalMO P w K mg base C (k + 1) "Reader" "peek" S := by
  refine dmethO F kc.mt kc.cl sc_Reader_peek (FunD.bindsN F fun _ _ _ _ _ _ us hl => match us, hl with | [_], _ => rfl) hbl len (fun cdv A outer s H E g => ?_) spec
  exact (css_one (cs_ret (ce_ix (CE.q (ce_ix (CE.q (ce_rdP (cp_fld (ks := ["Reader"]) kc.fld (cp_var (pv 0))))) (CE.q (ce_rdP (cp_fld (ks := ["Reader"]) kc.fld (cp_var (pv 0))))))) (CE.q ce_int))))
theorem sc_Reader_where : FnScope ["self"] ["self"] (defScope st_Reader_where) := ⟨rfl, rfl, rfl, by decide +kernel, rfl, by decide +kernel, by decide +kernel⟩
theorem c_Reader_where {fd : FuncData} {k : Nat} {S : DFO} (F : FunD K "where" "Reader.where" (defArgs st_Reader_where) (defBody st_Reader_where) (defScope st_Reader_where) [] [] (He.ma K (C "Reader") "where") fd) (hbl : ∀ n, bl0 n = true → mg n = none) (kc : KC K mg C TB) (kg : GDs P w K mg C GDS)
    (len : ∀ ds Q Xq, S ds Q Xq → ds.length = 1) (spec : ∀ ads vs ass Qd Xq, S ads Qd Xq → vs.length = ads.length → ass.length = ads.length → b_Reader_where (kO ads vs Qd Xq) (startO 1 ads vs ass)) : CalMO P w K mg base C (k + 1) "Reader" "where" S := by
  refine dmethO F kc.mt kc.cl sc_Reader_where (FunD.bindsN F fun _ _ _ _ _ _ us hl => match us, hl with | [_], _ => rfl) hbl len (fun cdv A outer s H E g => ?_) spec
  exact (css_one (cs_ret (ce_ix (CE.q (ce_ix (CE.q (ce_rdP (cp_fld (ks := ["Reader"]) kc.fld (cp_var (pv 0))))) (CE.q (ce_rdP (cp_fld (ks := ["Reader"]) kc.fld (cp_var (pv 0))))))) (CE.q ce_int))))
theorem sc_Reader_sees_name : FnScope ["self"] ["self"] (defScope st_Reader_sees_name) := ⟨rfl, rfl, rfl, by decide +kernel, rfl, by decide +kernel, by decide +kernel⟩
theorem c_Reader_sees_name {fd : FuncData} {k : Nat} {S : DFO} {S_Reader_peek : DFO} (F : FunD K "sees_name" "Reader.sees_name" (defArgs st_Reader_sees_name) (defBody st_Reader_sees_name) (defScope st_Reader_sees_name) [] [] (He.ma K (C "Reader") "sees_name") fd) (hbl : ∀ n, bl0 n = true → mg n = none) (kc : KC K mg C TB) (kg : GDs P w K mg C GDS)
    (hm_Reader_peek : CalMO P w K mg base C k "Reader" "peek" S_Reader_peek)
    (len : ∀ ds Q Xq, S ds Q Xq → ds.length = 1) (spec : ∀ ads vs ass Qd Xq, S ads Qd Xq → vs.length = ads.length → ass.length = ads.length → b_Reader_sees_name S_Reader_peek (kO ads vs Qd Xq) (startO 1 ads vs ass)) : CalMO P w K mg base C (k + 1) "Reader" "sees_name" S := by
  refine dmethO F kc.mt kc.cl sc_Reader_sees_name (FunD.bindsN F fun _ _ _ _ _ _ us hl => match us, hl with | [_], _ => rfl) hbl len (fun cdv A outer s H E g => ?_) spec
  exact (css_one (cs_retY (cy_and (cy_e (ce_eq g.toGE (CE.q (ce_ix (CE.q (ce_ix (CE.q (ce_rdP (cp_fld (ks := ["Reader"]) kc.fld (cp_var (pv 0))))) (CE.q (ce_rdP (cp_fld (ks := ["Reader"]) kc.fld (cp_var (pv 0))))))) (CE.q ce_int))) (CE.q ce_str))) (cy_and1 (cy_nin g.toGE (cy_meth0 hm_Reader_peek g.toGE (pv 0) (Nat.le_refl _)) (cy_e (ce_gTup kc.tup)))))))
theorem sc_Reader_sees_number : FnScope ["self"] ["self"] (defScope st_Reader_sees_number) := ⟨rfl, rfl, rfl, by decide +kernel, rfl, by decide +kernel, by decide +kernel⟩
theorem c_Reader_sees_number {fd : FuncData} {k : Nat} {S : DFO} (F : FunD K "sees_number" "Reader.sees_number" (defArgs st_Reader_sees_number) (defBody st_Reader_sees_number) (defScope st_Reader_sees_number) [] [] (He.ma K (C "Reader") "sees_number") fd) (hbl : ∀ n, bl0 n = true → mg n = none) (kc : KC K mg C TB) (kg : GDs P w K mg C GDS)
    (len : ∀ ds Q Xq, S ds Q Xq → ds.length = 1) (spec : ∀ ads vs ass Qd Xq, S ads Qd Xq → vs.length = ads.length → ass.length = ads.length → b_Reader_sees_number (kO ads vs Qd Xq) (startO 1 ads vs ass)) : CalMO P w K mg base C (k + 1) "Reader" "sees_number" S := by
  refine dmethO F kc.mt kc.cl sc_Reader_sees_number (FunD.bindsN F fun _ _ _ _ _ _ us hl => match us, hl with | [_], _ => rfl) hbl len (fun cdv A outer s H E g => ?_) spec
  exact (css_one (cs_ret (ce_eq g.toGE (CE.q (ce_ix (CE.q (ce_ix (CE.q (ce_rdP (cp_fld (ks := ["Reader"]) kc.fld (cp_var (pv 0))))) (CE.q (ce_rdP (cp_fld (ks := ["Reader"]) kc.fld (cp_var (pv 0))))))) (CE.q ce_int))) (CE.q ce_str))))
theorem sc_Reader_fault : FnScope ["self"] ["self"] (defScope st_Reader_fault) := ⟨rfl, rfl, rfl, by decide +kernel, rfl, by decide +kernel, by decide +kernel⟩
theorem c_Reader_fault {fd : FuncData} {k : Nat} {S : DFO} (F : FunD K "fault" "Reader.fault" (defArgs st_Reader_fault) (defBody st_Reader_fault) (defScope st_Reader_fault) [] [] (He.ma K (C "Reader") "fault") fd) (hbl : ∀ n, bl0 n = true → mg n = none) (kc : KC K mg C TB) (kg : GDs P w K mg C GDS)
    (hx_InvalidText : Ex1 P w K mg base C "InvalidText" "position")
    (len : ∀ ds Q Xq, S ds Q Xq → ds.length = 1) (spec : ∀ ads vs ass Qd Xq, S ads Qd Xq → vs.length = ads.length → ass.length = ads.length → b_Reader_fault (kO ads vs Qd Xq) (startO 1 ads vs ass)) : CalMO P w K mg base C (k + 3) "Reader" "fault" S := by
  refine dmethO F kc.mt kc.cl sc_Reader_fault (FunD.bindsN F fun _ _ _ _ _ _ us hl => match us, hl with | [_], _ => rfl) hbl len (fun cdv A outer s H E g => ?_) spec
  exact (css_one (cs_raise1 hx_InvalidText g.toGE (ce_ix (CE.q (ce_ix (CE.q (ce_rdP (cp_fld (ks := ["Reader"]) kc.fld (cp_var (pv 0))))) (CE.q (ce_rdP (cp_fld (ks := ["Reader"]) kc.fld (cp_var (pv 0))))))) (CE.q ce_int)) (by omega)))
theorem sc_Reader_take : FnScope ["self", "word"] ["self", "word"] (defScope st_Reader_take) := ⟨rfl, rfl, rfl, by decide +kernel, rfl, by decide +kernel, by decide +kernel⟩
theorem c_Reader_take {fd : FuncData} {k : Nat} {S : DFO} {S_Reader_peek : DFO} {S_Reader_fault : DFO} (F : FunD K "take" "Reader.take" (defArgs st_Reader_take) (defBody st_Reader_take) (defScope st_Reader_take) [] [] (He.ma K (C "Reader") "take") fd) (hbl : ∀ n, bl0 n = true → mg n = none) (kc : KC K mg C TB) (kg : GDs P w K mg C GDS)
    (hm_Reader_peek : CalMO P w K mg base C k "Reader" "peek" S_Reader_peek)
    (hm_Reader_fault : CalMO P w K mg base C k "Reader" "fault" S_Reader_fault)
    (len : ∀ ds Q Xq, S ds Q Xq → ds.length = 2) (spec : ∀ ads vs ass Qd Xq, S ads Qd Xq → vs.length = ads.length → ass.length = ads.length → b_Reader_take S_Reader_peek S_Reader_fault (kO ads vs Qd Xq) (startO 2 ads vs ass)) : CalMO P w K mg base C (k + 1) "Reader" "take" S := by
  refine dmethO F kc.mt kc.cl sc_Reader_take (FunD.bindsN F fun _ _ _ _ _ _ us hl => match us, hl with | [_, _], _ => rfl) hbl len (fun cdv A outer s H E g => ?_) spec
  exact (css_cons (cs_ifY (cyt_ne g.toGE (cy_meth0 hm_Reader_peek g.toGE (pv 0) (Nat.le_refl _)) (cy_e (ce_var (pv 1))))
    (css_one (cs_exprY (cy_meth0 hm_Reader_fault g.toGE (pv 0) (Nat.le_refl _))))
    css_nil)
  (css_one (cs_putF (ks := ["Reader"]) kc.fld (cp_var (pv 0)) (cf_leaf (ce_add (CE.q (ce_rdP (cp_fld (ks := ["Reader"]) kc.fld (cp_var (pv 0))))) (CE.q ce_int))))))
theorem sc_Reader_take_name : FnScope ["self"] ["self"] (defScope st_Reader_take_name) := ⟨rfl, rfl, rfl, by decide +kernel, rfl, by decide +kernel, by decide +kernel⟩
theorem c_Reader_take_name {fd : FuncData} {k : Nat} {S : DFO} {S_Reader_sees_name : DFO} {S_Reader_fault : DFO} (F : FunD K "take_name" "Reader.take_name" (defArgs st_Reader_take_name) (defBody st_Reader_take_name) (defScope st_Reader_take_name) [] [] (He.ma K (C "Reader") "take_name") fd) (hbl : ∀ n, bl0 n = true → mg n = none) (kc : KC K mg C TB) (kg : GDs P w K mg C GDS)
    (hm_Reader_sees_name : CalMO P w K mg base C k "Reader" "sees_name" S_Reader_sees_name)
    (hm_Reader_fault : CalMO P w K mg base C k "Reader" "fault" S_Reader_fault)
    (len : ∀ ds Q Xq, S ds Q Xq → ds.length = 1) (spec : ∀ ads vs ass Qd Xq, S ads Qd Xq → vs.length = ads.length → ass.length = ads.length → b_Reader_take_name S_Reader_sees_name S_Reader_fault (kO ads vs Qd Xq) (startO 1 ads vs ass)) : CalMO P w K mg base C (k + 1) "Reader" "take_name" S := by
  refine dmethO F kc.mt kc.cl sc_Reader_take_name (FunD.bindsN F fun _ _ _ _ _ _ us hl => match us, hl with | [_], _ => rfl) hbl len (fun cdv A outer s H E g => ?_) spec
  exact (css_cons (cs_ifY (cyt_not (cyt_b (cy_meth0 hm_Reader_sees_name g.toGE (pv 0) (Nat.le_refl _))))
    (css_one (cs_exprY (cy_meth0 hm_Reader_fault g.toGE (pv 0) (Nat.le_refl _))))
    css_nil)
  (css_cons (cs_putF (ks := ["Reader"]) kc.fld (cp_var (pv 0)) (cf_leaf (ce_add (CE.q (ce_rdP (cp_fld (ks := ["Reader"]) kc.fld (cp_var (pv 0))))) (CE.q ce_int))))
  (css_one (cs_ret (ce_ix (CE.q (ce_ix (CE.q (ce_rdP (cp_fld (ks := ["Reader"]) kc.fld (cp_var (pv 0))))) (CE.q (ce_sub (CE.q (ce_rdP (cp_fld (ks := ["Reader"]) kc.fld (cp_var (pv 0))))) (CE.q ce_int))))) (CE.q ce_int))))))
theorem sc_Reader_take_number : FnScope ["self"] ["self"] (defScope st_Reader_take_number) := ⟨rfl, rfl, rfl, by decide +kernel, rfl, by decide +kernel, by decide +kernel⟩
theorem c_Reader_take_number {fd : FuncData} {k : Nat} {S : DFO} {S_Reader_sees_number : DFO} {S_Reader_fault : DFO} (F : FunD K "take_number" "Reader.take_number" (defArgs st_Reader_take_number) (defBody st_Reader_take_number) (defScope st_Reader_take_number) [] [] (He.ma K (C "Reader") "take_number") fd) (hbl : ∀ n, bl0 n = true → mg n = none) (kc : KC K mg C TB) (kg : GDs P w K mg C GDS)
    (hm_Reader_sees_number : CalMO P w K mg base C k "Reader" "sees_number" S_Reader_sees_number)
    (hm_Reader_fault : CalMO P w K mg base C k "Reader" "fault" S_Reader_fault)
    (len : ∀ ds Q Xq, S ds Q Xq → ds.length = 1) (spec : ∀ ads vs ass Qd Xq, S ads Qd Xq → vs.length = ads.length → ass.length = ads.length → b_Reader_take_number S_Reader_sees_number S_Reader_fault (kO ads vs Qd Xq) (startO 1 ads vs ass)) : CalMO P w K mg base C (k + 1) "Reader" "take_number" S := by
  refine dmethO F kc.mt kc.cl sc_Reader_take_number (FunD.bindsN F fun _ _ _ _ _ _ us hl => match us, hl with | [_], _ => rfl) hbl len (fun cdv A outer s H E g => ?_) spec
  exact (css_cons (cs_ifY (cyt_not (cyt_b (cy_meth0 hm_Reader_sees_number g.toGE (pv 0) (Nat.le_refl _))))
    (css_one (cs_exprY (cy_meth0 hm_Reader_fault g.toGE (pv 0) (Nat.le_refl _))))
    css_nil)
  (css_cons (cs_putF (ks := ["Reader"]) kc.fld (cp_var (pv 0)) (cf_leaf (ce_add (CE.q (ce_rdP (cp_fld (ks := ["Reader"]) kc.fld (cp_var (pv 0))))) (CE.q ce_int))))
  (css_one (cs_ret (ce_intS g.toGE (CE.q (ce_ix (CE.q (ce_ix (CE.q (ce_rdP (cp_fld (ks := ["Reader"]) kc.fld (cp_var (pv 0))))) (CE.q (ce_sub (CE.q (ce_rdP (cp_fld (ks := ["Reader"]) kc.fld (cp_var (pv 0))))) (CE.q ce_int))))) (CE.q ce_int))))))))
theorem sc_Reader_take_end : FnScope ["self"] ["self"] (defScope st_Reader_take_end) := ⟨rfl, rfl, rfl, by decide +kernel, rfl, by decide +kernel, by decide +kernel⟩
theorem c_Reader_take_end {fd : FuncData} {k : Nat} {S : DFO} {S_Reader_fault : DFO} (F : FunD K "take_end" "Reader.take_end" (defArgs st_Reader_take_end) (defBody st_Reader_take_end) (defScope st_Reader_take_end) [] [] (He.ma K (C "Reader") "take_end") fd) (hbl : ∀ n, bl0 n = true → mg n = none) (kc : KC K mg C TB) (kg : GDs P w K mg C GDS)
    (hm_Reader_fault : CalMO P w K mg base C k "Reader" "fault" S_Reader_fault)
    (len : ∀ ds Q Xq, S ds Q Xq → ds.length = 1) (spec : ∀ ads vs ass Qd Xq, S ads Qd Xq → vs.length = ads.length → ass.length = ads.length → b_Reader_take_end S_Reader_fault (kO ads vs Qd Xq) (startO 1 ads vs ass)) : CalMO P w K mg base C (k + 1) "Reader" "take_end" S := by
  refine dmethO F kc.mt kc.cl sc_Reader_take_end (FunD.bindsN F fun _ _ _ _ _ _ us hl => match us, hl with | [_], _ => rfl) hbl len (fun cdv A outer s H E g => ?_) spec
  exact (css_one (cs_if (ct_ne g.toGE (CE.q (ce_ix (CE.q (ce_ix (CE.q (ce_rdP (cp_fld (ks := ["Reader"]) kc.fld (cp_var (pv 0))))) (CE.q (ce_rdP (cp_fld (ks := ["Reader"]) kc.fld (cp_var (pv 0))))))) (CE.q ce_int))) (CE.q ce_str))
    (css_one (cs_exprY (cy_meth0 hm_Reader_fault g.toGE (pv 0) (Nat.le_refl _))))
    css_nil))
theorem sc_Measure___init__ : FnScope ["self"] ["self"] (defScope st_Measure___init__) := ⟨rfl, rfl, rfl, by decide +kernel, rfl, by decide +kernel, by decide +kernel⟩
theorem c_Measure___init__ {fd : FuncData} {k : Nat} {S : DI} (F : FunD K "__init__" "Measure.__init__" (defArgs st_Measure___init__) (defBody st_Measure___init__) (defScope st_Measure___init__) [] [] (He.ma K (C "Measure") "__init__") fd) (hbl : ∀ n, bl0 n = true → mg n = none) (kc : KC K mg C TB) (kg : GDs P w K mg C GDS)
    (len : ∀ ds Q Xq, S ds Q Xq → ds.length = 0) (spec : ∀ a ds Qf Xq, S ds Qf Xq → b_Measure___init__ (kI a "Measure" Qf Xq) (startI 1 a "Measure" ds)) : CalI P w K mg base C (k + 1) "Measure" S := by
  refine ⟨_, fd, ["self"], dinit F sc_Measure___init__ hbl (fun ds Q Xq h => by rw [len ds Q Xq h]; rfl) (fun cdv A outer s H E g => ?_) spec, kc.mkr, kc.g, FunD.bindsN F fun _ _ _ _ _ _ us hl => match us, hl with | [_], _ => rfl⟩
  exact (css_cons (cs_setF (ks := ["Measure"]) 0 kc.fld (pv 0) ce_int)
  (css_one (cs_setF (ks := ["Measure"]) 0 kc.fld (pv 0) ce_int)))
theorem sc_take_operator : FnScope ["reader", "measure", "sign"] ["reader", "measure"] (defScope st_take_operator) := ⟨rfl, rfl, rfl, by decide +kernel, rfl, by decide +kernel, by decide +kernel⟩
theorem c_take_operator {f : Addr} {fd : FuncData} {k : Nat} {S : DFO} {S_Reader_fault : DFO} {S_Reader_peek : DFO} {S_Reader_take : DFO} (F : FunD K "take_operator" "take_operator" (defArgs st_take_operator) (defBody st_take_operator) (defScope st_take_operator) [] [] f fd) (gf : mg "take_operator" = some (.ref f)) (hbl : ∀ n, bl0 n = true → mg n = none) (kc : KC K mg C TB) (kg : GDs P w K mg C GDS)
    (hm_Reader_fault : CalMO P w K mg base C k "Reader" "fault" S_Reader_fault)
    (hm_Reader_peek : CalMO P w K mg base C k "Reader" "peek" S_Reader_peek)
    (hm_Reader_take : CalMO P w K mg base C k "Reader" "take" S_Reader_take)
    (len : ∀ ds Q Xq, S ds Q Xq → ds.length = 2) (spec : ∀ ads vs ass Qd Xq, S ads Qd Xq → vs.length = ads.length → ass.length = ads.length → b_take_operator S_Reader_fault S_Reader_peek S_Reader_take (kO ads vs Qd Xq) (startO 3 ads vs ass)) : CalO P w K mg base C (k + 1) "take_operator" S := by
  refine dfnO1 F gf sc_take_operator (FunD.bindsN F fun _ _ _ _ _ _ us hl => match us, hl with | [_, _], _ => rfl) hbl len (fun cdv A outer s H E g => ?_) spec
  exact (css_cons (cs_if (ct_eq g.toGE (CE.q (ce_rdP (cp_fld (ks := ["Measure"]) kc.fld (cp_var (pv 1))))) (CE.q (ce_gInt kc.int)))
    (css_one (cs_exprY (cy_meth0 hm_Reader_fault g.toGE (pv 0) (Nat.le_refl _))))
    css_nil)
  (css_cons (cs_putF (ks := ["Measure"]) kc.fld (cp_var (pv 1)) (cf_leaf (ce_add (CE.q (ce_rdP (cp_fld (ks := ["Measure"]) kc.fld (cp_var (pv 1))))) (CE.q ce_int))))
  (css_cons (cs_setY 2 sc_take_operator.nd (cy_meth0 hm_Reader_peek g.toGE (pv 0) (Nat.le_refl _)))
  (css_cons (cs_exprY (cy_meth hm_Reader_take g.toGE (pv 0) (cwa_e (ce_var (pv 2)) cwa_nil) (Nat.le_refl _)))
  (css_one (cs_retv (pv 2)))))))
theorem sc_read_either : FnScope ["reader", "measure", "left", "sign"] ["reader", "measure"] (defScope st_read_either) := ⟨rfl, rfl, rfl, by decide +kernel, rfl, by decide +kernel, by decide +kernel⟩
theorem c_read_either {f : Addr} {fd : FuncData} {k : Nat} {S : DFO} {S_read_each : DFO} {S_Reader_peek : DFO} {S_take_operator : DFO} (F : FunD K "read_either" "read_either" (defArgs st_read_either) (defBody st_read_either) (defScope st_read_either) [] [] f fd) (gf : mg "read_either" = some (.ref f)) (hbl : ∀ n, bl0 n = true → mg n = none) (kc : KC K mg C TB) (kg : GDs P w K mg C GDS)
    (h_read_each : CalO P w K mg base C k "read_each" S_read_each)
    (hm_Reader_peek : CalMO P w K mg base C k "Reader" "peek" S_Reader_peek)
    (h_take_operator : CalO P w K mg base C k "take_operator" S_take_operator)
    (len : ∀ ds Q Xq, S ds Q Xq → ds.length = 2) (spec : ∀ ads vs ass Qd Xq, S ads Qd Xq → vs.length = ads.length → ass.length = ads.length → b_read_either S_read_each S_Reader_peek S_take_operator (kO ads vs Qd Xq) (startO 4 ads vs ass)) : CalO P w K mg base C (k + 1) "read_either" S := by
  refine dfnO1 F gf sc_read_either (FunD.bindsN F fun _ _ _ _ _ _ us hl => match us, hl with | [_, _], _ => rfl) hbl len (fun cdv A outer s H E g => ?_) spec
  exact (css_cons (cs_setY 2 sc_read_either.nd (cy_call h_read_each g.toGE (cwa_v (pv 0) (cwa_v (pv 1) cwa_nil)) (Nat.le_refl _)))
  (css_cons (cs_whileY g (cyt_eq g.toGE (cy_meth0 hm_Reader_peek g.toGE (pv 0) (Nat.le_refl _)) (cy_e ce_str))
    (css_cons (cs_setY 3 sc_read_either.nd (cy_call h_take_operator g.toGE (cwa_v (pv 0) (cwa_v (pv 1) cwa_nil)) (Nat.le_refl _)))
    (css_one (cs_setY 2 sc_read_either.nd (cy_tup (cya_cons (cy_e (ce_var (pv 3))) (cya_cons (cy_e (ce_var (pv 2))) (cya_cons (cy_call h_read_each g.toGE (cwa_v (pv 0) (cwa_v (pv 1) cwa_nil)) (Nat.le_refl _)) cya_nil))))))))
  (css_one (cs_retv (pv 2)))))
theorem sc_read_each : FnScope ["reader", "measure", "left", "sign"] ["reader", "measure"] (defScope st_read_each) := ⟨rfl, rfl, rfl, by decide +kernel, rfl, by decide +kernel, by decide +kernel⟩
theorem c_read_each {f : Addr} {fd : FuncData} {k : Nat} {S : DFO} {S_read_plain : DFO} {S_Reader_peek : DFO} {S_take_operator : DFO} (F : FunD K "read_each" "read_each" (defArgs st_read_each) (defBody st_read_each) (defScope st_read_each) [] [] f fd) (gf : mg "read_each" = some (.ref f)) (hbl : ∀ n, bl0 n = true → mg n = none) (kc : KC K mg C TB) (kg : GDs P w K mg C GDS)
    (h_read_plain : CalO P w K mg base C k "read_plain" S_read_plain)
    (hm_Reader_peek : CalMO P w K mg base C k "Reader" "peek" S_Reader_peek)
    (h_take_operator : CalO P w K mg base C k "take_operator" S_take_operator)
    (len : ∀ ds Q Xq, S ds Q Xq → ds.length = 2) (spec : ∀ ads vs ass Qd Xq, S ads Qd Xq → vs.length = ads.length → ass.length = ads.length → b_read_each S_read_plain S_Reader_peek S_take_operator (kO ads vs Qd Xq) (startO 4 ads vs ass)) : CalO P w K mg base C (k + 1) "read_each" S := by
  refine dfnO1 F gf sc_read_each (FunD.bindsN F fun _ _ _ _ _ _ us hl => match us, hl with | [_, _], _ => rfl) hbl len (fun cdv A outer s H E g => ?_) spec
  exact (css_cons (cs_setY 2 sc_read_each.nd (cy_call h_read_plain g.toGE (cwa_v (pv 0) (cwa_v (pv 1) cwa_nil)) (Nat.le_refl _)))
  (css_cons (cs_whileY g (cyt_eq g.toGE (cy_meth0 hm_Reader_peek g.toGE (pv 0) (Nat.le_refl _)) (cy_e ce_str))
    (css_cons (cs_setY 3 sc_read_each.nd (cy_call h_take_operator g.toGE (cwa_v (pv 0) (cwa_v (pv 1) cwa_nil)) (Nat.le_refl _)))
    (css_one (cs_setY 2 sc_read_each.nd (cy_tup (cya_cons (cy_e (ce_var (pv 3))) (cya_cons (cy_e (ce_var (pv 2))) (cya_cons (cy_call h_read_plain g.toGE (cwa_v (pv 0) (cwa_v (pv 1) cwa_nil)) (Nat.le_refl _)) cya_nil))))))))
  (css_one (cs_retv (pv 2)))))
theorem sc_read_plain : FnScope ["reader", "measure", "sign"] ["reader", "measure"] (defScope st_read_plain) := ⟨rfl, rfl, rfl, by decide +kernel, rfl, by decide +kernel, by decide +kernel⟩
theorem c_read_plain {f : Addr} {fd : FuncData} {k : Nat} {S : DFO} {S_Reader_peek : DFO} {S_read_compared : DFO} {S_take_operator : DFO} (F : FunD K "read_plain" "read_plain" (defArgs st_read_plain) (defBody st_read_plain) (defScope st_read_plain) [] [] f fd) (gf : mg "read_plain" = some (.ref f)) (hbl : ∀ n, bl0 n = true → mg n = none) (kc : KC K mg C TB) (kg : GDs P w K mg C GDS)
    (hm_Reader_peek : CalMO P w K mg base C k "Reader" "peek" S_Reader_peek)
    (h_read_compared : CalO P w K mg base C k "read_compared" S_read_compared)
    (h_take_operator : CalO P w K mg base C k "take_operator" S_take_operator)
    (len : ∀ ds Q Xq, S ds Q Xq → ds.length = 2) (spec : ∀ ads vs ass Qd Xq, S ads Qd Xq → vs.length = ads.length → ass.length = ads.length → b_read_plain S_Reader_peek S_read_compared S_take_operator (kO ads vs Qd Xq) (startO 3 ads vs ass)) : CalO P w K mg base C (k + 1) "read_plain" S := by
  refine dfnO1 F gf sc_read_plain (FunD.bindsN F fun _ _ _ _ _ _ us hl => match us, hl with | [_, _], _ => rfl) hbl len (fun cdv A outer s H E g => ?_) spec
  exact (css_cons (cs_ifY (cyt_ne g.toGE (cy_meth0 hm_Reader_peek g.toGE (pv 0) (Nat.le_refl _)) (cy_e ce_str))
    (css_one (cs_retY (cy_call h_read_compared g.toGE (cwa_v (pv 0) (cwa_v (pv 1) cwa_nil)) (Nat.le_refl _))))
    css_nil)
  (css_cons (cs_setY 2 sc_read_plain.nd (cy_call h_take_operator g.toGE (cwa_v (pv 0) (cwa_v (pv 1) cwa_nil)) (Nat.le_refl _)))
  (css_one (cs_retY (cy_tup (cya_cons (cy_e (ce_var (pv 2))) (cya_cons (cy_call h_read_compared g.toGE (cwa_v (pv 0) (cwa_v (pv 1) cwa_nil)) (Nat.le_refl _)) cya_nil)))))))
theorem sc_read_compared : FnScope ["reader", "measure", "left", "sign"] ["reader", "measure"] (defScope st_read_compared) := ⟨rfl, rfl, rfl, by decide +kernel, rfl, by decide +kernel, by decide +kernel⟩
theorem c_read_compared {f : Addr} {fd : FuncData} {k : Nat} {S : DFO} {S_read_sum : DFO} {S_Reader_peek : DFO} {S_take_operator : DFO} (F : FunD K "read_compared" "read_compared" (defArgs st_read_compared) (defBody st_read_compared) (defScope st_read_compared) [] [] f fd) (gf : mg "read_compared" = some (.ref f)) (hbl : ∀ n, bl0 n = true → mg n = none) (kc : KC K mg C TB) (kg : GDs P w K mg C GDS)
    (h_read_sum : CalO P w K mg base C k "read_sum" S_read_sum)
    (hm_Reader_peek : CalMO P w K mg base C k "Reader" "peek" S_Reader_peek)
    (h_take_operator : CalO P w K mg base C k "take_operator" S_take_operator)
    (len : ∀ ds Q Xq, S ds Q Xq → ds.length = 2) (spec : ∀ ads vs ass Qd Xq, S ads Qd Xq → vs.length = ads.length → ass.length = ads.length → b_read_compared S_read_sum S_Reader_peek S_take_operator (kO ads vs Qd Xq) (startO 4 ads vs ass)) : CalO P w K mg base C (k + 1) "read_compared" S := by
  refine dfnO1 F gf sc_read_compared (FunD.bindsN F fun _ _ _ _ _ _ us hl => match us, hl with | [_, _], _ => rfl) hbl len (fun cdv A outer s H E g => ?_) spec
  exact (css_cons (cs_setY 2 sc_read_compared.nd (cy_call h_read_sum g.toGE (cwa_v (pv 0) (cwa_v (pv 1) cwa_nil)) (Nat.le_refl _)))
  (css_cons (cs_ifY (cyt_nin g.toGE (cy_meth0 hm_Reader_peek g.toGE (pv 0) (Nat.le_refl _)) (cy_e (ce_tup (ca_cons ce_str (ca_cons ce_str ca_nil)))))
    (css_one (cs_retv (pv 2)))
    css_nil)
  (css_cons (cs_setY 3 sc_read_compared.nd (cy_call h_take_operator g.toGE (cwa_v (pv 0) (cwa_v (pv 1) cwa_nil)) (Nat.le_refl _)))
  (css_one (cs_retY (cy_tup (cya_cons (cy_e (ce_var (pv 3))) (cya_cons (cy_e (ce_var (pv 2))) (cya_cons (cy_call h_read_sum g.toGE (cwa_v (pv 0) (cwa_v (pv 1) cwa_nil)) (Nat.le_refl _)) cya_nil)))))))))
theorem sc_read_sum : FnScope ["reader", "measure", "left", "sign"] ["reader", "measure"] (defScope st_read_sum) := ⟨rfl, rfl, rfl, by decide +kernel, rfl, by decide +kernel, by decide +kernel⟩
theorem c_read_sum {f : Addr} {fd : FuncData} {k : Nat} {S : DFO} {S_read_product : DFO} {S_Reader_peek : DFO} {S_take_operator : DFO} (F : FunD K "read_sum" "read_sum" (defArgs st_read_sum) (defBody st_read_sum) (defScope st_read_sum) [] [] f fd) (gf : mg "read_sum" = some (.ref f)) (hbl : ∀ n, bl0 n = true → mg n = none) (kc : KC K mg C TB) (kg : GDs P w K mg C GDS)
    (h_read_product : CalO P w K mg base C k "read_product" S_read_product)
    (hm_Reader_peek : CalMO P w K mg base C k "Reader" "peek" S_Reader_peek)
    (h_take_operator : CalO P w K mg base C k "take_operator" S_take_operator)
    (len : ∀ ds Q Xq, S ds Q Xq → ds.length = 2) (spec : ∀ ads vs ass Qd Xq, S ads Qd Xq → vs.length = ads.length → ass.length = ads.length → b_read_sum S_read_product S_Reader_peek S_take_operator (kO ads vs Qd Xq) (startO 4 ads vs ass)) : CalO P w K mg base C (k + 1) "read_sum" S := by
  refine dfnO1 F gf sc_read_sum (FunD.bindsN F fun _ _ _ _ _ _ us hl => match us, hl with | [_, _], _ => rfl) hbl len (fun cdv A outer s H E g => ?_) spec
  exact (css_cons (cs_setY 2 sc_read_sum.nd (cy_call h_read_product g.toGE (cwa_v (pv 0) (cwa_v (pv 1) cwa_nil)) (Nat.le_refl _)))
  (css_cons (cs_whileY g (cyt_in g.toGE (cy_meth0 hm_Reader_peek g.toGE (pv 0) (Nat.le_refl _)) (cy_e (ce_tup (ca_cons ce_str (ca_cons ce_str ca_nil)))))
    (css_cons (cs_setY 3 sc_read_sum.nd (cy_call h_take_operator g.toGE (cwa_v (pv 0) (cwa_v (pv 1) cwa_nil)) (Nat.le_refl _)))
    (css_one (cs_setY 2 sc_read_sum.nd (cy_tup (cya_cons (cy_e (ce_var (pv 3))) (cya_cons (cy_e (ce_var (pv 2))) (cya_cons (cy_call h_read_product g.toGE (cwa_v (pv 0) (cwa_v (pv 1) cwa_nil)) (Nat.le_refl _)) cya_nil))))))))
  (css_one (cs_retv (pv 2)))))
theorem sc_read_product : FnScope ["reader", "measure", "left", "sign"] ["reader", "measure"] (defScope st_read_product) := ⟨rfl, rfl, rfl, by decide +kernel, rfl, by decide +kernel, by decide +kernel⟩
theorem c_read_product {f : Addr} {fd : FuncData} {k : Nat} {S : DFO} {S_read_atom : DFO} {S_Reader_peek : DFO} {S_take_operator : DFO} (F : FunD K "read_product" "read_product" (defArgs st_read_product) (defBody st_read_product) (defScope st_read_product) [] [] f fd) (gf : mg "read_product" = some (.ref f)) (hbl : ∀ n, bl0 n = true → mg n = none) (kc : KC K mg C TB) (kg : GDs P w K mg C GDS)
    (h_read_atom : CalO P w K mg base C k "read_atom" S_read_atom)
    (hm_Reader_peek : CalMO P w K mg base C k "Reader" "peek" S_Reader_peek)
    (h_take_operator : CalO P w K mg base C k "take_operator" S_take_operator)
    (len : ∀ ds Q Xq, S ds Q Xq → ds.length = 2) (spec : ∀ ads vs ass Qd Xq, S ads Qd Xq → vs.length = ads.length → ass.length = ads.length → b_read_product S_read_atom S_Reader_peek S_take_operator (kO ads vs Qd Xq) (startO 4 ads vs ass)) : CalO P w K mg base C (k + 1) "read_product" S := by
  refine dfnO1 F gf sc_read_product (FunD.bindsN F fun _ _ _ _ _ _ us hl => match us, hl with | [_, _], _ => rfl) hbl len (fun cdv A outer s H E g => ?_) spec
  exact (css_cons (cs_setY 2 sc_read_product.nd (cy_call h_read_atom g.toGE (cwa_v (pv 0) (cwa_v (pv 1) cwa_nil)) (Nat.le_refl _)))
  (css_cons (cs_whileY g (cyt_eq g.toGE (cy_meth0 hm_Reader_peek g.toGE (pv 0) (Nat.le_refl _)) (cy_e ce_str))
    (css_cons (cs_setY 3 sc_read_product.nd (cy_call h_take_operator g.toGE (cwa_v (pv 0) (cwa_v (pv 1) cwa_nil)) (Nat.le_refl _)))
    (css_one (cs_setY 2 sc_read_product.nd (cy_tup (cya_cons (cy_e (ce_var (pv 3))) (cya_cons (cy_e (ce_var (pv 2))) (cya_cons (cy_call h_read_atom g.toGE (cwa_v (pv 0) (cwa_v (pv 1) cwa_nil)) (Nat.le_refl _)) cya_nil))))))))
  (css_one (cs_retv (pv 2)))))
theorem sc_read_atom : FnScope ["reader", "measure", "inner"] ["reader", "measure"] (defScope st_read_atom) := ⟨rfl, rfl, rfl, by decide +kernel, rfl, by decide +kernel, by decide +kernel⟩
theorem c_read_atom {f : Addr} {fd : FuncData} {k : Nat} {S : DFO} {S_Reader_sees_number : DFO} {S_Reader_take_number : DFO} {S_Reader_peek : DFO} {S_Reader_take_name : DFO} {S_Reader_fault : DFO} {S_Reader_take : DFO} {S_read_either : DFO} (F : FunD K "read_atom" "read_atom" (defArgs st_read_atom) (defBody st_read_atom) (defScope st_read_atom) [] [] f fd) (gf : mg "read_atom" = some (.ref f)) (hbl : ∀ n, bl0 n = true → mg n = none) (kc : KC K mg C TB) (kg : GDs P w K mg C GDS)
    (hm_Reader_sees_number : CalMO P w K mg base C k "Reader" "sees_number" S_Reader_sees_number)
    (hm_Reader_take_number : CalMO P w K mg base C k "Reader" "take_number" S_Reader_take_number)
    (hm_Reader_peek : CalMO P w K mg base C k "Reader" "peek" S_Reader_peek)
    (hm_Reader_take_name : CalMO P w K mg base C k "Reader" "take_name" S_Reader_take_name)
    (hm_Reader_fault : CalMO P w K mg base C k "Reader" "fault" S_Reader_fault)
    (hm_Reader_take : CalMO P w K mg base C k "Reader" "take" S_Reader_take)
    (h_read_either : CalO P w K mg base C k "read_either" S_read_either)
    (len : ∀ ds Q Xq, S ds Q Xq → ds.length = 2) (spec : ∀ ads vs ass Qd Xq, S ads Qd Xq → vs.length = ads.length → ass.length = ads.length → b_read_atom S_Reader_sees_number S_Reader_take_number S_Reader_peek S_Reader_take_name S_Reader_fault S_Reader_take S_read_either (kO ads vs Qd Xq) (startO 3 ads vs ass)) : CalO P w K mg base C (k + 1) "read_atom" S := by
  refine dfnO1 F gf sc_read_atom (FunD.bindsN F fun _ _ _ _ _ _ us hl => match us, hl with | [_, _], _ => rfl) hbl len (fun cdv A outer s H E g => ?_) spec
  exact (css_cons (cs_ifY (cyt_b (cy_meth0 hm_Reader_sees_number g.toGE (pv 0) (Nat.le_refl _)))
    (css_one (cs_retY (cy_tup (cya_cons (cy_e ce_str) (cya_cons (cy_meth0 hm_Reader_take_number g.toGE (pv 0) (Nat.le_refl _)) cya_nil)))))
    css_nil)
  (css_cons (cs_ifY (cyt_ne g.toGE (cy_meth0 hm_Reader_peek g.toGE (pv 0) (Nat.le_refl _)) (cy_e ce_str))
    (css_one (cs_retY (cy_tup (cya_cons (cy_e ce_str) (cya_cons (cy_meth0 hm_Reader_take_name g.toGE (pv 0) (Nat.le_refl _)) cya_nil)))))
    css_nil)
  (css_cons (cs_if (ct_eq g.toGE (CE.q (ce_rdP (cp_fld (ks := ["Measure"]) kc.fld (cp_var (pv 1))))) (CE.q (ce_gInt kc.int)))
    (css_one (cs_exprY (cy_meth0 hm_Reader_fault g.toGE (pv 0) (Nat.le_refl _))))
    css_nil)
  (css_cons (cs_putF (ks := ["Measure"]) kc.fld (cp_var (pv 1)) (cf_leaf (ce_add (CE.q (ce_rdP (cp_fld (ks := ["Measure"]) kc.fld (cp_var (pv 1))))) (CE.q ce_int))))
  (css_cons (cs_exprY (cy_meth hm_Reader_take g.toGE (pv 0) (cwa_e ce_str cwa_nil) (Nat.le_refl _)))
  (css_cons (cs_setY 2 sc_read_atom.nd (cy_call h_read_either g.toGE (cwa_v (pv 0) (cwa_v (pv 1) cwa_nil)) (Nat.le_refl _)))
  (css_cons (cs_exprY (cy_meth hm_Reader_take g.toGE (pv 0) (cwa_e ce_str cwa_nil) (Nat.le_refl _)))
  (css_cons (cs_putF (ks := ["Measure"]) kc.fld (cp_var (pv 1)) (cf_leaf (ce_sub (CE.q (ce_rdP (cp_fld (ks := ["Measure"]) kc.fld (cp_var (pv 1))))) (CE.q ce_int))))
  (css_one (cs_retv (pv 2)))))))))))
theorem sc_read_place : FnScope ["reader"] ["reader"] (defScope st_read_place) := ⟨rfl, rfl, rfl, by decide +kernel, rfl, by decide +kernel, by decide +kernel⟩
theorem c_read_place {f : Addr} {fd : FuncData} {k : Nat} {S : DFO} {S_read_either : DFO} {S_Measure : DI} (F : FunD K "read_place" "read_place" (defArgs st_read_place) (defBody st_read_place) (defScope st_read_place) [] [] f fd) (gf : mg "read_place" = some (.ref f)) (hbl : ∀ n, bl0 n = true → mg n = none) (kc : KC K mg C TB) (kg : GDs P w K mg C GDS)
    (h_read_either : CalO P w K mg base C k "read_either" S_read_either)
    (hi_Measure : CalI P w K mg base C k "Measure" S_Measure)
    (len : ∀ ds Q Xq, S ds Q Xq → ds.length = 1) (spec : ∀ ads vs ass Qd Xq, S ads Qd Xq → vs.length = ads.length → ass.length = ads.length → b_read_place S_read_either S_Measure (kO ads vs Qd Xq) (startO 1 ads vs ass)) : CalO P w K mg base C (k + 2) "read_place" S := by
  refine dfnO1 F gf sc_read_place (FunD.bindsN F fun _ _ _ _ _ _ us hl => match us, hl with | [_], _ => rfl) hbl len (fun cdv A outer s H E g => ?_) spec
  exact (css_one (cs_retY (cy_callT h_read_either g.toGE (cwt_v (pv 0) (cwt_last (cf_makeO0 hi_Measure g.toGE (by omega)))) (Nat.le_add_right _ _))))
theorem sc_parse_expression : FnScope ["text", "reader", "expression"] ["text"] (defScope st_parse_expression) := ⟨rfl, rfl, rfl, by decide +kernel, rfl, by decide +kernel, by decide +kernel⟩
theorem c_parse_expression {f : Addr} {fd : FuncData} {k : Nat} {S : DF} {S_Reader : DI} {S_split_words : DF} {S_read_place : DFO} {S_Reader_take_end : DFO} (F : FunD K "parse_expression" "parse_expression" (defArgs st_parse_expression) (defBody st_parse_expression) (defScope st_parse_expression) [] [] f fd) (gf : mg "parse_expression" = some (.ref f)) (hbl : ∀ n, bl0 n = true → mg n = none) (kc : KC K mg C TB) (kg : GDs P w K mg C GDS)
    (hi_Reader : CalI P w K mg base C k "Reader" S_Reader)
    (h_split_words : Cal P w K mg base C k "split_words" S_split_words)
    (h_read_place : CalO P w K mg base C k "read_place" S_read_place)
    (hm_Reader_take_end : CalMO P w K mg base C k "Reader" "take_end" S_Reader_take_end)
    (len : ∀ ds Q Xq, S ds Q Xq → ds.length = 1) (spec : ∀ ds Qd Xq, S ds Qd Xq → b_parse_expression S_Reader S_split_words S_read_place S_Reader_take_end (kD Qd Xq) (startD 3 ds)) : Cal P w K mg base C (k + 2) "parse_expression" S := by
  refine dfn F gf sc_parse_expression (FunD.bindsN F fun _ _ _ _ _ _ us hl => match us, hl with | [_], _ => rfl) hbl len (fun cdv A outer s H E g => ?_) spec
  exact (css_cons (cs_newO 1 sc_parse_expression.nd (cf_makeO hi_Reader g.toGE (ca_cons (ce_call h_split_words g.toGE (ca_cons (ce_var (pv 0)) ca_nil) (Nat.le_add_right _ _)) ca_nil) (by omega)))
  (css_cons (cs_setY 2 sc_parse_expression.nd (cy_call h_read_place g.toGE (cwa_v (pv 1) cwa_nil) (Nat.le_add_right _ _)))
  (css_cons (cs_exprY (cy_meth0 hm_Reader_take_end g.toGE (pv 1) (Nat.le_add_right _ _)))
  (css_one (cs_retv (pv 2))))))
theorem sc_written_part : FnScope ["expression", "least", "text"] ["expression", "least"] (defScope st_written_part) := ⟨rfl, rfl, rfl, by decide +kernel, rfl, by decide +kernel, by decide +kernel⟩
theorem c_written_part {f : Addr} {fd : FuncData} {k : Nat} {S : DF} {S_print_expression : DF} (F : FunD K "written_part" "written_part" (defArgs st_written_part) (defBody st_written_part) (defScope st_written_part) [] [] f fd) (gf : mg "written_part" = some (.ref f)) (hbl : ∀ n, bl0 n = true → mg n = none) (kc : KC K mg C TB) (kg : GDs P w K mg C GDS)
    (h_print_expression : Cal P w K mg base C k "print_expression" S_print_expression)
    (len : ∀ ds Q Xq, S ds Q Xq → ds.length = 2) (spec : ∀ ds Qd Xq, S ds Qd Xq → b_written_part S_print_expression (kD Qd Xq) (startD 3 ds)) : Cal P w K mg base C (k + 1) "written_part" S := by
  refine dfn F gf sc_written_part (FunD.bindsN F fun _ _ _ _ _ _ us hl => match us, hl with | [_, _], _ => rfl) hbl len (fun cdv A outer s H E g => ?_) spec
  exact (css_cons (cs_set 2 sc_written_part.nd (ce_call h_print_expression g.toGE (ca_cons (ce_var (pv 0)) ca_nil) (Nat.le_refl _)))
  (css_cons (cs_if (ct_lt (CE.q (ce_gkey kg.dic (CE.q (ce_ix (CE.q (ce_var (pv 0))) (CE.q ce_int))))) (CE.q (ce_var (pv 1))))
    (css_one (cs_ret (ce_add (CE.q (ce_add (CE.q ce_str) (CE.q (ce_var (pv 2))))) (CE.q ce_str))))
    css_nil)
  (css_one (cs_retv (pv 2)))))
theorem sc_print_expression : FnScope ["expression", "sign", "above", "least", "left"] ["expression"] (defScope st_print_expression) := ⟨rfl, rfl, rfl, by decide +kernel, rfl, by decide +kernel, by decide +kernel⟩
theorem c_print_expression {f : Addr} {fd : FuncData} {k : Nat} {S : DF} {S_written_part : DF} (F : FunD K "print_expression" "print_expression" (defArgs st_print_expression) (defBody st_print_expression) (defScope st_print_expression) [] [] f fd) (gf : mg "print_expression" = some (.ref f)) (hbl : ∀ n, bl0 n = true → mg n = none) (kc : KC K mg C TB) (kg : GDs P w K mg C GDS)
    (h_written_part : Cal P w K mg base C k "written_part" S_written_part)
    (len : ∀ ds Q Xq, S ds Q Xq → ds.length = 1) (spec : ∀ ds Qd Xq, S ds Qd Xq → b_print_expression S_written_part (kD Qd Xq) (startD 5 ds)) : Cal P w K mg base C (k + 1) "print_expression" S := by
  refine dfn F gf sc_print_expression (FunD.bindsN F fun _ _ _ _ _ _ us hl => match us, hl with | [_], _ => rfl) hbl len (fun cdv A outer s H E g => ?_) spec
  exact (css_cons (cs_set 1 sc_print_expression.nd (ce_ix (CE.q (ce_var (pv 0))) (CE.q ce_int)))
  (css_cons (cs_if (ct_eq g.toGE (CE.q (ce_var (pv 1))) (CE.q ce_str))
    (css_one (cs_ret (ce_str1 g.toGE (CE.q (ce_ix (CE.q (ce_var (pv 0))) (CE.q ce_int))))))
    css_nil)
  (css_cons (cs_if (ct_eq g.toGE (CE.q (ce_var (pv 1))) (CE.q ce_str))
    (css_one (cs_ret (ce_ix (CE.q (ce_var (pv 0))) (CE.q ce_int))))
    css_nil)
  (css_cons (cs_set 2 sc_print_expression.nd (ce_add (CE.q (ce_gkey kg.dic (CE.q (ce_var (pv 1))))) (CE.q ce_int)))
  (css_cons (cs_if (ct_eq g.toGE (CE.q (ce_var (pv 1))) (CE.q ce_str))
    (css_one (cs_ret (ce_add (CE.q ce_str) (CE.q (ce_call h_written_part g.toGE (ca_cons (ce_ix (CE.q (ce_var (pv 0))) (CE.q ce_int)) (ca_cons (ce_var (pv 2)) ca_nil)) (Nat.le_refl _))))))
    css_nil)
  (css_cons (cs_set 3 sc_print_expression.nd (ce_gkey kg.dic (CE.q (ce_var (pv 1)))))
  (css_cons (cs_if (ct_in g.toGE (CE.q (ce_var (pv 1))) (CE.q (ce_tup (ca_cons ce_str (ca_cons ce_str ca_nil)))))
    (css_one (cs_set 3 sc_print_expression.nd (ce_var (pv 2))))
    css_nil)
  (css_cons (cs_set 4 sc_print_expression.nd (ce_call h_written_part g.toGE (ca_cons (ce_ix (CE.q (ce_var (pv 0))) (CE.q ce_int)) (ca_cons (ce_var (pv 3)) ca_nil)) (Nat.le_refl _)))
  (css_one (cs_ret (ce_add (CE.q (ce_add (CE.q (ce_add (CE.q (ce_add (CE.q (ce_var (pv 4))) (CE.q ce_str))) (CE.q (ce_var (pv 1))))) (CE.q ce_str))) (CE.q (ce_call h_written_part g.toGE (ca_cons (ce_ix (CE.q (ce_var (pv 0))) (CE.q ce_int)) (ca_cons (ce_var (pv 2)) ca_nil)) (Nat.le_refl _))))))))))))))
theorem sc__law_cell : FnScope ["script", "k"] ["script", "k"] (defScope st__law_cell) := ⟨rfl, rfl, rfl, by decide +kernel, rfl, by decide +kernel, by decide +kernel⟩
theorem c__law_cell {f : Addr} {fd : FuncData} {k : Nat} {S : DF} (F : FunD K "_law_cell" "_law_cell" (defArgs st__law_cell) (defBody st__law_cell) (defScope st__law_cell) [] [] f fd) (gf : mg "_law_cell" = some (.ref f)) (hbl : ∀ n, bl0 n = true → mg n = none) (kc : KC K mg C TB) (kg : GDs P w K mg C GDS)
    (len : ∀ ds Q Xq, S ds Q Xq → ds.length = 2) (spec : ∀ ds Qd Xq, S ds Qd Xq → b__law_cell (kD Qd Xq) (startD 2 ds)) : Cal P w K mg base C (k + 1) "_law_cell" S := by
  refine dfn F gf sc__law_cell (FunD.bindsN F fun _ _ _ _ _ _ us hl => match us, hl with | [_, _], _ => rfl) hbl len (fun cdv A outer s H E g => ?_) spec
  exact (css_cons (cs_if (ct_lt (CE.q (ce_var (pv 1))) (CE.q (ce_len g.toGE (CE.q (ce_var (pv 0))))))
    (css_one (cs_ret (ce_ix (CE.q (ce_var (pv 0))) (CE.q (ce_var (pv 1))))))
    css_nil)
  (css_one (cs_ret ce_int)))
theorem sc__law_reader : FnScope ["cell"] ["cell"] (defScope st__law_reader) := ⟨rfl, rfl, rfl, by decide +kernel, rfl, by decide +kernel, by decide +kernel⟩
theorem c__law_reader {f : Addr} {fd : FuncData} {k : Nat} {S : DF} (F : FunD K "_law_reader" "_law_reader" (defArgs st__law_reader) (defBody st__law_reader) (defScope st__law_reader) [] [] f fd) (gf : mg "_law_reader" = some (.ref f)) (hbl : ∀ n, bl0 n = true → mg n = none) (kc : KC K mg C TB) (kg : GDs P w K mg C GDS)
    (len : ∀ ds Q Xq, S ds Q Xq → ds.length = 1) (spec : ∀ ds Qd Xq, S ds Qd Xq → b__law_reader (kD Qd Xq) (startD 1 ds)) : Cal P w K mg base C (k + 1) "_law_reader" S := by
  refine dfn F gf sc__law_reader (FunD.bindsN F fun _ _ _ _ _ _ us hl => match us, hl with | [_], _ => rfl) hbl len (fun cdv A outer s H E g => ?_) spec
  exact (css_one (cs_ret (CN.rd (cn_lst (ca_cons (ce_var (pv 0)) (ca_cons ce_int (ca_cons (ce_sub (CE.q (ce_var (pv 0))) (CE.q (ce_pow (CE.q ce_int) (CE.q ce_int)))) ca_nil)))))))
theorem sc__law_next : FnScope ["reader", "size", "k", "rest", "mixed"] ["reader", "size"] (defScope st__law_next) := ⟨rfl, rfl, rfl, by decide +kernel, rfl, by decide +kernel, by decide +kernel⟩
theorem c__law_next {f : Addr} {fd : FuncData} {k : Nat} {S : DF} (F : FunD K "_law_next" "_law_next" (defArgs st__law_next) (defBody st__law_next) (defScope st__law_next) [] [] f fd) (gf : mg "_law_next" = some (.ref f)) (hbl : ∀ n, bl0 n = true → mg n = none) (kc : KC K mg C TB) (kg : GDs P w K mg C GDS)
    (len : ∀ ds Q Xq, S ds Q Xq → ds.length = 2) (spec : ∀ ds Qd Xq, S ds Qd Xq → b__law_next (kD Qd Xq) (startD 5 ds)) : Cal P w K mg base C (k + 1) "_law_next" S := by
  refine dfn F gf sc__law_next (FunD.bindsN F fun _ _ _ _ _ _ us hl => match us, hl with | [_, _], _ => rfl) hbl len (fun cdv A outer s H E g => ?_) spec
  exact (css_cons (cs_set 2 sc__law_next.nd (ce_ix (CE.q (ce_var (pv 0))) (CE.q ce_int)))
  (css_cons (cs_setix 0 (pv 0) (ce_add (CE.q (ce_var (pv 2))) (CE.q ce_int)) (CE.q ce_int))
  (css_cons (cs_if (CW.t (cw_and (ct_ge (CE.q (ce_ix (CE.q (ce_var (pv 0))) (CE.q ce_int))) (CE.q (ce_pow (CE.q ce_int) (CE.q ce_int)))) (cw_and1 (ct_gt (CE.q (ce_ix (CE.q (ce_var (pv 0))) (CE.q ce_int))) (CE.q ce_int)))))
    (css_cons (cs_set 3 sc__law_next.nd (ce_ix (CE.q (ce_var (pv 0))) (CE.q ce_int)))
    (css_cons (cs_setix 0 (pv 0) (ce_fdiv (CE.q (ce_var (pv 3))) (CE.q (ce_var (pv 1)))) (CE.q ce_int))
    (css_one (cs_ret (ce_mod (CE.q (ce_int1 g.toGE (CE.q (ce_var (pv 3))))) (CE.q (ce_var (pv 1))))))))
    css_nil)
  (css_cons (cs_set 4 sc__law_next.nd (ce_mod (CE.q (ce_int1 g.toGE (CE.q (ce_add (CE.q (ce_add (CE.q (ce_ix (CE.q (ce_var (pv 0))) (CE.q ce_int))) (CE.q (ce_mul (CE.q ce_int) (CE.q (ce_var (pv 2))))))) (CE.q ce_int))))) (CE.q ce_int)))
  (css_cons (cs_set 4 sc__law_next.nd (ce_mod (CE.q (ce_int1 g.toGE (CE.q (ce_mul (CE.q (ce_var (pv 4))) (CE.q (ce_add (CE.q (ce_var (pv 4))) (CE.q ce_int))))))) (CE.q ce_int)))
  (css_cons (cs_set 4 sc__law_next.nd (ce_mod (CE.q (ce_int1 g.toGE (CE.q (ce_add (CE.q (ce_mul (CE.q (ce_var (pv 4))) (CE.q (ce_add (CE.q (ce_var (pv 4))) (CE.q ce_int))))) (CE.q (ce_mul (CE.q ce_int) (CE.q (ce_var (pv 2))))))))) (CE.q ce_int)))
  (css_one (cs_ret (ce_mod (CE.q (ce_int1 g.toGE (CE.q (ce_fdiv (CE.q (ce_var (pv 4))) (CE.q ce_int))))) (CE.q (ce_var (pv 1))))))))))))
theorem sc__law_name : FnScope ["reader", "words", "small", "signs", "name", "k"] ["reader"] (defScope st__law_name) := ⟨rfl, rfl, rfl, by decide +kernel, rfl, by decide +kernel, by decide +kernel⟩
theorem c__law_name {f : Addr} {fd : FuncData} {k : Nat} {S : DF} {S__law_next : DF} (F : FunD K "_law_name" "_law_name" (defArgs st__law_name) (defBody st__law_name) (defScope st__law_name) [] [] f fd) (gf : mg "_law_name" = some (.ref f)) (hbl : ∀ n, bl0 n = true → mg n = none) (kc : KC K mg C TB) (kg : GDs P w K mg C GDS)
    (h__law_next : Cal P w K mg base C k "_law_next" S__law_next)
    (len : ∀ ds Q Xq, S ds Q Xq → ds.length = 1) (spec : ∀ ds Qd Xq, S ds Qd Xq → b__law_name S__law_next (kD Qd Xq) (startD 6 ds)) : Cal P w K mg base C (k + 1) "_law_name" S := by
  refine dfn F gf sc__law_name (FunD.bindsN F fun _ _ _ _ _ _ us hl => match us, hl with | [_], _ => rfl) hbl len (fun cdv A outer s H E g => ?_) spec
  exact (css_cons (cs_set 1 sc__law_name.nd (ce_split (CE.q ce_str) (CE.q ce_str)))
  (css_cons (cs_set 2 sc__law_name.nd ce_str)
  (css_cons (cs_set 3 sc__law_name.nd (ce_add (CE.q (ce_var (pv 2))) (CE.q ce_str)))
  (css_cons (cs_set 4 sc__law_name.nd (ce_ix (CE.q (ce_var (pv 2))) (CE.q (ce_call h__law_next g.toGE (ca_cons (ce_var (pv 0)) (ca_cons ce_int ca_nil)) (Nat.le_refl _)))))
  (css_cons (cs_if (ct_eq g.toGE (CE.q (ce_call h__law_next g.toGE (ca_cons (ce_var (pv 0)) (ca_cons ce_int ca_nil)) (Nat.le_refl _))) (CE.q ce_int))
    (css_one (cs_set 4 sc__law_name.nd (ce_ix (CE.q (ce_var (pv 1))) (CE.q (ce_call h__law_next g.toGE (ca_cons (ce_var (pv 0)) (ca_cons ce_int ca_nil)) (Nat.le_refl _))))))
    css_nil)
  (css_cons (cs_for g (pg_name (i := 5) sc__law_name.nd rfl (by first | exact Or.inl rfl | exact Or.inr rfl)) (ci_r1 g.toGE (CE.q (ce_call h__law_next g.toGE (ca_cons (ce_var (pv 0)) (ca_cons ce_int ca_nil)) (Nat.le_refl _))))
    (css_one (cs_set 4 sc__law_name.nd (ce_add (CE.q (ce_var (pv 4))) (CE.q (ce_ix (CE.q (ce_var (pv 3))) (CE.q (ce_call h__law_next g.toGE (ca_cons (ce_var (pv 0)) (ca_cons ce_int ca_nil)) (Nat.le_refl _)))))))))
  (css_cons (cs_if (ct_in g.toGE (CE.q (ce_var (pv 4))) (CE.q (ce_var (pv 1))))
    (css_one (cs_set 4 sc__law_name.nd (ce_add (CE.q (ce_var (pv 4))) (CE.q ce_str))))
    css_nil)
  (css_one (cs_retv (pv 4))))))))))
theorem sc__law_atom : FnScope ["reader", "names", "kind"] ["reader", "names"] (defScope st__law_atom) := ⟨rfl, rfl, rfl, by decide +kernel, rfl, by decide +kernel, by decide +kernel⟩
theorem c__law_atom {f : Addr} {fd : FuncData} {k : Nat} {S : DF} {S__law_next : DF} (F : FunD K "_law_atom" "_law_atom" (defArgs st__law_atom) (defBody st__law_atom) (defScope st__law_atom) [] [] f fd) (gf : mg "_law_atom" = some (.ref f)) (hbl : ∀ n, bl0 n = true → mg n = none) (kc : KC K mg C TB) (kg : GDs P w K mg C GDS)
    (h__law_next : Cal P w K mg base C k "_law_next" S__law_next)
    (len : ∀ ds Q Xq, S ds Q Xq → ds.length = 2) (spec : ∀ ds Qd Xq, S ds Qd Xq → b__law_atom S__law_next (kD Qd Xq) (startD 3 ds)) : Cal P w K mg base C (k + 1) "_law_atom" S := by
  refine dfn F gf sc__law_atom (FunD.bindsN F fun _ _ _ _ _ _ us hl => match us, hl with | [_, _], _ => rfl) hbl len (fun cdv A outer s H E g => ?_) spec
  exact (css_cons (cs_set 2 sc__law_atom.nd (ce_call h__law_next g.toGE (ca_cons (ce_var (pv 0)) (ca_cons ce_int ca_nil)) (Nat.le_refl _)))
  (css_cons (cs_if (ct_lt (CE.q (ce_var (pv 2))) (CE.q ce_int))
    (css_one (cs_ret (ce_tup (ca_cons ce_str (ca_cons (ce_ix (CE.q (ce_var (pv 1))) (CE.q (ce_call h__law_next g.toGE (ca_cons (ce_var (pv 0)) (ca_cons (ce_len g.toGE (CE.q (ce_var (pv 1)))) ca_nil)) (Nat.le_refl _)))) ca_nil)))))
    css_nil)
  (css_one (cs_ret (ce_tup (ca_cons ce_str (ca_cons (ce_call h__law_next g.toGE (ca_cons (ce_var (pv 0)) (ca_cons (ce_ix (CE.q (CN.own (cn_lst (ca_cons ce_int (ca_cons ce_int ca_nil))))) (CE.q (ce_sub (CE.q (ce_var (pv 2))) (CE.q ce_int)))) ca_nil)) (Nat.le_refl _)) ca_nil)))))))
theorem sc__law_expression : FnScope ["reader", "names", "depth", "bare", "kind", "sign", "left"] ["reader", "names", "depth", "bare"] (defScope st__law_expression) := ⟨rfl, rfl, rfl, by decide +kernel, rfl, by decide +kernel, by decide +kernel⟩
theorem c__law_expression {f : Addr} {fd : FuncData} {k : Nat} {S : DF} {S__law_next : DF} {S__law_atom : DF} {S__law_expression : DF} (F : FunD K "_law_expression" "_law_expression" (defArgs st__law_expression) (defBody st__law_expression) (defScope st__law_expression) [] [] f fd) (gf : mg "_law_expression" = some (.ref f)) (hbl : ∀ n, bl0 n = true → mg n = none) (kc : KC K mg C TB) (kg : GDs P w K mg C GDS)
    (h__law_next : Cal P w K mg base C k "_law_next" S__law_next)
    (h__law_atom : Cal P w K mg base C k "_law_atom" S__law_atom)
    (h__law_expression : Cal P w K mg base C k "_law_expression" S__law_expression)
    (len : ∀ ds Q Xq, S ds Q Xq → ds.length = 4) (spec : ∀ ds Qd Xq, S ds Qd Xq → b__law_expression S__law_next S__law_atom S__law_expression (kD Qd Xq) (startD 7 ds)) : Cal P w K mg base C (k + 1) "_law_expression" S := by
  refine dfn F gf sc__law_expression (FunD.bindsN F fun _ _ _ _ _ _ us hl => match us, hl with | [_, _, _, _], _ => rfl) hbl len (fun cdv A outer s H E g => ?_) spec
  exact (css_cons (cs_set 4 sc__law_expression.nd (ce_call h__law_next g.toGE (ca_cons (ce_var (pv 0)) (ca_cons ce_int ca_nil)) (Nat.le_refl _)))
  (css_cons (cs_if (CW.t (cw_or (ct_eq g.toGE (CE.q (ce_var (pv 2))) (CE.q ce_int)) (cw_or1 (ct_lt (CE.q (ce_var (pv 4))) (CE.q (ce_var (pv 3)))))))
    (css_one (cs_ret (ce_call h__law_atom g.toGE (ca_cons (ce_var (pv 0)) (ca_cons (ce_var (pv 1)) ca_nil)) (Nat.le_refl _))))
    css_nil)
  (css_cons (cs_if (ct_eq g.toGE (CE.q (ce_var (pv 4))) (CE.q ce_int))
    (css_one (cs_ret (ce_tup (ca_cons ce_str (ca_cons (ce_call h__law_expression g.toGE (ca_cons (ce_var (pv 0)) (ca_cons (ce_var (pv 1)) (ca_cons (ce_sub (CE.q (ce_var (pv 2))) (CE.q ce_int)) (ca_cons (ce_var (pv 3)) ca_nil)))) (Nat.le_refl _)) ca_nil)))))
    css_nil)
  (css_cons (cs_set 5 sc__law_expression.nd (ce_ix (CE.q (CN.own (cn_lst (ca_cons ce_str (ca_cons ce_str (ca_cons ce_str (ca_cons ce_str (ca_cons ce_str (ca_cons ce_str (ca_cons ce_str ca_nil)))))))))) (CE.q (ce_call h__law_next g.toGE (ca_cons (ce_var (pv 0)) (ca_cons ce_int ca_nil)) (Nat.le_refl _)))))
  (css_cons (cs_set 6 sc__law_expression.nd (ce_call h__law_expression g.toGE (ca_cons (ce_var (pv 0)) (ca_cons (ce_var (pv 1)) (ca_cons (ce_sub (CE.q (ce_var (pv 2))) (CE.q ce_int)) (ca_cons (ce_var (pv 3)) ca_nil)))) (Nat.le_refl _)))
  (css_one (cs_ret (ce_tup (ca_cons (ce_var (pv 5)) (ca_cons (ce_var (pv 6)) (ca_cons (ce_call h__law_expression g.toGE (ca_cons (ce_var (pv 0)) (ca_cons (ce_var (pv 1)) (ca_cons (ce_sub (CE.q (ce_var (pv 2))) (CE.q ce_int)) (ca_cons (ce_var (pv 3)) ca_nil)))) (Nat.le_refl _)) ca_nil)))))))))))
theorem sc__law_chain : FnScope ["reader", "names", "groups", "at", "told", "k", "signs"] ["reader", "names"] (defScope st__law_chain) := ⟨rfl, rfl, rfl, by decide +kernel, rfl, by decide +kernel, by decide +kernel⟩
theorem c__law_chain {f : Addr} {fd : FuncData} {k : Nat} {S : DF} {S__law_next : DF} {S__law_atom : DF} (F : FunD K "_law_chain" "_law_chain" (defArgs st__law_chain) (defBody st__law_chain) (defScope st__law_chain) [] [] f fd) (gf : mg "_law_chain" = some (.ref f)) (hbl : ∀ n, bl0 n = true → mg n = none) (kc : KC K mg C TB) (kg : GDs P w K mg C GDS)
    (h__law_next : Cal P w K mg base C k "_law_next" S__law_next)
    (h__law_atom : Cal P w K mg base C k "_law_atom" S__law_atom)
    (len : ∀ ds Q Xq, S ds Q Xq → ds.length = 2) (spec : ∀ ds Qd Xq, S ds Qd Xq → b__law_chain S__law_next S__law_atom (kD Qd Xq) (startD 7 ds)) : Cal P w K mg base C (k + 1) "_law_chain" S := by
  refine dfn F gf sc__law_chain (FunD.bindsN F fun _ _ _ _ _ _ us hl => match us, hl with | [_, _], _ => rfl) hbl len (fun cdv A outer s H E g => ?_) spec
  exact (css_cons (cs_set 2 sc__law_chain.nd (CN.own (cn_lst (ca_cons (CN.own (cn_lst (ca_cons ce_str ca_nil))) (ca_cons (CN.own (cn_lst (ca_cons ce_str (ca_cons ce_str ca_nil)))) (ca_cons (CN.own (cn_lst (ca_cons ce_str ca_nil))) (ca_cons (CN.own (cn_lst (ca_cons ce_str ca_nil))) ca_nil)))))))
  (css_cons (cs_set 3 sc__law_chain.nd (ce_call h__law_next g.toGE (ca_cons (ce_var (pv 0)) (ca_cons ce_int ca_nil)) (Nat.le_refl _)))
  (css_cons (cs_set 4 sc__law_chain.nd (ce_call h__law_atom g.toGE (ca_cons (ce_var (pv 0)) (ca_cons (ce_var (pv 1)) ca_nil)) (Nat.le_refl _)))
  (css_cons (cs_for g (pg_name (i := 5) sc__law_chain.nd rfl (by first | exact Or.inl rfl | exact Or.inr rfl)) (ci_r1 g.toGE (CE.q (ce_add (CE.q ce_int) (CE.q (ce_call h__law_next g.toGE (ca_cons (ce_var (pv 0)) (ca_cons ce_int ca_nil)) (Nat.le_refl _))))))
    (css_cons (cs_if (CW.t (cw_and (ct_lt (CE.q (ce_var (pv 3))) (CE.q ce_int)) (cw_and1 (ct_eq g.toGE (CE.q (ce_call h__law_next g.toGE (ca_cons (ce_var (pv 0)) (ca_cons ce_int ca_nil)) (Nat.le_refl _))) (CE.q ce_int)))))
      (css_one (cs_set 3 sc__law_chain.nd (ce_add (CE.q (ce_var (pv 3))) (CE.q ce_int))))
      css_nil)
    (css_cons (cs_set 6 sc__law_chain.nd (ce_ix (CE.q (ce_var (pv 2))) (CE.q (ce_var (pv 3)))))
    (css_one (cs_set 4 sc__law_chain.nd (ce_tup (ca_cons (ce_ix (CE.q (ce_var (pv 6))) (CE.q (ce_call h__law_next g.toGE (ca_cons (ce_var (pv 0)) (ca_cons (ce_len g.toGE (CE.q (ce_var (pv 6)))) ca_nil)) (Nat.le_refl _)))) (ca_cons (ce_var (pv 4)) (ca_cons (ce_call h__law_atom g.toGE (ca_cons (ce_var (pv 0)) (ca_cons (ce_var (pv 1)) ca_nil)) (Nat.le_refl _)) ca_nil)))))))))
  (css_one (cs_retv (pv 4)))))))
theorem sc__law_level : FnScope ["told", "levels"] ["told"] (defScope st__law_level) := ⟨rfl, rfl, rfl, by decide +kernel, rfl, by decide +kernel, by decide +kernel⟩
theorem c__law_level {f : Addr} {fd : FuncData} {k : Nat} {S : DF} (F : FunD K "_law_level" "_law_level" (defArgs st__law_level) (defBody st__law_level) (defScope st__law_level) [] [] f fd) (gf : mg "_law_level" = some (.ref f)) (hbl : ∀ n, bl0 n = true → mg n = none) (kc : KC K mg C TB) (kg : GDs P w K mg C GDS)
    (len : ∀ ds Q Xq, S ds Q Xq → ds.length = 1) (spec : ∀ ds Qd Xq, S ds Qd Xq → b__law_level (kD Qd Xq) (startD 2 ds)) : Cal P w K mg base C (k + 1) "_law_level" S := by
  refine dfn F gf sc__law_level (FunD.bindsN F fun _ _ _ _ _ _ us hl => match us, hl with | [_], _ => rfl) hbl len (fun cdv A outer s H E g => ?_) spec
  exact (css_cons (cs_set 1 sc__law_level.nd (ce_tmp (cf_dic (cfk_cons (cf_leaf ce_int) (cfk_cons (cf_leaf ce_int) (cfk_cons (cf_leaf ce_int) (cfk_cons (cf_leaf ce_int) (cfk_cons (cf_leaf ce_int) (cfk_cons (cf_leaf ce_int) (cfk_cons (cf_leaf ce_int) (cfk_cons (cf_leaf ce_int) (cfk_cons (cf_leaf ce_int) (cfk_cons (cf_leaf ce_int) cfk_nil)))))))))))))
  (css_one (cs_ret (ce_keyV g.toGE (ce_var (pv 1)) (ce_ix (CE.q (ce_var (pv 0))) (CE.q ce_int))))))
theorem sc__law_least : FnScope ["told", "k"] ["told", "k"] (defScope st__law_least) := ⟨rfl, rfl, rfl, by decide +kernel, rfl, by decide +kernel, by decide +kernel⟩
theorem c__law_least {f : Addr} {fd : FuncData} {k : Nat} {S : DF} {S__law_level : DF} (F : FunD K "_law_least" "_law_least" (defArgs st__law_least) (defBody st__law_least) (defScope st__law_least) [] [] f fd) (gf : mg "_law_least" = some (.ref f)) (hbl : ∀ n, bl0 n = true → mg n = none) (kc : KC K mg C TB) (kg : GDs P w K mg C GDS)
    (h__law_level : Cal P w K mg base C k "_law_level" S__law_level)
    (len : ∀ ds Q Xq, S ds Q Xq → ds.length = 2) (spec : ∀ ds Qd Xq, S ds Qd Xq → b__law_least S__law_level (kD Qd Xq) (startD 2 ds)) : Cal P w K mg base C (k + 1) "_law_least" S := by
  refine dfn F gf sc__law_least (FunD.bindsN F fun _ _ _ _ _ _ us hl => match us, hl with | [_, _], _ => rfl) hbl len (fun cdv A outer s H E g => ?_) spec
  exact (css_cons (cs_if (CW.t (cw_or (ct_eq g.toGE (CE.q (ce_var (pv 1))) (CE.q ce_int)) (cw_or1 (ct_in g.toGE (CE.q (ce_ix (CE.q (ce_var (pv 0))) (CE.q ce_int))) (CE.q (CN.own (cn_lst (ca_cons ce_str (ca_cons ce_str (ca_cons ce_str ca_nil))))))))))
    (css_one (cs_ret (ce_add (CE.q (ce_call h__law_level g.toGE (ca_cons (ce_var (pv 0)) ca_nil) (Nat.le_refl _))) (CE.q ce_int))))
    css_nil)
  (css_one (cs_ret (ce_call h__law_level g.toGE (ca_cons (ce_var (pv 0)) ca_nil) (Nat.le_refl _)))))
theorem sc__law_print : FnScope ["told", "parts", "k", "text"] ["told"] (defScope st__law_print) := ⟨rfl, rfl, rfl, by decide +kernel, rfl, by decide +kernel, by decide +kernel⟩
theorem c__law_print {f : Addr} {fd : FuncData} {k : Nat} {S : DF} {S__law_print : DF} {S__law_level : DF} {S__law_least : DF} (F : FunD K "_law_print" "_law_print" (defArgs st__law_print) (defBody st__law_print) (defScope st__law_print) [] [] f fd) (gf : mg "_law_print" = some (.ref f)) (hbl : ∀ n, bl0 n = true → mg n = none) (kc : KC K mg C TB) (kg : GDs P w K mg C GDS)
    (h__law_print : Cal P w K mg base C k "_law_print" S__law_print)
    (h__law_level : Cal P w K mg base C k "_law_level" S__law_level)
    (h__law_least : Cal P w K mg base C k "_law_least" S__law_least)
    (len : ∀ ds Q Xq, S ds Q Xq → ds.length = 1) (spec : ∀ ds Qd Xq, S ds Qd Xq → b__law_print S__law_print S__law_level S__law_least (kD Qd Xq) (startD 4 ds)) : Cal P w K mg base C (k + 1) "_law_print" S := by
  refine dfn F gf sc__law_print (FunD.bindsN F fun _ _ _ _ _ _ us hl => match us, hl with | [_], _ => rfl) hbl len (fun cdv A outer s H E g => ?_) spec
  exact (css_cons (cs_if (ct_eq g.toGE (CE.q (ce_ix (CE.q (ce_var (pv 0))) (CE.q ce_int))) (CE.q ce_str))
    (css_one (cs_ret (ce_str1 g.toGE (CE.q (ce_ix (CE.q (ce_var (pv 0))) (CE.q ce_int))))))
    css_nil)
  (css_cons (cs_if (ct_eq g.toGE (CE.q (ce_ix (CE.q (ce_var (pv 0))) (CE.q ce_int))) (CE.q ce_str))
    (css_one (cs_ret (ce_ix (CE.q (ce_var (pv 0))) (CE.q ce_int))))
    css_nil)
  (css_cons (cs_setN 1 sc__law_print.nd (cn_lst ca_nil))
  (css_cons (cs_for g (pg_name (i := 2) sc__law_print.nd rfl (by first | exact Or.inl rfl | exact Or.inr rfl)) (ci_r2 g.toGE (CE.q ce_int) (CE.q (ce_len g.toGE (CE.q (ce_var (pv 0))))))
    (css_cons (cs_set 3 sc__law_print.nd (ce_call h__law_print g.toGE (ca_cons (ce_ix (CE.q (ce_var (pv 0))) (CE.q (ce_var (pv 2)))) ca_nil) (Nat.le_refl _)))
    (css_cons (cs_if (ct_lt (CE.q (ce_call h__law_level g.toGE (ca_cons (ce_ix (CE.q (ce_var (pv 0))) (CE.q (ce_var (pv 2)))) ca_nil) (Nat.le_refl _))) (CE.q (ce_call h__law_least g.toGE (ca_cons (ce_var (pv 0)) (ca_cons (ce_var (pv 2)) ca_nil)) (Nat.le_refl _))))
      (css_one (cs_set 3 sc__law_print.nd (ce_add (CE.q (ce_add (CE.q ce_str) (CE.q (ce_var (pv 3))))) (CE.q ce_str))))
      css_nil)
    (css_one (cs_app 1 (pv 1) (ce_var (pv 3)))))))
  (css_cons (cs_if (ct_eq g.toGE (CE.q (ce_ix (CE.q (ce_var (pv 0))) (CE.q ce_int))) (CE.q ce_str))
    (css_one (cs_ret (ce_add (CE.q ce_str) (CE.q (ce_ix (cq_var (pv 1)) (CE.q ce_int))))))
    css_nil)
  (css_one (cs_ret (ce_add (CE.q (ce_add (CE.q (ce_add (CE.q (ce_add (CE.q (ce_ix (cq_var (pv 1)) (CE.q ce_int))) (CE.q ce_str))) (CE.q (ce_ix (CE.q (ce_var (pv 0))) (CE.q ce_int))))) (CE.q ce_str))) (CE.q (ce_ix (cq_var (pv 1)) (CE.q ce_int)))))))))))
theorem sc__law_need : FnScope ["told", "need", "k"] ["told"] (defScope st__law_need) := ⟨rfl, rfl, rfl, by decide +kernel, rfl, by decide +kernel, by decide +kernel⟩
theorem c__law_need {f : Addr} {fd : FuncData} {k : Nat} {S : DF} {S__law_level : DF} {S__law_need : DF} {S__law_least : DF} (F : FunD K "_law_need" "_law_need" (defArgs st__law_need) (defBody st__law_need) (defScope st__law_need) [] [] f fd) (gf : mg "_law_need" = some (.ref f)) (hbl : ∀ n, bl0 n = true → mg n = none) (kc : KC K mg C TB) (kg : GDs P w K mg C GDS)
    (h__law_level : Cal P w K mg base C k "_law_level" S__law_level)
    (h__law_need : Cal P w K mg base C k "_law_need" S__law_need)
    (h__law_least : Cal P w K mg base C k "_law_least" S__law_least)
    (len : ∀ ds Q Xq, S ds Q Xq → ds.length = 1) (spec : ∀ ds Qd Xq, S ds Qd Xq → b__law_need S__law_level S__law_need S__law_least (kD Qd Xq) (startD 3 ds)) : Cal P w K mg base C (k + 1) "_law_need" S := by
  refine dfn F gf sc__law_need (FunD.bindsN F fun _ _ _ _ _ _ us hl => match us, hl with | [_], _ => rfl) hbl len (fun cdv A outer s H E g => ?_) spec
  exact (css_cons (cs_set 1 sc__law_need.nd ce_int)
  (css_cons (cs_if (ct_lt (CE.q (ce_call h__law_level g.toGE (ca_cons (ce_var (pv 0)) ca_nil) (Nat.le_refl _))) (CE.q ce_int))
    (css_one (cs_for g (pg_name (i := 2) sc__law_need.nd rfl (by first | exact Or.inl rfl | exact Or.inr rfl)) (ci_r2 g.toGE (CE.q ce_int) (CE.q (ce_len g.toGE (CE.q (ce_var (pv 0))))))
      (css_one (cs_set 1 sc__law_need.nd (ce_max g.toGE (CE.q (ce_var (pv 1))) (CE.q (ce_add (CE.q (ce_call h__law_need g.toGE (ca_cons (ce_ix (CE.q (ce_var (pv 0))) (CE.q (ce_var (pv 2)))) ca_nil) (Nat.le_refl _))) (CE.q (ce_int1 g.toGE (CE.q (ce_lt (CE.q (ce_call h__law_level g.toGE (ca_cons (ce_ix (CE.q (ce_var (pv 0))) (CE.q (ce_var (pv 2)))) ca_nil) (Nat.le_refl _))) (CE.q (ce_call h__law_least g.toGE (ca_cons (ce_var (pv 0)) (ca_cons (ce_var (pv 2)) ca_nil)) (Nat.le_refl _))))))))))))))
    css_nil)
  (css_one (cs_retv (pv 1)))))
theorem sc__law_full : FnScope ["reader", "told", "room", "most", "spare", "more", "tokens", "k"] ["reader", "told", "room", "most"] (defScope st__law_full) := ⟨rfl, rfl, rfl, by decide +kernel, rfl, by decide +kernel, by decide +kernel⟩
theorem c__law_full {f : Addr} {fd : FuncData} {k : Nat} {S : DF} {S__law_need : DF} {S__law_next : DF} {S__law_level : DF} {S__law_least : DF} {S__law_full : DF} (F : FunD K "_law_full" "_law_full" (defArgs st__law_full) (defBody st__law_full) (defScope st__law_full) [] [] f fd) (gf : mg "_law_full" = some (.ref f)) (hbl : ∀ n, bl0 n = true → mg n = none) (kc : KC K mg C TB) (kg : GDs P w K mg C GDS)
    (h__law_need : Cal P w K mg base C k "_law_need" S__law_need)
    (h__law_next : Cal P w K mg base C k "_law_next" S__law_next)
    (h__law_level : Cal P w K mg base C k "_law_level" S__law_level)
    (h__law_least : Cal P w K mg base C k "_law_least" S__law_least)
    (h__law_full : Cal P w K mg base C k "_law_full" S__law_full)
    (len : ∀ ds Q Xq, S ds Q Xq → ds.length = 4) (spec : ∀ ds Qd Xq, S ds Qd Xq → b__law_full S__law_need S__law_next S__law_level S__law_least S__law_full (kD Qd Xq) (startD 8 ds)) : Cal P w K mg base C (k + 1) "_law_full" S := by
  refine dfn F gf sc__law_full (FunD.bindsN F fun _ _ _ _ _ _ us hl => match us, hl with | [_, _, _, _], _ => rfl) hbl len (fun cdv A outer s H E g => ?_) spec
  exact (css_cons (cs_set 4 sc__law_full.nd (ce_sub (CE.q (ce_var (pv 2))) (CE.q (ce_call h__law_need g.toGE (ca_cons (ce_var (pv 1)) ca_nil) (Nat.le_refl _)))))
  (css_cons (cs_set 5 sc__law_full.nd (ce_min3 g.toGE (CE.q (ce_var (pv 4))) (CE.q (ce_var (pv 3))) (CE.q (ce_ix (CE.q (CN.own (cn_lst (ca_cons ce_int (ca_cons ce_int (ca_cons ce_int (ca_cons ce_int (ca_cons (ce_var (pv 4)) ca_nil)))))))) (CE.q (ce_call h__law_next g.toGE (ca_cons (ce_var (pv 0)) (ca_cons ce_int ca_nil)) (Nat.le_refl _)))))))
  (css_cons (cs_setN 6 sc__law_full.nd (cn_lst ca_nil))
  (css_cons (cs_if (ct_eq g.toGE (CE.q (ce_ix (CE.q (ce_var (pv 1))) (CE.q ce_int))) (CE.q ce_str))
    (css_one (cs_setN 6 sc__law_full.nd (cn_lst (ca_cons (ce_str1 g.toGE (CE.q (ce_ix (CE.q (ce_var (pv 1))) (CE.q ce_int)))) ca_nil))))
    css_nil)
  (css_cons (cs_if (ct_eq g.toGE (CE.q (ce_ix (CE.q (ce_var (pv 1))) (CE.q ce_int))) (CE.q ce_str))
    (css_one (cs_setN 6 sc__law_full.nd (cn_lst (ca_cons (ce_ix (CE.q (ce_var (pv 1))) (CE.q ce_int)) ca_nil))))
    css_nil)
  (css_cons (cs_if (ct_eq g.toGE (CE.q (ce_ix (CE.q (ce_var (pv 1))) (CE.q ce_int))) (CE.q ce_str))
    (css_one (cs_setN 6 sc__law_full.nd (cn_lst (ca_cons ce_str ca_nil))))
    css_nil)
  (css_cons (cs_if (ct_lt (CE.q (ce_call h__law_level g.toGE (ca_cons (ce_var (pv 1)) ca_nil) (Nat.le_refl _))) (CE.q ce_int))
    (css_one (cs_for g (pg_name (i := 7) sc__law_full.nd rfl (by first | exact Or.inl rfl | exact Or.inr rfl)) (ci_r2 g.toGE (CE.q ce_int) (CE.q (ce_len g.toGE (CE.q (ce_var (pv 1))))))
      (css_cons (cs_if (ct_eq g.toGE (CE.q (ce_var (pv 7))) (CE.q ce_int))
        (css_one (cs_app 6 (pv 6) (ce_ix (CE.q (ce_var (pv 1))) (CE.q ce_int))))
        css_nil)
      (css_one (cs_if (ct_lt (CE.q (ce_call h__law_level g.toGE (ca_cons (ce_ix (CE.q (ce_var (pv 1))) (CE.q (ce_var (pv 7)))) ca_nil) (Nat.le_refl _))) (CE.q (ce_call h__law_least g.toGE (ca_cons (ce_var (pv 1)) (ca_cons (ce_var (pv 7)) ca_nil)) (Nat.le_refl _))))
        (css_one (cs_setN 6 sc__law_full.nd (cn_cat (CE.q (ce_add (CE.q (ce_add (cq_var (pv 6)) (CE.q (CN.own (cn_lst (ca_cons ce_str ca_nil)))))) (CE.q (ce_call h__law_full g.toGE (ca_cons (ce_var (pv 0)) (ca_cons (ce_ix (CE.q (ce_var (pv 1))) (CE.q (ce_var (pv 7)))) (ca_cons (ce_sub (CE.q (ce_sub (CE.q (ce_var (pv 2))) (CE.q (ce_var (pv 5))))) (CE.q ce_int)) (ca_cons (ce_var (pv 3)) ca_nil)))) (Nat.le_refl _))))) (CE.q (CN.own (cn_lst (ca_cons ce_str ca_nil)))))))
        (css_one (cs_setN 6 sc__law_full.nd (cn_cat (cq_var (pv 6)) (CE.q (ce_call h__law_full g.toGE (ca_cons (ce_var (pv 0)) (ca_cons (ce_ix (CE.q (ce_var (pv 1))) (CE.q (ce_var (pv 7)))) (ca_cons (ce_sub (CE.q (ce_var (pv 2))) (CE.q (ce_var (pv 5)))) (ca_cons (ce_var (pv 3)) ca_nil)))) (Nat.le_refl _)))))))))))
    css_nil)
  (css_one (cs_ret (ce_add (CE.q (ce_add (CE.q (ce_repL (CE.q (CN.own (cn_lst (ca_cons ce_str ca_nil)))) (CE.q (ce_var (pv 5))))) (cq_var (pv 6)))) (CE.q (ce_repL (CE.q (CN.own (cn_lst (ca_cons ce_str ca_nil)))) (CE.q (ce_var (pv 5)))))))))))))))
theorem sc__law_text : FnScope ["reader", "tokens", "small", "gaps", "text", "last", "token", "gap"] ["reader", "tokens"] (defScope st__law_text) := ⟨rfl, rfl, rfl, by decide +kernel, rfl, by decide +kernel, by decide +kernel⟩
theorem c__law_text {f : Addr} {fd : FuncData} {k : Nat} {S : DF} {S__law_next : DF} (F : FunD K "_law_text" "_law_text" (defArgs st__law_text) (defBody st__law_text) (defScope st__law_text) [] [] f fd) (gf : mg "_law_text" = some (.ref f)) (hbl : ∀ n, bl0 n = true → mg n = none) (kc : KC K mg C TB) (kg : GDs P w K mg C GDS)
    (h__law_next : Cal P w K mg base C k "_law_next" S__law_next)
    (len : ∀ ds Q Xq, S ds Q Xq → ds.length = 2) (spec : ∀ ds Qd Xq, S ds Qd Xq → b__law_text S__law_next (kD Qd Xq) (startD 8 ds)) : Cal P w K mg base C (k + 1) "_law_text" S := by
  refine dfn F gf sc__law_text (FunD.bindsN F fun _ _ _ _ _ _ us hl => match us, hl with | [_, _], _ => rfl) hbl len (fun cdv A outer s H E g => ?_) spec
  exact (css_cons (cs_set 2 sc__law_text.nd ce_str)
  (css_cons (cs_set 3 sc__law_text.nd (CN.own (cn_lst (ca_cons ce_str (ca_cons ce_str (ca_cons ce_str (ca_cons ce_str (ca_cons ce_str (ca_cons ce_str ca_nil)))))))))
  (css_cons (cs_set 4 sc__law_text.nd (ce_ix (CE.q (ce_var (pv 3))) (CE.q (ce_call h__law_next g.toGE (ca_cons (ce_var (pv 0)) (ca_cons ce_int ca_nil)) (Nat.le_refl _)))))
  (css_cons (cs_set 5 sc__law_text.nd ce_str)
  (css_cons (cs_for g (pg_name (i := 6) sc__law_text.nd rfl (by first | exact Or.inl rfl | exact Or.inr rfl)) (ci_it (ce_var (pv 1)))
    (css_cons (cs_set 7 sc__law_text.nd (ce_ix (CE.q (ce_var (pv 3))) (CE.q (ce_call h__law_next g.toGE (ca_cons (ce_var (pv 0)) (ca_cons ce_int ca_nil)) (Nat.le_refl _)))))
    (css_cons (cs_if (CW.t (cw_and (ct_in g.toGE (CE.q (ce_ix (CE.q (ce_var (pv 5))) (CE.q ce_int))) (CE.q (ce_var (pv 2)))) (cw_and (ct_in g.toGE (CE.q (ce_ix (CE.q (ce_var (pv 6))) (CE.q ce_int))) (CE.q (ce_add (CE.q (ce_var (pv 2))) (CE.q ce_str)))) (cw_and1 (ct_eq g.toGE (CE.q (ce_var (pv 7))) (CE.q ce_str))))))
      (css_one (cs_set 7 sc__law_text.nd (ce_ix (CE.q (CN.own (cn_lst (ca_cons ce_str (ca_cons ce_str ca_nil))))) (CE.q (ce_call h__law_next g.toGE (ca_cons (ce_var (pv 0)) (ca_cons ce_int ca_nil)) (Nat.le_refl _))))))
      css_nil)
    (css_cons (cs_set 4 sc__law_text.nd (ce_add (CE.q (ce_add (CE.q (ce_var (pv 4))) (CE.q (ce_var (pv 7))))) (CE.q (ce_var (pv 6)))))
    (css_one (cs_set 5 sc__law_text.nd (ce_var (pv 6))))))))
  (css_one (cs_ret (ce_add (CE.q (ce_var (pv 4))) (CE.q (ce_ix (CE.q (ce_var (pv 3))) (CE.q (ce_call h__law_next g.toGE (ca_cons (ce_var (pv 0)) (ca_cons ce_int ca_nil)) (Nat.le_refl _)))))))))))))
abbrev N__law_same : List Str := ["told", "due", "k"]
theorem sc__law_same : FnScope ["told", "due", "k"] ["told", "due"] (defScope st__law_same) := ⟨rfl, rfl, rfl, by decide +kernel, rfl, by decide +kernel, by decide +kernel⟩
theorem c__law_same {f : Addr} {fd : FuncData} {k : Nat} {S : DF} {S__law_same : DF} (F : FunD K "_law_same" "_law_same" (defArgs st__law_same) (defBody st__law_same) (defScope st__law_same) [] [] f fd) (gf : mg "_law_same" = some (.ref f)) (hbl : ∀ n, bl0 n = true → mg n = none) (kc : KC K mg C TB) (kg : GDs P w K mg C GDS)
    (h__law_same : Cal P w K mg base C k "_law_same" S__law_same)
    (len : ∀ ds Q Xq, S ds Q Xq → ds.length = 2) (spec : ∀ ds Qd Xq, S ds Qd Xq → b__law_same S__law_same (kD Qd Xq) (startD 3 ds)) : Cal P w K mg base C (k + 1) "_law_same" S := by
  refine dfn F gf sc__law_same (FunD.bindsN F fun _ _ _ _ _ _ us hl => match us, hl with | [_, _], _ => rfl) hbl len (fun cdv A outer s H E g => ?_) spec
  exact (css_cons (cs_if (ct_b (CE.q (ce_isi ty_tuple boot_tuple g.toGE (CE.q (ce_var (pv 1))))))
    (css_cons (cs_if (CW.t (cw_or (ct_not (ct_b (CE.q (ce_isi ty_tuple boot_tuple g.toGE (CE.q (ce_var (pv 0))))))) (cw_or1 (ct_ne g.toGE (CE.q (ce_len g.toGE (CE.q (ce_var (pv 0))))) (CE.q (ce_len g.toGE (CE.q (ce_var (pv 1)))))))))
      (css_one (cs_ret ce_bl))
      css_nil)
    (css_one (cs_ret (ce_all g.toGE (CE.q (CN.own (cn_lc g.toGE sc__law_same.nd (ci_r1 g.toGE (CE.q (ce_len g.toGE (CE.q (ce_var (pv 1)))))) (by first | (show blkC N__law_same (defScope st__law_same) _ _ = true; decide +kernel) | rfl) (fun _ _ _ _ _ => pg_name (i := 2) sc__law_same.nd rfl (Or.inl rfl)) (fun s1 H1 Cc1 cl1 fp1 => cts_nil) (fun s1 H1 Cc1 cl1 fp1 => ce_call h__law_same (GE.blk g.toGE s1 H1 _ _ fp1) (ca_cons (ce_ix (CE.q (ce_var (pv 0))) (CE.q (ce_var (pv 2)))) (ca_cons (ce_ix (CE.q (ce_var (pv 1))) (CE.q (ce_var (pv 2)))) ca_nil)) (Nat.le_refl _)))))))))
    css_nil)
  (css_cons (cs_if (ct_b (CE.q (ce_isi ty_str boot_str g.toGE (CE.q (ce_var (pv 1))))))
    (css_one (cs_ret (ce_and (CE.q (ce_isi ty_str boot_str g.toGE (CE.q (ce_var (pv 0))))) (ce_and1 (ce_eq g.toGE (CE.q (ce_var (pv 0))) (CE.q (ce_var (pv 1))))))))
    css_nil)
  (css_one (cs_ret (ce_and (CE.q (ce_isi ty_int boot_int g.toGE (CE.q (ce_var (pv 0))))) (ce_and (CE.q (ce_not (CE.q (ce_isi ty_bool boot_bool g.toGE (CE.q (ce_var (pv 0))))))) (ce_and1 (ce_eq g.toGE (CE.q (ce_var (pv 0))) (CE.q (ce_var (pv 1)))))))))))
theorem sc__law_kept : FnScope ["told", "text", "full", "printed", "given"] ["told", "text", "full"] (defScope st__law_kept) := ⟨rfl, rfl, rfl, by decide +kernel, rfl, by decide +kernel, by decide +kernel⟩
theorem c__law_kept {f : Addr} {fd : FuncData} {k : Nat} {S : DF} {S_print_expression : DF} {S__law_same : DF} {S_parse_expression : DF} (F : FunD K "_law_kept" "_law_kept" (defArgs st__law_kept) (defBody st__law_kept) (defScope st__law_kept) [] [] f fd) (gf : mg "_law_kept" = some (.ref f)) (hbl : ∀ n, bl0 n = true → mg n = none) (kc : KC K mg C TB) (kg : GDs P w K mg C GDS)
    (h_print_expression : Cal P w K mg base C k "print_expression" S_print_expression)
    (h__law_same : Cal P w K mg base C k "_law_same" S__law_same)
    (h_parse_expression : Cal P w K mg base C k "parse_expression" S_parse_expression)
    (len : ∀ ds Q Xq, S ds Q Xq → ds.length = 3) (spec : ∀ ds Qd Xq, S ds Qd Xq → b__law_kept S_print_expression S__law_same S_parse_expression (kD Qd Xq) (startD 5 ds)) : Cal P w K mg base C (k + 1) "_law_kept" S := by
  refine dfn F gf sc__law_kept (FunD.bindsN F fun _ _ _ _ _ _ us hl => match us, hl with | [_, _, _], _ => rfl) hbl len (fun cdv A outer s H E g => ?_) spec
  exact (css_cons (cs_set 3 sc__law_kept.nd (ce_call h_print_expression g.toGE (ca_cons (ce_var (pv 0)) ca_nil) (Nat.le_refl _)))
  (css_cons (cs_if (CW.t (cw_or (ct_not (ct_b (CE.q (ce_isi ty_str boot_str g.toGE (CE.q (ce_var (pv 3))))))) (cw_or1 (ct_ne g.toGE (CE.q (ce_var (pv 3))) (CE.q (ce_var (pv 1)))))))
    (css_one (cs_ret ce_bl))
    css_nil)
  (css_cons (cs_for g (pg_name (i := 4) sc__law_kept.nd rfl (by first | exact Or.inl rfl | exact Or.inr rfl)) (ci_it (CN.own (cn_lst (ca_cons (ce_var (pv 2)) (ca_cons (ce_var (pv 1)) (ca_cons (ce_var (pv 2)) ca_nil))))))
    (css_one (cs_if (ct_not (ct_tru (CE.q (ce_call h__law_same g.toGE (ca_cons (ce_call h_parse_expression g.toGE (ca_cons (ce_var (pv 4)) ca_nil) (Nat.le_refl _)) (ca_cons (ce_var (pv 0)) ca_nil)) (Nat.le_refl _)))))
      (css_one (cs_ret ce_bl))
      css_nil)))
  (css_one (cs_ret (ce_eq g.toGE (CE.q (ce_call h_print_expression g.toGE (ca_cons (ce_call h_parse_expression g.toGE (ca_cons (ce_var (pv 2)) ca_nil) (Nat.le_refl _)) ca_nil) (Nat.le_refl _))) (CE.q (ce_var (pv 1)))))))))
abbrev N__law_needed : List Str := ["reader", "told", "text", "starts", "k", "start", "nested", "end"]
theorem sc__law_needed : FnScope ["reader", "told", "text", "starts", "k", "start", "nested", "end"] ["reader", "told", "text"] (defScope st__law_needed) := ⟨rfl, rfl, rfl, by decide +kernel, rfl, by decide +kernel, by decide +kernel⟩
theorem c__law_needed {f : Addr} {fd : FuncData} {k : Nat} {S : DF} {S__law_next : DF} {S__law_same : DF} {S_parse_expression : DF} (F : FunD K "_law_needed" "_law_needed" (defArgs st__law_needed) (defBody st__law_needed) (defScope st__law_needed) [] [] f fd) (gf : mg "_law_needed" = some (.ref f)) (hbl : ∀ n, bl0 n = true → mg n = none) (kc : KC K mg C TB) (kg : GDs P w K mg C GDS)
    (h__law_next : Cal P w K mg base C k "_law_next" S__law_next)
    (h__law_same : Cal P w K mg base C k "_law_same" S__law_same)
    (h_parse_expression : Cal P w K mg base C k "parse_expression" S_parse_expression)
    (len : ∀ ds Q Xq, S ds Q Xq → ds.length = 3) (spec : ∀ ds Qd Xq, S ds Qd Xq → b__law_needed S__law_next S__law_same S_parse_expression (kD Qd Xq) (startD 8 ds)) : Cal P w K mg base C (k + 1) "_law_needed" S := by
  refine dfn F gf sc__law_needed (FunD.bindsN F fun _ _ _ _ _ _ us hl => match us, hl with | [_, _, _], _ => rfl) hbl len (fun cdv A outer s H E g => ?_) spec
  exact (css_cons (cs_lc g.toGE 3 sc__law_needed.nd (ci_r1 g.toGE (CE.q (ce_len g.toGE (CE.q (ce_var (pv 2)))))) (by first | (show blkC N__law_needed (defScope st__law_needed) _ _ = true; decide +kernel) | rfl) (fun _ _ _ _ _ => pg_name (i := 4) sc__law_needed.nd rfl (Or.inl rfl)) (fun s1 H1 Cc1 cl1 fp1 => cts_one (ct_eq (GE.blk g.toGE s1 H1 _ _ fp1) (CE.q (ce_ix (CE.q (ce_var (pv 2))) (CE.q (ce_var (pv 4))))) (CE.q ce_str))) (fun s1 H1 Cc1 cl1 fp1 => ce_var (pv 4)))
  (css_cons (cs_if (ct_eq g.toGE (CE.q (ce_len g.toGE (CE.q (ce_var (pv 3))))) (CE.q ce_int))
    (css_one (cs_ret ce_bl))
    css_nil)
  (css_cons (cs_set 5 sc__law_needed.nd (ce_ix (CE.q (ce_var (pv 3))) (CE.q (ce_call h__law_next g.toGE (ca_cons (ce_var (pv 0)) (ca_cons (ce_len g.toGE (CE.q (ce_var (pv 3)))) ca_nil)) (Nat.le_refl _)))))
  (css_cons (cs_set 6 sc__law_needed.nd ce_int)
  (css_cons (cs_set 7 sc__law_needed.nd (ce_var (pv 5)))
  (css_cons (cs_for g (pg_name (i := 4) sc__law_needed.nd rfl (by first | exact Or.inl rfl | exact Or.inr rfl)) (ci_r2 g.toGE (CE.q (ce_var (pv 5))) (CE.q (ce_len g.toGE (CE.q (ce_var (pv 2))))))
    (css_cons (cs_set 6 sc__law_needed.nd (ce_sub (CE.q (ce_add (CE.q (ce_var (pv 6))) (CE.q (ce_int1 g.toGE (CE.q (ce_eq g.toGE (CE.q (ce_ix (CE.q (ce_var (pv 2))) (CE.q (ce_var (pv 4))))) (CE.q ce_str))))))) (CE.q (ce_int1 g.toGE (CE.q (ce_eq g.toGE (CE.q (ce_ix (CE.q (ce_var (pv 2))) (CE.q (ce_var (pv 4))))) (CE.q ce_str)))))))
    (css_one (cs_if (ct_eq g.toGE (CE.q (ce_var (pv 6))) (CE.q ce_int))
      (css_cons (cs_set 7 sc__law_needed.nd (ce_var (pv 4)))
      (css_one cs_break))
      css_nil))))
  (css_one (cs_tryN (exs := ["InvalidText"]) rfl rfl ⟨rfl, by decide, .inl kc.g⟩ g.tk kc.ext (fun W1 pn1 xe1 tk1 po1 => by
      have g := GS.tr g tk1 po1
      exact css_one (cs_ret (ce_not (CE.q (ce_call h__law_same g.toGE (ca_cons (ce_call h_parse_expression g.toGE (ca_cons (ce_add (CE.q (ce_add (CE.q (ce_sl (CE.q (ce_var (pv 2))) co_no (co_some (CE.q (ce_var (pv 5)))))) (CE.q (ce_sl (CE.q (ce_var (pv 2))) (co_some (CE.q (ce_add (CE.q (ce_var (pv 5))) (CE.q ce_int)))) (co_some (CE.q (ce_var (pv 7)))))))) (CE.q (ce_sl (CE.q (ce_var (pv 2))) (co_some (CE.q (ce_add (CE.q (ce_var (pv 7))) (CE.q ce_int)))) co_no))) ca_nil) (Nat.le_refl _)) (ca_cons (ce_var (pv 1)) ca_nil)) (Nat.le_refl _))))))
    (fun ea1 eo1 ec1 ed1 ef1 pn1 hc1 hz1 hf1 hh1 => by
      have hx1 := kc.xsub (exs := ["InvalidText"]) (by decide +kernel) hc1
      exact css_one (cs_ret ce_bl))))))))))
abbrev N_law : List Str := ["script", "found", "k", "reader", "names", "spot", "most", "told", "layout"]
theorem sc_law : FnScope ["script", "found", "k", "reader", "names", "spot", "most", "told", "layout"] ["script"] (defScope st_law) := ⟨rfl, rfl, rfl, by decide +kernel, rfl, by decide +kernel, by decide +kernel⟩
theorem c_law {f : Addr} {fd : FuncData} {k : Nat} {S : DF} {S__law_reader : DF} {S__law_cell : DF} {S__law_next : DF} {S__law_name : DF} {S__law_expression : DF} {S__law_chain : DF} {S__law_print : DF} {S__law_text : DF} {S__law_full : DF} {S__law_kept : DF} {S__law_needed : DF} (F : FunD K "law" "law" (defArgs st_law) (defBody st_law) (defScope st_law) [] [] f fd) (hbl : ∀ n, bl0 n = true → mg n = none) (kc : KC K mg C TB) (kg : GDs P w K mg C GDS)
    (h__law_reader : Cal P w K mg base C k "_law_reader" S__law_reader)
    (h__law_cell : Cal P w K mg base C k "_law_cell" S__law_cell)
    (h__law_next : Cal P w K mg base C k "_law_next" S__law_next)
    (h__law_name : Cal P w K mg base C k "_law_name" S__law_name)
    (h__law_expression : Cal P w K mg base C k "_law_expression" S__law_expression)
    (h__law_chain : Cal P w K mg base C k "_law_chain" S__law_chain)
    (h__law_print : Cal P w K mg base C k "_law_print" S__law_print)
    (h__law_text : Cal P w K mg base C k "_law_text" S__law_text)
    (h__law_full : Cal P w K mg base C k "_law_full" S__law_full)
    (h__law_kept : Cal P w K mg base C k "_law_kept" S__law_kept)
    (h__law_needed : Cal P w K mg base C k "_law_needed" S__law_needed)
    (len : ∀ ds Q Xq, S ds Q Xq → ds.length = 1) (spec : ∀ ds Qd Xq, S ds Qd Xq → b_law S__law_reader S__law_cell S__law_next S__law_name S__law_expression S__law_chain S__law_print S__law_text S__law_full S__law_kept S__law_needed (kD Qd Xq) (startD 9 ds)) : FnOk P w K mg base (L2N.CX P w) (k + 1) f fd ["script"] (spD ⟨K, C⟩ S) := by
  refine dfnF F sc_law hbl len (fun cdv A outer s H E g => ?_) spec
  exact (css_cons (cs_setN 1 sc_law.nd (cn_lst ca_nil))
  (css_cons (cs_for g (pg_name (i := 2) sc_law.nd rfl (by first | exact Or.inl rfl | exact Or.inr rfl)) (ci_r1 g.toGE (CE.q ce_int))
    (css_cons (cs_set 3 sc_law.nd (ce_call h__law_reader g.toGE (ca_cons (ce_call h__law_cell g.toGE (ca_cons (ce_var (pv 0)) (ca_cons (ce_mul (CE.q ce_int) (CE.q (ce_var (pv 2)))) ca_nil)) (Nat.le_refl _)) ca_nil) (Nat.le_refl _)))
    (css_cons (cs_lc g.toGE 4 sc_law.nd (ci_r1 g.toGE (CE.q (ce_add (CE.q ce_int) (CE.q (ce_call h__law_next g.toGE (ca_cons (ce_var (pv 3)) (ca_cons ce_int ca_nil)) (Nat.le_refl _)))))) (by first | (show blkC N_law (defScope st_law) _ _ = true; decide +kernel) | rfl) (fun _ _ _ _ _ => pg_name (i := 5) sc_law.nd rfl (Or.inl rfl)) (fun s1 H1 Cc1 cl1 fp1 => cts_nil) (fun s1 H1 Cc1 cl1 fp1 => ce_call h__law_name (GE.blk g.toGE s1 H1 _ _ fp1) (ca_cons (ce_var (pv 3)) ca_nil) (Nat.le_refl _)))
    (css_cons (cs_set 6 sc_law.nd ce_int)
    (css_cons (cs_set 7 sc_law.nd (ce_call h__law_expression g.toGE (ca_cons (ce_var (pv 3)) (ca_cons (ce_var (pv 4)) (ca_cons (ce_call h__law_next g.toGE (ca_cons (ce_var (pv 3)) (ca_cons ce_int ca_nil)) (Nat.le_refl _)) (ca_cons (ce_call h__law_next g.toGE (ca_cons (ce_var (pv 3)) (ca_cons ce_int ca_nil)) (Nat.le_refl _)) ca_nil)))) (Nat.le_refl _)))
    (css_cons (cs_if (ct_eq g.toGE (CE.q (ce_call h__law_next g.toGE (ca_cons (ce_var (pv 3)) (ca_cons ce_int ca_nil)) (Nat.le_refl _))) (CE.q ce_int))
      (css_cons (cs_set 7 sc_law.nd (ce_call h__law_chain g.toGE (ca_cons (ce_var (pv 3)) (ca_cons (ce_var (pv 4)) ca_nil)) (Nat.le_refl _)))
      (css_one (cs_set 6 sc_law.nd ce_int)))
      css_nil)
    (css_cons (cs_set 8 sc_law.nd (ce_call h__law_reader g.toGE (ca_cons (ce_call h__law_cell g.toGE (ca_cons (ce_var (pv 0)) (ca_cons (ce_add (CE.q (ce_mul (CE.q ce_int) (CE.q (ce_var (pv 2))))) (CE.q ce_int)) ca_nil)) (Nat.le_refl _)) ca_nil) (Nat.le_refl _)))
    (css_one (cs_app 1 (pv 1) (ce_tup (ca_cons (ce_var (pv 7)) (ca_cons (ce_call h__law_print g.toGE (ca_cons (ce_var (pv 7)) ca_nil) (Nat.le_refl _)) (ca_cons (ce_call h__law_text g.toGE (ca_cons (ce_var (pv 8)) (ca_cons (ce_call h__law_full g.toGE (ca_cons (ce_var (pv 8)) (ca_cons (ce_var (pv 7)) (ca_cons ce_int (ca_cons (ce_var (pv 6)) ca_nil)))) (Nat.le_refl _)) ca_nil)) (Nat.le_refl _)) ca_nil)))))))))))))
  (css_cons (cs_for g (pg_name (i := 2) sc_law.nd rfl (by first | exact Or.inl rfl | exact Or.inr rfl)) (ci_it (CN.own (cn_lst (ca_cons ce_int (ca_cons ce_int (ca_cons ce_int ca_nil))))))
    (css_one (cs_if (ct_not (ct_tru (CE.q (ce_call h__law_kept g.toGE (ca_cons (ce_ix (CE.q (ce_ix (cq_var (pv 1)) (CE.q (ce_var (pv 2))))) (CE.q ce_int)) (ca_cons (ce_ix (CE.q (ce_ix (cq_var (pv 1)) (CE.q (ce_var (pv 2))))) (CE.q ce_int)) (ca_cons (ce_ix (CE.q (ce_ix (cq_var (pv 1)) (CE.q (ce_var (pv 2))))) (CE.q ce_int)) ca_nil))) (Nat.le_refl _)))))
      (css_one (cs_ret ce_bl))
      css_nil)))
  (css_one (cs_ret (ce_call h__law_needed g.toGE (ca_cons (ce_call h__law_reader g.toGE (ca_cons (ce_call h__law_cell g.toGE (ca_cons (ce_var (pv 0)) (ca_cons ce_int ca_nil)) (Nat.le_refl _)) ca_nil) (Nat.le_refl _)) (ca_cons (ce_ix (CE.q (ce_ix (cq_var (pv 1)) (CE.q ce_int))) (CE.q ce_int)) (ca_cons (ce_ix (CE.q (ce_ix (cq_var (pv 1)) (CE.q ce_int))) (CE.q ce_int)) ca_nil))) (Nat.le_refl _)))))))
end
end K07
namespace K07
open PySem PySem.Spec PyProof.Rows L2 Dl Rnd Par
abbrev P : Program := PySem.Challenge.rw_allmends_k07_expression_there_and_back.prog
section
variable {w : World} {K : PySem.W.Frag} {h : Heap} {mg : Str → Option Value} {f : Addr}
theorem free_all (X : K.In h) (G : h.Ns mainGlobals mg) (c : He.SaysD fa fn K) (n : Str) (hn : bl0 n = true) : mg n = none := by
  have hm := of_decide_eq_true hn
  simp only [List.mem_cons, List.not_mem_nil, or_false] at hm
  rcases hm with rfl | rfl | rfl | rfl | rfl | rfl | rfl | rfl | rfl | rfl | rfl | rfl
  · exact He.free_ok X G (c.fact 33 (f := .free "all") rfl)
  · exact He.free_ok X G (c.fact 34 (f := .free "bool") rfl)
  · exact He.free_ok X G (c.fact 35 (f := .free "int") rfl)
  · exact He.free_ok X G (c.fact 36 (f := .free "isinstance") rfl)
  · exact He.free_ok X G (c.fact 37 (f := .free "len") rfl)
  · exact He.free_ok X G (c.fact 38 (f := .free "list") rfl)
  · exact He.free_ok X G (c.fact 39 (f := .free "max") rfl)
  · exact He.free_ok X G (c.fact 40 (f := .free "min") rfl)
  · exact He.free_ok X G (c.fact 41 (f := .free "range") rfl)
  · exact He.free_ok X G (c.fact 42 (f := .free "str") rfl)
  · exact He.free_ok X G (c.fact 43 (f := .free "super") rfl)
  · exact He.free_ok X G (c.fact 44 (f := .free "tuple") rfl)
set_option hygiene false in
open PySem L2 Dl in
local macro_rules | `(tactic| walk_at "len") => `(tactic| first | (rintro ⟨rfl, _⟩; rfl; done) | (rintro ⟨_, rfl, _⟩; rfl; done) | (rintro ⟨_, _, rfl, _⟩; rfl; done) | (rintro ⟨_, _, _, rfl, _⟩; rfl; done) | (rintro ⟨_, _, _, _, rfl, _⟩; rfl; done) | (rintro ⟨_, _, _, _, _, rfl, _⟩; rfl; done) | (rintro ⟨_, _, _, _, _, _, rfl, _⟩; rfl; done) | (rintro ⟨_, _, _, _, _, _, _, rfl, _⟩; rfl; done) | (rintro ⟨_, _, _, _, _, _, _, _, rfl, _⟩; rfl; done) | (rintro ⟨_, _, _, _, _, _, _, _, _, rfl, _⟩; rfl; done) | (rintro ⟨_, _, _, _, _, _, _, _, _, _, rfl, _⟩; rfl; done) | (rintro ⟨_, _, _, _, _, _, _, _, _, _, _, rfl, _⟩; rfl; done) | (rintro ⟨_, _, _, _, _, _, _, _, _, _, _, _, rfl, _⟩; rfl; done) | (rintro ⟨_, _, _, _, _, _, _, _, _, _, _, _, _, rfl, _⟩; rfl; done) | (rintro ⟨_, _, _, _, _, _, _, _, _, _, _, _, _, _, rfl, _⟩; rfl; done) | (rintro ⟨_, _, _, _, _, _, _, _, _, _, _, _, _, _, _, rfl, _⟩; rfl; done) | (rintro ⟨_, _, _, _, _, _, _, _, _, _, _, _, _, _, _, _, rfl, _⟩; rfl; done))
theorem facts (X : K.In h) (G : h.Ns mainGlobals mg) (hfa : mg ("law" : Str) = some (.ref f)) (c : SaysW fa fn TB xds GDS PySem.Challenge.rw_allmends_k07_expression_there_and_back.prog w K) :
    ∃ fd : FuncData, (∀ (s : Shared) (v : Value), BindsTo s fd ⟨[v], []⟩ [("script", v)]) ∧ ∀ base : Heap, K.In base → base.Ns mainGlobals mg → FnOk P w K mg base CX0 95 f fd ["script"] (spLaw K 63) := by
  have hbl := free_all X G c.y.d
  have kg : GDs P w K mg (He.ga K) GDS := gds_of X G c
  have c := c.y
  have kc := kc_of X G c.ct
  have hx_InvalidText : ∀ base : Heap, Ex1 P w K mg base (He.ga K) "InvalidText" "position" := fun base => exIn_of X G xs_InvalidText (c.xw 0 rfl) (c.xb (List.mem_of_getElem? (i := 0) rfl)) (by rfl) (hbl _ (by decide +kernel))
  obtain ⟨fd_end_of, F_end_of⟩ := c.d.def_ 0 (d := d_end_of) rfl
  have h_end_of : ∀ base : Heap, Cal P w K mg base (He.ga K) 1 "end_of" S_end_of := fun base => c_end_of (k := 0) F_end_of (He.glo_ok X G (c.d.fact 0 (f := .glo "end_of") rfl)) hbl kc kg  (fun ds Q Xq h => by first | (revert h; walk_at "len") | exact len_end_of h) p_end_of
  obtain ⟨fd_is_number, F_is_number⟩ := c.d.def_ 1 (d := d_is_number) rfl
  have h_is_number : ∀ base : Heap, Cal P w K mg base (He.ga K) 1 "is_number" S_is_number := fun base => c_is_number (k := 0) F_is_number (He.glo_ok X G (c.d.fact 1 (f := .glo "is_number") rfl)) hbl kc kg  (fun ds Q Xq h => by first | (revert h; walk_at "len") | exact len_is_number h) p_is_number
  obtain ⟨fd_Reader___init__, F_Reader___init__⟩ := c.d.def_ 4 (d := d_Reader___init__) rfl
  have hi_Reader : ∀ base : Heap, CalI P w K mg base (He.ga K) 1 "Reader" S_Reader := fun base => c_Reader___init__ (k := 0) F_Reader___init__ hbl kc kg  (fun ds Q Xq h => by first | (revert h; walk_at "len") | exact len_Reader h) p_Reader___init__
  obtain ⟨fd_Reader_peek, F_Reader_peek⟩ := c.d.def_ 5 (d := d_Reader_peek) rfl
  have hm_Reader_peek : ∀ base : Heap, CalMO P w K mg base (He.ga K) 1 "Reader" "peek" S_Reader_peek := fun base => c_Reader_peek (k := 0) F_Reader_peek hbl kc kg  (fun ds Q Xq h => by first | (revert h; walk_at "len") | exact len_Reader_peek h) p_Reader_peek
  obtain ⟨fd_Reader_where, F_Reader_where⟩ := c.d.def_ 6 (d := d_Reader_where) rfl
  have hm_Reader_where : ∀ base : Heap, CalMO P w K mg base (He.ga K) 1 "Reader" "where" S_Reader_where := fun base => c_Reader_where (k := 0) F_Reader_where hbl kc kg  (fun ds Q Xq h => by first | (revert h; walk_at "len") | exact len_Reader_where h) p_Reader_where
  obtain ⟨fd_Reader_sees_number, F_Reader_sees_number⟩ := c.d.def_ 8 (d := d_Reader_sees_number) rfl
  have hm_Reader_sees_number : ∀ base : Heap, CalMO P w K mg base (He.ga K) 1 "Reader" "sees_number" S_Reader_sees_number := fun base => c_Reader_sees_number (k := 0) F_Reader_sees_number hbl kc kg  (fun ds Q Xq h => by first | (revert h; walk_at "len") | exact len_Reader_sees_number h) p_Reader_sees_number
  obtain ⟨fd_Measure___init__, F_Measure___init__⟩ := c.d.def_ 14 (d := d_Measure___init__) rfl
  have hi_Measure : ∀ base : Heap, CalI P w K mg base (He.ga K) 1 "Measure" S_Measure := fun base => c_Measure___init__ (k := 0) F_Measure___init__ hbl kc kg  (fun ds Q Xq h => by first | (revert h; walk_at "len") | exact len_Measure h) p_Measure___init__
  obtain ⟨fd__law_cell, F__law_cell⟩ := c.d.def_ 27 (d := d__law_cell) rfl
  have h__law_cell : ∀ base : Heap, Cal P w K mg base (He.ga K) 1 "_law_cell" S_cell := fun base => c__law_cell (k := 0) F__law_cell (He.glo_ok X G (c.d.fact 16 (f := .glo "_law_cell") rfl)) hbl kc kg  (fun ds Q Xq h => by first | (revert h; walk_at "len") | exact len__law_cell h) p_cell
  obtain ⟨fd__law_reader, F__law_reader⟩ := c.d.def_ 28 (d := d__law_reader) rfl
  have h__law_reader : ∀ base : Heap, Cal P w K mg base (He.ga K) 1 "_law_reader" S_reader := fun base => c__law_reader (k := 0) F__law_reader (He.glo_ok X G (c.d.fact 17 (f := .glo "_law_reader") rfl)) hbl kc kg  (fun ds Q Xq h => by first | (revert h; walk_at "len") | exact len__law_reader h) p_reader
  obtain ⟨fd__law_next, F__law_next⟩ := c.d.def_ 29 (d := d__law_next) rfl
  have h__law_next : ∀ base : Heap, Cal P w K mg base (He.ga K) 1 "_law_next" S_next := fun base => c__law_next (k := 0) F__law_next (He.glo_ok X G (c.d.fact 18 (f := .glo "_law_next") rfl)) hbl kc kg  (fun ds Q Xq h => by first | (revert h; walk_at "len") | exact len__law_next h) p_next
  obtain ⟨fd__law_level, F__law_level⟩ := c.d.def_ 34 (d := d__law_level) rfl
  have h__law_level : ∀ base : Heap, Cal P w K mg base (He.ga K) 1 "_law_level" S__law_level := fun base => c__law_level (k := 0) F__law_level (He.glo_ok X G (c.d.fact 23 (f := .glo "_law_level") rfl)) hbl kc kg  (fun ds Q Xq h => by first | (revert h; walk_at "len") | exact len__law_level h) p__law_level
  obtain ⟨fd_token_at, F_token_at⟩ := c.d.def_ 2 (d := d_token_at) rfl
  have h_token_at : ∀ base : Heap, Cal P w K mg base (He.ga K) 2 "token_at" S_token_at := fun base => c_token_at (k := 1) F_token_at (He.glo_ok X G (c.d.fact 2 (f := .glo "token_at") rfl)) hbl kc kg ((h_end_of base).mono (by decide)) ((h_is_number base).mono (by decide)) (fun ds Q Xq h => by first | (revert h; walk_at "len") | exact len_token_at h) p_token_at
  obtain ⟨fd_Reader_sees_name, F_Reader_sees_name⟩ := c.d.def_ 7 (d := d_Reader_sees_name) rfl
  have hm_Reader_sees_name : ∀ base : Heap, CalMO P w K mg base (He.ga K) 2 "Reader" "sees_name" S_Reader_sees_name := fun base => c_Reader_sees_name (k := 1) F_Reader_sees_name hbl kc kg ((hm_Reader_peek base).mono (by decide)) (fun ds Q Xq h => by first | (revert h; walk_at "len") | exact len_Reader_sees_name h) p_Reader_sees_name
  obtain ⟨fd__law_name, F__law_name⟩ := c.d.def_ 30 (d := d__law_name) rfl
  have h__law_name : ∀ base : Heap, Cal P w K mg base (He.ga K) 2 "_law_name" S__law_name := fun base => c__law_name (k := 1) F__law_name (He.glo_ok X G (c.d.fact 19 (f := .glo "_law_name") rfl)) hbl kc kg ((h__law_next base).mono (by decide)) (fun ds Q Xq h => by first | (revert h; walk_at "len") | exact len__law_name h) p__law_name
  obtain ⟨fd__law_atom, F__law_atom⟩ := c.d.def_ 31 (d := d__law_atom) rfl
  have h__law_atom : ∀ base : Heap, Cal P w K mg base (He.ga K) 2 "_law_atom" S__law_atom := fun base => c__law_atom (k := 1) F__law_atom (He.glo_ok X G (c.d.fact 20 (f := .glo "_law_atom") rfl)) hbl kc kg ((h__law_next base).mono (by decide)) (fun ds Q Xq h => by first | (revert h; walk_at "len") | exact len__law_atom h) p__law_atom
  obtain ⟨fd__law_least, F__law_least⟩ := c.d.def_ 35 (d := d__law_least) rfl
  have h__law_least : ∀ base : Heap, Cal P w K mg base (He.ga K) 2 "_law_least" S__law_least := fun base => c__law_least (k := 1) F__law_least (He.glo_ok X G (c.d.fact 24 (f := .glo "_law_least") rfl)) hbl kc kg ((h__law_level base).mono (by decide)) (fun ds Q Xq h => by first | (revert h; walk_at "len") | exact len__law_least h) p__law_least
  obtain ⟨fd__law_text, F__law_text⟩ := c.d.def_ 39 (d := d__law_text) rfl
  have h__law_text : ∀ base : Heap, Cal P w K mg base (He.ga K) 2 "_law_text" S__law_text := fun base => c__law_text (k := 1) F__law_text (He.glo_ok X G (c.d.fact 28 (f := .glo "_law_text") rfl)) hbl kc kg ((h__law_next base).mono (by decide)) (fun ds Q Xq h => by first | (revert h; walk_at "len") | exact len__law_text h) p__law_text
  obtain ⟨fd_split_words, F_split_words⟩ := c.d.def_ 3 (d := d_split_words) rfl
  have h_split_words : ∀ base : Heap, Cal P w K mg base (He.ga K) 3 "split_words" S_split_words := fun base => c_split_words (k := 2) F_split_words (He.glo_ok X G (c.d.fact 3 (f := .glo "split_words") rfl)) hbl kc kg ((h_end_of base).mono (by decide)) ((h_token_at base).mono (by decide)) (fun ds Q Xq h => by first | (revert h; walk_at "len") | exact len_split_words h) p_split_words
  obtain ⟨fd_Reader_fault, F_Reader_fault⟩ := c.d.def_ 9 (d := d_Reader_fault) rfl
  have hm_Reader_fault : ∀ base : Heap, CalMO P w K mg base (He.ga K) 3 "Reader" "fault" S_Reader_fault := fun base => c_Reader_fault (k := 0) F_Reader_fault hbl kc kg (hx_InvalidText base) (fun ds Q Xq h => by first | (revert h; walk_at "len") | exact len_Reader_fault h) p_Reader_fault
  obtain ⟨fd__law_chain, F__law_chain⟩ := c.d.def_ 33 (d := d__law_chain) rfl
  have h__law_chain : ∀ base : Heap, Cal P w K mg base (He.ga K) 3 "_law_chain" S__law_chain := fun base => c__law_chain (k := 2) F__law_chain (He.glo_ok X G (c.d.fact 22 (f := .glo "_law_chain") rfl)) hbl kc kg ((h__law_next base).mono (by decide)) ((h__law_atom base).mono (by decide)) (fun ds Q Xq h => by first | (revert h; walk_at "len") | exact len__law_chain h) p__law_chain
  obtain ⟨fd_Reader_take, F_Reader_take⟩ := c.d.def_ 10 (d := d_Reader_take) rfl
  have hm_Reader_take : ∀ base : Heap, CalMO P w K mg base (He.ga K) 4 "Reader" "take" S_Reader_take := fun base => c_Reader_take (k := 3) F_Reader_take hbl kc kg ((hm_Reader_peek base).mono (by decide)) ((hm_Reader_fault base).mono (by decide)) (fun ds Q Xq h => by first | (revert h; walk_at "len") | exact len_Reader_take h) p_Reader_take
  obtain ⟨fd_Reader_take_name, F_Reader_take_name⟩ := c.d.def_ 11 (d := d_Reader_take_name) rfl
  have hm_Reader_take_name : ∀ base : Heap, CalMO P w K mg base (He.ga K) 4 "Reader" "take_name" S_Reader_take_name := fun base => c_Reader_take_name (k := 3) F_Reader_take_name hbl kc kg ((hm_Reader_sees_name base).mono (by decide)) ((hm_Reader_fault base).mono (by decide)) (fun ds Q Xq h => by first | (revert h; walk_at "len") | exact len_Reader_take_name h) p_Reader_take_name
  obtain ⟨fd_Reader_take_number, F_Reader_take_number⟩ := c.d.def_ 12 (d := d_Reader_take_number) rfl
  have hm_Reader_take_number : ∀ base : Heap, CalMO P w K mg base (He.ga K) 4 "Reader" "take_number" S_Reader_take_number := fun base => c_Reader_take_number (k := 3) F_Reader_take_number hbl kc kg ((hm_Reader_sees_number base).mono (by decide)) ((hm_Reader_fault base).mono (by decide)) (fun ds Q Xq h => by first | (revert h; walk_at "len") | exact len_Reader_take_number h) p_Reader_take_number
  obtain ⟨fd_Reader_take_end, F_Reader_take_end⟩ := c.d.def_ 13 (d := d_Reader_take_end) rfl
  have hm_Reader_take_end : ∀ base : Heap, CalMO P w K mg base (He.ga K) 4 "Reader" "take_end" S_Reader_take_end := fun base => c_Reader_take_end (k := 3) F_Reader_take_end hbl kc kg ((hm_Reader_fault base).mono (by decide)) (fun ds Q Xq h => by first | (revert h; walk_at "len") | exact len_Reader_take_end h) p_Reader_take_end
  obtain ⟨fd_take_operator, F_take_operator⟩ := c.d.def_ 15 (d := d_take_operator) rfl
  have h_take_operator : ∀ base : Heap, CalO P w K mg base (He.ga K) 5 "take_operator" S_take_operator := fun base => c_take_operator (k := 4) F_take_operator (He.glo_ok X G (c.d.fact 4 (f := .glo "take_operator") rfl)) hbl kc kg ((hm_Reader_fault base).mono (by decide)) ((hm_Reader_peek base).mono (by decide)) ((hm_Reader_take base).mono (by decide)) (fun ds Q Xq h => by first | (revert h; walk_at "len") | exact len_take_operator h) p_take_operator
  obtain ⟨fd__law_expression, F__law_expression⟩ := c.d.def_ 32 (d := d__law_expression) rfl
  have h__law_expression_0 : ∀ base : Heap, Cal P w K mg base (He.ga K) 3 "_law_expression" (S__law_expression 0) := fun base => Cal.imp (Cal.none F__law_expression (He.glo_ok X G (c.d.fact 21 (f := .glo "_law_expression") rfl)) (FunD.bindsN (ps := ["reader", "names", "depth", "bare"]) F__law_expression fun _ _ _ _ _ _ us hl => match us, hl with | [_, _, _, _], _ => rfl)) z__law_expression
  have h__law_expression_1 : ∀ base : Heap, Cal P w K mg base (He.ga K) 4 "_law_expression" (S__law_expression 1) := fun base => c__law_expression (k := 3) F__law_expression (He.glo_ok X G (c.d.fact 21 (f := .glo "_law_expression") rfl)) hbl kc kg ((h__law_next base).mono (by decide)) ((h__law_atom base).mono (by decide)) ((h__law_expression_0 base).mono (by decide)) (fun ds Q Xq h => by first | (revert h; walk_at "len") | exact len__law_expression h) (p__law_expression 0)
  have h__law_expression_2 : ∀ base : Heap, Cal P w K mg base (He.ga K) 5 "_law_expression" (S__law_expression 2) := fun base => c__law_expression (k := 4) F__law_expression (He.glo_ok X G (c.d.fact 21 (f := .glo "_law_expression") rfl)) hbl kc kg ((h__law_next base).mono (by decide)) ((h__law_atom base).mono (by decide)) ((h__law_expression_1 base).mono (by decide)) (fun ds Q Xq h => by first | (revert h; walk_at "len") | exact len__law_expression h) (p__law_expression 1)
  have h__law_expression_3 : ∀ base : Heap, Cal P w K mg base (He.ga K) 6 "_law_expression" (S__law_expression 3) := fun base => c__law_expression (k := 5) F__law_expression (He.glo_ok X G (c.d.fact 21 (f := .glo "_law_expression") rfl)) hbl kc kg ((h__law_next base).mono (by decide)) ((h__law_atom base).mono (by decide)) ((h__law_expression_2 base).mono (by decide)) (fun ds Q Xq h => by first | (revert h; walk_at "len") | exact len__law_expression h) (p__law_expression 2)
  have h__law_expression_4 : ∀ base : Heap, Cal P w K mg base (He.ga K) 7 "_law_expression" (S__law_expression 4) := fun base => c__law_expression (k := 6) F__law_expression (He.glo_ok X G (c.d.fact 21 (f := .glo "_law_expression") rfl)) hbl kc kg ((h__law_next base).mono (by decide)) ((h__law_atom base).mono (by decide)) ((h__law_expression_3 base).mono (by decide)) (fun ds Q Xq h => by first | (revert h; walk_at "len") | exact len__law_expression h) (p__law_expression 3)
  have h__law_expression : ∀ base : Heap, Cal P w K mg base (He.ga K) 8 "_law_expression" (S__law_expression 5) := fun base => c__law_expression (k := 7) F__law_expression (He.glo_ok X G (c.d.fact 21 (f := .glo "_law_expression") rfl)) hbl kc kg ((h__law_next base).mono (by decide)) ((h__law_atom base).mono (by decide)) ((h__law_expression_4 base).mono (by decide)) (fun ds Q Xq h => by first | (revert h; walk_at "len") | exact len__law_expression h) (p__law_expression 4)
  obtain ⟨fd__law_same, F__law_same⟩ := c.d.def_ 40 (d := d__law_same) rfl
  have h__law_same_0 : ∀ base : Heap, Cal P w K mg base (He.ga K) 1 "_law_same" (S__law_same 0) := fun base => Cal.imp (Cal.none F__law_same (He.glo_ok X G (c.d.fact 29 (f := .glo "_law_same") rfl)) (FunD.bindsN (ps := ["told", "due"]) F__law_same fun _ _ _ _ _ _ us hl => match us, hl with | [_, _], _ => rfl)) z__law_same
  have h__law_same_1 : ∀ base : Heap, Cal P w K mg base (He.ga K) 2 "_law_same" (S__law_same 1) := fun base => c__law_same (k := 1) F__law_same (He.glo_ok X G (c.d.fact 29 (f := .glo "_law_same") rfl)) hbl kc kg ((h__law_same_0 base).mono (by decide)) (fun ds Q Xq h => by first | (revert h; walk_at "len") | exact len__law_same h) (p__law_same 0)
  have h__law_same_2 : ∀ base : Heap, Cal P w K mg base (He.ga K) 3 "_law_same" (S__law_same 2) := fun base => c__law_same (k := 2) F__law_same (He.glo_ok X G (c.d.fact 29 (f := .glo "_law_same") rfl)) hbl kc kg ((h__law_same_1 base).mono (by decide)) (fun ds Q Xq h => by first | (revert h; walk_at "len") | exact len__law_same h) (p__law_same 1)
  have h__law_same_3 : ∀ base : Heap, Cal P w K mg base (He.ga K) 4 "_law_same" (S__law_same 3) := fun base => c__law_same (k := 3) F__law_same (He.glo_ok X G (c.d.fact 29 (f := .glo "_law_same") rfl)) hbl kc kg ((h__law_same_2 base).mono (by decide)) (fun ds Q Xq h => by first | (revert h; walk_at "len") | exact len__law_same h) (p__law_same 2)
  have h__law_same_4 : ∀ base : Heap, Cal P w K mg base (He.ga K) 5 "_law_same" (S__law_same 4) := fun base => c__law_same (k := 4) F__law_same (He.glo_ok X G (c.d.fact 29 (f := .glo "_law_same") rfl)) hbl kc kg ((h__law_same_3 base).mono (by decide)) (fun ds Q Xq h => by first | (revert h; walk_at "len") | exact len__law_same h) (p__law_same 3)
  have h__law_same_5 : ∀ base : Heap, Cal P w K mg base (He.ga K) 6 "_law_same" (S__law_same 5) := fun base => c__law_same (k := 5) F__law_same (He.glo_ok X G (c.d.fact 29 (f := .glo "_law_same") rfl)) hbl kc kg ((h__law_same_4 base).mono (by decide)) (fun ds Q Xq h => by first | (revert h; walk_at "len") | exact len__law_same h) (p__law_same 4)
  have h__law_same_6 : ∀ base : Heap, Cal P w K mg base (He.ga K) 7 "_law_same" (S__law_same 6) := fun base => c__law_same (k := 6) F__law_same (He.glo_ok X G (c.d.fact 29 (f := .glo "_law_same") rfl)) hbl kc kg ((h__law_same_5 base).mono (by decide)) (fun ds Q Xq h => by first | (revert h; walk_at "len") | exact len__law_same h) (p__law_same 5)
  have h__law_same_7 : ∀ base : Heap, Cal P w K mg base (He.ga K) 8 "_law_same" (S__law_same 7) := fun base => c__law_same (k := 7) F__law_same (He.glo_ok X G (c.d.fact 29 (f := .glo "_law_same") rfl)) hbl kc kg ((h__law_same_6 base).mono (by decide)) (fun ds Q Xq h => by first | (revert h; walk_at "len") | exact len__law_same h) (p__law_same 6)
  have h__law_same_8 : ∀ base : Heap, Cal P w K mg base (He.ga K) 9 "_law_same" (S__law_same 8) := fun base => c__law_same (k := 8) F__law_same (He.glo_ok X G (c.d.fact 29 (f := .glo "_law_same") rfl)) hbl kc kg ((h__law_same_7 base).mono (by decide)) (fun ds Q Xq h => by first | (revert h; walk_at "len") | exact len__law_same h) (p__law_same 7)
  have h__law_same_9 : ∀ base : Heap, Cal P w K mg base (He.ga K) 10 "_law_same" (S__law_same 9) := fun base => c__law_same (k := 9) F__law_same (He.glo_ok X G (c.d.fact 29 (f := .glo "_law_same") rfl)) hbl kc kg ((h__law_same_8 base).mono (by decide)) (fun ds Q Xq h => by first | (revert h; walk_at "len") | exact len__law_same h) (p__law_same 8)
  have h__law_same_10 : ∀ base : Heap, Cal P w K mg base (He.ga K) 11 "_law_same" (S__law_same 10) := fun base => c__law_same (k := 10) F__law_same (He.glo_ok X G (c.d.fact 29 (f := .glo "_law_same") rfl)) hbl kc kg ((h__law_same_9 base).mono (by decide)) (fun ds Q Xq h => by first | (revert h; walk_at "len") | exact len__law_same h) (p__law_same 9)
  have h__law_same_11 : ∀ base : Heap, Cal P w K mg base (He.ga K) 12 "_law_same" (S__law_same 11) := fun base => c__law_same (k := 11) F__law_same (He.glo_ok X G (c.d.fact 29 (f := .glo "_law_same") rfl)) hbl kc kg ((h__law_same_10 base).mono (by decide)) (fun ds Q Xq h => by first | (revert h; walk_at "len") | exact len__law_same h) (p__law_same 10)
  have h__law_same_12 : ∀ base : Heap, Cal P w K mg base (He.ga K) 13 "_law_same" (S__law_same 12) := fun base => c__law_same (k := 12) F__law_same (He.glo_ok X G (c.d.fact 29 (f := .glo "_law_same") rfl)) hbl kc kg ((h__law_same_11 base).mono (by decide)) (fun ds Q Xq h => by first | (revert h; walk_at "len") | exact len__law_same h) (p__law_same 11)
  have h__law_same_13 : ∀ base : Heap, Cal P w K mg base (He.ga K) 14 "_law_same" (S__law_same 13) := fun base => c__law_same (k := 13) F__law_same (He.glo_ok X G (c.d.fact 29 (f := .glo "_law_same") rfl)) hbl kc kg ((h__law_same_12 base).mono (by decide)) (fun ds Q Xq h => by first | (revert h; walk_at "len") | exact len__law_same h) (p__law_same 12)
  have h__law_same_14 : ∀ base : Heap, Cal P w K mg base (He.ga K) 15 "_law_same" (S__law_same 14) := fun base => c__law_same (k := 14) F__law_same (He.glo_ok X G (c.d.fact 29 (f := .glo "_law_same") rfl)) hbl kc kg ((h__law_same_13 base).mono (by decide)) (fun ds Q Xq h => by first | (revert h; walk_at "len") | exact len__law_same h) (p__law_same 13)
  have h__law_same_15 : ∀ base : Heap, Cal P w K mg base (He.ga K) 16 "_law_same" (S__law_same 15) := fun base => c__law_same (k := 15) F__law_same (He.glo_ok X G (c.d.fact 29 (f := .glo "_law_same") rfl)) hbl kc kg ((h__law_same_14 base).mono (by decide)) (fun ds Q Xq h => by first | (revert h; walk_at "len") | exact len__law_same h) (p__law_same 14)
  have h__law_same_16 : ∀ base : Heap, Cal P w K mg base (He.ga K) 17 "_law_same" (S__law_same 16) := fun base => c__law_same (k := 16) F__law_same (He.glo_ok X G (c.d.fact 29 (f := .glo "_law_same") rfl)) hbl kc kg ((h__law_same_15 base).mono (by decide)) (fun ds Q Xq h => by first | (revert h; walk_at "len") | exact len__law_same h) (p__law_same 15)
  have h__law_same_17 : ∀ base : Heap, Cal P w K mg base (He.ga K) 18 "_law_same" (S__law_same 17) := fun base => c__law_same (k := 17) F__law_same (He.glo_ok X G (c.d.fact 29 (f := .glo "_law_same") rfl)) hbl kc kg ((h__law_same_16 base).mono (by decide)) (fun ds Q Xq h => by first | (revert h; walk_at "len") | exact len__law_same h) (p__law_same 16)
  have h__law_same_18 : ∀ base : Heap, Cal P w K mg base (He.ga K) 19 "_law_same" (S__law_same 18) := fun base => c__law_same (k := 18) F__law_same (He.glo_ok X G (c.d.fact 29 (f := .glo "_law_same") rfl)) hbl kc kg ((h__law_same_17 base).mono (by decide)) (fun ds Q Xq h => by first | (revert h; walk_at "len") | exact len__law_same h) (p__law_same 17)
  have h__law_same_19 : ∀ base : Heap, Cal P w K mg base (He.ga K) 20 "_law_same" (S__law_same 19) := fun base => c__law_same (k := 19) F__law_same (He.glo_ok X G (c.d.fact 29 (f := .glo "_law_same") rfl)) hbl kc kg ((h__law_same_18 base).mono (by decide)) (fun ds Q Xq h => by first | (revert h; walk_at "len") | exact len__law_same h) (p__law_same 18)
  have h__law_same_20 : ∀ base : Heap, Cal P w K mg base (He.ga K) 21 "_law_same" (S__law_same 20) := fun base => c__law_same (k := 20) F__law_same (He.glo_ok X G (c.d.fact 29 (f := .glo "_law_same") rfl)) hbl kc kg ((h__law_same_19 base).mono (by decide)) (fun ds Q Xq h => by first | (revert h; walk_at "len") | exact len__law_same h) (p__law_same 19)
  have h__law_same_21 : ∀ base : Heap, Cal P w K mg base (He.ga K) 22 "_law_same" (S__law_same 21) := fun base => c__law_same (k := 21) F__law_same (He.glo_ok X G (c.d.fact 29 (f := .glo "_law_same") rfl)) hbl kc kg ((h__law_same_20 base).mono (by decide)) (fun ds Q Xq h => by first | (revert h; walk_at "len") | exact len__law_same h) (p__law_same 20)
  have h__law_same_22 : ∀ base : Heap, Cal P w K mg base (He.ga K) 23 "_law_same" (S__law_same 22) := fun base => c__law_same (k := 22) F__law_same (He.glo_ok X G (c.d.fact 29 (f := .glo "_law_same") rfl)) hbl kc kg ((h__law_same_21 base).mono (by decide)) (fun ds Q Xq h => by first | (revert h; walk_at "len") | exact len__law_same h) (p__law_same 21)
  have h__law_same_23 : ∀ base : Heap, Cal P w K mg base (He.ga K) 24 "_law_same" (S__law_same 23) := fun base => c__law_same (k := 23) F__law_same (He.glo_ok X G (c.d.fact 29 (f := .glo "_law_same") rfl)) hbl kc kg ((h__law_same_22 base).mono (by decide)) (fun ds Q Xq h => by first | (revert h; walk_at "len") | exact len__law_same h) (p__law_same 22)
  have h__law_same_24 : ∀ base : Heap, Cal P w K mg base (He.ga K) 25 "_law_same" (S__law_same 24) := fun base => c__law_same (k := 24) F__law_same (He.glo_ok X G (c.d.fact 29 (f := .glo "_law_same") rfl)) hbl kc kg ((h__law_same_23 base).mono (by decide)) (fun ds Q Xq h => by first | (revert h; walk_at "len") | exact len__law_same h) (p__law_same 23)
  have h__law_same_25 : ∀ base : Heap, Cal P w K mg base (He.ga K) 26 "_law_same" (S__law_same 25) := fun base => c__law_same (k := 25) F__law_same (He.glo_ok X G (c.d.fact 29 (f := .glo "_law_same") rfl)) hbl kc kg ((h__law_same_24 base).mono (by decide)) (fun ds Q Xq h => by first | (revert h; walk_at "len") | exact len__law_same h) (p__law_same 24)
  have h__law_same_26 : ∀ base : Heap, Cal P w K mg base (He.ga K) 27 "_law_same" (S__law_same 26) := fun base => c__law_same (k := 26) F__law_same (He.glo_ok X G (c.d.fact 29 (f := .glo "_law_same") rfl)) hbl kc kg ((h__law_same_25 base).mono (by decide)) (fun ds Q Xq h => by first | (revert h; walk_at "len") | exact len__law_same h) (p__law_same 25)
  have h__law_same_27 : ∀ base : Heap, Cal P w K mg base (He.ga K) 28 "_law_same" (S__law_same 27) := fun base => c__law_same (k := 27) F__law_same (He.glo_ok X G (c.d.fact 29 (f := .glo "_law_same") rfl)) hbl kc kg ((h__law_same_26 base).mono (by decide)) (fun ds Q Xq h => by first | (revert h; walk_at "len") | exact len__law_same h) (p__law_same 26)
  have h__law_same_28 : ∀ base : Heap, Cal P w K mg base (He.ga K) 29 "_law_same" (S__law_same 28) := fun base => c__law_same (k := 28) F__law_same (He.glo_ok X G (c.d.fact 29 (f := .glo "_law_same") rfl)) hbl kc kg ((h__law_same_27 base).mono (by decide)) (fun ds Q Xq h => by first | (revert h; walk_at "len") | exact len__law_same h) (p__law_same 27)
  have h__law_same_29 : ∀ base : Heap, Cal P w K mg base (He.ga K) 30 "_law_same" (S__law_same 29) := fun base => c__law_same (k := 29) F__law_same (He.glo_ok X G (c.d.fact 29 (f := .glo "_law_same") rfl)) hbl kc kg ((h__law_same_28 base).mono (by decide)) (fun ds Q Xq h => by first | (revert h; walk_at "len") | exact len__law_same h) (p__law_same 28)
  have h__law_same_30 : ∀ base : Heap, Cal P w K mg base (He.ga K) 31 "_law_same" (S__law_same 30) := fun base => c__law_same (k := 30) F__law_same (He.glo_ok X G (c.d.fact 29 (f := .glo "_law_same") rfl)) hbl kc kg ((h__law_same_29 base).mono (by decide)) (fun ds Q Xq h => by first | (revert h; walk_at "len") | exact len__law_same h) (p__law_same 29)
  have h__law_same_31 : ∀ base : Heap, Cal P w K mg base (He.ga K) 32 "_law_same" (S__law_same 31) := fun base => c__law_same (k := 31) F__law_same (He.glo_ok X G (c.d.fact 29 (f := .glo "_law_same") rfl)) hbl kc kg ((h__law_same_30 base).mono (by decide)) (fun ds Q Xq h => by first | (revert h; walk_at "len") | exact len__law_same h) (p__law_same 30)
  have h__law_same_32 : ∀ base : Heap, Cal P w K mg base (He.ga K) 33 "_law_same" (S__law_same 32) := fun base => c__law_same (k := 32) F__law_same (He.glo_ok X G (c.d.fact 29 (f := .glo "_law_same") rfl)) hbl kc kg ((h__law_same_31 base).mono (by decide)) (fun ds Q Xq h => by first | (revert h; walk_at "len") | exact len__law_same h) (p__law_same 31)
  have h__law_same_33 : ∀ base : Heap, Cal P w K mg base (He.ga K) 34 "_law_same" (S__law_same 33) := fun base => c__law_same (k := 33) F__law_same (He.glo_ok X G (c.d.fact 29 (f := .glo "_law_same") rfl)) hbl kc kg ((h__law_same_32 base).mono (by decide)) (fun ds Q Xq h => by first | (revert h; walk_at "len") | exact len__law_same h) (p__law_same 32)
  have h__law_same_34 : ∀ base : Heap, Cal P w K mg base (He.ga K) 35 "_law_same" (S__law_same 34) := fun base => c__law_same (k := 34) F__law_same (He.glo_ok X G (c.d.fact 29 (f := .glo "_law_same") rfl)) hbl kc kg ((h__law_same_33 base).mono (by decide)) (fun ds Q Xq h => by first | (revert h; walk_at "len") | exact len__law_same h) (p__law_same 33)
  have h__law_same_35 : ∀ base : Heap, Cal P w K mg base (He.ga K) 36 "_law_same" (S__law_same 35) := fun base => c__law_same (k := 35) F__law_same (He.glo_ok X G (c.d.fact 29 (f := .glo "_law_same") rfl)) hbl kc kg ((h__law_same_34 base).mono (by decide)) (fun ds Q Xq h => by first | (revert h; walk_at "len") | exact len__law_same h) (p__law_same 34)
  have h__law_same_36 : ∀ base : Heap, Cal P w K mg base (He.ga K) 37 "_law_same" (S__law_same 36) := fun base => c__law_same (k := 36) F__law_same (He.glo_ok X G (c.d.fact 29 (f := .glo "_law_same") rfl)) hbl kc kg ((h__law_same_35 base).mono (by decide)) (fun ds Q Xq h => by first | (revert h; walk_at "len") | exact len__law_same h) (p__law_same 35)
  have h__law_same_37 : ∀ base : Heap, Cal P w K mg base (He.ga K) 38 "_law_same" (S__law_same 37) := fun base => c__law_same (k := 37) F__law_same (He.glo_ok X G (c.d.fact 29 (f := .glo "_law_same") rfl)) hbl kc kg ((h__law_same_36 base).mono (by decide)) (fun ds Q Xq h => by first | (revert h; walk_at "len") | exact len__law_same h) (p__law_same 36)
  have h__law_same_38 : ∀ base : Heap, Cal P w K mg base (He.ga K) 39 "_law_same" (S__law_same 38) := fun base => c__law_same (k := 38) F__law_same (He.glo_ok X G (c.d.fact 29 (f := .glo "_law_same") rfl)) hbl kc kg ((h__law_same_37 base).mono (by decide)) (fun ds Q Xq h => by first | (revert h; walk_at "len") | exact len__law_same h) (p__law_same 37)
  have h__law_same_39 : ∀ base : Heap, Cal P w K mg base (He.ga K) 40 "_law_same" (S__law_same 39) := fun base => c__law_same (k := 39) F__law_same (He.glo_ok X G (c.d.fact 29 (f := .glo "_law_same") rfl)) hbl kc kg ((h__law_same_38 base).mono (by decide)) (fun ds Q Xq h => by first | (revert h; walk_at "len") | exact len__law_same h) (p__law_same 38)
  have h__law_same_40 : ∀ base : Heap, Cal P w K mg base (He.ga K) 41 "_law_same" (S__law_same 40) := fun base => c__law_same (k := 40) F__law_same (He.glo_ok X G (c.d.fact 29 (f := .glo "_law_same") rfl)) hbl kc kg ((h__law_same_39 base).mono (by decide)) (fun ds Q Xq h => by first | (revert h; walk_at "len") | exact len__law_same h) (p__law_same 39)
  have h__law_same_41 : ∀ base : Heap, Cal P w K mg base (He.ga K) 42 "_law_same" (S__law_same 41) := fun base => c__law_same (k := 41) F__law_same (He.glo_ok X G (c.d.fact 29 (f := .glo "_law_same") rfl)) hbl kc kg ((h__law_same_40 base).mono (by decide)) (fun ds Q Xq h => by first | (revert h; walk_at "len") | exact len__law_same h) (p__law_same 40)
  have h__law_same : ∀ base : Heap, Cal P w K mg base (He.ga K) 43 "_law_same" (S__law_same 42) := fun base => c__law_same (k := 42) F__law_same (He.glo_ok X G (c.d.fact 29 (f := .glo "_law_same") rfl)) hbl kc kg ((h__law_same_41 base).mono (by decide)) (fun ds Q Xq h => by first | (revert h; walk_at "len") | exact len__law_same h) (p__law_same 41)
  obtain ⟨fd__law_print, F__law_print⟩ := c.d.def_ 36 (d := d__law_print) rfl
  have h__law_print_0 : ∀ base : Heap, Cal P w K mg base (He.ga K) 3 "_law_print" (S__law_print 0) := fun base => Cal.imp (Cal.none F__law_print (He.glo_ok X G (c.d.fact 25 (f := .glo "_law_print") rfl)) (FunD.bindsN (ps := ["told"]) F__law_print fun _ _ _ _ _ _ us hl => match us, hl with | [_], _ => rfl)) z__law_print
  have h__law_print_1 : ∀ base : Heap, Cal P w K mg base (He.ga K) 4 "_law_print" (S__law_print 1) := fun base => c__law_print (k := 3) F__law_print (He.glo_ok X G (c.d.fact 25 (f := .glo "_law_print") rfl)) hbl kc kg ((h__law_print_0 base).mono (by decide)) ((h__law_level base).mono (by decide)) ((h__law_least base).mono (by decide)) (fun ds Q Xq h => by first | (revert h; walk_at "len") | exact len__law_print h) (p__law_print 0)
  have h__law_print_2 : ∀ base : Heap, Cal P w K mg base (He.ga K) 5 "_law_print" (S__law_print 2) := fun base => c__law_print (k := 4) F__law_print (He.glo_ok X G (c.d.fact 25 (f := .glo "_law_print") rfl)) hbl kc kg ((h__law_print_1 base).mono (by decide)) ((h__law_level base).mono (by decide)) ((h__law_least base).mono (by decide)) (fun ds Q Xq h => by first | (revert h; walk_at "len") | exact len__law_print h) (p__law_print 1)
  have h__law_print_3 : ∀ base : Heap, Cal P w K mg base (He.ga K) 6 "_law_print" (S__law_print 3) := fun base => c__law_print (k := 5) F__law_print (He.glo_ok X G (c.d.fact 25 (f := .glo "_law_print") rfl)) hbl kc kg ((h__law_print_2 base).mono (by decide)) ((h__law_level base).mono (by decide)) ((h__law_least base).mono (by decide)) (fun ds Q Xq h => by first | (revert h; walk_at "len") | exact len__law_print h) (p__law_print 2)
  have h__law_print_4 : ∀ base : Heap, Cal P w K mg base (He.ga K) 7 "_law_print" (S__law_print 4) := fun base => c__law_print (k := 6) F__law_print (He.glo_ok X G (c.d.fact 25 (f := .glo "_law_print") rfl)) hbl kc kg ((h__law_print_3 base).mono (by decide)) ((h__law_level base).mono (by decide)) ((h__law_least base).mono (by decide)) (fun ds Q Xq h => by first | (revert h; walk_at "len") | exact len__law_print h) (p__law_print 3)
  have h__law_print_5 : ∀ base : Heap, Cal P w K mg base (He.ga K) 8 "_law_print" (S__law_print 5) := fun base => c__law_print (k := 7) F__law_print (He.glo_ok X G (c.d.fact 25 (f := .glo "_law_print") rfl)) hbl kc kg ((h__law_print_4 base).mono (by decide)) ((h__law_level base).mono (by decide)) ((h__law_least base).mono (by decide)) (fun ds Q Xq h => by first | (revert h; walk_at "len") | exact len__law_print h) (p__law_print 4)
  have h__law_print_6 : ∀ base : Heap, Cal P w K mg base (He.ga K) 9 "_law_print" (S__law_print 6) := fun base => c__law_print (k := 8) F__law_print (He.glo_ok X G (c.d.fact 25 (f := .glo "_law_print") rfl)) hbl kc kg ((h__law_print_5 base).mono (by decide)) ((h__law_level base).mono (by decide)) ((h__law_least base).mono (by decide)) (fun ds Q Xq h => by first | (revert h; walk_at "len") | exact len__law_print h) (p__law_print 5)
  have h__law_print_7 : ∀ base : Heap, Cal P w K mg base (He.ga K) 10 "_law_print" (S__law_print 7) := fun base => c__law_print (k := 9) F__law_print (He.glo_ok X G (c.d.fact 25 (f := .glo "_law_print") rfl)) hbl kc kg ((h__law_print_6 base).mono (by decide)) ((h__law_level base).mono (by decide)) ((h__law_least base).mono (by decide)) (fun ds Q Xq h => by first | (revert h; walk_at "len") | exact len__law_print h) (p__law_print 6)
  have h__law_print_8 : ∀ base : Heap, Cal P w K mg base (He.ga K) 11 "_law_print" (S__law_print 8) := fun base => c__law_print (k := 10) F__law_print (He.glo_ok X G (c.d.fact 25 (f := .glo "_law_print") rfl)) hbl kc kg ((h__law_print_7 base).mono (by decide)) ((h__law_level base).mono (by decide)) ((h__law_least base).mono (by decide)) (fun ds Q Xq h => by first | (revert h; walk_at "len") | exact len__law_print h) (p__law_print 7)
  have h__law_print_9 : ∀ base : Heap, Cal P w K mg base (He.ga K) 12 "_law_print" (S__law_print 9) := fun base => c__law_print (k := 11) F__law_print (He.glo_ok X G (c.d.fact 25 (f := .glo "_law_print") rfl)) hbl kc kg ((h__law_print_8 base).mono (by decide)) ((h__law_level base).mono (by decide)) ((h__law_least base).mono (by decide)) (fun ds Q Xq h => by first | (revert h; walk_at "len") | exact len__law_print h) (p__law_print 8)
  have h__law_print_10 : ∀ base : Heap, Cal P w K mg base (He.ga K) 13 "_law_print" (S__law_print 10) := fun base => c__law_print (k := 12) F__law_print (He.glo_ok X G (c.d.fact 25 (f := .glo "_law_print") rfl)) hbl kc kg ((h__law_print_9 base).mono (by decide)) ((h__law_level base).mono (by decide)) ((h__law_least base).mono (by decide)) (fun ds Q Xq h => by first | (revert h; walk_at "len") | exact len__law_print h) (p__law_print 9)
  have h__law_print_11 : ∀ base : Heap, Cal P w K mg base (He.ga K) 14 "_law_print" (S__law_print 11) := fun base => c__law_print (k := 13) F__law_print (He.glo_ok X G (c.d.fact 25 (f := .glo "_law_print") rfl)) hbl kc kg ((h__law_print_10 base).mono (by decide)) ((h__law_level base).mono (by decide)) ((h__law_least base).mono (by decide)) (fun ds Q Xq h => by first | (revert h; walk_at "len") | exact len__law_print h) (p__law_print 10)
  have h__law_print_12 : ∀ base : Heap, Cal P w K mg base (He.ga K) 15 "_law_print" (S__law_print 12) := fun base => c__law_print (k := 14) F__law_print (He.glo_ok X G (c.d.fact 25 (f := .glo "_law_print") rfl)) hbl kc kg ((h__law_print_11 base).mono (by decide)) ((h__law_level base).mono (by decide)) ((h__law_least base).mono (by decide)) (fun ds Q Xq h => by first | (revert h; walk_at "len") | exact len__law_print h) (p__law_print 11)
  have h__law_print_13 : ∀ base : Heap, Cal P w K mg base (He.ga K) 16 "_law_print" (S__law_print 13) := fun base => c__law_print (k := 15) F__law_print (He.glo_ok X G (c.d.fact 25 (f := .glo "_law_print") rfl)) hbl kc kg ((h__law_print_12 base).mono (by decide)) ((h__law_level base).mono (by decide)) ((h__law_least base).mono (by decide)) (fun ds Q Xq h => by first | (revert h; walk_at "len") | exact len__law_print h) (p__law_print 12)
  have h__law_print_14 : ∀ base : Heap, Cal P w K mg base (He.ga K) 17 "_law_print" (S__law_print 14) := fun base => c__law_print (k := 16) F__law_print (He.glo_ok X G (c.d.fact 25 (f := .glo "_law_print") rfl)) hbl kc kg ((h__law_print_13 base).mono (by decide)) ((h__law_level base).mono (by decide)) ((h__law_least base).mono (by decide)) (fun ds Q Xq h => by first | (revert h; walk_at "len") | exact len__law_print h) (p__law_print 13)
  have h__law_print_15 : ∀ base : Heap, Cal P w K mg base (He.ga K) 18 "_law_print" (S__law_print 15) := fun base => c__law_print (k := 17) F__law_print (He.glo_ok X G (c.d.fact 25 (f := .glo "_law_print") rfl)) hbl kc kg ((h__law_print_14 base).mono (by decide)) ((h__law_level base).mono (by decide)) ((h__law_least base).mono (by decide)) (fun ds Q Xq h => by first | (revert h; walk_at "len") | exact len__law_print h) (p__law_print 14)
  have h__law_print_16 : ∀ base : Heap, Cal P w K mg base (He.ga K) 19 "_law_print" (S__law_print 16) := fun base => c__law_print (k := 18) F__law_print (He.glo_ok X G (c.d.fact 25 (f := .glo "_law_print") rfl)) hbl kc kg ((h__law_print_15 base).mono (by decide)) ((h__law_level base).mono (by decide)) ((h__law_least base).mono (by decide)) (fun ds Q Xq h => by first | (revert h; walk_at "len") | exact len__law_print h) (p__law_print 15)
  have h__law_print_17 : ∀ base : Heap, Cal P w K mg base (He.ga K) 20 "_law_print" (S__law_print 17) := fun base => c__law_print (k := 19) F__law_print (He.glo_ok X G (c.d.fact 25 (f := .glo "_law_print") rfl)) hbl kc kg ((h__law_print_16 base).mono (by decide)) ((h__law_level base).mono (by decide)) ((h__law_least base).mono (by decide)) (fun ds Q Xq h => by first | (revert h; walk_at "len") | exact len__law_print h) (p__law_print 16)
  have h__law_print_18 : ∀ base : Heap, Cal P w K mg base (He.ga K) 21 "_law_print" (S__law_print 18) := fun base => c__law_print (k := 20) F__law_print (He.glo_ok X G (c.d.fact 25 (f := .glo "_law_print") rfl)) hbl kc kg ((h__law_print_17 base).mono (by decide)) ((h__law_level base).mono (by decide)) ((h__law_least base).mono (by decide)) (fun ds Q Xq h => by first | (revert h; walk_at "len") | exact len__law_print h) (p__law_print 17)
  have h__law_print_19 : ∀ base : Heap, Cal P w K mg base (He.ga K) 22 "_law_print" (S__law_print 19) := fun base => c__law_print (k := 21) F__law_print (He.glo_ok X G (c.d.fact 25 (f := .glo "_law_print") rfl)) hbl kc kg ((h__law_print_18 base).mono (by decide)) ((h__law_level base).mono (by decide)) ((h__law_least base).mono (by decide)) (fun ds Q Xq h => by first | (revert h; walk_at "len") | exact len__law_print h) (p__law_print 18)
  have h__law_print_20 : ∀ base : Heap, Cal P w K mg base (He.ga K) 23 "_law_print" (S__law_print 20) := fun base => c__law_print (k := 22) F__law_print (He.glo_ok X G (c.d.fact 25 (f := .glo "_law_print") rfl)) hbl kc kg ((h__law_print_19 base).mono (by decide)) ((h__law_level base).mono (by decide)) ((h__law_least base).mono (by decide)) (fun ds Q Xq h => by first | (revert h; walk_at "len") | exact len__law_print h) (p__law_print 19)
  have h__law_print_21 : ∀ base : Heap, Cal P w K mg base (He.ga K) 24 "_law_print" (S__law_print 21) := fun base => c__law_print (k := 23) F__law_print (He.glo_ok X G (c.d.fact 25 (f := .glo "_law_print") rfl)) hbl kc kg ((h__law_print_20 base).mono (by decide)) ((h__law_level base).mono (by decide)) ((h__law_least base).mono (by decide)) (fun ds Q Xq h => by first | (revert h; walk_at "len") | exact len__law_print h) (p__law_print 20)
  have h__law_print_22 : ∀ base : Heap, Cal P w K mg base (He.ga K) 25 "_law_print" (S__law_print 22) := fun base => c__law_print (k := 24) F__law_print (He.glo_ok X G (c.d.fact 25 (f := .glo "_law_print") rfl)) hbl kc kg ((h__law_print_21 base).mono (by decide)) ((h__law_level base).mono (by decide)) ((h__law_least base).mono (by decide)) (fun ds Q Xq h => by first | (revert h; walk_at "len") | exact len__law_print h) (p__law_print 21)
  have h__law_print_23 : ∀ base : Heap, Cal P w K mg base (He.ga K) 26 "_law_print" (S__law_print 23) := fun base => c__law_print (k := 25) F__law_print (He.glo_ok X G (c.d.fact 25 (f := .glo "_law_print") rfl)) hbl kc kg ((h__law_print_22 base).mono (by decide)) ((h__law_level base).mono (by decide)) ((h__law_least base).mono (by decide)) (fun ds Q Xq h => by first | (revert h; walk_at "len") | exact len__law_print h) (p__law_print 22)
  have h__law_print_24 : ∀ base : Heap, Cal P w K mg base (He.ga K) 27 "_law_print" (S__law_print 24) := fun base => c__law_print (k := 26) F__law_print (He.glo_ok X G (c.d.fact 25 (f := .glo "_law_print") rfl)) hbl kc kg ((h__law_print_23 base).mono (by decide)) ((h__law_level base).mono (by decide)) ((h__law_least base).mono (by decide)) (fun ds Q Xq h => by first | (revert h; walk_at "len") | exact len__law_print h) (p__law_print 23)
  have h__law_print_25 : ∀ base : Heap, Cal P w K mg base (He.ga K) 28 "_law_print" (S__law_print 25) := fun base => c__law_print (k := 27) F__law_print (He.glo_ok X G (c.d.fact 25 (f := .glo "_law_print") rfl)) hbl kc kg ((h__law_print_24 base).mono (by decide)) ((h__law_level base).mono (by decide)) ((h__law_least base).mono (by decide)) (fun ds Q Xq h => by first | (revert h; walk_at "len") | exact len__law_print h) (p__law_print 24)
  have h__law_print_26 : ∀ base : Heap, Cal P w K mg base (He.ga K) 29 "_law_print" (S__law_print 26) := fun base => c__law_print (k := 28) F__law_print (He.glo_ok X G (c.d.fact 25 (f := .glo "_law_print") rfl)) hbl kc kg ((h__law_print_25 base).mono (by decide)) ((h__law_level base).mono (by decide)) ((h__law_least base).mono (by decide)) (fun ds Q Xq h => by first | (revert h; walk_at "len") | exact len__law_print h) (p__law_print 25)
  have h__law_print_27 : ∀ base : Heap, Cal P w K mg base (He.ga K) 30 "_law_print" (S__law_print 27) := fun base => c__law_print (k := 29) F__law_print (He.glo_ok X G (c.d.fact 25 (f := .glo "_law_print") rfl)) hbl kc kg ((h__law_print_26 base).mono (by decide)) ((h__law_level base).mono (by decide)) ((h__law_least base).mono (by decide)) (fun ds Q Xq h => by first | (revert h; walk_at "len") | exact len__law_print h) (p__law_print 26)
  have h__law_print_28 : ∀ base : Heap, Cal P w K mg base (He.ga K) 31 "_law_print" (S__law_print 28) := fun base => c__law_print (k := 30) F__law_print (He.glo_ok X G (c.d.fact 25 (f := .glo "_law_print") rfl)) hbl kc kg ((h__law_print_27 base).mono (by decide)) ((h__law_level base).mono (by decide)) ((h__law_least base).mono (by decide)) (fun ds Q Xq h => by first | (revert h; walk_at "len") | exact len__law_print h) (p__law_print 27)
  have h__law_print_29 : ∀ base : Heap, Cal P w K mg base (He.ga K) 32 "_law_print" (S__law_print 29) := fun base => c__law_print (k := 31) F__law_print (He.glo_ok X G (c.d.fact 25 (f := .glo "_law_print") rfl)) hbl kc kg ((h__law_print_28 base).mono (by decide)) ((h__law_level base).mono (by decide)) ((h__law_least base).mono (by decide)) (fun ds Q Xq h => by first | (revert h; walk_at "len") | exact len__law_print h) (p__law_print 28)
  have h__law_print_30 : ∀ base : Heap, Cal P w K mg base (He.ga K) 33 "_law_print" (S__law_print 30) := fun base => c__law_print (k := 32) F__law_print (He.glo_ok X G (c.d.fact 25 (f := .glo "_law_print") rfl)) hbl kc kg ((h__law_print_29 base).mono (by decide)) ((h__law_level base).mono (by decide)) ((h__law_least base).mono (by decide)) (fun ds Q Xq h => by first | (revert h; walk_at "len") | exact len__law_print h) (p__law_print 29)
  have h__law_print_31 : ∀ base : Heap, Cal P w K mg base (He.ga K) 34 "_law_print" (S__law_print 31) := fun base => c__law_print (k := 33) F__law_print (He.glo_ok X G (c.d.fact 25 (f := .glo "_law_print") rfl)) hbl kc kg ((h__law_print_30 base).mono (by decide)) ((h__law_level base).mono (by decide)) ((h__law_least base).mono (by decide)) (fun ds Q Xq h => by first | (revert h; walk_at "len") | exact len__law_print h) (p__law_print 30)
  have h__law_print_32 : ∀ base : Heap, Cal P w K mg base (He.ga K) 35 "_law_print" (S__law_print 32) := fun base => c__law_print (k := 34) F__law_print (He.glo_ok X G (c.d.fact 25 (f := .glo "_law_print") rfl)) hbl kc kg ((h__law_print_31 base).mono (by decide)) ((h__law_level base).mono (by decide)) ((h__law_least base).mono (by decide)) (fun ds Q Xq h => by first | (revert h; walk_at "len") | exact len__law_print h) (p__law_print 31)
  have h__law_print_33 : ∀ base : Heap, Cal P w K mg base (He.ga K) 36 "_law_print" (S__law_print 33) := fun base => c__law_print (k := 35) F__law_print (He.glo_ok X G (c.d.fact 25 (f := .glo "_law_print") rfl)) hbl kc kg ((h__law_print_32 base).mono (by decide)) ((h__law_level base).mono (by decide)) ((h__law_least base).mono (by decide)) (fun ds Q Xq h => by first | (revert h; walk_at "len") | exact len__law_print h) (p__law_print 32)
  have h__law_print_34 : ∀ base : Heap, Cal P w K mg base (He.ga K) 37 "_law_print" (S__law_print 34) := fun base => c__law_print (k := 36) F__law_print (He.glo_ok X G (c.d.fact 25 (f := .glo "_law_print") rfl)) hbl kc kg ((h__law_print_33 base).mono (by decide)) ((h__law_level base).mono (by decide)) ((h__law_least base).mono (by decide)) (fun ds Q Xq h => by first | (revert h; walk_at "len") | exact len__law_print h) (p__law_print 33)
  have h__law_print_35 : ∀ base : Heap, Cal P w K mg base (He.ga K) 38 "_law_print" (S__law_print 35) := fun base => c__law_print (k := 37) F__law_print (He.glo_ok X G (c.d.fact 25 (f := .glo "_law_print") rfl)) hbl kc kg ((h__law_print_34 base).mono (by decide)) ((h__law_level base).mono (by decide)) ((h__law_least base).mono (by decide)) (fun ds Q Xq h => by first | (revert h; walk_at "len") | exact len__law_print h) (p__law_print 34)
  have h__law_print_36 : ∀ base : Heap, Cal P w K mg base (He.ga K) 39 "_law_print" (S__law_print 36) := fun base => c__law_print (k := 38) F__law_print (He.glo_ok X G (c.d.fact 25 (f := .glo "_law_print") rfl)) hbl kc kg ((h__law_print_35 base).mono (by decide)) ((h__law_level base).mono (by decide)) ((h__law_least base).mono (by decide)) (fun ds Q Xq h => by first | (revert h; walk_at "len") | exact len__law_print h) (p__law_print 35)
  have h__law_print_37 : ∀ base : Heap, Cal P w K mg base (He.ga K) 40 "_law_print" (S__law_print 37) := fun base => c__law_print (k := 39) F__law_print (He.glo_ok X G (c.d.fact 25 (f := .glo "_law_print") rfl)) hbl kc kg ((h__law_print_36 base).mono (by decide)) ((h__law_level base).mono (by decide)) ((h__law_least base).mono (by decide)) (fun ds Q Xq h => by first | (revert h; walk_at "len") | exact len__law_print h) (p__law_print 36)
  have h__law_print_38 : ∀ base : Heap, Cal P w K mg base (He.ga K) 41 "_law_print" (S__law_print 38) := fun base => c__law_print (k := 40) F__law_print (He.glo_ok X G (c.d.fact 25 (f := .glo "_law_print") rfl)) hbl kc kg ((h__law_print_37 base).mono (by decide)) ((h__law_level base).mono (by decide)) ((h__law_least base).mono (by decide)) (fun ds Q Xq h => by first | (revert h; walk_at "len") | exact len__law_print h) (p__law_print 37)
  have h__law_print_39 : ∀ base : Heap, Cal P w K mg base (He.ga K) 42 "_law_print" (S__law_print 39) := fun base => c__law_print (k := 41) F__law_print (He.glo_ok X G (c.d.fact 25 (f := .glo "_law_print") rfl)) hbl kc kg ((h__law_print_38 base).mono (by decide)) ((h__law_level base).mono (by decide)) ((h__law_least base).mono (by decide)) (fun ds Q Xq h => by first | (revert h; walk_at "len") | exact len__law_print h) (p__law_print 38)
  have h__law_print_40 : ∀ base : Heap, Cal P w K mg base (He.ga K) 43 "_law_print" (S__law_print 40) := fun base => c__law_print (k := 42) F__law_print (He.glo_ok X G (c.d.fact 25 (f := .glo "_law_print") rfl)) hbl kc kg ((h__law_print_39 base).mono (by decide)) ((h__law_level base).mono (by decide)) ((h__law_least base).mono (by decide)) (fun ds Q Xq h => by first | (revert h; walk_at "len") | exact len__law_print h) (p__law_print 39)
  have h__law_print_41 : ∀ base : Heap, Cal P w K mg base (He.ga K) 44 "_law_print" (S__law_print 41) := fun base => c__law_print (k := 43) F__law_print (He.glo_ok X G (c.d.fact 25 (f := .glo "_law_print") rfl)) hbl kc kg ((h__law_print_40 base).mono (by decide)) ((h__law_level base).mono (by decide)) ((h__law_least base).mono (by decide)) (fun ds Q Xq h => by first | (revert h; walk_at "len") | exact len__law_print h) (p__law_print 40)
  have h__law_print : ∀ base : Heap, Cal P w K mg base (He.ga K) 45 "_law_print" (S__law_print 42) := fun base => c__law_print (k := 44) F__law_print (He.glo_ok X G (c.d.fact 25 (f := .glo "_law_print") rfl)) hbl kc kg ((h__law_print_41 base).mono (by decide)) ((h__law_level base).mono (by decide)) ((h__law_least base).mono (by decide)) (fun ds Q Xq h => by first | (revert h; walk_at "len") | exact len__law_print h) (p__law_print 41)
  obtain ⟨fd__law_need, F__law_need⟩ := c.d.def_ 37 (d := d__law_need) rfl
  have h__law_need_0 : ∀ base : Heap, Cal P w K mg base (He.ga K) 3 "_law_need" (S__law_need 0) := fun base => Cal.imp (Cal.none F__law_need (He.glo_ok X G (c.d.fact 26 (f := .glo "_law_need") rfl)) (FunD.bindsN (ps := ["told"]) F__law_need fun _ _ _ _ _ _ us hl => match us, hl with | [_], _ => rfl)) z__law_need
  have h__law_need_1 : ∀ base : Heap, Cal P w K mg base (He.ga K) 4 "_law_need" (S__law_need 1) := fun base => c__law_need (k := 3) F__law_need (He.glo_ok X G (c.d.fact 26 (f := .glo "_law_need") rfl)) hbl kc kg ((h__law_level base).mono (by decide)) ((h__law_need_0 base).mono (by decide)) ((h__law_least base).mono (by decide)) (fun ds Q Xq h => by first | (revert h; walk_at "len") | exact len__law_need h) (p__law_need 0)
  have h__law_need_2 : ∀ base : Heap, Cal P w K mg base (He.ga K) 5 "_law_need" (S__law_need 2) := fun base => c__law_need (k := 4) F__law_need (He.glo_ok X G (c.d.fact 26 (f := .glo "_law_need") rfl)) hbl kc kg ((h__law_level base).mono (by decide)) ((h__law_need_1 base).mono (by decide)) ((h__law_least base).mono (by decide)) (fun ds Q Xq h => by first | (revert h; walk_at "len") | exact len__law_need h) (p__law_need 1)
  have h__law_need_3 : ∀ base : Heap, Cal P w K mg base (He.ga K) 6 "_law_need" (S__law_need 3) := fun base => c__law_need (k := 5) F__law_need (He.glo_ok X G (c.d.fact 26 (f := .glo "_law_need") rfl)) hbl kc kg ((h__law_level base).mono (by decide)) ((h__law_need_2 base).mono (by decide)) ((h__law_least base).mono (by decide)) (fun ds Q Xq h => by first | (revert h; walk_at "len") | exact len__law_need h) (p__law_need 2)
  have h__law_need_4 : ∀ base : Heap, Cal P w K mg base (He.ga K) 7 "_law_need" (S__law_need 4) := fun base => c__law_need (k := 6) F__law_need (He.glo_ok X G (c.d.fact 26 (f := .glo "_law_need") rfl)) hbl kc kg ((h__law_level base).mono (by decide)) ((h__law_need_3 base).mono (by decide)) ((h__law_least base).mono (by decide)) (fun ds Q Xq h => by first | (revert h; walk_at "len") | exact len__law_need h) (p__law_need 3)
  have h__law_need_5 : ∀ base : Heap, Cal P w K mg base (He.ga K) 8 "_law_need" (S__law_need 5) := fun base => c__law_need (k := 7) F__law_need (He.glo_ok X G (c.d.fact 26 (f := .glo "_law_need") rfl)) hbl kc kg ((h__law_level base).mono (by decide)) ((h__law_need_4 base).mono (by decide)) ((h__law_least base).mono (by decide)) (fun ds Q Xq h => by first | (revert h; walk_at "len") | exact len__law_need h) (p__law_need 4)
  have h__law_need_6 : ∀ base : Heap, Cal P w K mg base (He.ga K) 9 "_law_need" (S__law_need 6) := fun base => c__law_need (k := 8) F__law_need (He.glo_ok X G (c.d.fact 26 (f := .glo "_law_need") rfl)) hbl kc kg ((h__law_level base).mono (by decide)) ((h__law_need_5 base).mono (by decide)) ((h__law_least base).mono (by decide)) (fun ds Q Xq h => by first | (revert h; walk_at "len") | exact len__law_need h) (p__law_need 5)
  have h__law_need_7 : ∀ base : Heap, Cal P w K mg base (He.ga K) 10 "_law_need" (S__law_need 7) := fun base => c__law_need (k := 9) F__law_need (He.glo_ok X G (c.d.fact 26 (f := .glo "_law_need") rfl)) hbl kc kg ((h__law_level base).mono (by decide)) ((h__law_need_6 base).mono (by decide)) ((h__law_least base).mono (by decide)) (fun ds Q Xq h => by first | (revert h; walk_at "len") | exact len__law_need h) (p__law_need 6)
  have h__law_need_8 : ∀ base : Heap, Cal P w K mg base (He.ga K) 11 "_law_need" (S__law_need 8) := fun base => c__law_need (k := 10) F__law_need (He.glo_ok X G (c.d.fact 26 (f := .glo "_law_need") rfl)) hbl kc kg ((h__law_level base).mono (by decide)) ((h__law_need_7 base).mono (by decide)) ((h__law_least base).mono (by decide)) (fun ds Q Xq h => by first | (revert h; walk_at "len") | exact len__law_need h) (p__law_need 7)
  have h__law_need_9 : ∀ base : Heap, Cal P w K mg base (He.ga K) 12 "_law_need" (S__law_need 9) := fun base => c__law_need (k := 11) F__law_need (He.glo_ok X G (c.d.fact 26 (f := .glo "_law_need") rfl)) hbl kc kg ((h__law_level base).mono (by decide)) ((h__law_need_8 base).mono (by decide)) ((h__law_least base).mono (by decide)) (fun ds Q Xq h => by first | (revert h; walk_at "len") | exact len__law_need h) (p__law_need 8)
  have h__law_need_10 : ∀ base : Heap, Cal P w K mg base (He.ga K) 13 "_law_need" (S__law_need 10) := fun base => c__law_need (k := 12) F__law_need (He.glo_ok X G (c.d.fact 26 (f := .glo "_law_need") rfl)) hbl kc kg ((h__law_level base).mono (by decide)) ((h__law_need_9 base).mono (by decide)) ((h__law_least base).mono (by decide)) (fun ds Q Xq h => by first | (revert h; walk_at "len") | exact len__law_need h) (p__law_need 9)
  have h__law_need_11 : ∀ base : Heap, Cal P w K mg base (He.ga K) 14 "_law_need" (S__law_need 11) := fun base => c__law_need (k := 13) F__law_need (He.glo_ok X G (c.d.fact 26 (f := .glo "_law_need") rfl)) hbl kc kg ((h__law_level base).mono (by decide)) ((h__law_need_10 base).mono (by decide)) ((h__law_least base).mono (by decide)) (fun ds Q Xq h => by first | (revert h; walk_at "len") | exact len__law_need h) (p__law_need 10)
  have h__law_need_12 : ∀ base : Heap, Cal P w K mg base (He.ga K) 15 "_law_need" (S__law_need 12) := fun base => c__law_need (k := 14) F__law_need (He.glo_ok X G (c.d.fact 26 (f := .glo "_law_need") rfl)) hbl kc kg ((h__law_level base).mono (by decide)) ((h__law_need_11 base).mono (by decide)) ((h__law_least base).mono (by decide)) (fun ds Q Xq h => by first | (revert h; walk_at "len") | exact len__law_need h) (p__law_need 11)
  have h__law_need_13 : ∀ base : Heap, Cal P w K mg base (He.ga K) 16 "_law_need" (S__law_need 13) := fun base => c__law_need (k := 15) F__law_need (He.glo_ok X G (c.d.fact 26 (f := .glo "_law_need") rfl)) hbl kc kg ((h__law_level base).mono (by decide)) ((h__law_need_12 base).mono (by decide)) ((h__law_least base).mono (by decide)) (fun ds Q Xq h => by first | (revert h; walk_at "len") | exact len__law_need h) (p__law_need 12)
  have h__law_need_14 : ∀ base : Heap, Cal P w K mg base (He.ga K) 17 "_law_need" (S__law_need 14) := fun base => c__law_need (k := 16) F__law_need (He.glo_ok X G (c.d.fact 26 (f := .glo "_law_need") rfl)) hbl kc kg ((h__law_level base).mono (by decide)) ((h__law_need_13 base).mono (by decide)) ((h__law_least base).mono (by decide)) (fun ds Q Xq h => by first | (revert h; walk_at "len") | exact len__law_need h) (p__law_need 13)
  have h__law_need_15 : ∀ base : Heap, Cal P w K mg base (He.ga K) 18 "_law_need" (S__law_need 15) := fun base => c__law_need (k := 17) F__law_need (He.glo_ok X G (c.d.fact 26 (f := .glo "_law_need") rfl)) hbl kc kg ((h__law_level base).mono (by decide)) ((h__law_need_14 base).mono (by decide)) ((h__law_least base).mono (by decide)) (fun ds Q Xq h => by first | (revert h; walk_at "len") | exact len__law_need h) (p__law_need 14)
  have h__law_need_16 : ∀ base : Heap, Cal P w K mg base (He.ga K) 19 "_law_need" (S__law_need 16) := fun base => c__law_need (k := 18) F__law_need (He.glo_ok X G (c.d.fact 26 (f := .glo "_law_need") rfl)) hbl kc kg ((h__law_level base).mono (by decide)) ((h__law_need_15 base).mono (by decide)) ((h__law_least base).mono (by decide)) (fun ds Q Xq h => by first | (revert h; walk_at "len") | exact len__law_need h) (p__law_need 15)
  have h__law_need_17 : ∀ base : Heap, Cal P w K mg base (He.ga K) 20 "_law_need" (S__law_need 17) := fun base => c__law_need (k := 19) F__law_need (He.glo_ok X G (c.d.fact 26 (f := .glo "_law_need") rfl)) hbl kc kg ((h__law_level base).mono (by decide)) ((h__law_need_16 base).mono (by decide)) ((h__law_least base).mono (by decide)) (fun ds Q Xq h => by first | (revert h; walk_at "len") | exact len__law_need h) (p__law_need 16)
  have h__law_need_18 : ∀ base : Heap, Cal P w K mg base (He.ga K) 21 "_law_need" (S__law_need 18) := fun base => c__law_need (k := 20) F__law_need (He.glo_ok X G (c.d.fact 26 (f := .glo "_law_need") rfl)) hbl kc kg ((h__law_level base).mono (by decide)) ((h__law_need_17 base).mono (by decide)) ((h__law_least base).mono (by decide)) (fun ds Q Xq h => by first | (revert h; walk_at "len") | exact len__law_need h) (p__law_need 17)
  have h__law_need_19 : ∀ base : Heap, Cal P w K mg base (He.ga K) 22 "_law_need" (S__law_need 19) := fun base => c__law_need (k := 21) F__law_need (He.glo_ok X G (c.d.fact 26 (f := .glo "_law_need") rfl)) hbl kc kg ((h__law_level base).mono (by decide)) ((h__law_need_18 base).mono (by decide)) ((h__law_least base).mono (by decide)) (fun ds Q Xq h => by first | (revert h; walk_at "len") | exact len__law_need h) (p__law_need 18)
  have h__law_need_20 : ∀ base : Heap, Cal P w K mg base (He.ga K) 23 "_law_need" (S__law_need 20) := fun base => c__law_need (k := 22) F__law_need (He.glo_ok X G (c.d.fact 26 (f := .glo "_law_need") rfl)) hbl kc kg ((h__law_level base).mono (by decide)) ((h__law_need_19 base).mono (by decide)) ((h__law_least base).mono (by decide)) (fun ds Q Xq h => by first | (revert h; walk_at "len") | exact len__law_need h) (p__law_need 19)
  have h__law_need_21 : ∀ base : Heap, Cal P w K mg base (He.ga K) 24 "_law_need" (S__law_need 21) := fun base => c__law_need (k := 23) F__law_need (He.glo_ok X G (c.d.fact 26 (f := .glo "_law_need") rfl)) hbl kc kg ((h__law_level base).mono (by decide)) ((h__law_need_20 base).mono (by decide)) ((h__law_least base).mono (by decide)) (fun ds Q Xq h => by first | (revert h; walk_at "len") | exact len__law_need h) (p__law_need 20)
  have h__law_need_22 : ∀ base : Heap, Cal P w K mg base (He.ga K) 25 "_law_need" (S__law_need 22) := fun base => c__law_need (k := 24) F__law_need (He.glo_ok X G (c.d.fact 26 (f := .glo "_law_need") rfl)) hbl kc kg ((h__law_level base).mono (by decide)) ((h__law_need_21 base).mono (by decide)) ((h__law_least base).mono (by decide)) (fun ds Q Xq h => by first | (revert h; walk_at "len") | exact len__law_need h) (p__law_need 21)
  have h__law_need_23 : ∀ base : Heap, Cal P w K mg base (He.ga K) 26 "_law_need" (S__law_need 23) := fun base => c__law_need (k := 25) F__law_need (He.glo_ok X G (c.d.fact 26 (f := .glo "_law_need") rfl)) hbl kc kg ((h__law_level base).mono (by decide)) ((h__law_need_22 base).mono (by decide)) ((h__law_least base).mono (by decide)) (fun ds Q Xq h => by first | (revert h; walk_at "len") | exact len__law_need h) (p__law_need 22)
  have h__law_need_24 : ∀ base : Heap, Cal P w K mg base (He.ga K) 27 "_law_need" (S__law_need 24) := fun base => c__law_need (k := 26) F__law_need (He.glo_ok X G (c.d.fact 26 (f := .glo "_law_need") rfl)) hbl kc kg ((h__law_level base).mono (by decide)) ((h__law_need_23 base).mono (by decide)) ((h__law_least base).mono (by decide)) (fun ds Q Xq h => by first | (revert h; walk_at "len") | exact len__law_need h) (p__law_need 23)
  have h__law_need_25 : ∀ base : Heap, Cal P w K mg base (He.ga K) 28 "_law_need" (S__law_need 25) := fun base => c__law_need (k := 27) F__law_need (He.glo_ok X G (c.d.fact 26 (f := .glo "_law_need") rfl)) hbl kc kg ((h__law_level base).mono (by decide)) ((h__law_need_24 base).mono (by decide)) ((h__law_least base).mono (by decide)) (fun ds Q Xq h => by first | (revert h; walk_at "len") | exact len__law_need h) (p__law_need 24)
  have h__law_need_26 : ∀ base : Heap, Cal P w K mg base (He.ga K) 29 "_law_need" (S__law_need 26) := fun base => c__law_need (k := 28) F__law_need (He.glo_ok X G (c.d.fact 26 (f := .glo "_law_need") rfl)) hbl kc kg ((h__law_level base).mono (by decide)) ((h__law_need_25 base).mono (by decide)) ((h__law_least base).mono (by decide)) (fun ds Q Xq h => by first | (revert h; walk_at "len") | exact len__law_need h) (p__law_need 25)
  have h__law_need_27 : ∀ base : Heap, Cal P w K mg base (He.ga K) 30 "_law_need" (S__law_need 27) := fun base => c__law_need (k := 29) F__law_need (He.glo_ok X G (c.d.fact 26 (f := .glo "_law_need") rfl)) hbl kc kg ((h__law_level base).mono (by decide)) ((h__law_need_26 base).mono (by decide)) ((h__law_least base).mono (by decide)) (fun ds Q Xq h => by first | (revert h; walk_at "len") | exact len__law_need h) (p__law_need 26)
  have h__law_need_28 : ∀ base : Heap, Cal P w K mg base (He.ga K) 31 "_law_need" (S__law_need 28) := fun base => c__law_need (k := 30) F__law_need (He.glo_ok X G (c.d.fact 26 (f := .glo "_law_need") rfl)) hbl kc kg ((h__law_level base).mono (by decide)) ((h__law_need_27 base).mono (by decide)) ((h__law_least base).mono (by decide)) (fun ds Q Xq h => by first | (revert h; walk_at "len") | exact len__law_need h) (p__law_need 27)
  have h__law_need_29 : ∀ base : Heap, Cal P w K mg base (He.ga K) 32 "_law_need" (S__law_need 29) := fun base => c__law_need (k := 31) F__law_need (He.glo_ok X G (c.d.fact 26 (f := .glo "_law_need") rfl)) hbl kc kg ((h__law_level base).mono (by decide)) ((h__law_need_28 base).mono (by decide)) ((h__law_least base).mono (by decide)) (fun ds Q Xq h => by first | (revert h; walk_at "len") | exact len__law_need h) (p__law_need 28)
  have h__law_need_30 : ∀ base : Heap, Cal P w K mg base (He.ga K) 33 "_law_need" (S__law_need 30) := fun base => c__law_need (k := 32) F__law_need (He.glo_ok X G (c.d.fact 26 (f := .glo "_law_need") rfl)) hbl kc kg ((h__law_level base).mono (by decide)) ((h__law_need_29 base).mono (by decide)) ((h__law_least base).mono (by decide)) (fun ds Q Xq h => by first | (revert h; walk_at "len") | exact len__law_need h) (p__law_need 29)
  have h__law_need_31 : ∀ base : Heap, Cal P w K mg base (He.ga K) 34 "_law_need" (S__law_need 31) := fun base => c__law_need (k := 33) F__law_need (He.glo_ok X G (c.d.fact 26 (f := .glo "_law_need") rfl)) hbl kc kg ((h__law_level base).mono (by decide)) ((h__law_need_30 base).mono (by decide)) ((h__law_least base).mono (by decide)) (fun ds Q Xq h => by first | (revert h; walk_at "len") | exact len__law_need h) (p__law_need 30)
  have h__law_need_32 : ∀ base : Heap, Cal P w K mg base (He.ga K) 35 "_law_need" (S__law_need 32) := fun base => c__law_need (k := 34) F__law_need (He.glo_ok X G (c.d.fact 26 (f := .glo "_law_need") rfl)) hbl kc kg ((h__law_level base).mono (by decide)) ((h__law_need_31 base).mono (by decide)) ((h__law_least base).mono (by decide)) (fun ds Q Xq h => by first | (revert h; walk_at "len") | exact len__law_need h) (p__law_need 31)
  have h__law_need_33 : ∀ base : Heap, Cal P w K mg base (He.ga K) 36 "_law_need" (S__law_need 33) := fun base => c__law_need (k := 35) F__law_need (He.glo_ok X G (c.d.fact 26 (f := .glo "_law_need") rfl)) hbl kc kg ((h__law_level base).mono (by decide)) ((h__law_need_32 base).mono (by decide)) ((h__law_least base).mono (by decide)) (fun ds Q Xq h => by first | (revert h; walk_at "len") | exact len__law_need h) (p__law_need 32)
  have h__law_need_34 : ∀ base : Heap, Cal P w K mg base (He.ga K) 37 "_law_need" (S__law_need 34) := fun base => c__law_need (k := 36) F__law_need (He.glo_ok X G (c.d.fact 26 (f := .glo "_law_need") rfl)) hbl kc kg ((h__law_level base).mono (by decide)) ((h__law_need_33 base).mono (by decide)) ((h__law_least base).mono (by decide)) (fun ds Q Xq h => by first | (revert h; walk_at "len") | exact len__law_need h) (p__law_need 33)
  have h__law_need_35 : ∀ base : Heap, Cal P w K mg base (He.ga K) 38 "_law_need" (S__law_need 35) := fun base => c__law_need (k := 37) F__law_need (He.glo_ok X G (c.d.fact 26 (f := .glo "_law_need") rfl)) hbl kc kg ((h__law_level base).mono (by decide)) ((h__law_need_34 base).mono (by decide)) ((h__law_least base).mono (by decide)) (fun ds Q Xq h => by first | (revert h; walk_at "len") | exact len__law_need h) (p__law_need 34)
  have h__law_need_36 : ∀ base : Heap, Cal P w K mg base (He.ga K) 39 "_law_need" (S__law_need 36) := fun base => c__law_need (k := 38) F__law_need (He.glo_ok X G (c.d.fact 26 (f := .glo "_law_need") rfl)) hbl kc kg ((h__law_level base).mono (by decide)) ((h__law_need_35 base).mono (by decide)) ((h__law_least base).mono (by decide)) (fun ds Q Xq h => by first | (revert h; walk_at "len") | exact len__law_need h) (p__law_need 35)
  have h__law_need_37 : ∀ base : Heap, Cal P w K mg base (He.ga K) 40 "_law_need" (S__law_need 37) := fun base => c__law_need (k := 39) F__law_need (He.glo_ok X G (c.d.fact 26 (f := .glo "_law_need") rfl)) hbl kc kg ((h__law_level base).mono (by decide)) ((h__law_need_36 base).mono (by decide)) ((h__law_least base).mono (by decide)) (fun ds Q Xq h => by first | (revert h; walk_at "len") | exact len__law_need h) (p__law_need 36)
  have h__law_need_38 : ∀ base : Heap, Cal P w K mg base (He.ga K) 41 "_law_need" (S__law_need 38) := fun base => c__law_need (k := 40) F__law_need (He.glo_ok X G (c.d.fact 26 (f := .glo "_law_need") rfl)) hbl kc kg ((h__law_level base).mono (by decide)) ((h__law_need_37 base).mono (by decide)) ((h__law_least base).mono (by decide)) (fun ds Q Xq h => by first | (revert h; walk_at "len") | exact len__law_need h) (p__law_need 37)
  have h__law_need_39 : ∀ base : Heap, Cal P w K mg base (He.ga K) 42 "_law_need" (S__law_need 39) := fun base => c__law_need (k := 41) F__law_need (He.glo_ok X G (c.d.fact 26 (f := .glo "_law_need") rfl)) hbl kc kg ((h__law_level base).mono (by decide)) ((h__law_need_38 base).mono (by decide)) ((h__law_least base).mono (by decide)) (fun ds Q Xq h => by first | (revert h; walk_at "len") | exact len__law_need h) (p__law_need 38)
  have h__law_need_40 : ∀ base : Heap, Cal P w K mg base (He.ga K) 43 "_law_need" (S__law_need 40) := fun base => c__law_need (k := 42) F__law_need (He.glo_ok X G (c.d.fact 26 (f := .glo "_law_need") rfl)) hbl kc kg ((h__law_level base).mono (by decide)) ((h__law_need_39 base).mono (by decide)) ((h__law_least base).mono (by decide)) (fun ds Q Xq h => by first | (revert h; walk_at "len") | exact len__law_need h) (p__law_need 39)
  have h__law_need_41 : ∀ base : Heap, Cal P w K mg base (He.ga K) 44 "_law_need" (S__law_need 41) := fun base => c__law_need (k := 43) F__law_need (He.glo_ok X G (c.d.fact 26 (f := .glo "_law_need") rfl)) hbl kc kg ((h__law_level base).mono (by decide)) ((h__law_need_40 base).mono (by decide)) ((h__law_least base).mono (by decide)) (fun ds Q Xq h => by first | (revert h; walk_at "len") | exact len__law_need h) (p__law_need 40)
  have h__law_need : ∀ base : Heap, Cal P w K mg base (He.ga K) 45 "_law_need" (S__law_need 42) := fun base => c__law_need (k := 44) F__law_need (He.glo_ok X G (c.d.fact 26 (f := .glo "_law_need") rfl)) hbl kc kg ((h__law_level base).mono (by decide)) ((h__law_need_41 base).mono (by decide)) ((h__law_least base).mono (by decide)) (fun ds Q Xq h => by first | (revert h; walk_at "len") | exact len__law_need h) (p__law_need 41)
  obtain ⟨fd_written_part, F_written_part⟩ := c.d.def_ 25 (d := d_written_part) rfl
  obtain ⟨fd_print_expression, F_print_expression⟩ := c.d.def_ 26 (d := d_print_expression) rfl
  obtain ⟨fd_written_part, F_written_part⟩ := c.d.def_ 25 (d := d_written_part) rfl
  have h_print_expression_0 : ∀ base : Heap, Cal P w K mg base (He.ga K) 0 "print_expression" (S_print_expression 0) := fun base => Cal.imp (Cal.none F_print_expression (He.glo_ok X G (c.d.fact 15 (f := .glo "print_expression") rfl)) (FunD.bindsN (ps := ["expression"]) F_print_expression fun _ _ _ _ _ _ us hl => match us, hl with | [_], _ => rfl)) (fun ads Q Xq h => z_print_expression ads Q Xq h)
  have h_written_part_0 : ∀ base : Heap, Cal P w K mg base (He.ga K) 1 "written_part" (S_written_part 0) := fun base => c_written_part (k := 0) F_written_part (He.glo_ok X G (c.d.fact 14 (f := .glo "written_part") rfl)) hbl kc kg ((h_print_expression_0 base).mono (by decide)) (fun ds Q Xq h => by first | (revert h; walk_at "len") | exact len_written_part h) (p_written_part 0)
  have h_print_expression_1 : ∀ base : Heap, Cal P w K mg base (He.ga K) 2 "print_expression" (S_print_expression 1) := fun base => c_print_expression (k := 1) F_print_expression (He.glo_ok X G (c.d.fact 15 (f := .glo "print_expression") rfl)) hbl kc kg ((h_written_part_0 base).mono (by decide)) (fun ds Q Xq h => by first | (revert h; walk_at "len") | exact len_print_expression h) (p_print_expression 0)
  have h_written_part_1 : ∀ base : Heap, Cal P w K mg base (He.ga K) 3 "written_part" (S_written_part 1) := fun base => c_written_part (k := 2) F_written_part (He.glo_ok X G (c.d.fact 14 (f := .glo "written_part") rfl)) hbl kc kg ((h_print_expression_1 base).mono (by decide)) (fun ds Q Xq h => by first | (revert h; walk_at "len") | exact len_written_part h) (p_written_part 1)
  have h_print_expression_2 : ∀ base : Heap, Cal P w K mg base (He.ga K) 4 "print_expression" (S_print_expression 2) := fun base => c_print_expression (k := 3) F_print_expression (He.glo_ok X G (c.d.fact 15 (f := .glo "print_expression") rfl)) hbl kc kg ((h_written_part_1 base).mono (by decide)) (fun ds Q Xq h => by first | (revert h; walk_at "len") | exact len_print_expression h) (p_print_expression 1)
  have h_written_part_2 : ∀ base : Heap, Cal P w K mg base (He.ga K) 5 "written_part" (S_written_part 2) := fun base => c_written_part (k := 4) F_written_part (He.glo_ok X G (c.d.fact 14 (f := .glo "written_part") rfl)) hbl kc kg ((h_print_expression_2 base).mono (by decide)) (fun ds Q Xq h => by first | (revert h; walk_at "len") | exact len_written_part h) (p_written_part 2)
  have h_print_expression_3 : ∀ base : Heap, Cal P w K mg base (He.ga K) 6 "print_expression" (S_print_expression 3) := fun base => c_print_expression (k := 5) F_print_expression (He.glo_ok X G (c.d.fact 15 (f := .glo "print_expression") rfl)) hbl kc kg ((h_written_part_2 base).mono (by decide)) (fun ds Q Xq h => by first | (revert h; walk_at "len") | exact len_print_expression h) (p_print_expression 2)
  have h_written_part_3 : ∀ base : Heap, Cal P w K mg base (He.ga K) 7 "written_part" (S_written_part 3) := fun base => c_written_part (k := 6) F_written_part (He.glo_ok X G (c.d.fact 14 (f := .glo "written_part") rfl)) hbl kc kg ((h_print_expression_3 base).mono (by decide)) (fun ds Q Xq h => by first | (revert h; walk_at "len") | exact len_written_part h) (p_written_part 3)
  have h_print_expression_4 : ∀ base : Heap, Cal P w K mg base (He.ga K) 8 "print_expression" (S_print_expression 4) := fun base => c_print_expression (k := 7) F_print_expression (He.glo_ok X G (c.d.fact 15 (f := .glo "print_expression") rfl)) hbl kc kg ((h_written_part_3 base).mono (by decide)) (fun ds Q Xq h => by first | (revert h; walk_at "len") | exact len_print_expression h) (p_print_expression 3)
  have h_written_part_4 : ∀ base : Heap, Cal P w K mg base (He.ga K) 9 "written_part" (S_written_part 4) := fun base => c_written_part (k := 8) F_written_part (He.glo_ok X G (c.d.fact 14 (f := .glo "written_part") rfl)) hbl kc kg ((h_print_expression_4 base).mono (by decide)) (fun ds Q Xq h => by first | (revert h; walk_at "len") | exact len_written_part h) (p_written_part 4)
  have h_print_expression_5 : ∀ base : Heap, Cal P w K mg base (He.ga K) 10 "print_expression" (S_print_expression 5) := fun base => c_print_expression (k := 9) F_print_expression (He.glo_ok X G (c.d.fact 15 (f := .glo "print_expression") rfl)) hbl kc kg ((h_written_part_4 base).mono (by decide)) (fun ds Q Xq h => by first | (revert h; walk_at "len") | exact len_print_expression h) (p_print_expression 4)
  have h_written_part_5 : ∀ base : Heap, Cal P w K mg base (He.ga K) 11 "written_part" (S_written_part 5) := fun base => c_written_part (k := 10) F_written_part (He.glo_ok X G (c.d.fact 14 (f := .glo "written_part") rfl)) hbl kc kg ((h_print_expression_5 base).mono (by decide)) (fun ds Q Xq h => by first | (revert h; walk_at "len") | exact len_written_part h) (p_written_part 5)
  have h_print_expression_6 : ∀ base : Heap, Cal P w K mg base (He.ga K) 12 "print_expression" (S_print_expression 6) := fun base => c_print_expression (k := 11) F_print_expression (He.glo_ok X G (c.d.fact 15 (f := .glo "print_expression") rfl)) hbl kc kg ((h_written_part_5 base).mono (by decide)) (fun ds Q Xq h => by first | (revert h; walk_at "len") | exact len_print_expression h) (p_print_expression 5)
  have h_written_part_6 : ∀ base : Heap, Cal P w K mg base (He.ga K) 13 "written_part" (S_written_part 6) := fun base => c_written_part (k := 12) F_written_part (He.glo_ok X G (c.d.fact 14 (f := .glo "written_part") rfl)) hbl kc kg ((h_print_expression_6 base).mono (by decide)) (fun ds Q Xq h => by first | (revert h; walk_at "len") | exact len_written_part h) (p_written_part 6)
  have h_print_expression_7 : ∀ base : Heap, Cal P w K mg base (He.ga K) 14 "print_expression" (S_print_expression 7) := fun base => c_print_expression (k := 13) F_print_expression (He.glo_ok X G (c.d.fact 15 (f := .glo "print_expression") rfl)) hbl kc kg ((h_written_part_6 base).mono (by decide)) (fun ds Q Xq h => by first | (revert h; walk_at "len") | exact len_print_expression h) (p_print_expression 6)
  have h_written_part_7 : ∀ base : Heap, Cal P w K mg base (He.ga K) 15 "written_part" (S_written_part 7) := fun base => c_written_part (k := 14) F_written_part (He.glo_ok X G (c.d.fact 14 (f := .glo "written_part") rfl)) hbl kc kg ((h_print_expression_7 base).mono (by decide)) (fun ds Q Xq h => by first | (revert h; walk_at "len") | exact len_written_part h) (p_written_part 7)
  have h_print_expression_8 : ∀ base : Heap, Cal P w K mg base (He.ga K) 16 "print_expression" (S_print_expression 8) := fun base => c_print_expression (k := 15) F_print_expression (He.glo_ok X G (c.d.fact 15 (f := .glo "print_expression") rfl)) hbl kc kg ((h_written_part_7 base).mono (by decide)) (fun ds Q Xq h => by first | (revert h; walk_at "len") | exact len_print_expression h) (p_print_expression 7)
  have h_written_part_8 : ∀ base : Heap, Cal P w K mg base (He.ga K) 17 "written_part" (S_written_part 8) := fun base => c_written_part (k := 16) F_written_part (He.glo_ok X G (c.d.fact 14 (f := .glo "written_part") rfl)) hbl kc kg ((h_print_expression_8 base).mono (by decide)) (fun ds Q Xq h => by first | (revert h; walk_at "len") | exact len_written_part h) (p_written_part 8)
  have h_print_expression_9 : ∀ base : Heap, Cal P w K mg base (He.ga K) 18 "print_expression" (S_print_expression 9) := fun base => c_print_expression (k := 17) F_print_expression (He.glo_ok X G (c.d.fact 15 (f := .glo "print_expression") rfl)) hbl kc kg ((h_written_part_8 base).mono (by decide)) (fun ds Q Xq h => by first | (revert h; walk_at "len") | exact len_print_expression h) (p_print_expression 8)
  have h_written_part_9 : ∀ base : Heap, Cal P w K mg base (He.ga K) 19 "written_part" (S_written_part 9) := fun base => c_written_part (k := 18) F_written_part (He.glo_ok X G (c.d.fact 14 (f := .glo "written_part") rfl)) hbl kc kg ((h_print_expression_9 base).mono (by decide)) (fun ds Q Xq h => by first | (revert h; walk_at "len") | exact len_written_part h) (p_written_part 9)
  have h_print_expression_10 : ∀ base : Heap, Cal P w K mg base (He.ga K) 20 "print_expression" (S_print_expression 10) := fun base => c_print_expression (k := 19) F_print_expression (He.glo_ok X G (c.d.fact 15 (f := .glo "print_expression") rfl)) hbl kc kg ((h_written_part_9 base).mono (by decide)) (fun ds Q Xq h => by first | (revert h; walk_at "len") | exact len_print_expression h) (p_print_expression 9)
  have h_written_part_10 : ∀ base : Heap, Cal P w K mg base (He.ga K) 21 "written_part" (S_written_part 10) := fun base => c_written_part (k := 20) F_written_part (He.glo_ok X G (c.d.fact 14 (f := .glo "written_part") rfl)) hbl kc kg ((h_print_expression_10 base).mono (by decide)) (fun ds Q Xq h => by first | (revert h; walk_at "len") | exact len_written_part h) (p_written_part 10)
  have h_print_expression_11 : ∀ base : Heap, Cal P w K mg base (He.ga K) 22 "print_expression" (S_print_expression 11) := fun base => c_print_expression (k := 21) F_print_expression (He.glo_ok X G (c.d.fact 15 (f := .glo "print_expression") rfl)) hbl kc kg ((h_written_part_10 base).mono (by decide)) (fun ds Q Xq h => by first | (revert h; walk_at "len") | exact len_print_expression h) (p_print_expression 10)
  have h_written_part_11 : ∀ base : Heap, Cal P w K mg base (He.ga K) 23 "written_part" (S_written_part 11) := fun base => c_written_part (k := 22) F_written_part (He.glo_ok X G (c.d.fact 14 (f := .glo "written_part") rfl)) hbl kc kg ((h_print_expression_11 base).mono (by decide)) (fun ds Q Xq h => by first | (revert h; walk_at "len") | exact len_written_part h) (p_written_part 11)
  have h_print_expression_12 : ∀ base : Heap, Cal P w K mg base (He.ga K) 24 "print_expression" (S_print_expression 12) := fun base => c_print_expression (k := 23) F_print_expression (He.glo_ok X G (c.d.fact 15 (f := .glo "print_expression") rfl)) hbl kc kg ((h_written_part_11 base).mono (by decide)) (fun ds Q Xq h => by first | (revert h; walk_at "len") | exact len_print_expression h) (p_print_expression 11)
  have h_written_part_12 : ∀ base : Heap, Cal P w K mg base (He.ga K) 25 "written_part" (S_written_part 12) := fun base => c_written_part (k := 24) F_written_part (He.glo_ok X G (c.d.fact 14 (f := .glo "written_part") rfl)) hbl kc kg ((h_print_expression_12 base).mono (by decide)) (fun ds Q Xq h => by first | (revert h; walk_at "len") | exact len_written_part h) (p_written_part 12)
  have h_print_expression_13 : ∀ base : Heap, Cal P w K mg base (He.ga K) 26 "print_expression" (S_print_expression 13) := fun base => c_print_expression (k := 25) F_print_expression (He.glo_ok X G (c.d.fact 15 (f := .glo "print_expression") rfl)) hbl kc kg ((h_written_part_12 base).mono (by decide)) (fun ds Q Xq h => by first | (revert h; walk_at "len") | exact len_print_expression h) (p_print_expression 12)
  have h_written_part_13 : ∀ base : Heap, Cal P w K mg base (He.ga K) 27 "written_part" (S_written_part 13) := fun base => c_written_part (k := 26) F_written_part (He.glo_ok X G (c.d.fact 14 (f := .glo "written_part") rfl)) hbl kc kg ((h_print_expression_13 base).mono (by decide)) (fun ds Q Xq h => by first | (revert h; walk_at "len") | exact len_written_part h) (p_written_part 13)
  have h_print_expression_14 : ∀ base : Heap, Cal P w K mg base (He.ga K) 28 "print_expression" (S_print_expression 14) := fun base => c_print_expression (k := 27) F_print_expression (He.glo_ok X G (c.d.fact 15 (f := .glo "print_expression") rfl)) hbl kc kg ((h_written_part_13 base).mono (by decide)) (fun ds Q Xq h => by first | (revert h; walk_at "len") | exact len_print_expression h) (p_print_expression 13)
  have h_written_part_14 : ∀ base : Heap, Cal P w K mg base (He.ga K) 29 "written_part" (S_written_part 14) := fun base => c_written_part (k := 28) F_written_part (He.glo_ok X G (c.d.fact 14 (f := .glo "written_part") rfl)) hbl kc kg ((h_print_expression_14 base).mono (by decide)) (fun ds Q Xq h => by first | (revert h; walk_at "len") | exact len_written_part h) (p_written_part 14)
  have h_print_expression_15 : ∀ base : Heap, Cal P w K mg base (He.ga K) 30 "print_expression" (S_print_expression 15) := fun base => c_print_expression (k := 29) F_print_expression (He.glo_ok X G (c.d.fact 15 (f := .glo "print_expression") rfl)) hbl kc kg ((h_written_part_14 base).mono (by decide)) (fun ds Q Xq h => by first | (revert h; walk_at "len") | exact len_print_expression h) (p_print_expression 14)
  have h_written_part_15 : ∀ base : Heap, Cal P w K mg base (He.ga K) 31 "written_part" (S_written_part 15) := fun base => c_written_part (k := 30) F_written_part (He.glo_ok X G (c.d.fact 14 (f := .glo "written_part") rfl)) hbl kc kg ((h_print_expression_15 base).mono (by decide)) (fun ds Q Xq h => by first | (revert h; walk_at "len") | exact len_written_part h) (p_written_part 15)
  have h_print_expression_16 : ∀ base : Heap, Cal P w K mg base (He.ga K) 32 "print_expression" (S_print_expression 16) := fun base => c_print_expression (k := 31) F_print_expression (He.glo_ok X G (c.d.fact 15 (f := .glo "print_expression") rfl)) hbl kc kg ((h_written_part_15 base).mono (by decide)) (fun ds Q Xq h => by first | (revert h; walk_at "len") | exact len_print_expression h) (p_print_expression 15)
  have h_written_part_16 : ∀ base : Heap, Cal P w K mg base (He.ga K) 33 "written_part" (S_written_part 16) := fun base => c_written_part (k := 32) F_written_part (He.glo_ok X G (c.d.fact 14 (f := .glo "written_part") rfl)) hbl kc kg ((h_print_expression_16 base).mono (by decide)) (fun ds Q Xq h => by first | (revert h; walk_at "len") | exact len_written_part h) (p_written_part 16)
  have h_print_expression_17 : ∀ base : Heap, Cal P w K mg base (He.ga K) 34 "print_expression" (S_print_expression 17) := fun base => c_print_expression (k := 33) F_print_expression (He.glo_ok X G (c.d.fact 15 (f := .glo "print_expression") rfl)) hbl kc kg ((h_written_part_16 base).mono (by decide)) (fun ds Q Xq h => by first | (revert h; walk_at "len") | exact len_print_expression h) (p_print_expression 16)
  have h_written_part_17 : ∀ base : Heap, Cal P w K mg base (He.ga K) 35 "written_part" (S_written_part 17) := fun base => c_written_part (k := 34) F_written_part (He.glo_ok X G (c.d.fact 14 (f := .glo "written_part") rfl)) hbl kc kg ((h_print_expression_17 base).mono (by decide)) (fun ds Q Xq h => by first | (revert h; walk_at "len") | exact len_written_part h) (p_written_part 17)
  have h_print_expression_18 : ∀ base : Heap, Cal P w K mg base (He.ga K) 36 "print_expression" (S_print_expression 18) := fun base => c_print_expression (k := 35) F_print_expression (He.glo_ok X G (c.d.fact 15 (f := .glo "print_expression") rfl)) hbl kc kg ((h_written_part_17 base).mono (by decide)) (fun ds Q Xq h => by first | (revert h; walk_at "len") | exact len_print_expression h) (p_print_expression 17)
  have h_written_part_18 : ∀ base : Heap, Cal P w K mg base (He.ga K) 37 "written_part" (S_written_part 18) := fun base => c_written_part (k := 36) F_written_part (He.glo_ok X G (c.d.fact 14 (f := .glo "written_part") rfl)) hbl kc kg ((h_print_expression_18 base).mono (by decide)) (fun ds Q Xq h => by first | (revert h; walk_at "len") | exact len_written_part h) (p_written_part 18)
  have h_print_expression_19 : ∀ base : Heap, Cal P w K mg base (He.ga K) 38 "print_expression" (S_print_expression 19) := fun base => c_print_expression (k := 37) F_print_expression (He.glo_ok X G (c.d.fact 15 (f := .glo "print_expression") rfl)) hbl kc kg ((h_written_part_18 base).mono (by decide)) (fun ds Q Xq h => by first | (revert h; walk_at "len") | exact len_print_expression h) (p_print_expression 18)
  have h_written_part_19 : ∀ base : Heap, Cal P w K mg base (He.ga K) 39 "written_part" (S_written_part 19) := fun base => c_written_part (k := 38) F_written_part (He.glo_ok X G (c.d.fact 14 (f := .glo "written_part") rfl)) hbl kc kg ((h_print_expression_19 base).mono (by decide)) (fun ds Q Xq h => by first | (revert h; walk_at "len") | exact len_written_part h) (p_written_part 19)
  have h_print_expression_20 : ∀ base : Heap, Cal P w K mg base (He.ga K) 40 "print_expression" (S_print_expression 20) := fun base => c_print_expression (k := 39) F_print_expression (He.glo_ok X G (c.d.fact 15 (f := .glo "print_expression") rfl)) hbl kc kg ((h_written_part_19 base).mono (by decide)) (fun ds Q Xq h => by first | (revert h; walk_at "len") | exact len_print_expression h) (p_print_expression 19)
  have h_written_part_20 : ∀ base : Heap, Cal P w K mg base (He.ga K) 41 "written_part" (S_written_part 20) := fun base => c_written_part (k := 40) F_written_part (He.glo_ok X G (c.d.fact 14 (f := .glo "written_part") rfl)) hbl kc kg ((h_print_expression_20 base).mono (by decide)) (fun ds Q Xq h => by first | (revert h; walk_at "len") | exact len_written_part h) (p_written_part 20)
  have h_print_expression_21 : ∀ base : Heap, Cal P w K mg base (He.ga K) 42 "print_expression" (S_print_expression 21) := fun base => c_print_expression (k := 41) F_print_expression (He.glo_ok X G (c.d.fact 15 (f := .glo "print_expression") rfl)) hbl kc kg ((h_written_part_20 base).mono (by decide)) (fun ds Q Xq h => by first | (revert h; walk_at "len") | exact len_print_expression h) (p_print_expression 20)
  have h_written_part_21 : ∀ base : Heap, Cal P w K mg base (He.ga K) 43 "written_part" (S_written_part 21) := fun base => c_written_part (k := 42) F_written_part (He.glo_ok X G (c.d.fact 14 (f := .glo "written_part") rfl)) hbl kc kg ((h_print_expression_21 base).mono (by decide)) (fun ds Q Xq h => by first | (revert h; walk_at "len") | exact len_written_part h) (p_written_part 21)
  have h_print_expression_22 : ∀ base : Heap, Cal P w K mg base (He.ga K) 44 "print_expression" (S_print_expression 22) := fun base => c_print_expression (k := 43) F_print_expression (He.glo_ok X G (c.d.fact 15 (f := .glo "print_expression") rfl)) hbl kc kg ((h_written_part_21 base).mono (by decide)) (fun ds Q Xq h => by first | (revert h; walk_at "len") | exact len_print_expression h) (p_print_expression 21)
  have h_written_part_22 : ∀ base : Heap, Cal P w K mg base (He.ga K) 45 "written_part" (S_written_part 22) := fun base => c_written_part (k := 44) F_written_part (He.glo_ok X G (c.d.fact 14 (f := .glo "written_part") rfl)) hbl kc kg ((h_print_expression_22 base).mono (by decide)) (fun ds Q Xq h => by first | (revert h; walk_at "len") | exact len_written_part h) (p_written_part 22)
  have h_print_expression_23 : ∀ base : Heap, Cal P w K mg base (He.ga K) 46 "print_expression" (S_print_expression 23) := fun base => c_print_expression (k := 45) F_print_expression (He.glo_ok X G (c.d.fact 15 (f := .glo "print_expression") rfl)) hbl kc kg ((h_written_part_22 base).mono (by decide)) (fun ds Q Xq h => by first | (revert h; walk_at "len") | exact len_print_expression h) (p_print_expression 22)
  have h_written_part_23 : ∀ base : Heap, Cal P w K mg base (He.ga K) 47 "written_part" (S_written_part 23) := fun base => c_written_part (k := 46) F_written_part (He.glo_ok X G (c.d.fact 14 (f := .glo "written_part") rfl)) hbl kc kg ((h_print_expression_23 base).mono (by decide)) (fun ds Q Xq h => by first | (revert h; walk_at "len") | exact len_written_part h) (p_written_part 23)
  have h_print_expression_24 : ∀ base : Heap, Cal P w K mg base (He.ga K) 48 "print_expression" (S_print_expression 24) := fun base => c_print_expression (k := 47) F_print_expression (He.glo_ok X G (c.d.fact 15 (f := .glo "print_expression") rfl)) hbl kc kg ((h_written_part_23 base).mono (by decide)) (fun ds Q Xq h => by first | (revert h; walk_at "len") | exact len_print_expression h) (p_print_expression 23)
  have h_written_part_24 : ∀ base : Heap, Cal P w K mg base (He.ga K) 49 "written_part" (S_written_part 24) := fun base => c_written_part (k := 48) F_written_part (He.glo_ok X G (c.d.fact 14 (f := .glo "written_part") rfl)) hbl kc kg ((h_print_expression_24 base).mono (by decide)) (fun ds Q Xq h => by first | (revert h; walk_at "len") | exact len_written_part h) (p_written_part 24)
  have h_print_expression_25 : ∀ base : Heap, Cal P w K mg base (He.ga K) 50 "print_expression" (S_print_expression 25) := fun base => c_print_expression (k := 49) F_print_expression (He.glo_ok X G (c.d.fact 15 (f := .glo "print_expression") rfl)) hbl kc kg ((h_written_part_24 base).mono (by decide)) (fun ds Q Xq h => by first | (revert h; walk_at "len") | exact len_print_expression h) (p_print_expression 24)
  have h_written_part_25 : ∀ base : Heap, Cal P w K mg base (He.ga K) 51 "written_part" (S_written_part 25) := fun base => c_written_part (k := 50) F_written_part (He.glo_ok X G (c.d.fact 14 (f := .glo "written_part") rfl)) hbl kc kg ((h_print_expression_25 base).mono (by decide)) (fun ds Q Xq h => by first | (revert h; walk_at "len") | exact len_written_part h) (p_written_part 25)
  have h_print_expression_26 : ∀ base : Heap, Cal P w K mg base (He.ga K) 52 "print_expression" (S_print_expression 26) := fun base => c_print_expression (k := 51) F_print_expression (He.glo_ok X G (c.d.fact 15 (f := .glo "print_expression") rfl)) hbl kc kg ((h_written_part_25 base).mono (by decide)) (fun ds Q Xq h => by first | (revert h; walk_at "len") | exact len_print_expression h) (p_print_expression 25)
  have h_written_part_26 : ∀ base : Heap, Cal P w K mg base (He.ga K) 53 "written_part" (S_written_part 26) := fun base => c_written_part (k := 52) F_written_part (He.glo_ok X G (c.d.fact 14 (f := .glo "written_part") rfl)) hbl kc kg ((h_print_expression_26 base).mono (by decide)) (fun ds Q Xq h => by first | (revert h; walk_at "len") | exact len_written_part h) (p_written_part 26)
  have h_print_expression_27 : ∀ base : Heap, Cal P w K mg base (He.ga K) 54 "print_expression" (S_print_expression 27) := fun base => c_print_expression (k := 53) F_print_expression (He.glo_ok X G (c.d.fact 15 (f := .glo "print_expression") rfl)) hbl kc kg ((h_written_part_26 base).mono (by decide)) (fun ds Q Xq h => by first | (revert h; walk_at "len") | exact len_print_expression h) (p_print_expression 26)
  have h_written_part_27 : ∀ base : Heap, Cal P w K mg base (He.ga K) 55 "written_part" (S_written_part 27) := fun base => c_written_part (k := 54) F_written_part (He.glo_ok X G (c.d.fact 14 (f := .glo "written_part") rfl)) hbl kc kg ((h_print_expression_27 base).mono (by decide)) (fun ds Q Xq h => by first | (revert h; walk_at "len") | exact len_written_part h) (p_written_part 27)
  have h_print_expression_28 : ∀ base : Heap, Cal P w K mg base (He.ga K) 56 "print_expression" (S_print_expression 28) := fun base => c_print_expression (k := 55) F_print_expression (He.glo_ok X G (c.d.fact 15 (f := .glo "print_expression") rfl)) hbl kc kg ((h_written_part_27 base).mono (by decide)) (fun ds Q Xq h => by first | (revert h; walk_at "len") | exact len_print_expression h) (p_print_expression 27)
  have h_written_part_28 : ∀ base : Heap, Cal P w K mg base (He.ga K) 57 "written_part" (S_written_part 28) := fun base => c_written_part (k := 56) F_written_part (He.glo_ok X G (c.d.fact 14 (f := .glo "written_part") rfl)) hbl kc kg ((h_print_expression_28 base).mono (by decide)) (fun ds Q Xq h => by first | (revert h; walk_at "len") | exact len_written_part h) (p_written_part 28)
  have h_print_expression_29 : ∀ base : Heap, Cal P w K mg base (He.ga K) 58 "print_expression" (S_print_expression 29) := fun base => c_print_expression (k := 57) F_print_expression (He.glo_ok X G (c.d.fact 15 (f := .glo "print_expression") rfl)) hbl kc kg ((h_written_part_28 base).mono (by decide)) (fun ds Q Xq h => by first | (revert h; walk_at "len") | exact len_print_expression h) (p_print_expression 28)
  have h_written_part_29 : ∀ base : Heap, Cal P w K mg base (He.ga K) 59 "written_part" (S_written_part 29) := fun base => c_written_part (k := 58) F_written_part (He.glo_ok X G (c.d.fact 14 (f := .glo "written_part") rfl)) hbl kc kg ((h_print_expression_29 base).mono (by decide)) (fun ds Q Xq h => by first | (revert h; walk_at "len") | exact len_written_part h) (p_written_part 29)
  have h_print_expression_30 : ∀ base : Heap, Cal P w K mg base (He.ga K) 60 "print_expression" (S_print_expression 30) := fun base => c_print_expression (k := 59) F_print_expression (He.glo_ok X G (c.d.fact 15 (f := .glo "print_expression") rfl)) hbl kc kg ((h_written_part_29 base).mono (by decide)) (fun ds Q Xq h => by first | (revert h; walk_at "len") | exact len_print_expression h) (p_print_expression 29)
  have h_written_part_30 : ∀ base : Heap, Cal P w K mg base (He.ga K) 61 "written_part" (S_written_part 30) := fun base => c_written_part (k := 60) F_written_part (He.glo_ok X G (c.d.fact 14 (f := .glo "written_part") rfl)) hbl kc kg ((h_print_expression_30 base).mono (by decide)) (fun ds Q Xq h => by first | (revert h; walk_at "len") | exact len_written_part h) (p_written_part 30)
  have h_print_expression_31 : ∀ base : Heap, Cal P w K mg base (He.ga K) 62 "print_expression" (S_print_expression 31) := fun base => c_print_expression (k := 61) F_print_expression (He.glo_ok X G (c.d.fact 15 (f := .glo "print_expression") rfl)) hbl kc kg ((h_written_part_30 base).mono (by decide)) (fun ds Q Xq h => by first | (revert h; walk_at "len") | exact len_print_expression h) (p_print_expression 30)
  have h_written_part_31 : ∀ base : Heap, Cal P w K mg base (He.ga K) 63 "written_part" (S_written_part 31) := fun base => c_written_part (k := 62) F_written_part (He.glo_ok X G (c.d.fact 14 (f := .glo "written_part") rfl)) hbl kc kg ((h_print_expression_31 base).mono (by decide)) (fun ds Q Xq h => by first | (revert h; walk_at "len") | exact len_written_part h) (p_written_part 31)
  have h_print_expression_32 : ∀ base : Heap, Cal P w K mg base (He.ga K) 64 "print_expression" (S_print_expression 32) := fun base => c_print_expression (k := 63) F_print_expression (He.glo_ok X G (c.d.fact 15 (f := .glo "print_expression") rfl)) hbl kc kg ((h_written_part_31 base).mono (by decide)) (fun ds Q Xq h => by first | (revert h; walk_at "len") | exact len_print_expression h) (p_print_expression 31)
  have h_written_part_32 : ∀ base : Heap, Cal P w K mg base (He.ga K) 65 "written_part" (S_written_part 32) := fun base => c_written_part (k := 64) F_written_part (He.glo_ok X G (c.d.fact 14 (f := .glo "written_part") rfl)) hbl kc kg ((h_print_expression_32 base).mono (by decide)) (fun ds Q Xq h => by first | (revert h; walk_at "len") | exact len_written_part h) (p_written_part 32)
  have h_print_expression_33 : ∀ base : Heap, Cal P w K mg base (He.ga K) 66 "print_expression" (S_print_expression 33) := fun base => c_print_expression (k := 65) F_print_expression (He.glo_ok X G (c.d.fact 15 (f := .glo "print_expression") rfl)) hbl kc kg ((h_written_part_32 base).mono (by decide)) (fun ds Q Xq h => by first | (revert h; walk_at "len") | exact len_print_expression h) (p_print_expression 32)
  have h_written_part_33 : ∀ base : Heap, Cal P w K mg base (He.ga K) 67 "written_part" (S_written_part 33) := fun base => c_written_part (k := 66) F_written_part (He.glo_ok X G (c.d.fact 14 (f := .glo "written_part") rfl)) hbl kc kg ((h_print_expression_33 base).mono (by decide)) (fun ds Q Xq h => by first | (revert h; walk_at "len") | exact len_written_part h) (p_written_part 33)
  have h_print_expression_34 : ∀ base : Heap, Cal P w K mg base (He.ga K) 68 "print_expression" (S_print_expression 34) := fun base => c_print_expression (k := 67) F_print_expression (He.glo_ok X G (c.d.fact 15 (f := .glo "print_expression") rfl)) hbl kc kg ((h_written_part_33 base).mono (by decide)) (fun ds Q Xq h => by first | (revert h; walk_at "len") | exact len_print_expression h) (p_print_expression 33)
  have h_written_part_34 : ∀ base : Heap, Cal P w K mg base (He.ga K) 69 "written_part" (S_written_part 34) := fun base => c_written_part (k := 68) F_written_part (He.glo_ok X G (c.d.fact 14 (f := .glo "written_part") rfl)) hbl kc kg ((h_print_expression_34 base).mono (by decide)) (fun ds Q Xq h => by first | (revert h; walk_at "len") | exact len_written_part h) (p_written_part 34)
  have h_print_expression_35 : ∀ base : Heap, Cal P w K mg base (He.ga K) 70 "print_expression" (S_print_expression 35) := fun base => c_print_expression (k := 69) F_print_expression (He.glo_ok X G (c.d.fact 15 (f := .glo "print_expression") rfl)) hbl kc kg ((h_written_part_34 base).mono (by decide)) (fun ds Q Xq h => by first | (revert h; walk_at "len") | exact len_print_expression h) (p_print_expression 34)
  have h_written_part_35 : ∀ base : Heap, Cal P w K mg base (He.ga K) 71 "written_part" (S_written_part 35) := fun base => c_written_part (k := 70) F_written_part (He.glo_ok X G (c.d.fact 14 (f := .glo "written_part") rfl)) hbl kc kg ((h_print_expression_35 base).mono (by decide)) (fun ds Q Xq h => by first | (revert h; walk_at "len") | exact len_written_part h) (p_written_part 35)
  have h_print_expression_36 : ∀ base : Heap, Cal P w K mg base (He.ga K) 72 "print_expression" (S_print_expression 36) := fun base => c_print_expression (k := 71) F_print_expression (He.glo_ok X G (c.d.fact 15 (f := .glo "print_expression") rfl)) hbl kc kg ((h_written_part_35 base).mono (by decide)) (fun ds Q Xq h => by first | (revert h; walk_at "len") | exact len_print_expression h) (p_print_expression 35)
  have h_written_part_36 : ∀ base : Heap, Cal P w K mg base (He.ga K) 73 "written_part" (S_written_part 36) := fun base => c_written_part (k := 72) F_written_part (He.glo_ok X G (c.d.fact 14 (f := .glo "written_part") rfl)) hbl kc kg ((h_print_expression_36 base).mono (by decide)) (fun ds Q Xq h => by first | (revert h; walk_at "len") | exact len_written_part h) (p_written_part 36)
  have h_print_expression_37 : ∀ base : Heap, Cal P w K mg base (He.ga K) 74 "print_expression" (S_print_expression 37) := fun base => c_print_expression (k := 73) F_print_expression (He.glo_ok X G (c.d.fact 15 (f := .glo "print_expression") rfl)) hbl kc kg ((h_written_part_36 base).mono (by decide)) (fun ds Q Xq h => by first | (revert h; walk_at "len") | exact len_print_expression h) (p_print_expression 36)
  have h_written_part_37 : ∀ base : Heap, Cal P w K mg base (He.ga K) 75 "written_part" (S_written_part 37) := fun base => c_written_part (k := 74) F_written_part (He.glo_ok X G (c.d.fact 14 (f := .glo "written_part") rfl)) hbl kc kg ((h_print_expression_37 base).mono (by decide)) (fun ds Q Xq h => by first | (revert h; walk_at "len") | exact len_written_part h) (p_written_part 37)
  have h_print_expression_38 : ∀ base : Heap, Cal P w K mg base (He.ga K) 76 "print_expression" (S_print_expression 38) := fun base => c_print_expression (k := 75) F_print_expression (He.glo_ok X G (c.d.fact 15 (f := .glo "print_expression") rfl)) hbl kc kg ((h_written_part_37 base).mono (by decide)) (fun ds Q Xq h => by first | (revert h; walk_at "len") | exact len_print_expression h) (p_print_expression 37)
  have h_written_part_38 : ∀ base : Heap, Cal P w K mg base (He.ga K) 77 "written_part" (S_written_part 38) := fun base => c_written_part (k := 76) F_written_part (He.glo_ok X G (c.d.fact 14 (f := .glo "written_part") rfl)) hbl kc kg ((h_print_expression_38 base).mono (by decide)) (fun ds Q Xq h => by first | (revert h; walk_at "len") | exact len_written_part h) (p_written_part 38)
  have h_print_expression_39 : ∀ base : Heap, Cal P w K mg base (He.ga K) 78 "print_expression" (S_print_expression 39) := fun base => c_print_expression (k := 77) F_print_expression (He.glo_ok X G (c.d.fact 15 (f := .glo "print_expression") rfl)) hbl kc kg ((h_written_part_38 base).mono (by decide)) (fun ds Q Xq h => by first | (revert h; walk_at "len") | exact len_print_expression h) (p_print_expression 38)
  have h_written_part_39 : ∀ base : Heap, Cal P w K mg base (He.ga K) 79 "written_part" (S_written_part 39) := fun base => c_written_part (k := 78) F_written_part (He.glo_ok X G (c.d.fact 14 (f := .glo "written_part") rfl)) hbl kc kg ((h_print_expression_39 base).mono (by decide)) (fun ds Q Xq h => by first | (revert h; walk_at "len") | exact len_written_part h) (p_written_part 39)
  have h_print_expression_40 : ∀ base : Heap, Cal P w K mg base (He.ga K) 80 "print_expression" (S_print_expression 40) := fun base => c_print_expression (k := 79) F_print_expression (He.glo_ok X G (c.d.fact 15 (f := .glo "print_expression") rfl)) hbl kc kg ((h_written_part_39 base).mono (by decide)) (fun ds Q Xq h => by first | (revert h; walk_at "len") | exact len_print_expression h) (p_print_expression 39)
  have h_written_part_40 : ∀ base : Heap, Cal P w K mg base (He.ga K) 81 "written_part" (S_written_part 40) := fun base => c_written_part (k := 80) F_written_part (He.glo_ok X G (c.d.fact 14 (f := .glo "written_part") rfl)) hbl kc kg ((h_print_expression_40 base).mono (by decide)) (fun ds Q Xq h => by first | (revert h; walk_at "len") | exact len_written_part h) (p_written_part 40)
  have h_print_expression_41 : ∀ base : Heap, Cal P w K mg base (He.ga K) 82 "print_expression" (S_print_expression 41) := fun base => c_print_expression (k := 81) F_print_expression (He.glo_ok X G (c.d.fact 15 (f := .glo "print_expression") rfl)) hbl kc kg ((h_written_part_40 base).mono (by decide)) (fun ds Q Xq h => by first | (revert h; walk_at "len") | exact len_print_expression h) (p_print_expression 40)
  have h_written_part_41 : ∀ base : Heap, Cal P w K mg base (He.ga K) 83 "written_part" (S_written_part 41) := fun base => c_written_part (k := 82) F_written_part (He.glo_ok X G (c.d.fact 14 (f := .glo "written_part") rfl)) hbl kc kg ((h_print_expression_41 base).mono (by decide)) (fun ds Q Xq h => by first | (revert h; walk_at "len") | exact len_written_part h) (p_written_part 41)
  have h_print_expression_42 : ∀ base : Heap, Cal P w K mg base (He.ga K) 84 "print_expression" (S_print_expression 42) := fun base => c_print_expression (k := 83) F_print_expression (He.glo_ok X G (c.d.fact 15 (f := .glo "print_expression") rfl)) hbl kc kg ((h_written_part_41 base).mono (by decide)) (fun ds Q Xq h => by first | (revert h; walk_at "len") | exact len_print_expression h) (p_print_expression 41)
  have h_print_expression := h_print_expression_42
  have h_written_part := h_written_part_41
  obtain ⟨fd__law_full, F__law_full⟩ := c.d.def_ 38 (d := d__law_full) rfl
  have h__law_full_0 : ∀ base : Heap, Cal P w K mg base (He.ga K) 46 "_law_full" (S__law_full 0) := fun base => Cal.imp (Cal.none F__law_full (He.glo_ok X G (c.d.fact 27 (f := .glo "_law_full") rfl)) (FunD.bindsN (ps := ["reader", "told", "room", "most"]) F__law_full fun _ _ _ _ _ _ us hl => match us, hl with | [_, _, _, _], _ => rfl)) z__law_full
  have h__law_full_1 : ∀ base : Heap, Cal P w K mg base (He.ga K) 47 "_law_full" (S__law_full 1) := fun base => c__law_full (k := 46) F__law_full (He.glo_ok X G (c.d.fact 27 (f := .glo "_law_full") rfl)) hbl kc kg ((h__law_need base).mono (by decide)) ((h__law_next base).mono (by decide)) ((h__law_level base).mono (by decide)) ((h__law_least base).mono (by decide)) ((h__law_full_0 base).mono (by decide)) (fun ds Q Xq h => by first | (revert h; walk_at "len") | exact len__law_full h) (p__law_full 0)
  have h__law_full_2 : ∀ base : Heap, Cal P w K mg base (He.ga K) 48 "_law_full" (S__law_full 2) := fun base => c__law_full (k := 47) F__law_full (He.glo_ok X G (c.d.fact 27 (f := .glo "_law_full") rfl)) hbl kc kg ((h__law_need base).mono (by decide)) ((h__law_next base).mono (by decide)) ((h__law_level base).mono (by decide)) ((h__law_least base).mono (by decide)) ((h__law_full_1 base).mono (by decide)) (fun ds Q Xq h => by first | (revert h; walk_at "len") | exact len__law_full h) (p__law_full 1)
  have h__law_full_3 : ∀ base : Heap, Cal P w K mg base (He.ga K) 49 "_law_full" (S__law_full 3) := fun base => c__law_full (k := 48) F__law_full (He.glo_ok X G (c.d.fact 27 (f := .glo "_law_full") rfl)) hbl kc kg ((h__law_need base).mono (by decide)) ((h__law_next base).mono (by decide)) ((h__law_level base).mono (by decide)) ((h__law_least base).mono (by decide)) ((h__law_full_2 base).mono (by decide)) (fun ds Q Xq h => by first | (revert h; walk_at "len") | exact len__law_full h) (p__law_full 2)
  have h__law_full_4 : ∀ base : Heap, Cal P w K mg base (He.ga K) 50 "_law_full" (S__law_full 4) := fun base => c__law_full (k := 49) F__law_full (He.glo_ok X G (c.d.fact 27 (f := .glo "_law_full") rfl)) hbl kc kg ((h__law_need base).mono (by decide)) ((h__law_next base).mono (by decide)) ((h__law_level base).mono (by decide)) ((h__law_least base).mono (by decide)) ((h__law_full_3 base).mono (by decide)) (fun ds Q Xq h => by first | (revert h; walk_at "len") | exact len__law_full h) (p__law_full 3)
  have h__law_full_5 : ∀ base : Heap, Cal P w K mg base (He.ga K) 51 "_law_full" (S__law_full 5) := fun base => c__law_full (k := 50) F__law_full (He.glo_ok X G (c.d.fact 27 (f := .glo "_law_full") rfl)) hbl kc kg ((h__law_need base).mono (by decide)) ((h__law_next base).mono (by decide)) ((h__law_level base).mono (by decide)) ((h__law_least base).mono (by decide)) ((h__law_full_4 base).mono (by decide)) (fun ds Q Xq h => by first | (revert h; walk_at "len") | exact len__law_full h) (p__law_full 4)
  have h__law_full_6 : ∀ base : Heap, Cal P w K mg base (He.ga K) 52 "_law_full" (S__law_full 6) := fun base => c__law_full (k := 51) F__law_full (He.glo_ok X G (c.d.fact 27 (f := .glo "_law_full") rfl)) hbl kc kg ((h__law_need base).mono (by decide)) ((h__law_next base).mono (by decide)) ((h__law_level base).mono (by decide)) ((h__law_least base).mono (by decide)) ((h__law_full_5 base).mono (by decide)) (fun ds Q Xq h => by first | (revert h; walk_at "len") | exact len__law_full h) (p__law_full 5)
  have h__law_full_7 : ∀ base : Heap, Cal P w K mg base (He.ga K) 53 "_law_full" (S__law_full 7) := fun base => c__law_full (k := 52) F__law_full (He.glo_ok X G (c.d.fact 27 (f := .glo "_law_full") rfl)) hbl kc kg ((h__law_need base).mono (by decide)) ((h__law_next base).mono (by decide)) ((h__law_level base).mono (by decide)) ((h__law_least base).mono (by decide)) ((h__law_full_6 base).mono (by decide)) (fun ds Q Xq h => by first | (revert h; walk_at "len") | exact len__law_full h) (p__law_full 6)
  have h__law_full_8 : ∀ base : Heap, Cal P w K mg base (He.ga K) 54 "_law_full" (S__law_full 8) := fun base => c__law_full (k := 53) F__law_full (He.glo_ok X G (c.d.fact 27 (f := .glo "_law_full") rfl)) hbl kc kg ((h__law_need base).mono (by decide)) ((h__law_next base).mono (by decide)) ((h__law_level base).mono (by decide)) ((h__law_least base).mono (by decide)) ((h__law_full_7 base).mono (by decide)) (fun ds Q Xq h => by first | (revert h; walk_at "len") | exact len__law_full h) (p__law_full 7)
  have h__law_full_9 : ∀ base : Heap, Cal P w K mg base (He.ga K) 55 "_law_full" (S__law_full 9) := fun base => c__law_full (k := 54) F__law_full (He.glo_ok X G (c.d.fact 27 (f := .glo "_law_full") rfl)) hbl kc kg ((h__law_need base).mono (by decide)) ((h__law_next base).mono (by decide)) ((h__law_level base).mono (by decide)) ((h__law_least base).mono (by decide)) ((h__law_full_8 base).mono (by decide)) (fun ds Q Xq h => by first | (revert h; walk_at "len") | exact len__law_full h) (p__law_full 8)
  have h__law_full_10 : ∀ base : Heap, Cal P w K mg base (He.ga K) 56 "_law_full" (S__law_full 10) := fun base => c__law_full (k := 55) F__law_full (He.glo_ok X G (c.d.fact 27 (f := .glo "_law_full") rfl)) hbl kc kg ((h__law_need base).mono (by decide)) ((h__law_next base).mono (by decide)) ((h__law_level base).mono (by decide)) ((h__law_least base).mono (by decide)) ((h__law_full_9 base).mono (by decide)) (fun ds Q Xq h => by first | (revert h; walk_at "len") | exact len__law_full h) (p__law_full 9)
  have h__law_full_11 : ∀ base : Heap, Cal P w K mg base (He.ga K) 57 "_law_full" (S__law_full 11) := fun base => c__law_full (k := 56) F__law_full (He.glo_ok X G (c.d.fact 27 (f := .glo "_law_full") rfl)) hbl kc kg ((h__law_need base).mono (by decide)) ((h__law_next base).mono (by decide)) ((h__law_level base).mono (by decide)) ((h__law_least base).mono (by decide)) ((h__law_full_10 base).mono (by decide)) (fun ds Q Xq h => by first | (revert h; walk_at "len") | exact len__law_full h) (p__law_full 10)
  have h__law_full_12 : ∀ base : Heap, Cal P w K mg base (He.ga K) 58 "_law_full" (S__law_full 12) := fun base => c__law_full (k := 57) F__law_full (He.glo_ok X G (c.d.fact 27 (f := .glo "_law_full") rfl)) hbl kc kg ((h__law_need base).mono (by decide)) ((h__law_next base).mono (by decide)) ((h__law_level base).mono (by decide)) ((h__law_least base).mono (by decide)) ((h__law_full_11 base).mono (by decide)) (fun ds Q Xq h => by first | (revert h; walk_at "len") | exact len__law_full h) (p__law_full 11)
  have h__law_full_13 : ∀ base : Heap, Cal P w K mg base (He.ga K) 59 "_law_full" (S__law_full 13) := fun base => c__law_full (k := 58) F__law_full (He.glo_ok X G (c.d.fact 27 (f := .glo "_law_full") rfl)) hbl kc kg ((h__law_need base).mono (by decide)) ((h__law_next base).mono (by decide)) ((h__law_level base).mono (by decide)) ((h__law_least base).mono (by decide)) ((h__law_full_12 base).mono (by decide)) (fun ds Q Xq h => by first | (revert h; walk_at "len") | exact len__law_full h) (p__law_full 12)
  have h__law_full_14 : ∀ base : Heap, Cal P w K mg base (He.ga K) 60 "_law_full" (S__law_full 14) := fun base => c__law_full (k := 59) F__law_full (He.glo_ok X G (c.d.fact 27 (f := .glo "_law_full") rfl)) hbl kc kg ((h__law_need base).mono (by decide)) ((h__law_next base).mono (by decide)) ((h__law_level base).mono (by decide)) ((h__law_least base).mono (by decide)) ((h__law_full_13 base).mono (by decide)) (fun ds Q Xq h => by first | (revert h; walk_at "len") | exact len__law_full h) (p__law_full 13)
  have h__law_full_15 : ∀ base : Heap, Cal P w K mg base (He.ga K) 61 "_law_full" (S__law_full 15) := fun base => c__law_full (k := 60) F__law_full (He.glo_ok X G (c.d.fact 27 (f := .glo "_law_full") rfl)) hbl kc kg ((h__law_need base).mono (by decide)) ((h__law_next base).mono (by decide)) ((h__law_level base).mono (by decide)) ((h__law_least base).mono (by decide)) ((h__law_full_14 base).mono (by decide)) (fun ds Q Xq h => by first | (revert h; walk_at "len") | exact len__law_full h) (p__law_full 14)
  have h__law_full_16 : ∀ base : Heap, Cal P w K mg base (He.ga K) 62 "_law_full" (S__law_full 16) := fun base => c__law_full (k := 61) F__law_full (He.glo_ok X G (c.d.fact 27 (f := .glo "_law_full") rfl)) hbl kc kg ((h__law_need base).mono (by decide)) ((h__law_next base).mono (by decide)) ((h__law_level base).mono (by decide)) ((h__law_least base).mono (by decide)) ((h__law_full_15 base).mono (by decide)) (fun ds Q Xq h => by first | (revert h; walk_at "len") | exact len__law_full h) (p__law_full 15)
  have h__law_full_17 : ∀ base : Heap, Cal P w K mg base (He.ga K) 63 "_law_full" (S__law_full 17) := fun base => c__law_full (k := 62) F__law_full (He.glo_ok X G (c.d.fact 27 (f := .glo "_law_full") rfl)) hbl kc kg ((h__law_need base).mono (by decide)) ((h__law_next base).mono (by decide)) ((h__law_level base).mono (by decide)) ((h__law_least base).mono (by decide)) ((h__law_full_16 base).mono (by decide)) (fun ds Q Xq h => by first | (revert h; walk_at "len") | exact len__law_full h) (p__law_full 16)
  have h__law_full_18 : ∀ base : Heap, Cal P w K mg base (He.ga K) 64 "_law_full" (S__law_full 18) := fun base => c__law_full (k := 63) F__law_full (He.glo_ok X G (c.d.fact 27 (f := .glo "_law_full") rfl)) hbl kc kg ((h__law_need base).mono (by decide)) ((h__law_next base).mono (by decide)) ((h__law_level base).mono (by decide)) ((h__law_least base).mono (by decide)) ((h__law_full_17 base).mono (by decide)) (fun ds Q Xq h => by first | (revert h; walk_at "len") | exact len__law_full h) (p__law_full 17)
  have h__law_full_19 : ∀ base : Heap, Cal P w K mg base (He.ga K) 65 "_law_full" (S__law_full 19) := fun base => c__law_full (k := 64) F__law_full (He.glo_ok X G (c.d.fact 27 (f := .glo "_law_full") rfl)) hbl kc kg ((h__law_need base).mono (by decide)) ((h__law_next base).mono (by decide)) ((h__law_level base).mono (by decide)) ((h__law_least base).mono (by decide)) ((h__law_full_18 base).mono (by decide)) (fun ds Q Xq h => by first | (revert h; walk_at "len") | exact len__law_full h) (p__law_full 18)
  have h__law_full_20 : ∀ base : Heap, Cal P w K mg base (He.ga K) 66 "_law_full" (S__law_full 20) := fun base => c__law_full (k := 65) F__law_full (He.glo_ok X G (c.d.fact 27 (f := .glo "_law_full") rfl)) hbl kc kg ((h__law_need base).mono (by decide)) ((h__law_next base).mono (by decide)) ((h__law_level base).mono (by decide)) ((h__law_least base).mono (by decide)) ((h__law_full_19 base).mono (by decide)) (fun ds Q Xq h => by first | (revert h; walk_at "len") | exact len__law_full h) (p__law_full 19)
  have h__law_full_21 : ∀ base : Heap, Cal P w K mg base (He.ga K) 67 "_law_full" (S__law_full 21) := fun base => c__law_full (k := 66) F__law_full (He.glo_ok X G (c.d.fact 27 (f := .glo "_law_full") rfl)) hbl kc kg ((h__law_need base).mono (by decide)) ((h__law_next base).mono (by decide)) ((h__law_level base).mono (by decide)) ((h__law_least base).mono (by decide)) ((h__law_full_20 base).mono (by decide)) (fun ds Q Xq h => by first | (revert h; walk_at "len") | exact len__law_full h) (p__law_full 20)
  have h__law_full_22 : ∀ base : Heap, Cal P w K mg base (He.ga K) 68 "_law_full" (S__law_full 22) := fun base => c__law_full (k := 67) F__law_full (He.glo_ok X G (c.d.fact 27 (f := .glo "_law_full") rfl)) hbl kc kg ((h__law_need base).mono (by decide)) ((h__law_next base).mono (by decide)) ((h__law_level base).mono (by decide)) ((h__law_least base).mono (by decide)) ((h__law_full_21 base).mono (by decide)) (fun ds Q Xq h => by first | (revert h; walk_at "len") | exact len__law_full h) (p__law_full 21)
  have h__law_full_23 : ∀ base : Heap, Cal P w K mg base (He.ga K) 69 "_law_full" (S__law_full 23) := fun base => c__law_full (k := 68) F__law_full (He.glo_ok X G (c.d.fact 27 (f := .glo "_law_full") rfl)) hbl kc kg ((h__law_need base).mono (by decide)) ((h__law_next base).mono (by decide)) ((h__law_level base).mono (by decide)) ((h__law_least base).mono (by decide)) ((h__law_full_22 base).mono (by decide)) (fun ds Q Xq h => by first | (revert h; walk_at "len") | exact len__law_full h) (p__law_full 22)
  have h__law_full_24 : ∀ base : Heap, Cal P w K mg base (He.ga K) 70 "_law_full" (S__law_full 24) := fun base => c__law_full (k := 69) F__law_full (He.glo_ok X G (c.d.fact 27 (f := .glo "_law_full") rfl)) hbl kc kg ((h__law_need base).mono (by decide)) ((h__law_next base).mono (by decide)) ((h__law_level base).mono (by decide)) ((h__law_least base).mono (by decide)) ((h__law_full_23 base).mono (by decide)) (fun ds Q Xq h => by first | (revert h; walk_at "len") | exact len__law_full h) (p__law_full 23)
  have h__law_full_25 : ∀ base : Heap, Cal P w K mg base (He.ga K) 71 "_law_full" (S__law_full 25) := fun base => c__law_full (k := 70) F__law_full (He.glo_ok X G (c.d.fact 27 (f := .glo "_law_full") rfl)) hbl kc kg ((h__law_need base).mono (by decide)) ((h__law_next base).mono (by decide)) ((h__law_level base).mono (by decide)) ((h__law_least base).mono (by decide)) ((h__law_full_24 base).mono (by decide)) (fun ds Q Xq h => by first | (revert h; walk_at "len") | exact len__law_full h) (p__law_full 24)
  have h__law_full_26 : ∀ base : Heap, Cal P w K mg base (He.ga K) 72 "_law_full" (S__law_full 26) := fun base => c__law_full (k := 71) F__law_full (He.glo_ok X G (c.d.fact 27 (f := .glo "_law_full") rfl)) hbl kc kg ((h__law_need base).mono (by decide)) ((h__law_next base).mono (by decide)) ((h__law_level base).mono (by decide)) ((h__law_least base).mono (by decide)) ((h__law_full_25 base).mono (by decide)) (fun ds Q Xq h => by first | (revert h; walk_at "len") | exact len__law_full h) (p__law_full 25)
  have h__law_full_27 : ∀ base : Heap, Cal P w K mg base (He.ga K) 73 "_law_full" (S__law_full 27) := fun base => c__law_full (k := 72) F__law_full (He.glo_ok X G (c.d.fact 27 (f := .glo "_law_full") rfl)) hbl kc kg ((h__law_need base).mono (by decide)) ((h__law_next base).mono (by decide)) ((h__law_level base).mono (by decide)) ((h__law_least base).mono (by decide)) ((h__law_full_26 base).mono (by decide)) (fun ds Q Xq h => by first | (revert h; walk_at "len") | exact len__law_full h) (p__law_full 26)
  have h__law_full_28 : ∀ base : Heap, Cal P w K mg base (He.ga K) 74 "_law_full" (S__law_full 28) := fun base => c__law_full (k := 73) F__law_full (He.glo_ok X G (c.d.fact 27 (f := .glo "_law_full") rfl)) hbl kc kg ((h__law_need base).mono (by decide)) ((h__law_next base).mono (by decide)) ((h__law_level base).mono (by decide)) ((h__law_least base).mono (by decide)) ((h__law_full_27 base).mono (by decide)) (fun ds Q Xq h => by first | (revert h; walk_at "len") | exact len__law_full h) (p__law_full 27)
  have h__law_full_29 : ∀ base : Heap, Cal P w K mg base (He.ga K) 75 "_law_full" (S__law_full 29) := fun base => c__law_full (k := 74) F__law_full (He.glo_ok X G (c.d.fact 27 (f := .glo "_law_full") rfl)) hbl kc kg ((h__law_need base).mono (by decide)) ((h__law_next base).mono (by decide)) ((h__law_level base).mono (by decide)) ((h__law_least base).mono (by decide)) ((h__law_full_28 base).mono (by decide)) (fun ds Q Xq h => by first | (revert h; walk_at "len") | exact len__law_full h) (p__law_full 28)
  have h__law_full_30 : ∀ base : Heap, Cal P w K mg base (He.ga K) 76 "_law_full" (S__law_full 30) := fun base => c__law_full (k := 75) F__law_full (He.glo_ok X G (c.d.fact 27 (f := .glo "_law_full") rfl)) hbl kc kg ((h__law_need base).mono (by decide)) ((h__law_next base).mono (by decide)) ((h__law_level base).mono (by decide)) ((h__law_least base).mono (by decide)) ((h__law_full_29 base).mono (by decide)) (fun ds Q Xq h => by first | (revert h; walk_at "len") | exact len__law_full h) (p__law_full 29)
  have h__law_full_31 : ∀ base : Heap, Cal P w K mg base (He.ga K) 77 "_law_full" (S__law_full 31) := fun base => c__law_full (k := 76) F__law_full (He.glo_ok X G (c.d.fact 27 (f := .glo "_law_full") rfl)) hbl kc kg ((h__law_need base).mono (by decide)) ((h__law_next base).mono (by decide)) ((h__law_level base).mono (by decide)) ((h__law_least base).mono (by decide)) ((h__law_full_30 base).mono (by decide)) (fun ds Q Xq h => by first | (revert h; walk_at "len") | exact len__law_full h) (p__law_full 30)
  have h__law_full_32 : ∀ base : Heap, Cal P w K mg base (He.ga K) 78 "_law_full" (S__law_full 32) := fun base => c__law_full (k := 77) F__law_full (He.glo_ok X G (c.d.fact 27 (f := .glo "_law_full") rfl)) hbl kc kg ((h__law_need base).mono (by decide)) ((h__law_next base).mono (by decide)) ((h__law_level base).mono (by decide)) ((h__law_least base).mono (by decide)) ((h__law_full_31 base).mono (by decide)) (fun ds Q Xq h => by first | (revert h; walk_at "len") | exact len__law_full h) (p__law_full 31)
  have h__law_full_33 : ∀ base : Heap, Cal P w K mg base (He.ga K) 79 "_law_full" (S__law_full 33) := fun base => c__law_full (k := 78) F__law_full (He.glo_ok X G (c.d.fact 27 (f := .glo "_law_full") rfl)) hbl kc kg ((h__law_need base).mono (by decide)) ((h__law_next base).mono (by decide)) ((h__law_level base).mono (by decide)) ((h__law_least base).mono (by decide)) ((h__law_full_32 base).mono (by decide)) (fun ds Q Xq h => by first | (revert h; walk_at "len") | exact len__law_full h) (p__law_full 32)
  have h__law_full_34 : ∀ base : Heap, Cal P w K mg base (He.ga K) 80 "_law_full" (S__law_full 34) := fun base => c__law_full (k := 79) F__law_full (He.glo_ok X G (c.d.fact 27 (f := .glo "_law_full") rfl)) hbl kc kg ((h__law_need base).mono (by decide)) ((h__law_next base).mono (by decide)) ((h__law_level base).mono (by decide)) ((h__law_least base).mono (by decide)) ((h__law_full_33 base).mono (by decide)) (fun ds Q Xq h => by first | (revert h; walk_at "len") | exact len__law_full h) (p__law_full 33)
  have h__law_full_35 : ∀ base : Heap, Cal P w K mg base (He.ga K) 81 "_law_full" (S__law_full 35) := fun base => c__law_full (k := 80) F__law_full (He.glo_ok X G (c.d.fact 27 (f := .glo "_law_full") rfl)) hbl kc kg ((h__law_need base).mono (by decide)) ((h__law_next base).mono (by decide)) ((h__law_level base).mono (by decide)) ((h__law_least base).mono (by decide)) ((h__law_full_34 base).mono (by decide)) (fun ds Q Xq h => by first | (revert h; walk_at "len") | exact len__law_full h) (p__law_full 34)
  have h__law_full_36 : ∀ base : Heap, Cal P w K mg base (He.ga K) 82 "_law_full" (S__law_full 36) := fun base => c__law_full (k := 81) F__law_full (He.glo_ok X G (c.d.fact 27 (f := .glo "_law_full") rfl)) hbl kc kg ((h__law_need base).mono (by decide)) ((h__law_next base).mono (by decide)) ((h__law_level base).mono (by decide)) ((h__law_least base).mono (by decide)) ((h__law_full_35 base).mono (by decide)) (fun ds Q Xq h => by first | (revert h; walk_at "len") | exact len__law_full h) (p__law_full 35)
  have h__law_full_37 : ∀ base : Heap, Cal P w K mg base (He.ga K) 83 "_law_full" (S__law_full 37) := fun base => c__law_full (k := 82) F__law_full (He.glo_ok X G (c.d.fact 27 (f := .glo "_law_full") rfl)) hbl kc kg ((h__law_need base).mono (by decide)) ((h__law_next base).mono (by decide)) ((h__law_level base).mono (by decide)) ((h__law_least base).mono (by decide)) ((h__law_full_36 base).mono (by decide)) (fun ds Q Xq h => by first | (revert h; walk_at "len") | exact len__law_full h) (p__law_full 36)
  have h__law_full_38 : ∀ base : Heap, Cal P w K mg base (He.ga K) 84 "_law_full" (S__law_full 38) := fun base => c__law_full (k := 83) F__law_full (He.glo_ok X G (c.d.fact 27 (f := .glo "_law_full") rfl)) hbl kc kg ((h__law_need base).mono (by decide)) ((h__law_next base).mono (by decide)) ((h__law_level base).mono (by decide)) ((h__law_least base).mono (by decide)) ((h__law_full_37 base).mono (by decide)) (fun ds Q Xq h => by first | (revert h; walk_at "len") | exact len__law_full h) (p__law_full 37)
  have h__law_full_39 : ∀ base : Heap, Cal P w K mg base (He.ga K) 85 "_law_full" (S__law_full 39) := fun base => c__law_full (k := 84) F__law_full (He.glo_ok X G (c.d.fact 27 (f := .glo "_law_full") rfl)) hbl kc kg ((h__law_need base).mono (by decide)) ((h__law_next base).mono (by decide)) ((h__law_level base).mono (by decide)) ((h__law_least base).mono (by decide)) ((h__law_full_38 base).mono (by decide)) (fun ds Q Xq h => by first | (revert h; walk_at "len") | exact len__law_full h) (p__law_full 38)
  have h__law_full_40 : ∀ base : Heap, Cal P w K mg base (He.ga K) 86 "_law_full" (S__law_full 40) := fun base => c__law_full (k := 85) F__law_full (He.glo_ok X G (c.d.fact 27 (f := .glo "_law_full") rfl)) hbl kc kg ((h__law_need base).mono (by decide)) ((h__law_next base).mono (by decide)) ((h__law_level base).mono (by decide)) ((h__law_least base).mono (by decide)) ((h__law_full_39 base).mono (by decide)) (fun ds Q Xq h => by first | (revert h; walk_at "len") | exact len__law_full h) (p__law_full 39)
  have h__law_full_41 : ∀ base : Heap, Cal P w K mg base (He.ga K) 87 "_law_full" (S__law_full 41) := fun base => c__law_full (k := 86) F__law_full (He.glo_ok X G (c.d.fact 27 (f := .glo "_law_full") rfl)) hbl kc kg ((h__law_need base).mono (by decide)) ((h__law_next base).mono (by decide)) ((h__law_level base).mono (by decide)) ((h__law_least base).mono (by decide)) ((h__law_full_40 base).mono (by decide)) (fun ds Q Xq h => by first | (revert h; walk_at "len") | exact len__law_full h) (p__law_full 40)
  have h__law_full : ∀ base : Heap, Cal P w K mg base (He.ga K) 88 "_law_full" (S__law_full 42) := fun base => c__law_full (k := 87) F__law_full (He.glo_ok X G (c.d.fact 27 (f := .glo "_law_full") rfl)) hbl kc kg ((h__law_need base).mono (by decide)) ((h__law_next base).mono (by decide)) ((h__law_level base).mono (by decide)) ((h__law_least base).mono (by decide)) ((h__law_full_41 base).mono (by decide)) (fun ds Q Xq h => by first | (revert h; walk_at "len") | exact len__law_full h) (p__law_full 41)
  obtain ⟨fd_read_either, F_read_either⟩ := c.d.def_ 16 (d := d_read_either) rfl
  obtain ⟨fd_read_atom, F_read_atom⟩ := c.d.def_ 22 (d := d_read_atom) rfl
  obtain ⟨fd_read_product, F_read_product⟩ := c.d.def_ 21 (d := d_read_product) rfl
  obtain ⟨fd_read_sum, F_read_sum⟩ := c.d.def_ 20 (d := d_read_sum) rfl
  obtain ⟨fd_read_compared, F_read_compared⟩ := c.d.def_ 19 (d := d_read_compared) rfl
  obtain ⟨fd_read_plain, F_read_plain⟩ := c.d.def_ 18 (d := d_read_plain) rfl
  obtain ⟨fd_read_each, F_read_each⟩ := c.d.def_ 17 (d := d_read_each) rfl
  have h_read_either_0 : ∀ base : Heap, CalO P w K mg base (He.ga K) 5 "read_either" (S_read_either 0) := fun base => CalO.imp (CalO.none F_read_either (He.glo_ok X G (c.d.fact 5 (f := .glo "read_either") rfl)) (FunD.bindsN (ps := ["reader", "measure"]) F_read_either fun _ _ _ _ _ _ us hl => match us, hl with | [_, _], _ => rfl)) (fun ads Q Xq h => z_read_either ads Q Xq h)
  have h_read_atom_0 : ∀ base : Heap, CalO P w K mg base (He.ga K) 6 "read_atom" (S_read_atom 0) := fun base => c_read_atom (k := 5) F_read_atom (He.glo_ok X G (c.d.fact 11 (f := .glo "read_atom") rfl)) hbl kc kg ((hm_Reader_sees_number base).mono (by decide)) ((hm_Reader_take_number base).mono (by decide)) ((hm_Reader_peek base).mono (by decide)) ((hm_Reader_take_name base).mono (by decide)) ((hm_Reader_fault base).mono (by decide)) ((hm_Reader_take base).mono (by decide)) ((h_read_either_0 base).mono (by decide)) (fun ds Q Xq h => by first | (revert h; walk_at "len") | exact len_read_atom h) (p_read_atom 0)
  have h_read_product_0 : ∀ base : Heap, CalO P w K mg base (He.ga K) 7 "read_product" (S_read_product 0) := fun base => c_read_product (k := 6) F_read_product (He.glo_ok X G (c.d.fact 10 (f := .glo "read_product") rfl)) hbl kc kg ((h_read_atom_0 base).mono (by decide)) ((hm_Reader_peek base).mono (by decide)) ((h_take_operator base).mono (by decide)) (fun ds Q Xq h => by first | (revert h; walk_at "len") | exact len_read_product h) (p_read_product 0)
  have h_read_sum_0 : ∀ base : Heap, CalO P w K mg base (He.ga K) 8 "read_sum" (S_read_sum 0) := fun base => c_read_sum (k := 7) F_read_sum (He.glo_ok X G (c.d.fact 9 (f := .glo "read_sum") rfl)) hbl kc kg ((h_read_product_0 base).mono (by decide)) ((hm_Reader_peek base).mono (by decide)) ((h_take_operator base).mono (by decide)) (fun ds Q Xq h => by first | (revert h; walk_at "len") | exact len_read_sum h) (p_read_sum 0)
  have h_read_compared_0 : ∀ base : Heap, CalO P w K mg base (He.ga K) 9 "read_compared" (S_read_compared 0) := fun base => c_read_compared (k := 8) F_read_compared (He.glo_ok X G (c.d.fact 8 (f := .glo "read_compared") rfl)) hbl kc kg ((h_read_sum_0 base).mono (by decide)) ((hm_Reader_peek base).mono (by decide)) ((h_take_operator base).mono (by decide)) (fun ds Q Xq h => by first | (revert h; walk_at "len") | exact len_read_compared h) (p_read_compared 0)
  have h_read_plain_0 : ∀ base : Heap, CalO P w K mg base (He.ga K) 10 "read_plain" (S_read_plain 0) := fun base => c_read_plain (k := 9) F_read_plain (He.glo_ok X G (c.d.fact 7 (f := .glo "read_plain") rfl)) hbl kc kg ((hm_Reader_peek base).mono (by decide)) ((h_read_compared_0 base).mono (by decide)) ((h_take_operator base).mono (by decide)) (fun ds Q Xq h => by first | (revert h; walk_at "len") | exact len_read_plain h) (p_read_plain 0)
  have h_read_each_0 : ∀ base : Heap, CalO P w K mg base (He.ga K) 11 "read_each" (S_read_each 0) := fun base => c_read_each (k := 10) F_read_each (He.glo_ok X G (c.d.fact 6 (f := .glo "read_each") rfl)) hbl kc kg ((h_read_plain_0 base).mono (by decide)) ((hm_Reader_peek base).mono (by decide)) ((h_take_operator base).mono (by decide)) (fun ds Q Xq h => by first | (revert h; walk_at "len") | exact len_read_each h) (p_read_each 0)
  have h_read_either_1 : ∀ base : Heap, CalO P w K mg base (He.ga K) 12 "read_either" (S_read_either 1) := fun base => c_read_either (k := 11) F_read_either (He.glo_ok X G (c.d.fact 5 (f := .glo "read_either") rfl)) hbl kc kg ((h_read_each_0 base).mono (by decide)) ((hm_Reader_peek base).mono (by decide)) ((h_take_operator base).mono (by decide)) (fun ds Q Xq h => by first | (revert h; walk_at "len") | exact len_read_either h) (p_read_either 0)
  have h_read_atom_1 : ∀ base : Heap, CalO P w K mg base (He.ga K) 13 "read_atom" (S_read_atom 1) := fun base => c_read_atom (k := 12) F_read_atom (He.glo_ok X G (c.d.fact 11 (f := .glo "read_atom") rfl)) hbl kc kg ((hm_Reader_sees_number base).mono (by decide)) ((hm_Reader_take_number base).mono (by decide)) ((hm_Reader_peek base).mono (by decide)) ((hm_Reader_take_name base).mono (by decide)) ((hm_Reader_fault base).mono (by decide)) ((hm_Reader_take base).mono (by decide)) ((h_read_either_1 base).mono (by decide)) (fun ds Q Xq h => by first | (revert h; walk_at "len") | exact len_read_atom h) (p_read_atom 1)
  have h_read_product_1 : ∀ base : Heap, CalO P w K mg base (He.ga K) 14 "read_product" (S_read_product 1) := fun base => c_read_product (k := 13) F_read_product (He.glo_ok X G (c.d.fact 10 (f := .glo "read_product") rfl)) hbl kc kg ((h_read_atom_1 base).mono (by decide)) ((hm_Reader_peek base).mono (by decide)) ((h_take_operator base).mono (by decide)) (fun ds Q Xq h => by first | (revert h; walk_at "len") | exact len_read_product h) (p_read_product 1)
  have h_read_sum_1 : ∀ base : Heap, CalO P w K mg base (He.ga K) 15 "read_sum" (S_read_sum 1) := fun base => c_read_sum (k := 14) F_read_sum (He.glo_ok X G (c.d.fact 9 (f := .glo "read_sum") rfl)) hbl kc kg ((h_read_product_1 base).mono (by decide)) ((hm_Reader_peek base).mono (by decide)) ((h_take_operator base).mono (by decide)) (fun ds Q Xq h => by first | (revert h; walk_at "len") | exact len_read_sum h) (p_read_sum 1)
  have h_read_compared_1 : ∀ base : Heap, CalO P w K mg base (He.ga K) 16 "read_compared" (S_read_compared 1) := fun base => c_read_compared (k := 15) F_read_compared (He.glo_ok X G (c.d.fact 8 (f := .glo "read_compared") rfl)) hbl kc kg ((h_read_sum_1 base).mono (by decide)) ((hm_Reader_peek base).mono (by decide)) ((h_take_operator base).mono (by decide)) (fun ds Q Xq h => by first | (revert h; walk_at "len") | exact len_read_compared h) (p_read_compared 1)
  have h_read_plain_1 : ∀ base : Heap, CalO P w K mg base (He.ga K) 17 "read_plain" (S_read_plain 1) := fun base => c_read_plain (k := 16) F_read_plain (He.glo_ok X G (c.d.fact 7 (f := .glo "read_plain") rfl)) hbl kc kg ((hm_Reader_peek base).mono (by decide)) ((h_read_compared_1 base).mono (by decide)) ((h_take_operator base).mono (by decide)) (fun ds Q Xq h => by first | (revert h; walk_at "len") | exact len_read_plain h) (p_read_plain 1)
  have h_read_each_1 : ∀ base : Heap, CalO P w K mg base (He.ga K) 18 "read_each" (S_read_each 1) := fun base => c_read_each (k := 17) F_read_each (He.glo_ok X G (c.d.fact 6 (f := .glo "read_each") rfl)) hbl kc kg ((h_read_plain_1 base).mono (by decide)) ((hm_Reader_peek base).mono (by decide)) ((h_take_operator base).mono (by decide)) (fun ds Q Xq h => by first | (revert h; walk_at "len") | exact len_read_each h) (p_read_each 1)
  have h_read_either_2 : ∀ base : Heap, CalO P w K mg base (He.ga K) 19 "read_either" (S_read_either 2) := fun base => c_read_either (k := 18) F_read_either (He.glo_ok X G (c.d.fact 5 (f := .glo "read_either") rfl)) hbl kc kg ((h_read_each_1 base).mono (by decide)) ((hm_Reader_peek base).mono (by decide)) ((h_take_operator base).mono (by decide)) (fun ds Q Xq h => by first | (revert h; walk_at "len") | exact len_read_either h) (p_read_either 1)
  have h_read_atom_2 : ∀ base : Heap, CalO P w K mg base (He.ga K) 20 "read_atom" (S_read_atom 2) := fun base => c_read_atom (k := 19) F_read_atom (He.glo_ok X G (c.d.fact 11 (f := .glo "read_atom") rfl)) hbl kc kg ((hm_Reader_sees_number base).mono (by decide)) ((hm_Reader_take_number base).mono (by decide)) ((hm_Reader_peek base).mono (by decide)) ((hm_Reader_take_name base).mono (by decide)) ((hm_Reader_fault base).mono (by decide)) ((hm_Reader_take base).mono (by decide)) ((h_read_either_2 base).mono (by decide)) (fun ds Q Xq h => by first | (revert h; walk_at "len") | exact len_read_atom h) (p_read_atom 2)
  have h_read_product_2 : ∀ base : Heap, CalO P w K mg base (He.ga K) 21 "read_product" (S_read_product 2) := fun base => c_read_product (k := 20) F_read_product (He.glo_ok X G (c.d.fact 10 (f := .glo "read_product") rfl)) hbl kc kg ((h_read_atom_2 base).mono (by decide)) ((hm_Reader_peek base).mono (by decide)) ((h_take_operator base).mono (by decide)) (fun ds Q Xq h => by first | (revert h; walk_at "len") | exact len_read_product h) (p_read_product 2)
  have h_read_sum_2 : ∀ base : Heap, CalO P w K mg base (He.ga K) 22 "read_sum" (S_read_sum 2) := fun base => c_read_sum (k := 21) F_read_sum (He.glo_ok X G (c.d.fact 9 (f := .glo "read_sum") rfl)) hbl kc kg ((h_read_product_2 base).mono (by decide)) ((hm_Reader_peek base).mono (by decide)) ((h_take_operator base).mono (by decide)) (fun ds Q Xq h => by first | (revert h; walk_at "len") | exact len_read_sum h) (p_read_sum 2)
  have h_read_compared_2 : ∀ base : Heap, CalO P w K mg base (He.ga K) 23 "read_compared" (S_read_compared 2) := fun base => c_read_compared (k := 22) F_read_compared (He.glo_ok X G (c.d.fact 8 (f := .glo "read_compared") rfl)) hbl kc kg ((h_read_sum_2 base).mono (by decide)) ((hm_Reader_peek base).mono (by decide)) ((h_take_operator base).mono (by decide)) (fun ds Q Xq h => by first | (revert h; walk_at "len") | exact len_read_compared h) (p_read_compared 2)
  have h_read_plain_2 : ∀ base : Heap, CalO P w K mg base (He.ga K) 24 "read_plain" (S_read_plain 2) := fun base => c_read_plain (k := 23) F_read_plain (He.glo_ok X G (c.d.fact 7 (f := .glo "read_plain") rfl)) hbl kc kg ((hm_Reader_peek base).mono (by decide)) ((h_read_compared_2 base).mono (by decide)) ((h_take_operator base).mono (by decide)) (fun ds Q Xq h => by first | (revert h; walk_at "len") | exact len_read_plain h) (p_read_plain 2)
  have h_read_each_2 : ∀ base : Heap, CalO P w K mg base (He.ga K) 25 "read_each" (S_read_each 2) := fun base => c_read_each (k := 24) F_read_each (He.glo_ok X G (c.d.fact 6 (f := .glo "read_each") rfl)) hbl kc kg ((h_read_plain_2 base).mono (by decide)) ((hm_Reader_peek base).mono (by decide)) ((h_take_operator base).mono (by decide)) (fun ds Q Xq h => by first | (revert h; walk_at "len") | exact len_read_each h) (p_read_each 2)
  have h_read_either_3 : ∀ base : Heap, CalO P w K mg base (He.ga K) 26 "read_either" (S_read_either 3) := fun base => c_read_either (k := 25) F_read_either (He.glo_ok X G (c.d.fact 5 (f := .glo "read_either") rfl)) hbl kc kg ((h_read_each_2 base).mono (by decide)) ((hm_Reader_peek base).mono (by decide)) ((h_take_operator base).mono (by decide)) (fun ds Q Xq h => by first | (revert h; walk_at "len") | exact len_read_either h) (p_read_either 2)
  have h_read_atom_3 : ∀ base : Heap, CalO P w K mg base (He.ga K) 27 "read_atom" (S_read_atom 3) := fun base => c_read_atom (k := 26) F_read_atom (He.glo_ok X G (c.d.fact 11 (f := .glo "read_atom") rfl)) hbl kc kg ((hm_Reader_sees_number base).mono (by decide)) ((hm_Reader_take_number base).mono (by decide)) ((hm_Reader_peek base).mono (by decide)) ((hm_Reader_take_name base).mono (by decide)) ((hm_Reader_fault base).mono (by decide)) ((hm_Reader_take base).mono (by decide)) ((h_read_either_3 base).mono (by decide)) (fun ds Q Xq h => by first | (revert h; walk_at "len") | exact len_read_atom h) (p_read_atom 3)
  have h_read_product_3 : ∀ base : Heap, CalO P w K mg base (He.ga K) 28 "read_product" (S_read_product 3) := fun base => c_read_product (k := 27) F_read_product (He.glo_ok X G (c.d.fact 10 (f := .glo "read_product") rfl)) hbl kc kg ((h_read_atom_3 base).mono (by decide)) ((hm_Reader_peek base).mono (by decide)) ((h_take_operator base).mono (by decide)) (fun ds Q Xq h => by first | (revert h; walk_at "len") | exact len_read_product h) (p_read_product 3)
  have h_read_sum_3 : ∀ base : Heap, CalO P w K mg base (He.ga K) 29 "read_sum" (S_read_sum 3) := fun base => c_read_sum (k := 28) F_read_sum (He.glo_ok X G (c.d.fact 9 (f := .glo "read_sum") rfl)) hbl kc kg ((h_read_product_3 base).mono (by decide)) ((hm_Reader_peek base).mono (by decide)) ((h_take_operator base).mono (by decide)) (fun ds Q Xq h => by first | (revert h; walk_at "len") | exact len_read_sum h) (p_read_sum 3)
  have h_read_compared_3 : ∀ base : Heap, CalO P w K mg base (He.ga K) 30 "read_compared" (S_read_compared 3) := fun base => c_read_compared (k := 29) F_read_compared (He.glo_ok X G (c.d.fact 8 (f := .glo "read_compared") rfl)) hbl kc kg ((h_read_sum_3 base).mono (by decide)) ((hm_Reader_peek base).mono (by decide)) ((h_take_operator base).mono (by decide)) (fun ds Q Xq h => by first | (revert h; walk_at "len") | exact len_read_compared h) (p_read_compared 3)
  have h_read_plain_3 : ∀ base : Heap, CalO P w K mg base (He.ga K) 31 "read_plain" (S_read_plain 3) := fun base => c_read_plain (k := 30) F_read_plain (He.glo_ok X G (c.d.fact 7 (f := .glo "read_plain") rfl)) hbl kc kg ((hm_Reader_peek base).mono (by decide)) ((h_read_compared_3 base).mono (by decide)) ((h_take_operator base).mono (by decide)) (fun ds Q Xq h => by first | (revert h; walk_at "len") | exact len_read_plain h) (p_read_plain 3)
  have h_read_each_3 : ∀ base : Heap, CalO P w K mg base (He.ga K) 32 "read_each" (S_read_each 3) := fun base => c_read_each (k := 31) F_read_each (He.glo_ok X G (c.d.fact 6 (f := .glo "read_each") rfl)) hbl kc kg ((h_read_plain_3 base).mono (by decide)) ((hm_Reader_peek base).mono (by decide)) ((h_take_operator base).mono (by decide)) (fun ds Q Xq h => by first | (revert h; walk_at "len") | exact len_read_each h) (p_read_each 3)
  have h_read_either_4 : ∀ base : Heap, CalO P w K mg base (He.ga K) 33 "read_either" (S_read_either 4) := fun base => c_read_either (k := 32) F_read_either (He.glo_ok X G (c.d.fact 5 (f := .glo "read_either") rfl)) hbl kc kg ((h_read_each_3 base).mono (by decide)) ((hm_Reader_peek base).mono (by decide)) ((h_take_operator base).mono (by decide)) (fun ds Q Xq h => by first | (revert h; walk_at "len") | exact len_read_either h) (p_read_either 3)
  have h_read_atom_4 : ∀ base : Heap, CalO P w K mg base (He.ga K) 34 "read_atom" (S_read_atom 4) := fun base => c_read_atom (k := 33) F_read_atom (He.glo_ok X G (c.d.fact 11 (f := .glo "read_atom") rfl)) hbl kc kg ((hm_Reader_sees_number base).mono (by decide)) ((hm_Reader_take_number base).mono (by decide)) ((hm_Reader_peek base).mono (by decide)) ((hm_Reader_take_name base).mono (by decide)) ((hm_Reader_fault base).mono (by decide)) ((hm_Reader_take base).mono (by decide)) ((h_read_either_4 base).mono (by decide)) (fun ds Q Xq h => by first | (revert h; walk_at "len") | exact len_read_atom h) (p_read_atom 4)
  have h_read_product_4 : ∀ base : Heap, CalO P w K mg base (He.ga K) 35 "read_product" (S_read_product 4) := fun base => c_read_product (k := 34) F_read_product (He.glo_ok X G (c.d.fact 10 (f := .glo "read_product") rfl)) hbl kc kg ((h_read_atom_4 base).mono (by decide)) ((hm_Reader_peek base).mono (by decide)) ((h_take_operator base).mono (by decide)) (fun ds Q Xq h => by first | (revert h; walk_at "len") | exact len_read_product h) (p_read_product 4)
  have h_read_sum_4 : ∀ base : Heap, CalO P w K mg base (He.ga K) 36 "read_sum" (S_read_sum 4) := fun base => c_read_sum (k := 35) F_read_sum (He.glo_ok X G (c.d.fact 9 (f := .glo "read_sum") rfl)) hbl kc kg ((h_read_product_4 base).mono (by decide)) ((hm_Reader_peek base).mono (by decide)) ((h_take_operator base).mono (by decide)) (fun ds Q Xq h => by first | (revert h; walk_at "len") | exact len_read_sum h) (p_read_sum 4)
  have h_read_compared_4 : ∀ base : Heap, CalO P w K mg base (He.ga K) 37 "read_compared" (S_read_compared 4) := fun base => c_read_compared (k := 36) F_read_compared (He.glo_ok X G (c.d.fact 8 (f := .glo "read_compared") rfl)) hbl kc kg ((h_read_sum_4 base).mono (by decide)) ((hm_Reader_peek base).mono (by decide)) ((h_take_operator base).mono (by decide)) (fun ds Q Xq h => by first | (revert h; walk_at "len") | exact len_read_compared h) (p_read_compared 4)
  have h_read_plain_4 : ∀ base : Heap, CalO P w K mg base (He.ga K) 38 "read_plain" (S_read_plain 4) := fun base => c_read_plain (k := 37) F_read_plain (He.glo_ok X G (c.d.fact 7 (f := .glo "read_plain") rfl)) hbl kc kg ((hm_Reader_peek base).mono (by decide)) ((h_read_compared_4 base).mono (by decide)) ((h_take_operator base).mono (by decide)) (fun ds Q Xq h => by first | (revert h; walk_at "len") | exact len_read_plain h) (p_read_plain 4)
  have h_read_each_4 : ∀ base : Heap, CalO P w K mg base (He.ga K) 39 "read_each" (S_read_each 4) := fun base => c_read_each (k := 38) F_read_each (He.glo_ok X G (c.d.fact 6 (f := .glo "read_each") rfl)) hbl kc kg ((h_read_plain_4 base).mono (by decide)) ((hm_Reader_peek base).mono (by decide)) ((h_take_operator base).mono (by decide)) (fun ds Q Xq h => by first | (revert h; walk_at "len") | exact len_read_each h) (p_read_each 4)
  have h_read_either_5 : ∀ base : Heap, CalO P w K mg base (He.ga K) 40 "read_either" (S_read_either 5) := fun base => c_read_either (k := 39) F_read_either (He.glo_ok X G (c.d.fact 5 (f := .glo "read_either") rfl)) hbl kc kg ((h_read_each_4 base).mono (by decide)) ((hm_Reader_peek base).mono (by decide)) ((h_take_operator base).mono (by decide)) (fun ds Q Xq h => by first | (revert h; walk_at "len") | exact len_read_either h) (p_read_either 4)
  have h_read_atom_5 : ∀ base : Heap, CalO P w K mg base (He.ga K) 41 "read_atom" (S_read_atom 5) := fun base => c_read_atom (k := 40) F_read_atom (He.glo_ok X G (c.d.fact 11 (f := .glo "read_atom") rfl)) hbl kc kg ((hm_Reader_sees_number base).mono (by decide)) ((hm_Reader_take_number base).mono (by decide)) ((hm_Reader_peek base).mono (by decide)) ((hm_Reader_take_name base).mono (by decide)) ((hm_Reader_fault base).mono (by decide)) ((hm_Reader_take base).mono (by decide)) ((h_read_either_5 base).mono (by decide)) (fun ds Q Xq h => by first | (revert h; walk_at "len") | exact len_read_atom h) (p_read_atom 5)
  have h_read_product_5 : ∀ base : Heap, CalO P w K mg base (He.ga K) 42 "read_product" (S_read_product 5) := fun base => c_read_product (k := 41) F_read_product (He.glo_ok X G (c.d.fact 10 (f := .glo "read_product") rfl)) hbl kc kg ((h_read_atom_5 base).mono (by decide)) ((hm_Reader_peek base).mono (by decide)) ((h_take_operator base).mono (by decide)) (fun ds Q Xq h => by first | (revert h; walk_at "len") | exact len_read_product h) (p_read_product 5)
  have h_read_sum_5 : ∀ base : Heap, CalO P w K mg base (He.ga K) 43 "read_sum" (S_read_sum 5) := fun base => c_read_sum (k := 42) F_read_sum (He.glo_ok X G (c.d.fact 9 (f := .glo "read_sum") rfl)) hbl kc kg ((h_read_product_5 base).mono (by decide)) ((hm_Reader_peek base).mono (by decide)) ((h_take_operator base).mono (by decide)) (fun ds Q Xq h => by first | (revert h; walk_at "len") | exact len_read_sum h) (p_read_sum 5)
  have h_read_compared_5 : ∀ base : Heap, CalO P w K mg base (He.ga K) 44 "read_compared" (S_read_compared 5) := fun base => c_read_compared (k := 43) F_read_compared (He.glo_ok X G (c.d.fact 8 (f := .glo "read_compared") rfl)) hbl kc kg ((h_read_sum_5 base).mono (by decide)) ((hm_Reader_peek base).mono (by decide)) ((h_take_operator base).mono (by decide)) (fun ds Q Xq h => by first | (revert h; walk_at "len") | exact len_read_compared h) (p_read_compared 5)
  have h_read_plain_5 : ∀ base : Heap, CalO P w K mg base (He.ga K) 45 "read_plain" (S_read_plain 5) := fun base => c_read_plain (k := 44) F_read_plain (He.glo_ok X G (c.d.fact 7 (f := .glo "read_plain") rfl)) hbl kc kg ((hm_Reader_peek base).mono (by decide)) ((h_read_compared_5 base).mono (by decide)) ((h_take_operator base).mono (by decide)) (fun ds Q Xq h => by first | (revert h; walk_at "len") | exact len_read_plain h) (p_read_plain 5)
  have h_read_each_5 : ∀ base : Heap, CalO P w K mg base (He.ga K) 46 "read_each" (S_read_each 5) := fun base => c_read_each (k := 45) F_read_each (He.glo_ok X G (c.d.fact 6 (f := .glo "read_each") rfl)) hbl kc kg ((h_read_plain_5 base).mono (by decide)) ((hm_Reader_peek base).mono (by decide)) ((h_take_operator base).mono (by decide)) (fun ds Q Xq h => by first | (revert h; walk_at "len") | exact len_read_each h) (p_read_each 5)
  have h_read_either_6 : ∀ base : Heap, CalO P w K mg base (He.ga K) 47 "read_either" (S_read_either 6) := fun base => c_read_either (k := 46) F_read_either (He.glo_ok X G (c.d.fact 5 (f := .glo "read_either") rfl)) hbl kc kg ((h_read_each_5 base).mono (by decide)) ((hm_Reader_peek base).mono (by decide)) ((h_take_operator base).mono (by decide)) (fun ds Q Xq h => by first | (revert h; walk_at "len") | exact len_read_either h) (p_read_either 5)
  have h_read_atom_6 : ∀ base : Heap, CalO P w K mg base (He.ga K) 48 "read_atom" (S_read_atom 6) := fun base => c_read_atom (k := 47) F_read_atom (He.glo_ok X G (c.d.fact 11 (f := .glo "read_atom") rfl)) hbl kc kg ((hm_Reader_sees_number base).mono (by decide)) ((hm_Reader_take_number base).mono (by decide)) ((hm_Reader_peek base).mono (by decide)) ((hm_Reader_take_name base).mono (by decide)) ((hm_Reader_fault base).mono (by decide)) ((hm_Reader_take base).mono (by decide)) ((h_read_either_6 base).mono (by decide)) (fun ds Q Xq h => by first | (revert h; walk_at "len") | exact len_read_atom h) (p_read_atom 6)
  have h_read_product_6 : ∀ base : Heap, CalO P w K mg base (He.ga K) 49 "read_product" (S_read_product 6) := fun base => c_read_product (k := 48) F_read_product (He.glo_ok X G (c.d.fact 10 (f := .glo "read_product") rfl)) hbl kc kg ((h_read_atom_6 base).mono (by decide)) ((hm_Reader_peek base).mono (by decide)) ((h_take_operator base).mono (by decide)) (fun ds Q Xq h => by first | (revert h; walk_at "len") | exact len_read_product h) (p_read_product 6)
  have h_read_sum_6 : ∀ base : Heap, CalO P w K mg base (He.ga K) 50 "read_sum" (S_read_sum 6) := fun base => c_read_sum (k := 49) F_read_sum (He.glo_ok X G (c.d.fact 9 (f := .glo "read_sum") rfl)) hbl kc kg ((h_read_product_6 base).mono (by decide)) ((hm_Reader_peek base).mono (by decide)) ((h_take_operator base).mono (by decide)) (fun ds Q Xq h => by first | (revert h; walk_at "len") | exact len_read_sum h) (p_read_sum 6)
  have h_read_compared_6 : ∀ base : Heap, CalO P w K mg base (He.ga K) 51 "read_compared" (S_read_compared 6) := fun base => c_read_compared (k := 50) F_read_compared (He.glo_ok X G (c.d.fact 8 (f := .glo "read_compared") rfl)) hbl kc kg ((h_read_sum_6 base).mono (by decide)) ((hm_Reader_peek base).mono (by decide)) ((h_take_operator base).mono (by decide)) (fun ds Q Xq h => by first | (revert h; walk_at "len") | exact len_read_compared h) (p_read_compared 6)
  have h_read_plain_6 : ∀ base : Heap, CalO P w K mg base (He.ga K) 52 "read_plain" (S_read_plain 6) := fun base => c_read_plain (k := 51) F_read_plain (He.glo_ok X G (c.d.fact 7 (f := .glo "read_plain") rfl)) hbl kc kg ((hm_Reader_peek base).mono (by decide)) ((h_read_compared_6 base).mono (by decide)) ((h_take_operator base).mono (by decide)) (fun ds Q Xq h => by first | (revert h; walk_at "len") | exact len_read_plain h) (p_read_plain 6)
  have h_read_each_6 : ∀ base : Heap, CalO P w K mg base (He.ga K) 53 "read_each" (S_read_each 6) := fun base => c_read_each (k := 52) F_read_each (He.glo_ok X G (c.d.fact 6 (f := .glo "read_each") rfl)) hbl kc kg ((h_read_plain_6 base).mono (by decide)) ((hm_Reader_peek base).mono (by decide)) ((h_take_operator base).mono (by decide)) (fun ds Q Xq h => by first | (revert h; walk_at "len") | exact len_read_each h) (p_read_each 6)
  have h_read_either_7 : ∀ base : Heap, CalO P w K mg base (He.ga K) 54 "read_either" (S_read_either 7) := fun base => c_read_either (k := 53) F_read_either (He.glo_ok X G (c.d.fact 5 (f := .glo "read_either") rfl)) hbl kc kg ((h_read_each_6 base).mono (by decide)) ((hm_Reader_peek base).mono (by decide)) ((h_take_operator base).mono (by decide)) (fun ds Q Xq h => by first | (revert h; walk_at "len") | exact len_read_either h) (p_read_either 6)
  have h_read_atom_7 : ∀ base : Heap, CalO P w K mg base (He.ga K) 55 "read_atom" (S_read_atom 7) := fun base => c_read_atom (k := 54) F_read_atom (He.glo_ok X G (c.d.fact 11 (f := .glo "read_atom") rfl)) hbl kc kg ((hm_Reader_sees_number base).mono (by decide)) ((hm_Reader_take_number base).mono (by decide)) ((hm_Reader_peek base).mono (by decide)) ((hm_Reader_take_name base).mono (by decide)) ((hm_Reader_fault base).mono (by decide)) ((hm_Reader_take base).mono (by decide)) ((h_read_either_7 base).mono (by decide)) (fun ds Q Xq h => by first | (revert h; walk_at "len") | exact len_read_atom h) (p_read_atom 7)
  have h_read_product_7 : ∀ base : Heap, CalO P w K mg base (He.ga K) 56 "read_product" (S_read_product 7) := fun base => c_read_product (k := 55) F_read_product (He.glo_ok X G (c.d.fact 10 (f := .glo "read_product") rfl)) hbl kc kg ((h_read_atom_7 base).mono (by decide)) ((hm_Reader_peek base).mono (by decide)) ((h_take_operator base).mono (by decide)) (fun ds Q Xq h => by first | (revert h; walk_at "len") | exact len_read_product h) (p_read_product 7)
  have h_read_sum_7 : ∀ base : Heap, CalO P w K mg base (He.ga K) 57 "read_sum" (S_read_sum 7) := fun base => c_read_sum (k := 56) F_read_sum (He.glo_ok X G (c.d.fact 9 (f := .glo "read_sum") rfl)) hbl kc kg ((h_read_product_7 base).mono (by decide)) ((hm_Reader_peek base).mono (by decide)) ((h_take_operator base).mono (by decide)) (fun ds Q Xq h => by first | (revert h; walk_at "len") | exact len_read_sum h) (p_read_sum 7)
  have h_read_compared_7 : ∀ base : Heap, CalO P w K mg base (He.ga K) 58 "read_compared" (S_read_compared 7) := fun base => c_read_compared (k := 57) F_read_compared (He.glo_ok X G (c.d.fact 8 (f := .glo "read_compared") rfl)) hbl kc kg ((h_read_sum_7 base).mono (by decide)) ((hm_Reader_peek base).mono (by decide)) ((h_take_operator base).mono (by decide)) (fun ds Q Xq h => by first | (revert h; walk_at "len") | exact len_read_compared h) (p_read_compared 7)
  have h_read_plain_7 : ∀ base : Heap, CalO P w K mg base (He.ga K) 59 "read_plain" (S_read_plain 7) := fun base => c_read_plain (k := 58) F_read_plain (He.glo_ok X G (c.d.fact 7 (f := .glo "read_plain") rfl)) hbl kc kg ((hm_Reader_peek base).mono (by decide)) ((h_read_compared_7 base).mono (by decide)) ((h_take_operator base).mono (by decide)) (fun ds Q Xq h => by first | (revert h; walk_at "len") | exact len_read_plain h) (p_read_plain 7)
  have h_read_each_7 : ∀ base : Heap, CalO P w K mg base (He.ga K) 60 "read_each" (S_read_each 7) := fun base => c_read_each (k := 59) F_read_each (He.glo_ok X G (c.d.fact 6 (f := .glo "read_each") rfl)) hbl kc kg ((h_read_plain_7 base).mono (by decide)) ((hm_Reader_peek base).mono (by decide)) ((h_take_operator base).mono (by decide)) (fun ds Q Xq h => by first | (revert h; walk_at "len") | exact len_read_each h) (p_read_each 7)
  have h_read_either_8 : ∀ base : Heap, CalO P w K mg base (He.ga K) 61 "read_either" (S_read_either 8) := fun base => c_read_either (k := 60) F_read_either (He.glo_ok X G (c.d.fact 5 (f := .glo "read_either") rfl)) hbl kc kg ((h_read_each_7 base).mono (by decide)) ((hm_Reader_peek base).mono (by decide)) ((h_take_operator base).mono (by decide)) (fun ds Q Xq h => by first | (revert h; walk_at "len") | exact len_read_either h) (p_read_either 7)
  have h_read_atom_8 : ∀ base : Heap, CalO P w K mg base (He.ga K) 62 "read_atom" (S_read_atom 8) := fun base => c_read_atom (k := 61) F_read_atom (He.glo_ok X G (c.d.fact 11 (f := .glo "read_atom") rfl)) hbl kc kg ((hm_Reader_sees_number base).mono (by decide)) ((hm_Reader_take_number base).mono (by decide)) ((hm_Reader_peek base).mono (by decide)) ((hm_Reader_take_name base).mono (by decide)) ((hm_Reader_fault base).mono (by decide)) ((hm_Reader_take base).mono (by decide)) ((h_read_either_8 base).mono (by decide)) (fun ds Q Xq h => by first | (revert h; walk_at "len") | exact len_read_atom h) (p_read_atom 8)
  have h_read_product_8 : ∀ base : Heap, CalO P w K mg base (He.ga K) 63 "read_product" (S_read_product 8) := fun base => c_read_product (k := 62) F_read_product (He.glo_ok X G (c.d.fact 10 (f := .glo "read_product") rfl)) hbl kc kg ((h_read_atom_8 base).mono (by decide)) ((hm_Reader_peek base).mono (by decide)) ((h_take_operator base).mono (by decide)) (fun ds Q Xq h => by first | (revert h; walk_at "len") | exact len_read_product h) (p_read_product 8)
  have h_read_sum_8 : ∀ base : Heap, CalO P w K mg base (He.ga K) 64 "read_sum" (S_read_sum 8) := fun base => c_read_sum (k := 63) F_read_sum (He.glo_ok X G (c.d.fact 9 (f := .glo "read_sum") rfl)) hbl kc kg ((h_read_product_8 base).mono (by decide)) ((hm_Reader_peek base).mono (by decide)) ((h_take_operator base).mono (by decide)) (fun ds Q Xq h => by first | (revert h; walk_at "len") | exact len_read_sum h) (p_read_sum 8)
  have h_read_compared_8 : ∀ base : Heap, CalO P w K mg base (He.ga K) 65 "read_compared" (S_read_compared 8) := fun base => c_read_compared (k := 64) F_read_compared (He.glo_ok X G (c.d.fact 8 (f := .glo "read_compared") rfl)) hbl kc kg ((h_read_sum_8 base).mono (by decide)) ((hm_Reader_peek base).mono (by decide)) ((h_take_operator base).mono (by decide)) (fun ds Q Xq h => by first | (revert h; walk_at "len") | exact len_read_compared h) (p_read_compared 8)
  have h_read_plain_8 : ∀ base : Heap, CalO P w K mg base (He.ga K) 66 "read_plain" (S_read_plain 8) := fun base => c_read_plain (k := 65) F_read_plain (He.glo_ok X G (c.d.fact 7 (f := .glo "read_plain") rfl)) hbl kc kg ((hm_Reader_peek base).mono (by decide)) ((h_read_compared_8 base).mono (by decide)) ((h_take_operator base).mono (by decide)) (fun ds Q Xq h => by first | (revert h; walk_at "len") | exact len_read_plain h) (p_read_plain 8)
  have h_read_each_8 : ∀ base : Heap, CalO P w K mg base (He.ga K) 67 "read_each" (S_read_each 8) := fun base => c_read_each (k := 66) F_read_each (He.glo_ok X G (c.d.fact 6 (f := .glo "read_each") rfl)) hbl kc kg ((h_read_plain_8 base).mono (by decide)) ((hm_Reader_peek base).mono (by decide)) ((h_take_operator base).mono (by decide)) (fun ds Q Xq h => by first | (revert h; walk_at "len") | exact len_read_each h) (p_read_each 8)
  have h_read_either_9 : ∀ base : Heap, CalO P w K mg base (He.ga K) 68 "read_either" (S_read_either 9) := fun base => c_read_either (k := 67) F_read_either (He.glo_ok X G (c.d.fact 5 (f := .glo "read_either") rfl)) hbl kc kg ((h_read_each_8 base).mono (by decide)) ((hm_Reader_peek base).mono (by decide)) ((h_take_operator base).mono (by decide)) (fun ds Q Xq h => by first | (revert h; walk_at "len") | exact len_read_either h) (p_read_either 8)
  have h_read_atom_9 : ∀ base : Heap, CalO P w K mg base (He.ga K) 69 "read_atom" (S_read_atom 9) := fun base => c_read_atom (k := 68) F_read_atom (He.glo_ok X G (c.d.fact 11 (f := .glo "read_atom") rfl)) hbl kc kg ((hm_Reader_sees_number base).mono (by decide)) ((hm_Reader_take_number base).mono (by decide)) ((hm_Reader_peek base).mono (by decide)) ((hm_Reader_take_name base).mono (by decide)) ((hm_Reader_fault base).mono (by decide)) ((hm_Reader_take base).mono (by decide)) ((h_read_either_9 base).mono (by decide)) (fun ds Q Xq h => by first | (revert h; walk_at "len") | exact len_read_atom h) (p_read_atom 9)
  have h_read_product_9 : ∀ base : Heap, CalO P w K mg base (He.ga K) 70 "read_product" (S_read_product 9) := fun base => c_read_product (k := 69) F_read_product (He.glo_ok X G (c.d.fact 10 (f := .glo "read_product") rfl)) hbl kc kg ((h_read_atom_9 base).mono (by decide)) ((hm_Reader_peek base).mono (by decide)) ((h_take_operator base).mono (by decide)) (fun ds Q Xq h => by first | (revert h; walk_at "len") | exact len_read_product h) (p_read_product 9)
  have h_read_sum_9 : ∀ base : Heap, CalO P w K mg base (He.ga K) 71 "read_sum" (S_read_sum 9) := fun base => c_read_sum (k := 70) F_read_sum (He.glo_ok X G (c.d.fact 9 (f := .glo "read_sum") rfl)) hbl kc kg ((h_read_product_9 base).mono (by decide)) ((hm_Reader_peek base).mono (by decide)) ((h_take_operator base).mono (by decide)) (fun ds Q Xq h => by first | (revert h; walk_at "len") | exact len_read_sum h) (p_read_sum 9)
  have h_read_compared_9 : ∀ base : Heap, CalO P w K mg base (He.ga K) 72 "read_compared" (S_read_compared 9) := fun base => c_read_compared (k := 71) F_read_compared (He.glo_ok X G (c.d.fact 8 (f := .glo "read_compared") rfl)) hbl kc kg ((h_read_sum_9 base).mono (by decide)) ((hm_Reader_peek base).mono (by decide)) ((h_take_operator base).mono (by decide)) (fun ds Q Xq h => by first | (revert h; walk_at "len") | exact len_read_compared h) (p_read_compared 9)
  have h_read_plain_9 : ∀ base : Heap, CalO P w K mg base (He.ga K) 73 "read_plain" (S_read_plain 9) := fun base => c_read_plain (k := 72) F_read_plain (He.glo_ok X G (c.d.fact 7 (f := .glo "read_plain") rfl)) hbl kc kg ((hm_Reader_peek base).mono (by decide)) ((h_read_compared_9 base).mono (by decide)) ((h_take_operator base).mono (by decide)) (fun ds Q Xq h => by first | (revert h; walk_at "len") | exact len_read_plain h) (p_read_plain 9)
  have h_read_each_9 : ∀ base : Heap, CalO P w K mg base (He.ga K) 74 "read_each" (S_read_each 9) := fun base => c_read_each (k := 73) F_read_each (He.glo_ok X G (c.d.fact 6 (f := .glo "read_each") rfl)) hbl kc kg ((h_read_plain_9 base).mono (by decide)) ((hm_Reader_peek base).mono (by decide)) ((h_take_operator base).mono (by decide)) (fun ds Q Xq h => by first | (revert h; walk_at "len") | exact len_read_each h) (p_read_each 9)
  have h_read_either_10 : ∀ base : Heap, CalO P w K mg base (He.ga K) 75 "read_either" (S_read_either 10) := fun base => c_read_either (k := 74) F_read_either (He.glo_ok X G (c.d.fact 5 (f := .glo "read_either") rfl)) hbl kc kg ((h_read_each_9 base).mono (by decide)) ((hm_Reader_peek base).mono (by decide)) ((h_take_operator base).mono (by decide)) (fun ds Q Xq h => by first | (revert h; walk_at "len") | exact len_read_either h) (p_read_either 9)
  have h_read_atom_10 : ∀ base : Heap, CalO P w K mg base (He.ga K) 76 "read_atom" (S_read_atom 10) := fun base => c_read_atom (k := 75) F_read_atom (He.glo_ok X G (c.d.fact 11 (f := .glo "read_atom") rfl)) hbl kc kg ((hm_Reader_sees_number base).mono (by decide)) ((hm_Reader_take_number base).mono (by decide)) ((hm_Reader_peek base).mono (by decide)) ((hm_Reader_take_name base).mono (by decide)) ((hm_Reader_fault base).mono (by decide)) ((hm_Reader_take base).mono (by decide)) ((h_read_either_10 base).mono (by decide)) (fun ds Q Xq h => by first | (revert h; walk_at "len") | exact len_read_atom h) (p_read_atom 10)
  have h_read_product_10 : ∀ base : Heap, CalO P w K mg base (He.ga K) 77 "read_product" (S_read_product 10) := fun base => c_read_product (k := 76) F_read_product (He.glo_ok X G (c.d.fact 10 (f := .glo "read_product") rfl)) hbl kc kg ((h_read_atom_10 base).mono (by decide)) ((hm_Reader_peek base).mono (by decide)) ((h_take_operator base).mono (by decide)) (fun ds Q Xq h => by first | (revert h; walk_at "len") | exact len_read_product h) (p_read_product 10)
  have h_read_sum_10 : ∀ base : Heap, CalO P w K mg base (He.ga K) 78 "read_sum" (S_read_sum 10) := fun base => c_read_sum (k := 77) F_read_sum (He.glo_ok X G (c.d.fact 9 (f := .glo "read_sum") rfl)) hbl kc kg ((h_read_product_10 base).mono (by decide)) ((hm_Reader_peek base).mono (by decide)) ((h_take_operator base).mono (by decide)) (fun ds Q Xq h => by first | (revert h; walk_at "len") | exact len_read_sum h) (p_read_sum 10)
  have h_read_compared_10 : ∀ base : Heap, CalO P w K mg base (He.ga K) 79 "read_compared" (S_read_compared 10) := fun base => c_read_compared (k := 78) F_read_compared (He.glo_ok X G (c.d.fact 8 (f := .glo "read_compared") rfl)) hbl kc kg ((h_read_sum_10 base).mono (by decide)) ((hm_Reader_peek base).mono (by decide)) ((h_take_operator base).mono (by decide)) (fun ds Q Xq h => by first | (revert h; walk_at "len") | exact len_read_compared h) (p_read_compared 10)
  have h_read_plain_10 : ∀ base : Heap, CalO P w K mg base (He.ga K) 80 "read_plain" (S_read_plain 10) := fun base => c_read_plain (k := 79) F_read_plain (He.glo_ok X G (c.d.fact 7 (f := .glo "read_plain") rfl)) hbl kc kg ((hm_Reader_peek base).mono (by decide)) ((h_read_compared_10 base).mono (by decide)) ((h_take_operator base).mono (by decide)) (fun ds Q Xq h => by first | (revert h; walk_at "len") | exact len_read_plain h) (p_read_plain 10)
  have h_read_each_10 : ∀ base : Heap, CalO P w K mg base (He.ga K) 81 "read_each" (S_read_each 10) := fun base => c_read_each (k := 80) F_read_each (He.glo_ok X G (c.d.fact 6 (f := .glo "read_each") rfl)) hbl kc kg ((h_read_plain_10 base).mono (by decide)) ((hm_Reader_peek base).mono (by decide)) ((h_take_operator base).mono (by decide)) (fun ds Q Xq h => by first | (revert h; walk_at "len") | exact len_read_each h) (p_read_each 10)
  have h_read_either_11 : ∀ base : Heap, CalO P w K mg base (He.ga K) 82 "read_either" (S_read_either 11) := fun base => c_read_either (k := 81) F_read_either (He.glo_ok X G (c.d.fact 5 (f := .glo "read_either") rfl)) hbl kc kg ((h_read_each_10 base).mono (by decide)) ((hm_Reader_peek base).mono (by decide)) ((h_take_operator base).mono (by decide)) (fun ds Q Xq h => by first | (revert h; walk_at "len") | exact len_read_either h) (p_read_either 10)
  have h_read_either := h_read_either_11
  have h_read_atom := h_read_atom_10
  have h_read_product := h_read_product_10
  have h_read_sum := h_read_sum_10
  have h_read_compared := h_read_compared_10
  have h_read_plain := h_read_plain_10
  have h_read_each := h_read_each_10
  obtain ⟨fd_read_each, F_read_each⟩ := c.d.def_ 17 (d := d_read_each) rfl
  obtain ⟨fd_read_plain, F_read_plain⟩ := c.d.def_ 18 (d := d_read_plain) rfl
  obtain ⟨fd_read_compared, F_read_compared⟩ := c.d.def_ 19 (d := d_read_compared) rfl
  obtain ⟨fd_read_sum, F_read_sum⟩ := c.d.def_ 20 (d := d_read_sum) rfl
  obtain ⟨fd_read_product, F_read_product⟩ := c.d.def_ 21 (d := d_read_product) rfl
  obtain ⟨fd_read_atom, F_read_atom⟩ := c.d.def_ 22 (d := d_read_atom) rfl
  obtain ⟨fd_read_place, F_read_place⟩ := c.d.def_ 23 (d := d_read_place) rfl
  have h_read_place : ∀ base : Heap, CalO P w K mg base (He.ga K) 91 "read_place" S_read_place := fun base => c_read_place (k := 89) F_read_place (He.glo_ok X G (c.d.fact 12 (f := .glo "read_place") rfl)) hbl kc kg ((h_read_either base).mono (by decide)) ((hi_Measure base).mono (by decide)) (fun ds Q Xq h => by first | (revert h; walk_at "len") | exact len_read_place h) p_read_place
  obtain ⟨fd_parse_expression, F_parse_expression⟩ := c.d.def_ 24 (d := d_parse_expression) rfl
  have h_parse_expression : ∀ base : Heap, Cal P w K mg base (He.ga K) 93 "parse_expression" S_parse_expression := fun base => c_parse_expression (k := 91) F_parse_expression (He.glo_ok X G (c.d.fact 13 (f := .glo "parse_expression") rfl)) hbl kc kg ((hi_Reader base).mono (by decide)) ((h_split_words base).mono (by decide)) ((h_read_place base).mono (by decide)) ((hm_Reader_take_end base).mono (by decide)) (fun ds Q Xq h => by first | (revert h; walk_at "len") | exact len_parse_expression h) p_parse_expression
  obtain ⟨fd__law_kept, F__law_kept⟩ := c.d.def_ 41 (d := d__law_kept) rfl
  have h__law_kept : ∀ base : Heap, Cal P w K mg base (He.ga K) 94 "_law_kept" S__law_kept := fun base => c__law_kept (k := 93) F__law_kept (He.glo_ok X G (c.d.fact 30 (f := .glo "_law_kept") rfl)) hbl kc kg ((h_print_expression base).mono (by decide)) ((h__law_same base).mono (by decide)) ((h_parse_expression base).mono (by decide)) (fun ds Q Xq h => by first | (revert h; walk_at "len") | exact len__law_kept h) p__law_kept
  obtain ⟨fd__law_needed, F__law_needed⟩ := c.d.def_ 42 (d := d__law_needed) rfl
  have h__law_needed : ∀ base : Heap, Cal P w K mg base (He.ga K) 94 "_law_needed" S__law_needed := fun base => c__law_needed (k := 93) F__law_needed (He.glo_ok X G (c.d.fact 31 (f := .glo "_law_needed") rfl)) hbl kc kg ((h__law_next base).mono (by decide)) ((h__law_same base).mono (by decide)) ((h_parse_expression base).mono (by decide)) (fun ds Q Xq h => by first | (revert h; walk_at "len") | exact len__law_needed h) p__law_needed
  obtain ⟨fd, F⟩ := c.d.def_ 43 (d := d_law) rfl
  have e := hfa.symm.trans (He.glo_ok X G (c.d.fact 32 (f := .glo "law") rfl))
  cases e
  have b := FunD.bindsA (ps := ["script"]) F fun _ _ _ _ _ _ us hl => match us, hl with | [_], _ => rfl
  exact ⟨fd, fun s v => b s [v] rfl, fun base _ _ => law_fn (c_law (k := 94) (C := (He.ga K)) (S := S_law) F hbl kc kg ((h__law_reader base).mono (by decide)) ((h__law_cell base).mono (by decide)) ((h__law_next base).mono (by decide)) ((h__law_name base).mono (by decide)) ((h__law_expression base).mono (by decide)) ((h__law_chain base).mono (by decide)) ((h__law_print base).mono (by decide)) ((h__law_text base).mono (by decide)) ((h__law_full base).mono (by decide)) ((h__law_kept base).mono (by decide)) ((h__law_needed base).mono (by decide)) (fun ds Q Xq h => by first | (revert h; walk_at "len") | exact len_law h) p_law) fun ns Qd hn q => ⟨ns, rfl, hn, q⟩⟩
end
end K07
open PySem PySem.W PySem.Calls PyProof.Rows
theorem PySem.Challenge.cw_allmends_k07_expression_there_and_back_holds : PySem.Challenge.rw_allmends_k07_expression_there_and_back.Holds := by
  w_on; o_law
  refine HandSHeadRun.head_any (r := OpenLaw.row PySem.Challenge.rw_allmends_k07_expression_there_and_back) (q := view (OpenLaw.row PySem.Challenge.rw_allmends_k07_expression_there_and_back).prog [52]) (H := K07.hk) (ob := K07.ob) (M := 9000) (loose := K07.loose) (d := HandSHeadRun.topDef (OpenLaw.row PySem.Challenge.rw_allmends_k07_expression_there_and_back).prog 52) (kwd := []) K07.ob_eq
    (by kernel_rfl) (fun s => by kernel_rfl) K07.run (by kernel_rfl) (by kernel_rfl) (by kernel_rfl) (by rfl) (by first | assumption | decide +kernel) (by decide +kernel) ⟨rfl, rfl, rfl, rfl, rfl, by decide +kernel⟩ ?hw ?hc
  case hw => w_witness2
  case hc =>
    refine L2.walk_ofE (l := PySem.Challenge.rw_allmends_k07_expression_there_and_back) (n := 63) (k := 95) (x := "script") (CX := L2.CX0) rfl (by decide) (by kernel_rfl) ⟨rfl, by decide, by decide⟩ ?F (fun _ _ _ _ z => z)
    intro w mg fa h Y G hmg0
    obtain ⟨K, KX, c⟩ := Y
    have hmg : mg ("law" : PySem.Str) = some (.ref fa) := by
      have e : (HandSHeadRun.topDef (OpenLaw.row PySem.Challenge.rw_allmends_k07_expression_there_and_back).prog 52).name = ("law" : PySem.Str) := by kernel_rfl
      rw [← e]
      exact hmg0
    obtain ⟨fd, hb, hF⟩ := K07.facts (w := w) KX G hmg c
    exact ⟨K, fd, Dl.spLaw K 63, KX, hb, fun H a ns hl _ hS => ⟨a, ns, rfl, hl, hS, fun _ _ e => e⟩, hF⟩
