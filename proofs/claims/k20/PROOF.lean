import PyProof.Rows.All
import HandS.ForMost
import HandS.Exc
import HandS.Style
import HandS.TupAny
import HandS.Zip
import HandS.Wide
import HandS.More
import HandS.SetFor
import HandS.SortInts
import HandS.SortKw
import HandS.IsInst
import HandS.Conv
import HandS.Defaults
import HandS.TupMul
import HandS.Deep
import HandS.DictComp
import PyProof.Rows.SortShellAny
import PySem.Challenge.RW_keenlot_k20_covers_gap_and_parting_row
set_option Elab.async false
set_option linter.all false
set_option maxRecDepth 100000
set_option maxHeartbeats 4000000
namespace Kn
open PySem L2

/-! heaps -/
def Ex (H H' : Hp) : Prop := ∀ a o, H a = some o → H' a = some o
theorem Ex.refl (H : Hp) : Ex H H := fun _ _ h => h
theorem Ex.trans {H H1 H2 : Hp} (a : Ex H H1) (b : Ex H1 H2) : Ex H H2 := fun x o h => b x o (a x o h)
theorem Ex.new {H : Hp} {p : Addr} {o : HO} (h : H p = none) : Ex H (upd H p o) := fun a u e => by
  rw [upd_ne (ne_of_none e h)]; exact e
theorem Ex.rd {H H' : Hp} {a : Addr} {u : HO} (e : Ex H H') (h : Rd H a u) : Rd H' a u := by
  rcases h with h | ⟨o, h⟩
  · exact Or.inl (e a _ h)
  · exact Or.inr ⟨o, e a _ h⟩
theorem Ex.sl {K : PySem.W.Frag} {H H' : Hp} {a : Addr} {xs : List V} (e : Ex H H') (h : SqL K H a xs) : SqL K H' a xs := by
  rcases h with h | h
  · exact Or.inl (e.rd h)
  · exact Or.inr h
theorem Ex.st {K : PySem.W.Frag} {H H' : Hp} {a : Addr} {xs : List V} (e : Ex H H') (h : SqT K H a xs) : SqT K H' a xs := by
  rcases h with h | h
  · exact Or.inl (e.rd h)
  · exact Or.inr h
theorem Ex.none {H H' : Hp} {p : Addr} (e : Ex H H') (h : H' p = Option.none) : H p = Option.none := by
  cases h1 : H p with
  | none => rfl
  | some o => rw [e p o h1] at h; cases h


/-! v stands for the data d in the world G -/
mutual
inductive Dq (G : Hp) : V → PyData → Prop
  | non : Dq G .non .none
  | bl (b : Bool) : Dq G (.bl b) (.bool b)
  | int (i : Int) : Dq G (.int i) (.int i)
  | str (x : Str) : Dq G (.str x) (.str x)
  | lst {a : Addr} {xs : List V} {ds : List PyData} : G a = some (.lst xs) → DqA G xs ds → Dq G (.ref a) (.list ds)
  | tup {a : Addr} {xs : List V} {ds : List PyData} : G a = some (.tup xs) → DqA G xs ds → Dq G (.ref a) (.tuple ds)
inductive DqA (G : Hp) : List V → List PyData → Prop
  | nil : DqA G [] []
  | cons {v : V} {vs : List V} {d : PyData} {ds : List PyData} : Dq G v d → DqA G vs ds → DqA G (v :: vs) (d :: ds)
end
mutual
theorem dq_mono {H H' : Hp} (e : Ex H H') : ∀ {v : V} {d : PyData}, Dq H v d → Dq H' v d
  | _, _, .non => .non
  | _, _, .bl b => .bl b
  | _, _, .int i => .int i
  | _, _, .str x => .str x
  | _, _, .lst h hs => .lst (e _ _ h) (dqs_mono e hs)
  | _, _, .tup h hs => .tup (e _ _ h) (dqs_mono e hs)
theorem dqs_mono {H H' : Hp} (e : Ex H H') : ∀ {vs : List V} {ds : List PyData}, DqA H vs ds → DqA H' vs ds
  | _, _, .nil => .nil
  | _, _, .cons h t => .cons (dq_mono e h) (dqs_mono e t)
end
mutual
theorem dq_dp {K : PySem.W.Frag} {H : Hp} : ∀ {v : V} {d : PyData}, Dq H v d → Dp K H v d
  | _, _, .non => .non
  | _, _, .bl b => .bl b
  | _, _, .int i => .int i
  | _, _, .str x => .str x
  | _, _, .lst h hs => .lst (.inl (.inl h)) (dqs_dp hs)
  | _, _, .tup h hs => .tup (.inl (.inl h)) (dqs_dp hs)
theorem dqs_dp {K : PySem.W.Frag} {H : Hp} : ∀ {vs : List V} {ds : List PyData}, DqA H vs ds → DpAll K H vs ds
  | _, _, .nil => .nil
  | _, _, .cons h t => .cons (dq_dp h) (dqs_dp t)
end
theorem DqA.len {H : Hp} : ∀ {vs : List V} {ds : List PyData}, DqA H vs ds → vs.length = ds.length
  | _, _, .nil => rfl
  | _, _, .cons _ t => by simp [DqA.len t]
theorem DqA.get {H : Hp} : ∀ {vs : List V} {ds : List PyData} {i : Nat} {v : V}, DqA H vs ds → vs[i]? = some v → ∃ d, ds[i]? = some d ∧ Dq H v d
  | _, _, _, _, .nil, e => by simp at e
  | _, _, 0, _, .cons h _, e => by simp at e; subst e; exact ⟨_, rfl, h⟩
  | _, _, i + 1, v, .cons _ t, e => by
    obtain ⟨d, h1, h2⟩ := DqA.get (i := i) (v := v) t (by simpa using e)
    exact ⟨d, by simpa using h1, h2⟩
theorem DqA.get' {H : Hp} : ∀ {vs : List V} {ds : List PyData} {i : Nat} {d : PyData}, DqA H vs ds → ds[i]? = some d → ∃ v, vs[i]? = some v ∧ Dq H v d
  | _, _, _, _, .nil, e => by simp at e
  | _, _, 0, _, .cons h _, e => by simp at e; subst e; exact ⟨_, rfl, h⟩
  | _, _, i + 1, d, .cons _ t, e => by
    obtain ⟨v, h1, h2⟩ := DqA.get' (i := i) (d := d) t (by simpa using e)
    exact ⟨v, by simpa using h1, h2⟩
theorem DqA.app {H : Hp} : ∀ {vs ws : List V} {ds es : List PyData}, DqA H vs ds → DqA H ws es → DqA H (vs ++ ws) (ds ++ es)
  | _, _, _, _, .nil, h => h
  | _, _, _, _, .cons a t, h => .cons a (DqA.app t h)
theorem DqA.take {H : Hp} : ∀ (n : Nat) {vs : List V} {ds : List PyData}, DqA H vs ds → DqA H (vs.take n) (ds.take n)
  | 0, _, _, _ => by simp; exact .nil
  | n + 1, _, _, .nil => .nil
  | n + 1, _, _, .cons a t => .cons a (DqA.take n t)
theorem DqA.drop {H : Hp} : ∀ (n : Nat) {vs : List V} {ds : List PyData}, DqA H vs ds → DqA H (vs.drop n) (ds.drop n)
  | 0, _, _, h => h
  | n + 1, _, _, .nil => .nil
  | n + 1, _, _, .cons _ t => DqA.drop n t
theorem DqA.set {H : Hp} {v : V} {d : PyData} (h : Dq H v d) : ∀ (n : Nat) {vs : List V} {ds : List PyData}, DqA H vs ds → DqA H (vs.set n v) (ds.set n d)
  | _, _, _, .nil => .nil
  | 0, _, _, .cons _ t => .cons h t
  | n + 1, _, _, .cons a t => .cons a (DqA.set h n t)
theorem DqA.eraseIdx {H : Hp} : ∀ (n : Nat) {vs : List V} {ds : List PyData}, DqA H vs ds → DqA H (vs.eraseIdx n) (ds.eraseIdx n)
  | _, _, _, .nil => .nil
  | 0, _, _, .cons _ t => t
  | n + 1, _, _, .cons a t => .cons a (DqA.eraseIdx n t)
theorem DqA.rev {H : Hp} : ∀ {vs : List V} {ds : List PyData}, DqA H vs ds → DqA H vs.reverse ds.reverse
  | _, _, .nil => .nil
  | _, _, .cons a t => by
    rw [List.reverse_cons, List.reverse_cons]
    exact DqA.app (DqA.rev t) (.cons a .nil)
theorem dqs_ints {H : Hp} : ∀ (l : List Int), DqA H (l.map V.int) (l.map PyData.int)
  | [] => .nil
  | x :: l => .cons (.int x) (dqs_ints l)
theorem of_dqs_ints {H : Hp} : ∀ {l : List Int} {vs : List V}, DqA H vs (l.map PyData.int) → vs = l.map V.int
  | [], _, .nil => rfl
  | _ :: l, _, .cons (.int _) t => by rw [of_dqs_ints (l := l) t]; rfl
theorem dqs_bools {H : Hp} : ∀ (l : List Bool), DqA H (l.map V.bl) (l.map PyData.bool)
  | [] => .nil
  | x :: l => .cons (.bl x) (dqs_bools l)
theorem of_dqs_bools {H : Hp} : ∀ {l : List Bool} {vs : List V}, DqA H vs (l.map PyData.bool) → vs = l.map V.bl
  | [], _, .nil => rfl
  | _ :: l, _, .cons (.bl _) t => by rw [of_dqs_bools (l := l) t]; rfl

/-! slots -/
inductive Sl where
  | un
  | dat (d : PyData)
  | mu (p : Addr) (xs : List PyData)
  | va (v : V)
  | kl (K : PySem.W.Frag) (ns : List Int)
def adr1 : Sl → List Addr
  | .mu p _ => [p]
  | _ => []
abbrev En := List Sl
def adr (ρ : En) : List Addr := ρ.flatMap adr1
def VOk (G H : Hp) (v : V) : Sl → Prop
  | .un => True
  | .dat d => Dq G v d
  | .mu p xs => v = .ref p ∧ G p = none ∧ ∃ vs, H p = some (.lst vs) ∧ DqA G vs xs
  | .va u => v = u
  | .kl K ns => ∃ a, v = .ref a ∧ SqL K G a (ns.map V.int)
def SOk (G H : Hp) (o : Option V) (s : Sl) : Prop := s = .un ∨ ∃ v, o = some v ∧ VOk G H v s
inductive StOk (G H : Hp) : List (Option V) → En → Prop
  | nil : StOk G H [] []
  | cons {o s σ ρ} : SOk G H o s → StOk G H σ ρ → StOk G H (o :: σ) (s :: ρ)

/-- from (G, H) to (G', H'): what stood outside M stands -/
structure Ext (M : List Addr) (G H G' H' : Hp) : Prop where
  gg : Ex G G'
  gh : Ex G' H'
  fr : ∀ p o, p ∉ M → H p = some o → H' p = some o
  th : ∀ p, H p ≠ none → H' p ≠ none
  nw : ∀ p, p ∉ M → G p = none → H p ≠ none → G' p = none
theorem Ext.refl {M : List Addr} {G H : Hp} (e : Ex G H) : Ext M G H G H := ⟨Ex.refl G, e, fun _ _ _ h => h, fun _ h => h, fun _ _ h _ => h⟩
theorem Ext.trans {M M1 : List Addr} {G H G1 H1 G2 H2 : Hp} (a : Ext M G H G1 H1) (b : Ext M1 G1 H1 G2 H2) (hm : ∀ q ∈ M1, q ∈ M ∨ H q = none) : Ext M G H G2 H2 where
  gg := a.gg.trans b.gg
  gh := b.gh
  fr := fun p o hp h => b.fr p o (fun hq => by
    rcases hm p hq with h1 | h1
    · exact hp h1
    · rw [h1] at h; cases h) (a.fr p o hp h)
  th := fun p h => b.th p (a.th p h)
  nw := fun p hp h1 h2 => b.nw p (fun hq => by
    rcases hm p hq with h | h
    · exact hp h
    · exact h2 h) (a.nw p hp h1 h2) (a.th p h2)
theorem Ext.tr {M : List Addr} {G H G1 H1 G2 H2 : Hp} (a : Ext M G H G1 H1) (b : Ext M G1 H1 G2 H2) : Ext M G H G2 H2 := a.trans b fun _ h => .inl h
theorem Ext.up {M : List Addr} {G H G1 H1 : Hp} (a : Ext [] G H G1 H1) : Ext M G H G1 H1 := ⟨a.gg, a.gh, fun p o _ h => a.fr p o (by simp) h, a.th, fun p _ => a.nw p (by simp)⟩
theorem Ext.hh {G H G1 H1 : Hp} (a : Ext [] G H G1 H1) : Ex H H1 := fun p o h => a.fr p o (by simp) h
/-- a new object that is known to the world -/
theorem Ext.new {M : List Addr} {G H : Hp} {p : Addr} {o : HO} (e : Ex G H) (h : H p = none) : Ext M G H (upd G p o) (upd H p o) where
  gg := Ex.new (e.none h)
  gh := fun a u q => by
    by_cases hb : a = p
    · subst hb; rw [upd_same] at q ⊢; exact q
    · rw [upd_ne hb] at q ⊢; exact e a u q
  fr := fun q u _ hq => Ex.new h q u hq
  th := fun q hq => by
    by_cases hb : q = p
    · subst hb; rw [upd_same]; simp
    · rw [upd_ne hb]; exact hq
  nw := fun q _ h1 h2 => by
    rw [upd_ne (fun z => by subst z; exact h2 h)]; exact h1
/-- a new object, owned -/
theorem Ext.own {M : List Addr} {G H : Hp} {p : Addr} {o : HO} (e : Ex G H) (h : H p = none) : Ext M G H G (upd H p o) where
  gg := Ex.refl G
  gh := e.trans (Ex.new h)
  fr := fun q u _ hq => Ex.new h q u hq
  th := fun q hq => by
    by_cases hb : q = p
    · subst hb; rw [upd_same]; simp
    · rw [upd_ne hb]; exact hq
  nw := fun q _ h1 _ => h1
/-- an owned object is changed -/
theorem Ext.set {M : List Addr} {G H : Hp} {p : Addr} {o : HO} (e : Ex G H) (hp : p ∈ M) (hg : G p = none) : Ext M G H G (upd H p o) where
  gg := Ex.refl G
  gh := fun a u q => by rw [upd_ne (ne_of_none q hg)]; exact e a u q
  fr := fun q u hq h => by
    rw [upd_ne (fun z => hq (by rw [z]; exact hp))]; exact h
  th := fun q hq => by
    by_cases hb : q = p
    · subst hb; rw [upd_same]; simp
    · rw [upd_ne hb]; exact hq
  nw := fun q _ h1 _ => h1

theorem VOk.mono {G H G' H' : Hp} {v : V} {s : Sl} (h : VOk G H v s) (e : Ext [] G H G' H') : VOk G' H' v s := by
  cases s with
  | un => trivial
  | dat d => exact dq_mono e.gg h
  | mu p xs =>
    obtain ⟨h1, h2, vs, h3, h4⟩ := h
    exact ⟨h1, e.nw p (by simp) h2 (by rw [h3]; simp), vs, e.hh p _ h3, dqs_mono e.gg h4⟩
  | va u => exact h
  | kl K ns => obtain ⟨a0, e1, e2⟩ := h; exact ⟨a0, e1, Ex.sl e.gg e2⟩
theorem SOk.mono {G H G' H' : Hp} {o : Option V} {s : Sl} (h : SOk G H o s) (e : Ext [] G H G' H') : SOk G' H' o s := by
  rcases h with h | ⟨v, h1, h2⟩
  · exact .inl h
  · exact .inr ⟨v, h1, h2.mono e⟩
theorem StOk.mono {G H G' H' : Hp} (e : Ext [] G H G' H') : ∀ {σ : List (Option V)} {ρ : En}, StOk G H σ ρ → StOk G' H' σ ρ
  | _, _, .nil => .nil
  | _, _, .cons h t => .cons (h.mono e) (StOk.mono e t)
theorem StOk.len {G H : Hp} : ∀ {σ : List (Option V)} {ρ : En}, StOk G H σ ρ → σ.length = ρ.length
  | _, _, .nil => rfl
  | _, _, .cons _ t => by simp [StOk.len t]
theorem StOk.get {G H : Hp} : ∀ {σ : List (Option V)} {ρ : En} {i : Nat} {s : Sl}, StOk G H σ ρ → ρ[i]? = some s → s ≠ .un → ∃ v, σ[i]? = some (some v) ∧ VOk G H v s
  | _, _, _, _, .nil, e, _ => by simp at e
  | _, _, 0, _, .cons h _, e, n => by
    simp at e; subst e
    rcases h with h | ⟨v, h1, h2⟩
    · exact absurd h n
    · exact ⟨v, by simp [h1], h2⟩
  | _, _, i + 1, s, .cons _ t, e, n => by
    obtain ⟨v, h1, h2⟩ := StOk.get (i := i) (s := s) t (by simpa using e) n
    exact ⟨v, by simpa using h1, h2⟩
theorem StOk.set {G H : Hp} {v : V} {s : Sl} (h : VOk G H v s) : ∀ (i : Nat) {σ : List (Option V)} {ρ : En}, StOk G H σ ρ → StOk G H (σ.set i (some v)) (ρ.set i s)
  | _, _, _, .nil => .nil
  | 0, _, _, .cons _ t => .cons (.inr ⟨v, rfl, h⟩) t
  | i + 1, _, _, .cons a t => .cons a (StOk.set h i t)
theorem StOk.un {G H : Hp} {o : Option V} : ∀ (i : Nat) {σ : List (Option V)} {ρ : En}, StOk G H σ ρ → StOk G H (σ.set i o) (ρ.set i .un)
  | _, _, _, .nil => .nil
  | 0, _, _, .cons _ t => .cons (.inl rfl) t
  | i + 1, _, _, .cons a t => .cons a (StOk.un i t)
theorem StOk.un' {G H : Hp} : ∀ (i : Nat) {σ : List (Option V)} {ρ : En}, StOk G H σ ρ → StOk G H σ (ρ.set i .un)
  | _, _, _, .nil => .nil
  | 0, _, _, .cons _ t => .cons (.inl rfl) t
  | i + 1, _, _, .cons a t => .cons a (StOk.un' i t)

/-! ### judgements. Rv: what an expression gives: data, or a new list that is one's own -/
inductive Rv where
  | d (d : PyData)
  | l (xs : List PyData)
  | va (v : V)
def ROk (G H0 G' H' : Hp) (v : V) : Rv → Prop
  | .d d => Dq G' v d
  | .l xs => ∃ p vs, v = .ref p ∧ H0 p = none ∧ G' p = none ∧ H' p = some (.lst vs) ∧ DqA G' vs xs
  | .va u => v = u
/-- what the write set is: nothing, or what the slots own -/
def ws : Bool → En → List Addr
  | false, _ => []
  | true, ρ => adr ρ
def Ev (b : Bool) (te : TE) (ρ : En) (r : Rv) (ρ' : En) : Prop :=
  ∀ (G H : Hp) (σ : L2.St), Ex G H → StOk G H σ ρ → (adr ρ).Nodup → ∀ Q : VK,
    (∀ v G' H', Ext (ws b ρ) G H G' H' → StOk G' H' σ ρ' → adr ρ' = adr ρ → ROk G H G' H' v r → Q v H') → te σ H Q
def EvT (b : Bool) (tt : TT) (ρ : En) (c : Bool) (ρ' : En) : Prop :=
  ∀ (G H : Hp) (σ : L2.St), Ex G H → StOk G H σ ρ → (adr ρ).Nodup → ∀ Q : Bool → Hp → Prop,
    (∀ G' H', Ext (ws b ρ) G H G' H' → StOk G' H' σ ρ' → adr ρ' = adr ρ → Q c H') → tt σ H Q
/-- arguments: data, or what a slot holds -/
inductive Ar where
  | d (d : PyData)
  | o (i : Nat)
  | va (v : V)
  | kl (K : PySem.W.Frag) (ns : List Int)
def AOk (G' : Hp) (σ : L2.St) (v : V) : Ar → Prop
  | .d d => Dq G' v d
  | .o i => σ[i]? = some (some v)
  | .va u => v = u
  | .kl K ns => ∃ a, v = .ref a ∧ SqL K G' a (ns.map V.int)
inductive AsOk (G' : Hp) (σ : L2.St) : List V → List Ar → Prop
  | nil : AsOk G' σ [] []
  | cons {v vs a as} : AOk G' σ v a → AsOk G' σ vs as → AsOk G' σ (v :: vs) (a :: as)
def EvA (b : Bool) (ta : TA) (ρ : En) (as : List Ar) (ρ' : En) : Prop :=
  ∀ (G H : Hp) (σ : L2.St), Ex G H → StOk G H σ ρ → (adr ρ).Nodup → ∀ Q : List V → Hp → Prop,
    (∀ vs G' H', Ext (ws b ρ) G H G' H' → StOk G' H' σ ρ' → adr ρ' = adr ρ → AsOk G' σ vs as → Q vs H') → ta σ H Q

section
variable {b : Bool} {ρ ρ1 ρ2 ρ3 : En} {ta tb te : TE} {t u : TT} {x y z : PyData}
theorem ws_of {M : List Addr} (e : adr ρ1 = adr ρ) : ws b ρ1 = ws b ρ := by
  cases b with
  | false => rfl
  | true => exact e
theorem Ext.then {G H G1 H1 G2 H2 : Hp} (a : Ext (ws b ρ) G H G1 H1) (c : Ext (ws b ρ1) G1 H1 G2 H2) (e : adr ρ1 = adr ρ) : Ext (ws b ρ) G H G2 H2 := by
  rw [ws_of (M := []) e] at c
  exact a.tr c
/-- what owns no object of M is kept -/
theorem dq_ext {M : List Addr} {G H G' H' : Hp} {v : V} {d : PyData} (e : Ext M G H G' H') (h : Dq G v d) : Dq G' v d := dq_mono e.gg h
theorem AOk.mono {G G' : Hp} {σ : L2.St} {v : V} {a : Ar} (h : AOk G σ v a) (e : Ex G G') : AOk G' σ v a := by
  cases a with
  | d d => exact dq_mono e h
  | o i => exact h
  | va u => exact h
  | kl K ns => obtain ⟨a0, e1, e2⟩ := h; exact ⟨a0, e1, Ex.sl e e2⟩
theorem AsOk.mono {G G' : Hp} {σ : L2.St} (e : Ex G G') : ∀ {vs : List V} {as : List Ar}, AsOk G σ vs as → AsOk G' σ vs as
  | _, _, .nil => .nil
  | _, _, .cons h t => .cons (h.mono e) (AsOk.mono e t)

theorem ev_var {i : Nat} {d : PyData} (h : ρ[i]? = some (.dat d)) : Ev b (tVar i) ρ (.d d) ρ := fun G H σ e st _ Q q => by
  obtain ⟨v, h1, h2⟩ := st.get h (by simp)
  exact ⟨v, h1, q v G H (Ext.refl e) st rfl h2⟩
theorem ev_varV {i : Nat} {v : V} (h : ρ[i]? = some (.va v)) : Ev b (tVar i) ρ (.va v) ρ := fun G H σ e st _ Q q => by
  obtain ⟨v, h1, h2⟩ := st.get h (by simp)
  exact ⟨v, h1, q v G H (Ext.refl e) st rfl h2⟩
theorem ev_int {n : Int} : Ev b (tC (.int n)) ρ (.d (.int n)) ρ := fun G H σ e st _ Q q => q _ G H (Ext.refl e) st rfl (.int n)
theorem ev_bl {n : Bool} : Ev b (tC (.bl n)) ρ (.d (.bool n)) ρ := fun G H σ e st _ Q q => q _ G H (Ext.refl e) st rfl (.bl n)
theorem ev_non : Ev b (tC .non) ρ (.d .none) ρ := fun G H σ e st _ Q q => q _ G H (Ext.refl e) st rfl .non
theorem ev_str {n : Str} : Ev b (tC (.str n)) ρ (.d (.str n)) ρ := fun G H σ e st _ Q q => q _ G H (Ext.refl e) st rfl (.str n)
theorem ev_c {v : V} : Ev b (tC v) ρ (.va v) ρ := fun G H σ e st _ Q q => q _ G H (Ext.refl e) st rfl rfl
theorem Ev.up {r : Rv} (h : Ev false te ρ r ρ1) : Ev b te ρ r ρ1 := by
  cases b with
  | false => exact h
  | true => exact fun G H σ e st nd Q q => h G H σ e st nd Q fun v G' H' x s' a r => q v G' H' x.up s' a r
theorem Ev.is {r r' : Rv} (h : Ev b te ρ r ρ1) (e : r = r') : Ev b te ρ r' ρ1 := by rw [← e]; exact h
theorem EvT.up {c : Bool} (h : EvT false t ρ c ρ1) : EvT b t ρ c ρ1 := by
  cases b with
  | false => exact h
  | true => exact fun G H σ e st nd Q q => h G H σ e st nd Q fun G' H' x s' a => q G' H' x.up s' a
theorem EvT.is {r r' : Bool} (h : EvT b t ρ r ρ1) (e : r = r') : EvT b t ρ r' ρ1 := by rw [← e]; exact h
end
end Kn

namespace Kn
open PySem L2

/-! ### facts of slots -/
theorem adr_cons (s : Sl) (ρ : En) : adr (s :: ρ) = adr1 s ++ adr ρ := by simp [adr]
theorem mem_adr {p : Addr} {xs : List PyData} : ∀ {ρ : En} {i : Nat}, ρ[i]? = some (.mu p xs) → p ∈ adr ρ
  | [], _, h => by simp at h
  | s :: ρ, 0, h => by simp at h; subst h; rw [adr_cons]; simp [adr1]
  | s :: ρ, i + 1, h => by
    rw [adr_cons]; exact List.mem_append_right _ (mem_adr (i := i) (by simpa using h))
theorem adr_set {p : Addr} : ∀ {ρ : En} {i : Nat} {s : Sl}, p ∈ adr (ρ.set i s) → p ∈ adr1 s ∨ p ∈ adr ρ
  | [], _, _, h => by simp [adr] at h
  | s :: ρ, 0, s', h => by
    rw [List.set_cons_zero, adr_cons] at h
    rcases List.mem_append.mp h with h | h
    · exact .inl h
    · right; rw [adr_cons]; exact List.mem_append_right _ h
  | s :: ρ, i + 1, s', h => by
    rw [List.set_cons_succ, adr_cons] at h
    rcases List.mem_append.mp h with h | h
    · right; rw [adr_cons]; exact List.mem_append_left _ h
    · rcases adr_set h with h | h
      · exact .inl h
      · right; rw [adr_cons]; exact List.mem_append_right _ h
theorem nd_set0 {s : Sl} (hs : adr1 s = []) : ∀ {ρ : En} {i : Nat}, (adr ρ).Nodup → (adr (ρ.set i s)).Nodup
  | [], _, h => h
  | s' :: ρ, 0, h => by
    rw [List.set_cons_zero, adr_cons, hs]; rw [adr_cons] at h
    exact (List.nodup_append.mp h).2.1
  | s' :: ρ, i + 1, h => by
    rw [List.set_cons_succ, adr_cons]; rw [adr_cons] at h
    obtain ⟨h1, h2, h3⟩ := List.nodup_append.mp h
    refine List.nodup_append.mpr ⟨h1, nd_set0 hs h2, fun a ha b hb => ?_⟩
    rcases adr_set hb with hb | hb
    · rw [hs] at hb; simp at hb
    · exact h3 a ha b hb
theorem nd_setN {p : Addr} {xs : List PyData} : ∀ {ρ : En} {i : Nat}, (adr ρ).Nodup → p ∉ adr ρ → (adr (ρ.set i (.mu p xs))).Nodup
  | [], _, h, _ => h
  | s' :: ρ, 0, h, hp => by
    rw [List.set_cons_zero, adr_cons]; rw [adr_cons] at h hp
    refine List.nodup_append.mpr ⟨by simp [adr1], (List.nodup_append.mp h).2.1, fun a ha b hb => ?_⟩
    have ha' : a = p := by simpa [adr1] using ha
    rintro rfl; subst ha'; exact hp (List.mem_append_right _ hb)
  | s' :: ρ, i + 1, h, hp => by
    rw [List.set_cons_succ, adr_cons]; rw [adr_cons] at h hp
    obtain ⟨h1, h2, h3⟩ := List.nodup_append.mp h
    refine List.nodup_append.mpr ⟨h1, nd_setN h2 (fun z => hp (List.mem_append_right _ z)), fun a ha b hb => ?_⟩
    rcases adr_set hb with hb | hb
    · have hb' : b = p := by simpa [adr1] using hb
      rintro rfl; subst hb'; exact hp (List.mem_append_left _ ha)
    · exact h3 a ha b hb
/-- the content of an own object is changed -/
theorem adr_upd {p : Addr} {xs ys : List PyData} : ∀ {ρ : En} {i : Nat}, ρ[i]? = some (.mu p xs) → adr (ρ.set i (.mu p ys)) = adr ρ
  | [], _, h => by simp at h
  | s :: ρ, 0, h => by simp at h; subst h; rfl
  | s :: ρ, i + 1, h => by
    rw [List.set_cons_succ, adr_cons, adr_cons, adr_upd (i := i) (by simpa using h)]
theorem StOk.own {G H : Hp} {p : Addr} : ∀ {σ : List (Option V)} {ρ : En}, StOk G H σ ρ → p ∈ adr ρ → G p = none ∧ ∃ vs, H p = some (.lst vs)
  | _, _, .nil, h => by simp [adr] at h
  | _, _, .cons (s := s) h t, hp => by
    rw [adr_cons] at hp
    rcases List.mem_append.mp hp with hp | hp
    · cases s with
      | mu q xs =>
        have : p = q := by simpa [adr1] using hp
        subst this
        rcases h with h | ⟨v, _, h1, h2, vs, h3, _⟩
        · cases h
        · exact ⟨h2, vs, h3⟩
      | un => simp [adr1] at hp
      | dat d => simp [adr1] at hp
      | va v => simp [adr1] at hp
      | kl K ns => simp [adr1] at hp
    · exact StOk.own t hp
/-- the object at p, owned by slot i alone, is changed -/
theorem StOk.chg {G H : Hp} {p : Addr} {xs ys : List PyData} {us : List V} (hd : DqA G us ys) : ∀ {σ : List (Option V)} {ρ : En} {i : Nat}, StOk G H σ ρ → (adr ρ).Nodup → ρ[i]? = some (.mu p xs) →
    StOk G (upd H p (.lst us)) σ (ρ.set i (.mu p ys)) := by
  have keep : ∀ {σ : List (Option V)} {ρ : En}, StOk G H σ ρ → p ∉ adr ρ → StOk G (upd H p (.lst us)) σ ρ := by
    intro σ ρ h
    induction h with
    | nil => intro _; exact .nil
    | @cons o s σ ρ h t ih =>
      intro hp
      rw [adr_cons] at hp
      refine .cons ?_ (ih fun z => hp (List.mem_append_right _ z))
      rcases h with h | ⟨v, h1, h2⟩
      · exact .inl h
      · refine .inr ⟨v, h1, ?_⟩
        cases s with
        | un => trivial
        | dat d => exact h2
        | va u => exact h2
        | kl K ns => exact h2
        | mu q zs =>
          obtain ⟨k1, k2, vs, k3, k4⟩ := h2
          refine ⟨k1, k2, vs, ?_, k4⟩
          rw [upd_ne (fun z => hp (List.mem_append_left _ (by simp [adr1, z])))]; exact k3
  intro σ ρ i h
  induction h generalizing i with
  | nil => intro _ hi; simp at hi
  | @cons o s σ ρ h t ih =>
    intro nd hi
    rw [adr_cons] at nd
    obtain ⟨n1, n2, n3⟩ := List.nodup_append.mp nd
    cases i with
    | zero =>
      simp at hi; subst hi
      rcases h with h | ⟨v, h1, h2, h3, vs, h4, h5⟩
      · cases h
      · exact .cons (.inr ⟨v, h1, h2, h3, us, upd_same, hd⟩) (keep t fun z => n3 p (by simp [adr1]) p z rfl)
    | succ i =>
      have hi' : ρ[i]? = some (.mu p xs) := by simpa using hi
      refine .cons ?_ (ih n2 hi')
      rcases h with h | ⟨v, h1, h2⟩
      · exact .inl h
      · refine .inr ⟨v, h1, ?_⟩
        cases s with
        | un => trivial
        | dat d => exact h2
        | va u => exact h2
        | kl K ns => exact h2
        | mu q zs =>
          obtain ⟨k1, k2, vs, k3, k4⟩ := h2
          refine ⟨k1, k2, vs, ?_, k4⟩
          rw [upd_ne (fun z => n3 q (by simp [adr1]) p (mem_adr hi') z)]; exact k3
/-- an own object becomes a part of the world -/
theorem StOk.fz {G H : Hp} {p : Addr} {o : HO} (hg : G p = none) : ∀ {σ : List (Option V)} {ρ : En}, StOk G H σ ρ → p ∉ adr ρ → StOk (upd G p o) H σ ρ
  | _, _, .nil, _ => .nil
  | _, _, .cons (s := s) h t, hp => by
    rw [adr_cons] at hp
    refine .cons ?_ (StOk.fz hg t fun z => hp (List.mem_append_right _ z))
    rcases h with h | ⟨v, h1, h2⟩
    · exact .inl h
    · refine .inr ⟨v, h1, ?_⟩
      cases s with
      | un => trivial
      | dat d => exact dq_mono (Ex.new hg) h2
      | va u => exact h2
      | kl K ns => obtain ⟨a0, e1, e2⟩ := h2; exact ⟨a0, e1, Ex.sl (Ex.new hg) e2⟩
      | mu q zs =>
        obtain ⟨k1, k2, vs, k3, k4⟩ := h2
        refine ⟨k1, ?_, vs, k3, dqs_mono (Ex.new hg) k4⟩
        rw [upd_ne (fun z => hp (List.mem_append_left _ (by simp [adr1, z])))]; exact k2
theorem StOk.muget {G H : Hp} {σ : List (Option V)} {ρ : En} {i : Nat} {p : Addr} {xs : List PyData} (h : StOk G H σ ρ) (hi : ρ[i]? = some (.mu p xs)) :
    σ[i]? = some (some (.ref p)) ∧ G p = none ∧ ∃ vs, H p = some (.lst vs) ∧ DqA G vs xs := by
  obtain ⟨v, h1, h2, h3, vs, h4, h5⟩ := h.get hi (by simp)
  subst h2
  exact ⟨h1, h3, vs, h4, h5⟩

theorem ROk.back {M : List Addr} {G0 H0 G H G' H' : Hp} {v : V} {r : Rv} (h : ROk G H G' H' v r) (e : Ext M G0 H0 G H) : ROk G0 H0 G' H' v r := by
  cases r with
  | d d => exact h
  | va u => exact h
  | l xs =>
    obtain ⟨p, vs, h1, h2, h3⟩ := h
    refine ⟨p, vs, h1, ?_, h3⟩
    cases q : H0 p with
    | none => rfl
    | some o => exact absurd h2 (e.th p (by rw [q]; simp))

section
variable {b : Bool} {ρ ρ1 ρ2 ρ3 : En} {ta tb tc te : TE} {t u : TT} {x y z : PyData} {r : Rv}

/-- an own new list becomes data -/
theorem ev_fz {xs : List PyData} (h : Ev b te ρ (.l xs) ρ1) : Ev b te ρ (.d (.list xs)) ρ1 := fun G H σ e st nd Q q =>
  h G H σ e st nd Q fun v G' H' x s' a ⟨p, vs, hv, h0, hg, hh, hd⟩ => by
    have hm : p ∉ adr ρ := fun hm => by
      obtain ⟨_, us, hu⟩ := st.own hm
      rw [h0] at hu; cases hu
    have x2 : Ext (ws b ρ) G H (upd G' p (.lst vs)) H' := ⟨x.gg.trans (Ex.new hg), fun c o hc => by
        by_cases hb : c = p
        · subst hb; rw [upd_same] at hc; rw [← hc]; exact hh
        · rw [upd_ne hb] at hc; exact x.gh c o hc, x.fr, x.th, fun c h1 h2 h3 => by
        rw [upd_ne (fun z => by subst z; exact h3 h0)]; exact x.nw c h1 h2 h3⟩
    refine q v _ H' x2 (s'.fz hg (by rw [a]; exact hm)) a ?_
    rw [hv]
    exact Dq.lst upd_same (dqs_mono (Ex.new hg) hd)

/-! ### operators -/
def Op2 (r : R2) (x y : PyData) (z : Rv) : Prop := ∀ (G H : Hp) (v w : V), Ex G H → Dq G v x → Dq G w y → ∀ Q : VK, (∀ u G' H', Ext [] G H G' H' → ROk G H G' H' u z → Q u H') → r v w H Q
theorem ev_op {r : R2} {z : Rv} (ha : Ev b ta ρ (.d x) ρ1) (hb : Ev b tb ρ1 (.d y) ρ2) (hr : Op2 r x y z) : Ev b (tOp r ta tb) ρ z ρ2 := fun G H σ e st nd Q q =>
  ha G H σ e st nd _ fun v G1 H1 x1 s1 a1 r1 => hb G1 H1 σ x1.gh s1 (by rw [a1]; exact nd) _ fun w G2 H2 x2 s2 a2 r2 =>
    hr G2 H2 v w x2.gh (dq_mono x2.gg r1) r2 Q fun u G3 H3 x3 r3 => by
      have y2 := x1.then x2 a1
      exact q u G3 H3 (y2.tr x3.up) (s2.mono x3) (a2.trans a1) (r3.back y2)
def Op1 (r : V → Hp → VK → Prop) (x : PyData) (z : Rv) : Prop := ∀ (G H : Hp) (v : V), Ex G H → Dq G v x → ∀ Q : VK, (∀ u G' H', Ext [] G H G' H' → ROk G H G' H' u z → Q u H') → r v H Q
theorem ev_un {r : V → Hp → VK → Prop} {z : Rv} (ha : Ev b ta ρ (.d x) ρ1) (hr : Op1 r x z) : Ev b (tUn r ta) ρ z ρ1 := fun G H σ e st nd Q q =>
  ha G H σ e st nd _ fun v G1 H1 x1 s1 a1 r1 => hr G1 H1 v x1.gh r1 Q fun u G3 H3 x3 r3 => q u G3 H3 (x1.tr x3.up) (s1.mono x3) a1 (r3.back x1)
theorem o2_val {r : R2} {z : PyData} (h : ∀ (G H : Hp) (v w : V), Ex G H → Dq G v x → Dq G w y → ∀ Q : VK, (∀ u, Dq G u z → Q u H) → r v w H Q) : Op2 r x y (.d z) := fun G H v w e hv hw Q q =>
  h G H v w e hv hw Q fun u hu => q u G H (Ext.refl e) hu
/-- ints -/
theorem o2_I {f : Int → Int → Int} {i j : Int} : Op2 (rI0 fun i j => .int (f i j)) (.int i) (.int j) (.d (.int (f i j))) := o2_val fun G H v w e hv hw Q q => by
  cases hv; cases hw; exact ⟨i, j, rfl, rfl, q _ (.int _)⟩
theorem o2_B {f : Int → Int → Bool} {i j : Int} : Op2 (rI0 fun i j => .bl (f i j)) (.int i) (.int j) (.d (.bool (f i j))) := o2_val fun G H v w e hv hw Q q => by
  cases hv; cases hw; exact ⟨i, j, rfl, rfl, q _ (.bl _)⟩
theorem o2_C {C : Int → Int → Prop} {f : Int → Int → Int} {i j : Int} (hc : C i j) : Op2 (rI C fun i j => .int (f i j)) (.int i) (.int j) (.d (.int (f i j))) := o2_val fun G H v w e hv hw Q q => by
  cases hv; cases hw; exact ⟨i, j, rfl, rfl, hc, q _ (.int _)⟩
theorem o1_neg {i : Int} : Op1 (rU fun i => .int (-i)) (.int i) (.d (.int (-i))) := fun G H v e hv Q q => by
  cases hv; exact ⟨i, rfl, q _ G H (Ext.refl e) (.int _)⟩
/-- == of scalars -/
theorem o2_eqI {i j : Int} : Op2 rEq (.int i) (.int j) (.d (.bool (decide (i = j)))) := o2_val fun G H v w e hv hw Q q => by
  cases hv; cases hw
  have : decide (V.int i = V.int j) = decide (i = j) := by simp
  exact ⟨rfl, by rw [this]; exact q _ (.bl _)⟩
theorem o2_neI {i j : Int} : Op2 rNe (.int i) (.int j) (.d (.bool (!decide (i = j)))) := o2_val fun G H v w e hv hw Q q => by
  cases hv; cases hw
  have : decide (V.int i = V.int j) = decide (i = j) := by simp
  exact ⟨rfl, by rw [this]; exact q _ (.bl _)⟩
theorem o2_eqB {i j : Bool} : Op2 rEq (.bool i) (.bool j) (.d (.bool (decide (i = j)))) := o2_val fun G H v w e hv hw Q q => by
  cases hv; cases hw
  have : decide (V.bl i = V.bl j) = decide (i = j) := by simp
  exact ⟨rfl, by rw [this]; exact q _ (.bl _)⟩
theorem o2_neB {i j : Bool} : Op2 rNe (.bool i) (.bool j) (.d (.bool (!decide (i = j)))) := o2_val fun G H v w e hv hw Q q => by
  cases hv; cases hw
  have : decide (V.bl i = V.bl j) = decide (i = j) := by simp
  exact ⟨rfl, by rw [this]; exact q _ (.bl _)⟩
theorem o2_eqS {i j : Str} : Op2 rEq (.str i) (.str j) (.d (.bool (decide (i = j)))) := o2_val fun G H v w e hv hw Q q => by
  cases hv; cases hw
  have : decide (V.str i = V.str j) = decide (i = j) := by simp
  exact ⟨rfl, by rw [this]; exact q _ (.bl _)⟩
theorem o2_neS {i j : Str} : Op2 rNe (.str i) (.str j) (.d (.bool (!decide (i = j)))) := o2_val fun G H v w e hv hw Q q => by
  cases hv; cases hw
  have : decide (V.str i = V.str j) = decide (i = j) := by simp
  exact ⟨rfl, by rw [this]; exact q _ (.bl _)⟩
/-- == at any depth -/
theorem o2_eqD {K : PySem.W.Frag} (hx : SeqAt.shaped x = true) (hy : SeqAt.shaped y = true) : Op2 (rEqD K) x y (.d (.bool (PyData.eqv x y))) := o2_val fun G H v w e hv hw Q q =>
  ⟨x, y, dq_dp (dq_mono e hv), dq_dp (dq_mono e hw), hx, hy, q _ (.bl _)⟩
theorem o2_neD {K : PySem.W.Frag} (hx : SeqAt.shaped x = true) (hy : SeqAt.shaped y = true) : Op2 (rNeD K) x y (.d (.bool (!PyData.eqv x y))) := o2_val fun G H v w e hv hw Q q =>
  ⟨x, y, dq_dp (dq_mono e hv), dq_dp (dq_mono e hw), hx, hy, q _ (.bl _)⟩
/-- is None -/
def isN : PyData → Bool
  | .none => true
  | _ => false
theorem dec_non {G : Hp} {v : V} {x : PyData} (h : Dq G v x) : decide (v = V.non) = isN x := by cases h <;> simp [isN]
def rIsNn : R2 := fun x y H Q => y = .non ∧ Q (.bl (decide (x = .non))) H
def rNoNn : R2 := fun x y H Q => y = .non ∧ Q (.bl (!decide (x = .non))) H
theorem o2_isN : Op2 rIsNn x .none (.d (.bool (isN x))) := o2_val fun G H v w e hv hw Q q => by
  cases hw; exact ⟨rfl, by rw [dec_non hv]; exact q _ (.bl _)⟩
theorem o2_noN : Op2 rNoNn x .none (.d (.bool (!isN x))) := o2_val fun G H v w e hv hw Q q => by
  cases hw; exact ⟨rfl, by rw [dec_non hv]; exact q _ (.bl _)⟩
/-- x in xs -/
theorem ints_flat : ∀ l : List Int, (l.map V.int).all flatV = true
  | [] => rfl
  | x :: l => by rw [List.map_cons, List.all_cons, ints_flat l]; rfl
theorem inV_ints (x : Int) : ∀ l : List Int, inV (V.int x) (l.map V.int) = decide (x ∈ l)
  | [] => rfl
  | y :: l => by
    have ih := inV_ints x l
    unfold inV at ih ⊢
    rw [List.map_cons, List.any_cons, ih]
    show (eqV (V.int y) (V.int x) || _) = _
    have : eqV (V.int y) (V.int x) = decide (x = y) := by
      show (y == x) = _
      by_cases h : x = y
      · subst h; simp
      · have h' : ¬ y = x := fun z => h z.symm
        simp [h, h']
    rw [this]; simp
theorem o2_inT {K : PySem.W.Frag} {l : List Int} {i : Int} : Op2 (rIn K false) (.int i) (.tuple (l.map .int)) (.d (.bool (decide (i ∈ l)))) := o2_val fun G H v w e hv hw Q q => by
  cases hv; cases hw with
  | tup ha hs =>
    rw [of_dqs_ints hs] at ha
    exact ⟨_, _, rfl, .inr (.inl (.inl (e _ _ ha))), rfl, ints_flat l, by rw [inV_ints]; exact q _ (.bl _)⟩
theorem o2_inL {K : PySem.W.Frag} {l : List Int} {i : Int} : Op2 (rIn K false) (.int i) (.list (l.map .int)) (.d (.bool (decide (i ∈ l)))) := o2_val fun G H v w e hv hw Q q => by
  cases hv; cases hw with
  | lst ha hs =>
    rw [of_dqs_ints hs] at ha
    exact ⟨_, _, rfl, .inl (.inl (.inl (e _ _ ha))), rfl, ints_flat l, by rw [inV_ints]; exact q _ (.bl _)⟩
theorem o2_niT {K : PySem.W.Frag} {l : List Int} {i : Int} : Op2 (rIn K true) (.int i) (.tuple (l.map .int)) (.d (.bool (!decide (i ∈ l)))) := o2_val fun G H v w e hv hw Q q => by
  cases hv; cases hw with
  | tup ha hs =>
    rw [of_dqs_ints hs] at ha
    exact ⟨_, _, rfl, .inr (.inl (.inl (e _ _ ha))), rfl, ints_flat l, by
      show Q (.bl (!inV (V.int i) (l.map V.int))) H
      rw [inV_ints]; exact q _ (.bl _)⟩
theorem o2_niL {K : PySem.W.Frag} {l : List Int} {i : Int} : Op2 (rIn K true) (.int i) (.list (l.map .int)) (.d (.bool (!decide (i ∈ l)))) := o2_val fun G H v w e hv hw Q q => by
  cases hv; cases hw with
  | lst ha hs =>
    rw [of_dqs_ints hs] at ha
    exact ⟨_, _, rfl, .inl (.inl (.inl (e _ _ ha))), rfl, ints_flat l, by
      show Q (.bl (!inV (V.int i) (l.map V.int))) H
      rw [inV_ints]; exact q _ (.bl _)⟩
/-- sequences -/
theorem o2_cat {xs ys : List PyData} (hz : xs.length + ys.length ≤ sizeLine) : Op2 rCat (.list xs) (.list ys) (.l (xs ++ ys)) := fun G H v w e hv hw Q q => by
  cases hv with
  | lst h1 k1 => cases hw with
    | lst h2 k2 =>
      refine ⟨_, _, _, _, rfl, rfl, e _ _ h1, e _ _ h2, by rw [k1.len, k2.len]; exact hz, fun p hp => ?_⟩
      exact q _ G _ (Ext.own e hp) ⟨p, _, rfl, hp, e.none hp, upd_same, k1.app k2⟩
theorem o2_rep {xs : List PyData} {k : Int} (hk : k < 2 ^ 62 ∧ -(2 ^ 62) ≤ k) (hz : xs.length * k.toNat ≤ sizeLine) : Op2 rRep (.list xs) (.int k) (.l (List.replicate k.toNat xs).flatten) := fun G H v w e hv hw Q q => by
  cases hw; cases hv with
  | lst h1 k1 =>
    refine ⟨_, _, _, rfl, rfl, e _ _ h1, by omega, by omega, by rw [k1.len]; exact hz, fun p hp => ?_⟩
    refine q _ G _ (Ext.own e hp) ⟨p, _, rfl, hp, e.none hp, upd_same, ?_⟩
    generalize k.toNat = n
    induction n with
    | zero => exact .nil
    | succ n ih => rw [List.replicate_succ, List.replicate_succ, List.flatten_cons, List.flatten_cons]; exact k1.app ih

theorem o2_catT {K : PySem.W.Frag} {xs ys : List PyData} (hz : xs.length + ys.length ≤ sizeLine) : Op2 (rCatA K) (.tuple xs) (.tuple ys) (.d (.tuple (xs ++ ys))) := fun G H v w e hv hw Q q => by
  cases hv with
  | @tup a vs _ h1 k1 => cases hw with
    | @tup c us _ h2 k2 =>
      refine ⟨_, _, _, _, rfl, rfl, .inl (.inl (e _ _ h1)), .inl (.inl (e _ _ h2)), by rw [k1.len, k2.len]; exact hz, fun z => ?_, fun _ z => ?_, fun _ _ p hp => ?_⟩
      · subst z; cases k1
        exact q _ G H (Ext.refl e) (.tup h2 k2)
      · subst z; cases k2
        refine q _ G H (Ext.refl e) ?_
        rw [List.append_nil]
        exact .tup h1 k1
      · refine q _ _ _ (Ext.new e hp) (.tup upd_same (dqs_mono (Ex.new (e.none hp)) (k1.app k2)))
end
end Kn

namespace Kn
open PySem L2

section
variable {b : Bool} {ρ ρ1 ρ2 ρ3 : En} {ta tb tc te : TE} {t u : TT} {x y z : PyData} {r : Rv}

/-! ### tests -/
theorem et_B {c : Bool} (h : Ev b te ρ (.d (.bool c)) ρ1) : EvT b (tB te) ρ c ρ1 := fun G H σ e st nd Q q =>
  h G H σ e st nd _ fun v G' H' x s a r => by cases r; exact ⟨c, rfl, q G' H' x s a⟩
theorem et_t {c : Bool} (h : Ev b te ρ (.d (.bool c)) ρ1) : EvT b (tTest te) ρ c ρ1 := fun G H σ e st nd Q q =>
  h G H σ e st nd _ fun v G' H' x s a r => by cases r; exact ⟨c, rfl, q G' H' x s a⟩
theorem et_not {c : Bool} (h : EvT b t ρ c ρ1) : EvT b (tNot t) ρ (!c) ρ1 := fun G H σ e st nd Q q =>
  h G H σ e st nd _ fun G' H' x s a => q G' H' x s a
theorem et_and {c d : Bool} (h : EvT b t ρ c ρ) (h2 : c = true → EvT b u ρ d ρ) : EvT b (tAnd t u) ρ (c && d) ρ := fun G H σ e st nd Q q =>
  h G H σ e st nd _ fun G' H' x s a => by
    cases c with
    | true => exact h2 rfl G' H' σ x.gh s nd Q fun G2 H2 x2 s2 a2 => q G2 H2 (x.tr x2) s2 a2
    | false => exact q G' H' x s a
theorem et_or {c d : Bool} (h : EvT b t ρ c ρ) (h2 : c = false → EvT b u ρ d ρ) : EvT b (tOr t u) ρ (c || d) ρ := fun G H σ e st nd Q q =>
  h G H σ e st nd _ fun G' H' x s a => by
    cases c with
    | false => exact h2 rfl G' H' σ x.gh s nd Q fun G2 H2 x2 s2 a2 => q G2 H2 (x.tr x2) s2 a2
    | true => exact q G' H' x s a
/-- with the first one's answer known -/
theorem et_andT {d : Bool} (h : EvT b t ρ true ρ1) (h2 : EvT b u ρ1 d ρ2) : EvT b (tAnd t u) ρ d ρ2 := fun G H σ e st nd Q q =>
  h G H σ e st nd _ fun G' H' x s a => h2 G' H' σ x.gh s (by rw [a]; exact nd) Q fun G2 H2 x2 s2 a2 => q G2 H2 (x.then x2 a) s2 (a2.trans a)
theorem et_andF (h : EvT b t ρ false ρ1) : EvT b (tAnd t u) ρ false ρ1 := fun G H σ e st nd Q q => h G H σ e st nd _ fun G' H' x s a => q G' H' x s a
theorem et_orF {d : Bool} (h : EvT b t ρ false ρ1) (h2 : EvT b u ρ1 d ρ2) : EvT b (tOr t u) ρ d ρ2 := fun G H σ e st nd Q q =>
  h G H σ e st nd _ fun G' H' x s a => h2 G' H' σ x.gh s (by rw [a]; exact nd) Q fun G2 H2 x2 s2 a2 => q G2 H2 (x.then x2 a) s2 (a2.trans a)
theorem et_orT (h : EvT b t ρ true ρ1) : EvT b (tOr t u) ρ true ρ1 := fun G H σ e st nd Q q => h G H σ e st nd _ fun G' H' x s a => q G' H' x s a
/-- bools as values -/
theorem ev_and {c d : Bool} (h : Ev b ta ρ (.d (.bool c)) ρ) (h2 : c = true → Ev b tb ρ (.d (.bool d)) ρ) : Ev b (tAndV ta tb) ρ (.d (.bool (c && d))) ρ := fun G H σ e st nd Q q =>
  h G H σ e st nd _ fun v G' H' x s a r => by
    cases r
    refine ⟨c, rfl, ?_⟩
    cases c with
    | true => exact h2 rfl G' H' σ x.gh s nd Q fun v2 G2 H2 x2 s2 a2 r2 => q v2 G2 H2 (x.tr x2) s2 a2 r2
    | false => exact q _ G' H' x s a (.bl _)
theorem ev_or {c d : Bool} (h : Ev b ta ρ (.d (.bool c)) ρ) (h2 : c = false → Ev b tb ρ (.d (.bool d)) ρ) : Ev b (tOrV ta tb) ρ (.d (.bool (c || d))) ρ := fun G H σ e st nd Q q =>
  h G H σ e st nd _ fun v G' H' x s a r => by
    cases r
    refine ⟨c, rfl, ?_⟩
    cases c with
    | false => exact h2 rfl G' H' σ x.gh s nd Q fun v2 G2 H2 x2 s2 a2 r2 => q v2 G2 H2 (x.tr x2) s2 a2 r2
    | true => exact q _ G' H' x s a (.bl _)
theorem ev_not {c : Bool} (h : Ev b ta ρ (.d (.bool c)) ρ1) : Ev b (tNotV ta) ρ (.d (.bool (!c))) ρ1 := fun G H σ e st nd Q q =>
  h G H σ e st nd _ fun v G' H' x s a r => by cases r; exact ⟨c, rfl, q _ G' H' x s a (.bl _)⟩
/-- a if c else b -/
theorem ev_if {c : Bool} (h : EvT b t ρ c ρ1) (h1 : c = true → Ev b ta ρ1 r ρ2) (h2 : c = false → Ev b tb ρ1 r ρ2) : Ev b (tIf t ta tb) ρ r ρ2 := fun G H σ e st nd Q q =>
  h G H σ e st nd _ fun G' H' x s a => by
    have nd' : (adr ρ1).Nodup := by rw [a]; exact nd
    cases c with
    | true => exact h1 rfl G' H' σ x.gh s nd' Q fun v2 G2 H2 x2 s2 a2 r2 => q v2 G2 H2 (x.then x2 a) s2 (a2.trans a) (r2.back x)
    | false => exact h2 rfl G' H' σ x.gh s nd' Q fun v2 G2 H2 x2 s2 a2 r2 => q v2 G2 H2 (x.then x2 a) s2 (a2.trans a) (r2.back x)
/-- both ways the same kind of data -/
theorem ev_ifD {α : Type} {enc : α → PyData} {c : Bool} {p q : α} (h : EvT b t ρ c ρ1) (h1 : c = true → Ev b ta ρ1 (.d (enc p)) ρ2) (h2 : c = false → Ev b tb ρ1 (.d (enc q)) ρ2) : Ev b (tIf t ta tb) ρ (.d (enc (if c = true then p else q))) ρ2 :=
  ev_if h (fun e => by rw [if_pos e]; exact h1 e) (fun e => by rw [if_neg (by rw [e]; decide)]; exact h2 e)
/-- lo <= x <= hi -/
theorem ev_chain {f g : R2} {c d : Bool} (ha : Ev b ta ρ (.d x) ρ1) (hb : Ev b tb ρ1 (.d y) ρ2) (h1 : Op2 f x y (.d (.bool c))) (hc : Ev b tc ρ2 (.d z) ρ2) (h2 : Op2 g y z (.d (.bool d))) : Ev b (tChain f g ta tb tc) ρ (.d (.bool (c && d))) ρ2 := by
  intro G H σ e st nd Q q
  refine ha G H σ e st nd _ fun v G1 H1 x1 s1 a1 k1 => ?_
  refine hb G1 H1 σ x1.gh s1 (by rw [a1]; exact nd) _ fun w G2 H2 x2 s2 a2 k2 => ?_
  refine h1 G2 H2 v w x2.gh (dq_mono x2.gg k1) k2 _ fun uu G3 H3 x3 k3 => ?_
  have y2 := (x1.then x2 a1).tr x3.up
  have ad : adr ρ2 = adr ρ := a2.trans a1
  cases k3
  refine ⟨c, rfl, ?_⟩
  cases c with
  | true =>
    refine hc G3 H3 σ x3.gh (s2.mono x3) (by rw [ad]; exact nd) _ fun w2 G4 H4 x4 s4 a4 k4 => ?_
    refine h2 G4 H4 w w2 x4.gh (dq_mono x4.gg (dq_mono x3.gg k2)) k4 Q fun u5 G5 H5 x5 k5 => ?_
    have y4 := y2.then x4 ad
    exact q u5 G5 H5 (y4.tr x5.up) (s4.mono x5) ad (k5.back y4)
  | false => exact q _ G3 H3 y2 (s2.mono x3) ad (.bl _)

/-! ### arguments, displays -/
theorem ea_nil : EvA b tNil ρ [] ρ := fun G H σ e st nd Q q => q [] G H (Ext.refl e) st rfl .nil
theorem ea_d {tr : TA} {as : List Ar} (h : Ev b ta ρ (.d x) ρ1) (hr : EvA b tr ρ1 as ρ2) : EvA b (tCons ta tr) ρ (.d x :: as) ρ2 := fun G H σ e st nd Q q =>
  h G H σ e st nd _ fun v G1 H1 x1 s1 a1 k1 => hr G1 H1 σ x1.gh s1 (by rw [a1]; exact nd) _ fun vs G2 H2 x2 s2 a2 k2 =>
    q _ G2 H2 (x1.then x2 a1) s2 (a2.trans a1) (.cons (show AOk G2 σ v (.d x) from dq_mono x2.gg k1) k2)
theorem ea_v {tr : TA} {as : List Ar} {v0 : V} (h : Ev b ta ρ (.va v0) ρ1) (hr : EvA b tr ρ1 as ρ2) : EvA b (tCons ta tr) ρ (.va v0 :: as) ρ2 := fun G H σ e st nd Q q =>
  h G H σ e st nd _ fun v G1 H1 x1 s1 a1 k1 => hr G1 H1 σ x1.gh s1 (by rw [a1]; exact nd) _ fun vs G2 H2 x2 s2 a2 k2 =>
    q _ G2 H2 (x1.then x2 a1) s2 (a2.trans a1) (.cons (show AOk G2 σ v (.va v0) from k1) k2)
theorem ea_o {tr : TA} {as : List Ar} {i : Nat} {p : Addr} {xs : List PyData} (h : ρ[i]? = some (.mu p xs)) (hr : EvA b tr ρ as ρ2) : EvA b (tCons (tVar i) tr) ρ (.o i :: as) ρ2 := fun G H σ e st nd Q q => by
  obtain ⟨k, _⟩ := st.muget h
  exact ⟨.ref p, k, hr G H σ e st nd _ fun vs G2 H2 x2 s2 a2 k2 => q _ G2 H2 x2 s2 a2 (.cons (show AOk G2 σ _ (.o i) from k) k2)⟩
/-- all arguments are data -/
theorem as_data {G : Hp} {σ : L2.St} : ∀ {vs : List V} {ds : List PyData}, AsOk G σ vs (ds.map Ar.d) → DqA G vs ds
  | _, [], .nil => .nil
  | _, d :: ds, .cons h t => .cons h (as_data t)
theorem ev_tup {ds : List PyData} {ta : TA} (h : EvA b ta ρ (ds.map Ar.d) ρ1) (hl : ds.length ≤ 1000) : Ev b (tTup ta) ρ (.d (.tuple ds)) ρ1 := fun G H σ e st nd Q q =>
  h G H σ e st nd _ fun vs G1 H1 x1 s1 a1 k1 => by
    have k2 := as_data k1
    refine ⟨by rw [k2.len, sizeLine_eq]; omega, fun p hp => ?_⟩
    have x2 : Ext [] G1 H1 (upd G1 p (.tup vs)) (upd H1 p (.tup vs)) := Ext.new x1.gh hp
    exact q _ _ _ (x1.tr x2.up) (s1.mono x2) a1 (.tup upd_same (dqs_mono x2.gg k2))
theorem ev_lst {ds : List PyData} {ta : TA} (h : EvA b ta ρ (ds.map Ar.d) ρ1) (hl : ds.length ≤ 1000) : Ev b (tLst ta) ρ (.l ds) ρ1 := fun G H σ e st nd Q q =>
  h G H σ e st nd _ fun vs G1 H1 x1 s1 a1 k1 => by
    have k2 := as_data k1
    refine ⟨by rw [k2.len, sizeLine_eq]; omega, fun p hp => ?_⟩
    have x2 : Ext [] G1 H1 G1 (upd H1 p (.lst vs)) := Ext.own x1.gh hp
    refine q _ _ _ (x1.tr x2.up) (s1.mono x2) a1 ⟨p, vs, rfl, ?_, x1.gh.none hp, upd_same, k2⟩
    cases z : H p with
    | none => rfl
    | some o => exact absurd hp (x1.th p (by rw [z]; simp))

/-! ### calls of built-ins -/
def RcD (r : List V → Hp → VK → Prop) (as : List Ar) (z : Rv) : Prop := ∀ (G H : Hp) (σ : L2.St) (vs : List V), Ex G H → AsOk G σ vs as → ∀ Q : VK, (∀ u G' H', Ext [] G H G' H' → ROk G H G' H' u z → Q u H') → r vs H Q
theorem ev_cb {r : List V → Hp → VK → Prop} {ta : TA} {as : List Ar} {z : Rv} (h : EvA b ta ρ as ρ1) (hr : RcD r as z) : Ev b (tCB r ta) ρ z ρ1 := fun G H σ e st nd Q q =>
  h G H σ e st nd _ fun vs G1 H1 x1 s1 a1 k1 => hr G1 H1 σ vs x1.gh k1 Q fun u G2 H2 x2 k2 => q u G2 H2 (x1.tr x2.up) (s1.mono x2) a1 (k2.back x1)
theorem rc_val {r : List V → Hp → VK → Prop} {as : List Ar} {z : PyData} (h : ∀ (G H : Hp) (σ : L2.St) (vs : List V), Ex G H → AsOk G σ vs as → ∀ Q : VK, (∀ u, Dq G u z → Q u H) → r vs H Q) : RcD r as (.d z) := fun G H σ vs e hv Q q =>
  h G H σ vs e hv Q fun u hu => q u G H (Ext.refl e) hu

/-! ### what a def promises: over data; over data behind one own list -/
def spD (R : List PyData → Rv → Prop) : Sp := fun vs H Q _ => ∃ G ds r, Ex G H ∧ DqA G vs ds ∧ R ds r ∧ ∀ v G' H', Ext [] G H G' H' → ROk G H G' H' v r → Q v H'
def spO (R : List PyData → List PyData → Rv → List PyData → Prop) : Sp := fun vs H Q _ => ∃ (G : Hp) (p : Addr) (us ws : List V) (xs ds : List PyData) (r : Rv) (ys : List PyData), Ex G H ∧ vs = .ref p :: ws ∧ H p = some (.lst us) ∧ G p = none ∧ DqA G us xs ∧ DqA G ws ds ∧
  R xs ds r ys ∧ ∀ v G' H' us', Ext [p] G H G' H' → H' p = some (.lst us') → G' p = none → DqA G' us' ys → ROk G H G' H' v r → Q v H'
theorem ev_call {R : List PyData → Rv → Prop} {E : XK} {ta : TA} {ds dds : List PyData} {dvs : List V} (hdv : ∀ G, DqA G dvs dds) (h : EvA b ta ρ (ds.map Ar.d) ρ1) (hr : R (ds ++ dds) r) : Ev b (tCall (spD R) dvs E ta) ρ r ρ1 := fun G H σ e st nd Q q =>
  h G H σ e st nd _ fun vs G1 H1 x1 s1 a1 k1 => ⟨G1, ds ++ dds, r, x1.gh, (as_data k1).app (hdv G1), hr, fun v G2 H2 x2 k2 => q v G2 H2 (x1.tr x2.up) (s1.mono x2) a1 (k2.back x1)⟩
theorem ev_call0 {R : List PyData → Rv → Prop} {E : XK} {ta : TA} {ds : List PyData} (h : EvA b ta ρ (ds.map Ar.d) ρ1) (hr : R ds r) : Ev b (tCall (spD R) [] E ta) ρ r ρ1 :=
  ev_call (dds := []) (fun _ => .nil) h (by rw [List.append_nil]; exact hr)
theorem ext_own {M : List Addr} {p : Addr} {G H G' H' : Hp} (x : Ext [p] G H G' H') (hp : p ∈ M) (hg : G' p = none) : Ext M G H G' H' := ⟨x.gg, x.gh, fun c o hc h => x.fr c o (fun z => hc (by rw [List.mem_singleton.mp z]; exact hp)) h, x.th, fun c hc h1 h2 => x.nw c (fun z => hc (by rw [List.mem_singleton.mp z]; exact hp)) h1 h2⟩
/-- behind a change of p alone -/
theorem StOk.ext1 {G H G' H' : Hp} {p : Addr} {us' : List V} {xs ys : List PyData} (x : Ext [p] G H G' H') (h' : H' p = some (.lst us')) (hg : G' p = none) (hd : DqA G' us' ys) : ∀ {σ : List (Option V)} {ρ : En} {i : Nat}, StOk G H σ ρ → (adr ρ).Nodup → ρ[i]? = some (.mu p xs) → StOk G' H' σ (ρ.set i (.mu p ys)) := by
  have keep : ∀ {σ : List (Option V)} {ρ : En}, StOk G H σ ρ → p ∉ adr ρ → StOk G' H' σ ρ := by
    intro σ ρ h
    induction h with
    | nil => intro _; exact .nil
    | @cons o s σ ρ h t ih =>
      intro hp
      rw [adr_cons] at hp
      refine .cons ?_ (ih fun z => hp (List.mem_append_right _ z))
      rcases h with h | ⟨v, h1, h2⟩
      · exact .inl h
      · refine .inr ⟨v, h1, ?_⟩
        cases s with
        | un => trivial
        | dat d => exact dq_mono x.gg h2
        | va u => exact h2
        | kl K ns => obtain ⟨a0, e1, e2⟩ := h2; exact ⟨a0, e1, Ex.sl x.gg e2⟩
        | mu q zs =>
          obtain ⟨k1, k2, vs, k3, k4⟩ := h2
          have hq : q ∉ [p] := fun z => hp (List.mem_append_left _ (by rw [← List.mem_singleton.mp z]; simp [adr1]))
          exact ⟨k1, x.nw q hq k2 (by rw [k3]; simp), vs, x.fr q _ hq k3, dqs_mono x.gg k4⟩
  intro σ ρ i h
  induction h generalizing i with
  | nil => intro _ hi; simp at hi
  | @cons o s σ ρ h t ih =>
    intro nd hi
    rw [adr_cons] at nd
    obtain ⟨n1, n2, n3⟩ := List.nodup_append.mp nd
    cases i with
    | zero =>
      simp at hi; subst hi
      rcases h with h | ⟨v, h1, h2, h3, vs, h4, h5⟩
      · cases h
      · exact .cons (.inr ⟨v, h1, h2, hg, us', h', hd⟩) (keep t fun z => n3 p (by simp [adr1]) p z rfl)
    | succ i =>
      have hi' : ρ[i]? = some (.mu p xs) := by simpa using hi
      refine .cons ?_ (ih n2 hi')
      rcases h with h | ⟨v, h1, h2⟩
      · exact .inl h
      · refine .inr ⟨v, h1, ?_⟩
        cases s with
        | un => trivial
        | dat d => exact dq_mono x.gg h2
        | va u => exact h2
        | kl K ns => obtain ⟨a0, e1, e2⟩ := h2; exact ⟨a0, e1, Ex.sl x.gg e2⟩
        | mu q zs =>
          obtain ⟨k1, k2, vs, k3, k4⟩ := h2
          have hq : q ∉ [p] := fun z => n3 q (by simp [adr1]) p (mem_adr hi') (List.mem_singleton.mp z)
          exact ⟨k1, x.nw q hq k2 (by rw [k3]; simp), vs, x.fr q _ hq k3, dqs_mono x.gg k4⟩
theorem ev_callO {R : List PyData → List PyData → Rv → List PyData → Prop} {E : XK} {ta : TA} {i : Nat} {p : Addr} {xs ys ds dds : List PyData} {dvs : List V} (hdv : ∀ G, DqA G dvs dds) (h : EvA true ta ρ (Ar.o i :: ds.map Ar.d) ρ1) (hi : ρ1[i]? = some (.mu p xs)) (hr : R xs (ds ++ dds) r ys) :
    Ev true (tCall (spO R) dvs E ta) ρ r (ρ1.set i (.mu p ys)) := fun G H σ e st nd Q q =>
  h G H σ e st nd _ fun vs G1 H1 x1 s1 a1 k1 => by
    cases k1 with
    | @cons v vs _ _ h1 h2 =>
      obtain ⟨m1, m2, us, m3, m4⟩ := s1.muget hi
      have e1 : v = .ref p := by
        have h1 : σ[i]? = some (some v) := h1
        rw [m1] at h1; exact (Option.some.inj (Option.some.inj h1)).symm
      subst e1
      have nd1 : (adr ρ1).Nodup := by rw [a1]; exact nd
      refine ⟨G1, p, us, vs ++ dvs, xs, ds ++ dds, r, ys, x1.gh, rfl, m3, m2, m4, (as_data h2).app (hdv G1), hr, fun v G2 H2 us' x2 k2 k3 k4 k5 => ?_⟩
      refine q v G2 H2 (x1.tr (ext_own x2 (by show p ∈ adr ρ; rw [← a1]; exact mem_adr hi) k3)) (s1.ext1 x2 k2 k3 k4 nd1 hi) ((adr_upd hi).trans a1) (k5.back x1)
theorem ev_callO0 {R : List PyData → List PyData → Rv → List PyData → Prop} {E : XK} {ta : TA} {i : Nat} {p : Addr} {xs ys ds : List PyData} (h : EvA true ta ρ (Ar.o i :: ds.map Ar.d) ρ1) (hi : ρ1[i]? = some (.mu p xs)) (hr : R xs ds r ys) :
    Ev true (tCall (spO R) [] E ta) ρ r (ρ1.set i (.mu p ys)) := ev_callO (dds := []) (fun _ => .nil) h hi (by rw [List.append_nil]; exact hr)
end
end Kn

namespace Kn
open PySem L2

/-! ### pointwise -/
theorem StOk.iff {G H : Hp} : ∀ {σ : List (Option V)} {ρ : En}, StOk G H σ ρ ↔ σ.length = ρ.length ∧ ∀ (i : Nat) (o : Option V) (s : Sl), σ[i]? = some o → ρ[i]? = some s → SOk G H o s := by
  intro σ
  induction σ with
  | nil =>
    intro ρ
    constructor
    · intro h; cases h; exact ⟨rfl, fun i o s h => by simp at h⟩
    · rintro ⟨h, _⟩
      cases ρ with
      | nil => exact .nil
      | cons a r => simp at h
  | cons a σ ih =>
    intro ρ
    constructor
    · intro h
      cases h with
      | cons h t =>
        obtain ⟨l, k⟩ := ih.mp t
        refine ⟨by simp [l], fun i o s h1 h2 => ?_⟩
        cases i with
        | zero => simp at h1 h2; subst h1; subst h2; exact h
        | succ i => exact k i o s (by simpa using h1) (by simpa using h2)
    · rintro ⟨l, k⟩
      cases ρ with
      | nil => simp at l
      | cons s ρ => exact .cons (k 0 a s (by simp) (by simp)) (ih.mpr ⟨by simpa using l, fun i o s' h1 h2 => k (i + 1) o s' (by simpa using h1) (by simpa using h2)⟩)
def wipeE (ρ : En) : List Nat → En
  | [] => ρ
  | v :: vs => (wipeE ρ vs).set v .un
theorem wipeE_len (ρ : En) : ∀ vs, (wipeE ρ vs).length = ρ.length
  | [] => rfl
  | v :: vs => by unfold wipeE; rw [List.length_set, wipeE_len ρ vs]
theorem StOk.wipe {G H : Hp} {σ : List (Option V)} {ρ : En} (h : StOk G H σ ρ) : ∀ vs, StOk G H (wipe σ vs) (wipeE ρ vs)
  | [] => h
  | v :: vs => by
    unfold L2.wipe wipeE
    exact (StOk.wipe h vs).un v
theorem nd_wipe {ρ : En} (h : (adr ρ).Nodup) : ∀ vs, (adr (wipeE ρ vs)).Nodup
  | [] => h
  | v :: vs => nd_set0 rfl (nd_wipe h vs)
theorem wipe_in {σ : L2.St} {i : Nat} : ∀ {vs : List Nat}, i ∈ vs → i < σ.length → (wipe σ vs)[i]? = some none
  | [], h, _ => by simp at h
  | v :: vs, h, hl => by
    unfold wipe
    by_cases e : v = i
    · subst e; rw [List.getElem?_set_self (by rw [wipe_length]; exact hl)]
    · rw [List.getElem?_set_ne e]
      exact wipe_in ((List.mem_cons.mp h).resolve_left fun z => e z.symm) hl
theorem wipe_ext {σ τ : L2.St} {vs : List Nat} (hl : τ.length = σ.length) (h : ∀ i, i ∉ vs → τ[i]? = (wipe σ vs)[i]?) : wipe τ vs = wipe σ vs := by
  apply List.ext_getElem?
  intro i
  by_cases hi : i ∈ vs
  · by_cases hb : i < σ.length
    · rw [wipe_in hi hb, wipe_in hi (by rw [hl]; exact hb)]
    · rw [List.getElem?_eq_none (by rw [wipe_length, hl]; omega), List.getElem?_eq_none (by rw [wipe_length]; omega)]
  · rw [wipe_out hi, h i hi]

/-! ### an own list that is read -/
mutual
def noL : PyData → Bool
  | .none => true
  | .bool _ => true
  | .int _ => true
  | .str _ => true
  | .tuple xs => noLs xs
  | .list _ => false
  | .dict _ => false
def noLs : List PyData → Bool
  | [] => true
  | x :: r => noL x && noLs r
end
theorem noLs_ints : ∀ l : List Int, noLs (l.map .int) = true
  | [] => rfl
  | _ :: l => by simp [noLs, noL, noLs_ints l]
theorem noLs_bools : ∀ l : List Bool, noLs (l.map .bool) = true
  | [] => rfl
  | _ :: l => by simp [noLs, noL, noLs_bools l]
mutual
theorem dq_noL {G G' : Hp} (h : ∀ a xs, G a = some (.tup xs) → G' a = some (.tup xs)) : ∀ {v : V} {d : PyData}, Dq G v d → noL d = true → Dq G' v d
  | _, _, .non, _ => .non
  | _, _, .bl b, _ => .bl b
  | _, _, .int i, _ => .int i
  | _, _, .str x, _ => .str x
  | _, _, .lst _ _, z => by simp [noL] at z
  | _, _, .tup h1 h2, z => .tup (h _ _ h1) (dqs_noL h h2 (by simpa [noL] using z))
theorem dqs_noL {G G' : Hp} (h : ∀ a xs, G a = some (.tup xs) → G' a = some (.tup xs)) : ∀ {vs : List V} {ds : List PyData}, DqA G vs ds → noLs ds = true → DqA G' vs ds
  | _, _, .nil, _ => .nil
  | _, _, .cons h1 h2, z => by
    rw [noLs, Bool.and_eq_true] at z
    have z' := z
    exact .cons (dq_noL h h1 z'.1) (dqs_noL h h2 z'.2)
end
def rvNoL : Rv → Bool
  | .d d => noL d
  | .l xs => noLs xs
  | .va _ => true
/-- the list of slot i is read as data -/
theorem bor_core {G H : Hp} {σ : L2.St} {ρ : En} {i : Nat} {p : Addr} {xs : List PyData} (hi : ρ[i]? = some (.mu p xs)) (e : Ex G H) (st : StOk G H σ ρ) (nd : (adr ρ).Nodup) :
    ∃ G1, Ex G1 H ∧ StOk G1 H σ (ρ.set i (.dat (.list xs))) ∧ (adr (ρ.set i (.dat (.list xs)))).Nodup ∧
      ∀ G2 H2, Ext [] G1 H G2 H2 → ∃ G3, Ext [] G H G3 H2 ∧ StOk G3 H2 σ ρ ∧ (∀ a o, a ≠ p → G2 a = some o → G3 a = some o) ∧ G3 p = none ∧ (∀ a, G2 a = none → G3 a = none) ∧ ∃ vs, G2 p = some (.lst vs) := by
  obtain ⟨m1, m2, vs, m3, m4⟩ := st.muget hi
  have e1 : Ex (upd G p (.lst vs)) H := fun c o hc => by
    by_cases hb : c = p
    · subst hb; rw [upd_same] at hc; rw [← hc]; exact m3
    · rw [upd_ne hb] at hc; exact e c o hc
  refine ⟨upd G p (.lst vs), e1, ?_, nd_set0 rfl nd, fun G2 H2 x => ?_⟩
  · rw [StOk.iff]
    obtain ⟨l, k⟩ := StOk.iff.mp st
    refine ⟨by rw [List.length_set]; exact l, fun j o s h1 h2 => ?_⟩
    by_cases hj : i = j
    · subst hj
      have hlt : i < ρ.length := (List.getElem?_eq_some_iff.mp hi).1
      rw [List.getElem?_set_self hlt] at h2
      rw [m1] at h1
      have h1 := Option.some.inj h1
      have h2 := Option.some.inj h2
      subst h1; subst h2
      exact .inr ⟨_, rfl, .lst upd_same (dqs_mono (Ex.new m2) m4)⟩
    · rw [List.getElem?_set_ne hj] at h2
      rcases k j o s h1 h2 with k | ⟨v, k1, k2⟩
      · exact .inl k
      · refine .inr ⟨v, k1, ?_⟩
        cases s with
        | un => trivial
        | dat d => exact dq_mono (Ex.new m2) k2
        | va u => exact k2
        | kl K ns => obtain ⟨a0, e1, e2⟩ := k2; exact ⟨a0, e1, Ex.sl (Ex.new m2) e2⟩
        | mu q zs =>
          obtain ⟨g1, g2, ws, g3, g4⟩ := k2
          refine ⟨g1, ?_, ws, g3, dqs_mono (Ex.new m2) g4⟩
          have hq : q ≠ p := fun z => by
            subst z
            -- the same address in two slots
            have key : ∀ {ρ : En} {a c : Nat} {u w : List PyData}, (adr ρ).Nodup → ρ[a]? = some (.mu q u) → ρ[c]? = some (.mu q w) → a = c := by
              intro ρ
              induction ρ with
              | nil => intro a c u w _ h; simp at h
              | cons s r ih =>
                intro a c u w n h1 h2
                rw [adr_cons] at n
                obtain ⟨n1, n2, n3⟩ := List.nodup_append.mp n
                cases a with
                | zero =>
                  cases c with
                  | zero => rfl
                  | succ c => simp at h1; subst h1; exact absurd rfl (n3 q (by simp [adr1]) q (mem_adr (i := c) (by simpa using h2)))
                | succ a =>
                  cases c with
                  | zero => simp at h2; subst h2; exact absurd rfl (n3 q (by simp [adr1]) q (mem_adr (i := a) (by simpa using h1)))
                  | succ c => exact congrArg (· + 1) (ih (a := a) (c := c) n2 (by simpa using h1) (by simpa using h2))
            exact hj (key nd hi h2)
          rw [upd_ne hq]; exact g2
  · refine ⟨fun a => if a = p then none else G2 a, ?_⟩
    have gp : ∀ a, a ≠ p → (if a = p then none else G2 a) = G2 a := fun a h => if_neg h
    have x3 : Ext [] G H (fun a => if a = p then none else G2 a) H2 := by
      refine ⟨fun a o h => ?_, fun a o h => ?_, x.fr, x.th, fun a ha h1 h2 => ?_⟩
      · have hb : a ≠ p := fun z => by subst z; rw [m2] at h; cases h
        show (if a = p then none else G2 a) = some o
        rw [gp a hb]; exact x.gg a o (by rw [upd_ne hb]; exact h)
      · have h : (if a = p then none else G2 a) = some o := h
        by_cases hb : a = p
        · rw [if_pos hb] at h; cases h
        · rw [gp a hb] at h; exact x.gh a o h
      · show (if a = p then none else G2 a) = none
        by_cases hb : a = p
        · rw [if_pos hb]
        · rw [gp a hb]; exact x.nw a ha (by rw [upd_ne hb]; exact h1) h2
    refine ⟨x3, st.mono x3, fun a o hb h => ?_, if_pos rfl, fun a h => ?_, vs, x.gg p _ upd_same⟩
    · show (if a = p then none else G2 a) = some o
      rw [gp a hb]; exact h
    · show (if a = p then none else G2 a) = none
      by_cases hb : a = p
      · rw [if_pos hb]
      · rw [gp a hb]; exact h
theorem ev_bor {b : Bool} {te : TE} {ρ : En} {r : Rv} (i : Nat) {p : Addr} {xs : List PyData} (hi : ρ[i]? = some (.mu p xs)) (h : Ev false te (ρ.set i (.dat (.list xs))) r (ρ.set i (.dat (.list xs)))) (hr : rvNoL r = true) : Ev b te ρ r ρ := by
  refine Ev.up ?_
  intro G H σ e st nd Q q
  obtain ⟨G1, e1, s1, n1, k⟩ := bor_core hi e st nd
  refine h G1 H σ e1 s1 n1 Q fun v G2 H2 x s2 a2 r2 => ?_
  obtain ⟨G3, x3, s3, k1, k2, k3, vs, k4⟩ := k G2 H2 x
  refine q v G3 H2 x3 s3 rfl ?_
  have ht : ∀ a xs, G2 a = some (.tup xs) → G3 a = some (.tup xs) := fun a xs h => k1 a _ (fun z => by subst z; rw [k4] at h; cases h) h
  cases r with
  | d d => exact dq_noL ht r2 hr
  | va u => exact r2
  | l ys =>
    obtain ⟨q', us, g1, g2, g3, g4, g5⟩ := r2
    exact ⟨q', us, g1, g2, k3 q' g3, g4, dqs_noL ht g5 hr⟩
theorem et_bor {b c : Bool} {t : TT} {ρ : En} (i : Nat) {p : Addr} {xs : List PyData} (hi : ρ[i]? = some (.mu p xs)) (h : EvT false t (ρ.set i (.dat (.list xs))) c (ρ.set i (.dat (.list xs)))) : EvT b t ρ c ρ := by
  refine EvT.up ?_
  intro G H σ e st nd Q q
  obtain ⟨G1, e1, s1, n1, k⟩ := bor_core hi e st nd
  refine h G1 H σ e1 s1 n1 Q fun G2 H2 x s2 a2 => ?_
  obtain ⟨G3, x3, s3, _⟩ := k G2 H2 x
  exact q G3 H2 x3 s3 rfl

/-! ### subscripts, slices -/
section
variable {b : Bool} {ρ ρ1 ρ2 ρ3 : En} {ta tb tc te : TE} {t u : TT} {x y z : PyData} {r : Rv} {K : PySem.W.Frag}
theorem atI_dq {G : Hp} {vs : List V} {ds : List PyData} {i : Int} {d : PyData} (h : DqA G vs ds) (hi : atI ds i = some d) : ∃ v, atI vs i = some v ∧ Dq G v d := by
  unfold atI at hi ⊢
  rw [h.len]
  cases e : ixN ds.length i with
  | none => rw [e] at hi; cases hi
  | some j => rw [e] at hi; exact h.get' hi
theorem o2_ixL {ds : List PyData} {i : Int} {d : PyData} (hi : atI ds i = some d) : Op2 (rIxL K) (.list ds) (.int i) (.d d) := o2_val fun G H v w e hv hw Q q => by
  cases hw; cases hv with
  | lst ha hs =>
    obtain ⟨v, h1, h2⟩ := atI_dq hs hi
    exact ⟨_, _, i, v, rfl, rfl, .inl (.inl (e _ _ ha)), h1, q v h2⟩
theorem o2_ixT {ds : List PyData} {i : Int} {d : PyData} (hi : atI ds i = some d) : Op2 (rIxT K) (.tuple ds) (.int i) (.d d) := o2_val fun G H v w e hv hw Q q => by
  cases hw; cases hv with
  | tup ha hs =>
    obtain ⟨v, h1, h2⟩ := atI_dq hs hi
    exact ⟨_, _, i, v, rfl, rfl, .inl (.inl (e _ _ ha)), h1, q v h2⟩
def cutD (xs : List PyData) (lo hi : Option Int) : List PyData := (xs.drop (HT.sIx xs.length 0 lo)).take (HT.sIx xs.length xs.length hi - HT.sIx xs.length 0 lo)
theorem cut_dq {G : Hp} {vs : List V} {ds : List PyData} (h : DqA G vs ds) (lo hi : Option Int) : DqA G (cutV vs lo hi) (cutD ds lo hi) := by
  unfold cutV cutD
  rw [h.len]
  exact DqA.take _ (DqA.drop _ h)
/-- a part of a slice -/
def EvO (b : Bool) (to : TO) (ρ : En) (o : Option Int) (ρ' : En) : Prop :=
  ∀ (G H : Hp) (σ : L2.St), Ex G H → StOk G H σ ρ → (adr ρ).Nodup → ∀ Q : Option Int → Hp → Prop,
    (∀ G' H', Ext (ws b ρ) G H G' H' → StOk G' H' σ ρ' → adr ρ' = adr ρ → Q o H') → to σ H Q
theorem eo_n : EvO b tNoPart ρ none ρ := fun G H σ e st _ Q q => q G H (Ext.refl e) st rfl
theorem eo_s {i : Int} (h : Ev b te ρ (.d (.int i)) ρ1) : EvO b (tPart te) ρ (some i) ρ1 := fun G H σ e st nd Q q =>
  h G H σ e st nd _ fun v G1 H1 x1 s1 a1 k1 => by cases k1; exact ⟨i, rfl, q G1 H1 x1 s1 a1⟩
theorem ev_slL {tl th : TO} {xs : List PyData} {lo hi : Option Int} (h : Ev b te ρ (.d (.list xs)) ρ1) (h1 : EvO b tl ρ1 lo ρ2) (h2 : EvO b th ρ2 hi ρ3) : Ev b (tSl (rSlL K) te tl th) ρ (.l (cutD xs lo hi)) ρ3 := fun G H σ e st nd Q q =>
  h G H σ e st nd _ fun v G1 H1 x1 s1 a1 k1 => h1 G1 H1 σ x1.gh s1 (by rw [a1]; exact nd) _ fun G2 H2 x2 s2 a2 => h2 G2 H2 σ x2.gh s2 (by rw [a2, a1]; exact nd) _ fun G3 H3 x3 s3 a3 => by
    have k1' := dq_mono x3.gg (dq_mono x2.gg k1)
    have y3 := (x1.then x2 a1).then x3 (a2.trans a1)
    cases k1' with
    | lst ha hs =>
      refine ⟨_, _, rfl, .inl (.inl (x3.gh _ _ ha)), fun p hp => ?_⟩
      rename_i a0 vs0
      have x4 : Ext [] G3 H3 G3 (upd H3 p (.lst (cutV vs0 lo hi))) := Ext.own x3.gh hp
      refine q _ _ _ (y3.tr x4.up) (s3.mono x4) (a3.trans (a2.trans a1)) ⟨p, _, rfl, ?_, x3.gh.none hp, upd_same, cut_dq hs lo hi⟩
      cases z : H p with
      | none => rfl
      | some o => exact absurd hp (y3.th p (by rw [z]; simp))
theorem ev_slT {tl th : TO} {xs : List PyData} {lo hi : Option Int} (h : Ev b te ρ (.d (.tuple xs)) ρ1) (h1 : EvO b tl ρ1 lo ρ2) (h2 : EvO b th ρ2 hi ρ3) : Ev b (tSl (rSlA K) te tl th) ρ (.d (.tuple (cutD xs lo hi))) ρ3 := fun G H σ e st nd Q q =>
  h G H σ e st nd _ fun v G1 H1 x1 s1 a1 k1 => h1 G1 H1 σ x1.gh s1 (by rw [a1]; exact nd) _ fun G2 H2 x2 s2 a2 => h2 G2 H2 σ x2.gh s2 (by rw [a2, a1]; exact nd) _ fun G3 H3 x3 s3 a3 => by
    have k1' := dq_mono x3.gg (dq_mono x2.gg k1)
    have y3 := (x1.then x2 a1).then x3 (a2.trans a1)
    cases k1' with
    | tup ha hs =>
      refine ⟨_, _, rfl, .inl (.inl (x3.gh _ _ ha)), fun z => ?_, fun _ p hp => ?_⟩
      · have ec : cutD xs lo hi = xs := by
          unfold cutD
          rw [← hs.len, z.1, z.2, List.drop_zero]
          exact List.take_of_length_le (by rw [hs.len]; omega)
        rw [ec] at q
        exact q _ G3 H3 y3 s3 (a3.trans (a2.trans a1)) (.tup ha hs)
      · rename_i a0 vs0 _
        have x4 : Ext [] G3 H3 (upd G3 p (.tup (cutV vs0 lo hi))) (upd H3 p (.tup (cutV vs0 lo hi))) := Ext.new x3.gh hp
        exact q _ _ _ (y3.tr x4.up) (s3.mono x4) (a3.trans (a2.trans a1)) (.tup upd_same (dqs_mono x4.gg (cut_dq hs lo hi)))
end
end Kn

namespace Kn
open PySem L2

/-! ### what a loop walks -/
def ItOk (J : It) (G : Hp) (ds : List PyData) : Prop := ∀ G1 H1, Ex G G1 → Ex G1 H1 → J.stop ds.length H1 ∧
  ∀ (i : Nat) (d : PyData), ds[i]? = some d → J.go i H1 ∧ ∀ x H2, J.yld i H1 x H2 → ∃ G2, Ext [] G1 H1 G2 H2 ∧ Dq G2 x d
def EvI (b : Bool) (wi : TI) (ρ : En) (ds : List PyData) (ρ' : En) : Prop :=
  ∀ (G H : Hp) (σ : L2.St), Ex G H → StOk G H σ ρ → (adr ρ).Nodup → ∀ R : It → Hp → Prop,
    (∀ J G' H', Ext (ws b ρ) G H G' H' → StOk G' H' σ ρ' → adr ρ' = adr ρ → ItOk J G' ds → R J H') → wi σ H R
section
variable {b : Bool} {ρ ρ1 ρ2 ρ3 : En} {ta tb tc te : TE} {t u : TT} {x y z : PyData} {r : Rv} {K : PySem.W.Frag}
theorem ei_list {xs : List PyData} (h : Ev b te ρ (.d (.list xs)) ρ1) : EvI b (iList K te) ρ xs ρ1 := fun G H σ e st nd R q =>
  h G H σ e st nd _ fun v G1 H1 x1 s1 a1 k1 => by
    cases k1 with
    | lst ha hs =>
      rename_i a vs
      refine ⟨a, rfl, ⟨vs, .inl (.inl (x1.gh _ _ ha))⟩, q _ G1 H1 x1 s1 a1 fun G2 H2 e1 e2 => ?_⟩
      have hq : SqL K H2 a vs := .inl (.inl (e2 _ _ (e1 _ _ ha)))
      refine ⟨⟨vs, hq, by rw [hs.len]; exact Nat.le_refl _⟩, fun i d hd => ?_⟩
      obtain ⟨v, h1, h2⟩ := hs.get' hd
      refine ⟨⟨vs, v, hq, h1⟩, fun x H3 hy => ?_⟩
      obtain ⟨rfl, hy⟩ := hy
      have hx := hy vs hq
      rw [h1] at hx
      have hx := Option.some.inj hx
      subst hx
      exact ⟨G2, Ext.refl e2, dq_mono e1 h2⟩
theorem ei_tup {xs : List PyData} (h : Ev b te ρ (.d (.tuple xs)) ρ1) : EvI b (iTup K te) ρ xs ρ1 := fun G H σ e st nd R q =>
  h G H σ e st nd _ fun v G1 H1 x1 s1 a1 k1 => by
    cases k1 with
    | tup ha hs =>
      rename_i a vs
      refine ⟨a, rfl, ⟨vs, .inl (.inl (x1.gh _ _ ha))⟩, q _ G1 H1 x1 s1 a1 fun G2 H2 e1 e2 => ?_⟩
      have hq : SqT K H2 a vs := .inl (.inl (e2 _ _ (e1 _ _ ha)))
      refine ⟨⟨vs, hq, by rw [hs.len]; exact Nat.le_refl _⟩, fun i d hd => ?_⟩
      obtain ⟨v, h1, h2⟩ := hs.get' hd
      refine ⟨⟨vs, v, hq, h1⟩, fun x H3 hy => ?_⟩
      obtain ⟨rfl, hy⟩ := hy
      have hx := hy vs hq
      rw [h1] at hx
      have hx := Option.some.inj hx
      subst hx
      exact ⟨G2, Ext.refl e2, dq_mono e1 h2⟩
/-- lo, lo + 1, .. -/
def rgI (lo : Int) : Nat → List Int
  | 0 => []
  | n + 1 => lo :: rgI (lo + 1) n
theorem rgI_len : ∀ (n : Nat) (lo : Int), (rgI lo n).length = n
  | 0, _ => rfl
  | n + 1, lo => by show (rgI (lo + 1) n).length + 1 = n + 1; rw [rgI_len n]
theorem rgI_get : ∀ (n : Nat) (lo : Int) (i : Nat), i < n → (rgI lo n)[i]? = some (lo + i)
  | 0, _, _, h => by omega
  | n + 1, lo, 0, _ => by simp [rgI]
  | n + 1, lo, i + 1, h => by
    show (rgI (lo + 1) n)[i]? = _
    rw [rgI_get n (lo + 1) i (by omega)]
    congr 1; omega
theorem mem_rgI : ∀ {n : Nat} {lo x : Int}, x ∈ rgI lo n ↔ lo ≤ x ∧ x < lo + n
  | 0, lo, x => by
    constructor
    · intro h; simp [rgI] at h
    · intro h; omega
  | n + 1, lo, x => by
    show x ∈ lo :: rgI (lo + 1) n ↔ _
    rw [List.mem_cons, mem_rgI (n := n)]
    omega
theorem itr_ok {lo : Int} {n : Nat} {G : Hp} : ItOk (Itr lo n) G ((rgI lo n).map .int) := fun G1 H1 e1 e2 => by
  refine ⟨by show n ≤ _; rw [List.length_map, rgI_len]; exact Nat.le_refl _, fun i d hd => ?_⟩
  have hi : i < n := by
    have := (List.getElem?_eq_some_iff.mp hd).1
    rwa [List.length_map, rgI_len] at this
  refine ⟨hi, fun x H2 hy => ?_⟩
  obtain ⟨rfl, rfl⟩ := hy
  rw [List.getElem?_map, rgI_get n lo i hi] at hd
  have hd : PyData.int (lo + i) = d := Option.some.inj hd
  subst hd
  exact ⟨G1, Ext.refl e2, .int _⟩
theorem ei_r1 {ta : TA} {n : Int} (h : EvA b ta ρ [.d (.int n)] ρ1) (hn : n < 1000000000000 ∧ -1000000000000 < n) : EvI b (iRng1 ta) ρ ((rgI 0 n.toNat).map .int) ρ1 := fun G H σ e st nd R q =>
  h G H σ e st nd _ fun vs G1 H1 x1 s1 a1 k1 => by
    have k2 := as_data (ds := [.int n]) k1
    cases k2 with
    | cons k3 k4 =>
      cases k3; cases k4
      exact ⟨n, rfl, by omega, by omega, q _ G1 H1 x1 s1 a1 itr_ok⟩
theorem ei_r2 {ta : TA} {m n : Int} (h : EvA b ta ρ [.d (.int m), .d (.int n)] ρ1) (hn : n < 1000000000000 ∧ -1000000000000 < n) (hm : m < 1000000000000 ∧ -1000000000000 < m) : EvI b (iRng2 ta) ρ ((rgI m (n - m).toNat).map .int) ρ1 := fun G H σ e st nd R q =>
  h G H σ e st nd _ fun vs G1 H1 x1 s1 a1 k1 => by
    have k2 := as_data (ds := [.int m, .int n]) k1
    cases k2 with
    | cons k3 k4 =>
      cases k3
      cases k4 with
      | cons k5 k6 =>
        cases k5; cases k6
        exact ⟨m, n, rfl, by omega, q _ G1 H1 x1 s1 a1 itr_ok⟩
/-- pairs -/
theorem pair_ok {G1 H1 H2 : Hp} {T : Addr} {v w : V} {x y : PyData} (e : Ex G1 H1) (hT : H1 T = none) (hv : Dq G1 v x) (hw : Dq G1 w y) (h2 : H2 = upd H1 T (.tup [v, w])) : ∃ G2, Ext [] G1 H1 G2 H2 ∧ Dq G2 (.ref T) (.tuple [x, y]) := by
  subst h2
  have x2 : Ext [] G1 H1 (upd G1 T (.tup [v, w])) (upd H1 T (.tup [v, w])) := Ext.new e hT
  exact ⟨_, x2, .tup upd_same (.cons (dq_mono x2.gg hv) (.cons (dq_mono x2.gg hw) .nil))⟩
def zipD : List PyData → List PyData → List PyData
  | x :: xs, y :: ys => .tuple [x, y] :: zipD xs ys
  | _, _ => []
theorem zipD_len : ∀ xs ys : List PyData, (zipD xs ys).length = min xs.length ys.length
  | [], ys => by cases ys <;> simp [zipD]
  | x :: xs, [] => by simp [zipD]
  | x :: xs, y :: ys => by simp [zipD, zipD_len xs ys]
theorem zipD_get : ∀ {xs ys : List PyData} {i : Nat} {d : PyData}, (zipD xs ys)[i]? = some d → ∃ x y, xs[i]? = some x ∧ ys[i]? = some y ∧ d = .tuple [x, y]
  | [], ys, i, d, h => by cases ys <;> simp [zipD] at h
  | x :: xs, [], i, d, h => by simp [zipD] at h
  | x :: xs, y :: ys, 0, d, h => by simp [zipD] at h; exact ⟨x, y, rfl, rfl, h.symm⟩
  | x :: xs, y :: ys, i + 1, d, h => zipD_get (i := i) (xs := xs) (ys := ys) (by simpa [zipD] using h)
theorem ei_zipL {ta : TA} {xs ys : List PyData} (h : EvA b ta ρ [.d (.list xs), .d (.list ys)] ρ1) : EvI b (RZ.iZipA K ta) ρ (zipD xs ys) ρ1 := fun G H σ e st nd R q =>
  h G H σ e st nd _ fun vs G1 H1 x1 s1 a1 k1 => by
    have k2 := as_data (ds := [.list xs, .list ys]) k1
    cases k2 with
    | cons k3 k4 =>
      cases k4 with
      | cons k5 k6 =>
        cases k6
        cases k3 with
        | @lst a us _ ha hs => cases k5 with
          | @lst c ws _ hb ht =>
            refine ⟨a, c, us, ws, rfl, .inl ⟨.inl (.inl (x1.gh _ _ ha)), .inl (.inl (x1.gh _ _ hb)), q _ G1 H1 x1 s1 a1 fun G2 H2 e1 e2 => ?_⟩⟩
            have h1 : SqL K H2 a us := .inl (.inl (e2 _ _ (e1 _ _ ha)))
            have h2 : SqL K H2 c ws := .inl (.inl (e2 _ _ (e1 _ _ hb)))
            refine ⟨⟨us, ws, h1, h2, by rw [zipD_len, hs.len, ht.len]; omega⟩, fun i d hd => ?_⟩
            obtain ⟨x, y, hx, hy, rfl⟩ := zipD_get hd
            obtain ⟨v, v1, v2⟩ := hs.get' hx
            obtain ⟨w, w1, w2⟩ := ht.get' hy
            refine ⟨⟨us, ws, v, w, h1, h2, v1, w1⟩, fun z H3 hz => ?_⟩
            obtain ⟨T, v', w', rfl, hT, hH, f1, f2⟩ := hz
            have g1 := f1 us h1; rw [v1] at g1
            have g2 := f2 ws h2; rw [w1] at g2
            have g1 := Option.some.inj g1; have g2 := Option.some.inj g2
            subst g1; subst g2
            exact pair_ok e2 hT (dq_mono e1 v2) (dq_mono e1 w2) hH
theorem ei_zipT {ta : TA} {xs ys : List PyData} (h : EvA b ta ρ [.d (.tuple xs), .d (.tuple ys)] ρ1) : EvI b (RZ.iZipA K ta) ρ (zipD xs ys) ρ1 := fun G H σ e st nd R q =>
  h G H σ e st nd _ fun vs G1 H1 x1 s1 a1 k1 => by
    have k2 := as_data (ds := [.tuple xs, .tuple ys]) k1
    cases k2 with
    | cons k3 k4 =>
      cases k4 with
      | cons k5 k6 =>
        cases k6
        cases k3 with
        | @tup a us _ ha hs => cases k5 with
          | @tup c ws _ hb ht =>
            refine ⟨a, c, us, ws, rfl, .inr ⟨.inl (.inl (x1.gh _ _ ha)), .inl (.inl (x1.gh _ _ hb)), q _ G1 H1 x1 s1 a1 fun G2 H2 e1 e2 => ?_⟩⟩
            have h1 : SqT K H2 a us := .inl (.inl (e2 _ _ (e1 _ _ ha)))
            have h2 : SqT K H2 c ws := .inl (.inl (e2 _ _ (e1 _ _ hb)))
            refine ⟨⟨us, ws, h1, h2, by rw [zipD_len, hs.len, ht.len]; omega⟩, fun i d hd => ?_⟩
            obtain ⟨x, y, hx, hy, rfl⟩ := zipD_get hd
            obtain ⟨v, v1, v2⟩ := hs.get' hx
            obtain ⟨w, w1, w2⟩ := ht.get' hy
            refine ⟨⟨us, ws, v, w, h1, h2, v1, w1⟩, fun z H3 hz => ?_⟩
            obtain ⟨T, v', w', rfl, hT, hH, f1, f2⟩ := hz
            have g1 := f1 us h1; rw [v1] at g1
            have g2 := f2 ws h2; rw [w1] at g2
            have g1 := Option.some.inj g1; have g2 := Option.some.inj g2
            subst g1; subst g2
            exact pair_ok e2 hT (dq_mono e1 v2) (dq_mono e1 w2) hH
def enumD : Int → List PyData → List PyData
  | _, [] => []
  | k, x :: xs => .tuple [.int k, x] :: enumD (k + 1) xs
theorem enumD_len : ∀ (xs : List PyData) (k : Int), (enumD k xs).length = xs.length
  | [], _ => rfl
  | x :: xs, k => by simp [enumD, enumD_len xs]
theorem enumD_get : ∀ {xs : List PyData} {k : Int} {i : Nat} {d : PyData}, (enumD k xs)[i]? = some d → ∃ x, xs[i]? = some x ∧ d = .tuple [.int (k + i), x]
  | [], k, i, d, h => by simp [enumD] at h
  | x :: xs, k, 0, d, h => by simp [enumD] at h; exact ⟨x, rfl, by rw [← h]; simp⟩
  | x :: xs, k, i + 1, d, h => by
    obtain ⟨y, h1, h2⟩ := enumD_get (xs := xs) (k := k + 1) (i := i) (d := d) (by simpa [enumD] using h)
    refine ⟨y, by simpa using h1, ?_⟩
    rw [h2]; congr 3; omega
theorem ei_enum {ta : TA} {xs : List PyData} (h : EvA b ta ρ [.d (.list xs)] ρ1) : EvI b (iEnum K ta) ρ (enumD 0 xs) ρ1 := fun G H σ e st nd R q =>
  h G H σ e st nd _ fun vs G1 H1 x1 s1 a1 k1 => by
    have k2 := as_data (ds := [.list xs]) k1
    cases k2 with
    | cons k3 k4 =>
      cases k4
      cases k3 with
      | @lst a us _ ha hs =>
        refine ⟨a, us, rfl, .inl (.inl (x1.gh _ _ ha)), q _ G1 H1 x1 s1 a1 fun G2 H2 e1 e2 => ?_⟩
        have h1 : SqL K H2 a us := .inl (.inl (e2 _ _ (e1 _ _ ha)))
        refine ⟨⟨us, h1, by rw [enumD_len, hs.len]; exact Nat.le_refl _⟩, fun i d hd => ?_⟩
        obtain ⟨x, hx, rfl⟩ := enumD_get hd
        obtain ⟨v, v1, v2⟩ := hs.get' hx
        refine ⟨⟨us, v, h1, v1⟩, fun z H3 hz => ?_⟩
        obtain ⟨T, v', rfl, hT, hH, f1⟩ := hz
        have g1 := f1 us h1; rw [v1] at g1
        have g1 := Option.some.inj g1
        subst g1
        rw [Int.zero_add]
        exact pair_ok e2 hT (.int _) (dq_mono e1 v2) hH
end

/-! ### targets -/
def sets (ρ : En) : List (Nat × PyData) → En
  | [] => ρ
  | (j, d) :: r => sets (ρ.set j (.dat d)) r
theorem adr_sets {p : Addr} : ∀ {bs : List (Nat × PyData)} {ρ : En}, p ∈ adr (sets ρ bs) → p ∈ adr ρ
  | [], _, h => h
  | (j, d) :: r, ρ, h => by
    rcases adr_set (adr_sets (bs := r) h) with h | h
    · simp [adr1] at h
    · exact h
theorem nd_sets : ∀ {bs : List (Nat × PyData)} {ρ : En}, (adr ρ).Nodup → (adr (sets ρ bs)).Nodup
  | [], _, h => h
  | (j, d) :: r, ρ, h => nd_sets (bs := r) (nd_set0 rfl h)
def Gv (g : TG) (d : PyData) (bs : List (Nat × PyData)) : Prop := ∀ (G H : Hp) (σ : L2.St) (ρ : En) (v : V), Ex G H → StOk G H σ ρ → Dq G v d → ∀ Q : L2.St → Hp → Prop,
  (∀ σ2, StOk G H σ2 (sets ρ bs) → σ2.length = σ.length → (∀ (i : Nat), i ∉ bs.map (·.1) → σ2[i]? = σ[i]?) → Q σ2 H) → g v σ H Q
theorem gv_name {j : Nat} {d : PyData} : Gv (gName j) d [(j, d)] := fun G H σ ρ v e st hv Q q =>
  q _ (st.set (s := .dat d) hv j) (List.length_set ..) fun i hi => List.getElem?_set_ne (by simp at hi; exact fun z => hi z.symm)
theorem gv_tup2 {K : PySem.W.Frag} {i j : Nat} {x y : PyData} : Gv (gTup K 2 (gCons (gName i) (gCons (gName j) gNil))) (.tuple [x, y]) [(i, x), (j, y)] := fun G H σ ρ v e st hv Q q => by
  cases hv with
  | tup ha hs =>
    cases hs with
    | cons h1 h2 => cases h2 with
      | cons h3 h4 =>
        cases h4
        refine ⟨_, _, rfl, .inl (.inl (e _ _ ha)), rfl, _, _, rfl, _, _, rfl, rfl, ?_⟩
        refine q _ ((st.set (s := .dat x) h1 i).set (s := .dat y) h3 j) (by rw [List.length_set, List.length_set]) fun k hk => ?_
        have hk : k ∉ [i, j] := hk
        simp only [List.mem_cons, List.not_mem_nil, or_false, not_or] at hk
        rw [List.getElem?_set_ne (fun z => hk.2 z.symm), List.getElem?_set_ne (fun z => hk.1 z.symm)]
/-- i, (j, k) -/
theorem gv_tup12 {K : PySem.W.Frag} {i j k : Nat} {x y z : PyData} : Gv (gTup K 2 (gCons (gName i) (gCons (gTup K 2 (gCons (gName j) (gCons (gName k) gNil))) gNil))) (.tuple [x, .tuple [y, z]]) [(i, x), (j, y), (k, z)] := fun G H σ ρ v e st hv Q q => by
  cases hv with
  | tup ha hs =>
    cases hs with
    | cons h1 h2 => cases h2 with
      | cons h3 h4 =>
        cases h4
        cases h3 with
        | tup hb ht =>
          cases ht with
          | cons h5 h6 => cases h6 with
            | cons h7 h8 =>
              cases h8
              refine ⟨_, _, rfl, .inl (.inl (e _ _ ha)), rfl, _, _, rfl, _, _, rfl, ⟨_, _, rfl, .inl (.inl (e _ _ hb)), rfl, _, _, rfl, _, _, rfl, rfl, rfl, ?_⟩⟩
              refine q _ (((st.set (s := .dat x) h1 i).set (s := .dat y) h5 j).set (s := .dat z) h7 k) (by rw [List.length_set, List.length_set, List.length_set]) fun m hm => ?_
              have hm : m ∉ [i, j, k] := hm
              simp only [List.mem_cons, List.not_mem_nil, or_false, not_or] at hm
              rw [List.getElem?_set_ne (fun z => hm.2.2 z.symm), List.getElem?_set_ne (fun z => hm.2.1 z.symm), List.getElem?_set_ne (fun z => hm.1 z.symm)]

/-! ### list comprehensions -/
theorem ev_lc {α : Type} {b : Bool} {ρ ρ1 : En} {wi : TI} {g : TG} {tt : TT} {te : TE} {vs : List Nat} (xs : List α) (enc : α → PyData) (bs : α → List (Nat × PyData)) (p : α → Bool) (f : α → PyData) (hi : EvI b wi ρ (xs.map enc) ρ1) (hg : ∀ x ∈ xs, Gv g (enc x) (bs x) ∧ ∀ q ∈ bs x, q.1 ∈ vs)
    (hs : ∀ x ∈ xs, EvT false tt (sets (wipeE ρ1 vs) (bs x)) (p x) (sets (wipeE ρ1 vs) (bs x)) ∧ (p x = true → Ev false te (sets (wipeE ρ1 vs) (bs x)) (.d (f x)) (sets (wipeE ρ1 vs) (bs x)))) (hl : xs.length ≤ 1000000) :
    Ev b (tLc wi g tt te vs) ρ (.l ((xs.filter p).map f)) ρ1 := fun G H σ e st nd Q q =>
  hi G H σ e st nd _ fun J G1 H1 x1 s1 a1 hJ Dl hD => by
    have nd1 : (adr ρ1).Nodup := by rw [a1]; exact nd
    refine ⟨fun i m H' => i + m = xs.length ∧ ∃ G' acc, Ext [] G1 H1 G' H' ∧ G' Dl = none ∧ H' Dl = some (.lst acc) ∧ DqA G' acc (((xs.take i).filter p).map f), ⟨xs.length, by simp, G1, [], Ext.own x1.gh hD, x1.gh.none hD, upd_same, .nil⟩, fun i m H' hW => ?_⟩
    obtain ⟨hm, G', acc, x2, gD, hDl, hacc⟩ := hW
    obtain ⟨hstop, hgo⟩ := hJ G' H' x2.gg x2.gh
    by_cases hlt : i < xs.length
    · obtain ⟨x, hx⟩ : ∃ x, xs[i]? = some x := ⟨xs[i], by simp [hlt]⟩
      have hmem : x ∈ xs := List.mem_of_getElem? hx
      obtain ⟨hgo1, hy⟩ := hgo i (enc x) (by rw [List.getElem?_map, hx]; rfl)
      refine .inr ⟨hgo1, fun H3 => ∃ G' acc, Ext [] G1 H1 G' H3 ∧ G' Dl = none ∧ H3 Dl = some (.lst acc) ∧ DqA G' acc (((xs.take (i + 1)).filter p).map f), fun H3 h3 => ⟨m - 1, by omega, by omega, h3⟩, fun v H3 hv => ?_⟩
      obtain ⟨G3, x3, hd3⟩ := hy v H3 hv
      have y3 := x2.tr x3
      have sw : StOk G3 H3 (wipe σ vs) (wipeE ρ1 vs) := (s1.mono y3).wipe vs
      obtain ⟨hg1, hg2⟩ := hg x hmem
      refine hg1 G3 H3 _ _ v x3.gh sw hd3 _ fun σ2 s2 l2 o2 => ?_
      have D3 : H3 Dl = some (.lst acc) := x3.hh _ _ hDl
      have gD3 : G3 Dl = none := x3.nw Dl (by simp) gD (by rw [hDl]; simp)
      have etake : xs.take (i + 1) = xs.take i ++ [x] := by rw [List.take_add_one, hx]; rfl
      refine ⟨wipe_ext (by rw [l2, wipe_length]) fun k hk => o2 k fun hmm => ?_, ?_⟩
      · obtain ⟨w, hw1, hw2⟩ := List.mem_map.mp hmm
        rw [← hw2] at hk
        exact hk (hg2 w hw1)
      · obtain ⟨ht, he⟩ := hs x hmem
        have nd2 : (adr (sets (wipeE ρ1 vs) (bs x))).Nodup := nd_sets (nd_wipe nd1 vs)
        refine ht G3 H3 σ2 x3.gh s2 nd2 _ fun G4 H4 x4 s4 a4 => ?_
        have D4 : H4 Dl = some (.lst acc) := x4.hh _ _ D3
        have gD4 : G4 Dl = none := x4.nw Dl (show Dl ∉ ([] : List Addr) by simp) gD3 (by rw [D3]; simp)
        have y4 : Ext [] G1 H1 G4 H4 := y3.tr x4
        cases hp : p x with
        | false =>
          show ∃ G' acc, _
          refine ⟨G4, acc, y4, gD4, D4, ?_⟩
          rw [etake, List.filter_append, List.filter_cons, if_neg (by rw [hp]; decide)]
          simp
          exact dqs_mono x4.gg (dqs_mono x3.gg hacc)
        | true =>
          refine he hp G4 H4 σ2 x4.gh s4 nd2 _ fun w G5 H5 x5 s5 a5 k5 => ?_
          have D5 : H5 Dl = some (.lst acc) := x5.hh _ _ D4
          have gD5 : G5 Dl = none := x5.nw Dl (show Dl ∉ ([] : List Addr) by simp) gD4 (by rw [D4]; simp)
          have y5 : Ext [] G1 H1 G5 H5 := y4.tr x5
          refine ⟨acc, D5, ?_, G5, acc ++ [w], ?_, gD5, upd_same, ?_⟩
          · rw [hacc.len, List.length_map, sizeLine_eq]
            have h1 := List.length_filter_le p (xs.take i)
            have h2 : (xs.take i).length ≤ xs.length := by rw [List.length_take]; omega
            omega
          · have x6 : Ext [Dl] G5 H5 G5 (upd H5 Dl (.lst (acc ++ [w]))) := Ext.set x5.gh (by simp) gD5
            exact y5.trans x6 fun c hc => .inr (by rw [List.mem_singleton.mp hc]; exact hD)
          · rw [etake, List.filter_append, List.filter_cons, if_pos hp, List.map_append]
            exact (dqs_mono x5.gg (dqs_mono x4.gg (dqs_mono x3.gg hacc))).app (.cons k5 .nil)
    · have ei : i = xs.length := by omega
      refine .inl ⟨by rw [List.length_map] at hstop; rw [ei]; exact hstop, ?_⟩
      rw [ei, List.take_length] at hacc
      refine q _ G' H' (x1.tr x2.up) (s1.mono x2) a1 ⟨Dl, acc, rfl, ?_, gD, hDl, hacc⟩
      cases z : H Dl with
      | none => rfl
      | some o => exact absurd hD (x1.th Dl (by rw [z]; simp))
end Kn

namespace Kn
open PySem L2

/-! ### statements -/
structure Ens where
  nx : En → Prop := fun _ => False
  rt : Rv → En → Prop := fun _ _ => False
  bk : En → Prop := fun _ => False
  ct : En → Prop := fun _ => False
/-- from where one stands to where one goes on -/
structure Stp (ρ : En) (G H : Hp) (ρ' : En) (G' H' : Hp) (σ' : L2.St) : Prop where
  x : Ext (adr ρ) G H G' H'
  a : ∀ q ∈ adr ρ', q ∈ adr ρ ∨ H q = none
  s : StOk G' H' σ' ρ'
  n : (adr ρ').Nodup
def RtOk (ρ : En) (H0 G' H' : Hp) (v : V) : Rv → Prop
  | .d d => Dq G' v d
  | .va u => v = u
  | .l xs => ∃ p vs, v = .ref p ∧ (p ∈ adr ρ ∨ H0 p = none) ∧ G' p = none ∧ H' p = some (.lst vs) ∧ DqA G' vs xs
def Sv (t : TS) (ρ : En) (E : Ens) : Prop := ∀ (G H : Hp) (σ : L2.St), Ex G H → StOk G H σ ρ → (adr ρ).Nodup → ∀ D : Ends,
  (∀ ρ' G' H' σ', Stp ρ G H ρ' G' H' σ' → E.nx ρ' → D.nx σ' H') →
  (∀ r v ρ' G' H' σ', Stp ρ G H ρ' G' H' σ' → RtOk ρ H G' H' v r → E.rt r ρ' → D.rt v H') →
  (∀ ρ' G' H' σ', Stp ρ G H ρ' G' H' σ' → E.bk ρ' → D.bk σ' H') →
  (∀ ρ' G' H' σ', Stp ρ G H ρ' G' H' σ' → E.ct ρ' → D.ct σ' H') → t D σ H
theorem Stp.refl {ρ : En} {G H : Hp} {σ : L2.St} (e : Ex G H) (st : StOk G H σ ρ) (nd : (adr ρ).Nodup) : Stp ρ G H ρ G H σ := ⟨Ext.refl e, fun _ h => .inl h, st, nd⟩
theorem Stp.trans {ρ ρ1 ρ2 : En} {G H G1 H1 G2 H2 : Hp} {σ1 σ2 : L2.St} (a : Stp ρ G H ρ1 G1 H1 σ1) (b : Stp ρ1 G1 H1 ρ2 G2 H2 σ2) : Stp ρ G H ρ2 G2 H2 σ2 where
  x := a.x.trans b.x a.a
  a := fun q hq => by
    rcases b.a q hq with h | h
    · exact a.a q h
    · right
      cases z : H q with
      | none => rfl
      | some o => exact absurd h (a.x.th q (by rw [z]; simp))
  s := b.s
  n := b.n
theorem RtOk.via {ρ ρ1 : En} {G H G1 H1 G' H' : Hp} {σ1 : L2.St} {v : V} {r : Rv} (w : RtOk ρ1 H1 G' H' v r) (s : Stp ρ G H ρ1 G1 H1 σ1) : RtOk ρ H G' H' v r := by
  cases r with
  | d d => exact w
  | va u => exact w
  | l xs =>
    obtain ⟨p, vs, e1, e2, e3⟩ := w
    refine ⟨p, vs, e1, ?_, e3⟩
    rcases e2 with h | h
    · exact s.a p h
    · right
      cases z : H p with
      | none => rfl
      | some o => exact absurd h (s.x.th p (by rw [z]; simp))
theorem RtOk.sub {ρ ρ1 : En} {H G' H' : Hp} {v : V} {r : Rv} (w : RtOk ρ1 H G' H' v r) (h : ∀ q ∈ adr ρ1, q ∈ adr ρ) : RtOk ρ H G' H' v r := by
  cases r with
  | d d => exact w
  | va u => exact w
  | l xs =>
    obtain ⟨p, vs, e1, e2, e3⟩ := w
    exact ⟨p, vs, e1, e2.imp (h p) id, e3⟩
theorem stp_ev {b : Bool} {ρ ρ1 ρ2 : En} {G H G1 H1 : Hp} {σ1 : L2.St} (x : Ext (ws b ρ) G H G1 H1) (a : adr ρ1 = adr ρ) (ha : ∀ q ∈ adr ρ2, q ∈ adr ρ1 ∨ H q = none) (s : StOk G1 H1 σ1 ρ2) (n : (adr ρ2).Nodup) : Stp ρ G H ρ2 G1 H1 σ1 := by
  refine ⟨?_, fun q hq => ?_, s, n⟩
  · cases b with
    | true => exact x
    | false => exact Ext.up x
  · rcases ha q hq with h | h
    · left; rw [← a]; exact h
    · exact .inr h
section
variable {b : Bool} {ρ ρ1 ρ2 ρ3 : En} {ta tb tc te : TE} {t u : TS} {tt : TT} {x y z : PyData} {r : Rv} {K : PySem.W.Frag} {E E' : Ens}

theorem Sv.imp (h : Sv t ρ E) (h1 : ∀ ρ', E.nx ρ' → E'.nx ρ') (h2 : ∀ r ρ', E.rt r ρ' → E'.rt r ρ') (h3 : ∀ ρ', E.bk ρ' → E'.bk ρ') (h4 : ∀ ρ', E.ct ρ' → E'.ct ρ') : Sv t ρ E' := fun G H σ e st nd D d1 d2 d3 d4 =>
  h G H σ e st nd D (fun ρ' G' H' σ' s k => d1 ρ' G' H' σ' s (h1 _ k)) (fun r v ρ' G' H' σ' s w k => d2 r v ρ' G' H' σ' s w (h2 _ _ k)) (fun ρ' G' H' σ' s k => d3 ρ' G' H' σ' s (h3 _ k)) (fun ρ' G' H' σ' s k => d4 ρ' G' H' σ' s (h4 _ k))
theorem sv_nx (h : E.nx ρ) : Sv tNext ρ E := fun G H σ e st nd D d1 _ _ _ => d1 ρ G H σ (Stp.refl e st nd) h
theorem sv_seq (h : Sv t ρ { E with nx := fun ρ1 => Sv u ρ1 E }) : Sv (tSeq t u) ρ E := fun G H σ e st nd D d1 d2 d3 d4 =>
  h G H σ e st nd { D with nx := u D } (fun ρ1 G1 H1 σ1 s1 k => k G1 H1 σ1 s1.x.gh s1.s s1.n D (fun ρ' G' H' σ' s w => d1 ρ' G' H' σ' (s1.trans s) w) (fun r v ρ' G' H' σ' s w => d2 r v ρ' G' H' σ' (s1.trans s) (w.via s1)) (fun ρ' G' H' σ' s w => d3 ρ' G' H' σ' (s1.trans s) w) (fun ρ' G' H' σ' s w => d4 ρ' G' H' σ' (s1.trans s) w)) d2 d3 d4
theorem sv_asg {i : Nat} (h : Ev b te ρ (.d x) ρ1) (k : E.nx (ρ1.set i (.dat x))) : Sv (tAsg te (gName i)) ρ E := fun G H σ e st nd D d1 _ _ _ =>
  h G H σ e st nd _ fun v G1 H1 x1 s1 a1 r1 => d1 _ G1 H1 _ (stp_ev x1 a1 (fun q hq => by
    rcases adr_set hq with hq | hq
    · simp [adr1] at hq
    · exact .inl hq) (s1.set (s := .dat x) r1 i) (nd_set0 rfl (by rw [a1]; exact nd))) k
theorem sv_asgV {i : Nat} {w : V} (h : Ev b te ρ (.va w) ρ1) (k : E.nx (ρ1.set i (.va w))) : Sv (tAsg te (gName i)) ρ E := fun G H σ e st nd D d1 _ _ _ =>
  h G H σ e st nd _ fun v G1 H1 x1 s1 a1 r1 => d1 _ G1 H1 _ (stp_ev x1 a1 (fun q hq => by
    rcases adr_set hq with hq | hq
    · simp [adr1] at hq
    · exact .inl hq) (s1.set (s := .va w) r1 i) (nd_set0 rfl (by rw [a1]; exact nd))) k
/-- an own new list -/
theorem sv_asgL {i : Nat} {xs : List PyData} (h : Ev b te ρ (.l xs) ρ1) (k : ∀ p, p ∉ adr ρ1 → E.nx (ρ1.set i (.mu p xs))) : Sv (tAsg te (gName i)) ρ E := fun G H σ e st nd D d1 _ _ _ =>
  h G H σ e st nd _ fun v G1 H1 x1 s1 a1 ⟨p, vs, hv, h0, hg, hh, hd⟩ => by
    have hp : p ∉ adr ρ1 := fun hm => by
      rw [a1] at hm
      obtain ⟨_, us, hu⟩ := st.own hm
      rw [h0] at hu; cases hu
    exact d1 _ G1 H1 _ (stp_ev x1 a1 (fun q hq => by
      rcases adr_set hq with hq | hq
      · have hq : q = p := by simpa [adr1] using hq
        right; rw [hq]; exact h0
      · exact .inl hq) (s1.set (s := .mu p xs) ⟨hv, hg, vs, hh, hd⟩ i) (nd_setN (by rw [a1]; exact nd) hp)) (k p hp)
theorem sv_ret (h : Ev b te ρ (.d x) ρ1) (k : E.rt (.d x) ρ1) : Sv (tRet te) ρ E := fun G H σ e st nd D _ d2 _ _ =>
  h G H σ e st nd _ fun v G1 H1 x1 s1 a1 r1 => d2 (.d x) v ρ1 G1 H1 σ (stp_ev x1 a1 (fun q hq => .inl hq) s1 (by rw [a1]; exact nd)) r1 k
theorem sv_retV {w : V} (h : Ev b te ρ (.va w) ρ1) (k : E.rt (.va w) ρ1) : Sv (tRet te) ρ E := fun G H σ e st nd D _ d2 _ _ =>
  h G H σ e st nd _ fun v G1 H1 x1 s1 a1 r1 => d2 (.va w) v ρ1 G1 H1 σ (stp_ev x1 a1 (fun q hq => .inl hq) s1 (by rw [a1]; exact nd)) r1 k
/-- a new list, or one's own, is handed over -/
theorem sv_retL {xs : List PyData} (h : Ev b te ρ (.l xs) ρ1) (k : E.rt (.l xs) ρ1) : Sv (tRet te) ρ E := fun G H σ e st nd D _ d2 _ _ =>
  h G H σ e st nd _ fun v G1 H1 x1 s1 a1 ⟨p, vs, hv, h0, hg, hh, hd⟩ => d2 (.l xs) v ρ1 G1 H1 σ (stp_ev x1 a1 (fun q hq => .inl hq) s1 (by rw [a1]; exact nd)) ⟨p, vs, hv, .inr h0, hg, hh, hd⟩ k
theorem sv_retO {i : Nat} {p : Addr} {xs : List PyData} (hi : ρ[i]? = some (.mu p xs)) (k : E.rt (.l xs) ρ) : Sv (tRet (tVar i)) ρ E := fun G H σ e st nd D _ d2 _ _ => by
  obtain ⟨m1, m2, vs, m3, m4⟩ := st.muget hi
  exact ⟨.ref p, m1, d2 (.l xs) (.ref p) ρ G H σ (Stp.refl e st nd) ⟨p, vs, rfl, .inl (mem_adr hi), m2, m3, m4⟩ k⟩
theorem sv_retN (k : E.rt (.d .none) ρ) : Sv tRetN ρ E := fun G H σ e st nd D _ d2 _ _ => d2 (.d .none) _ ρ G H σ (Stp.refl e st nd) .non k
theorem sv_if {c : Bool} (h : EvT b tt ρ c ρ1) (h1 : c = true → Sv t ρ1 E) (h2 : c = false → Sv u ρ1 E) : Sv (tIfS tt t u) ρ E := fun G H σ e st nd D d1 d2 d3 d4 =>
  h G H σ e st nd _ fun G1 H1 x1 s1 a1 => by
    have nd1 : (adr ρ1).Nodup := by rw [a1]; exact nd
    have s0 : Stp ρ G H ρ1 G1 H1 σ := stp_ev x1 a1 (fun q hq => .inl hq) s1 nd1
    cases c with
    | true => exact h1 rfl G1 H1 σ x1.gh s1 nd1 D (fun ρ' G' H' σ' s w => d1 ρ' G' H' σ' (s0.trans s) w) (fun r v ρ' G' H' σ' s w => d2 r v ρ' G' H' σ' (s0.trans s) (w.via s0)) (fun ρ' G' H' σ' s w => d3 ρ' G' H' σ' (s0.trans s) w) (fun ρ' G' H' σ' s w => d4 ρ' G' H' σ' (s0.trans s) w)
    | false => exact h2 rfl G1 H1 σ x1.gh s1 nd1 D (fun ρ' G' H' σ' s w => d1 ρ' G' H' σ' (s0.trans s) w) (fun r v ρ' G' H' σ' s w => d2 r v ρ' G' H' σ' (s0.trans s) (w.via s0)) (fun ρ' G' H' σ' s w => d3 ρ' G' H' σ' (s0.trans s) w) (fun ρ' G' H' σ' s w => d4 ρ' G' H' σ' (s0.trans s) w)
theorem sv_drop (h : Ev b te ρ r ρ1) (k : E.nx ρ1) : Sv (tDrop te) ρ E := fun G H σ e st nd D d1 _ _ _ =>
  h G H σ e st nd _ fun v G1 H1 x1 s1 a1 r1 => d1 _ G1 H1 _ (stp_ev x1 a1 (fun q hq => .inl hq) s1 (by rw [a1]; exact nd)) k
theorem sv_brk (k : E.bk ρ) : Sv tBreak ρ E := fun G H σ e st nd D _ _ d3 _ => d3 ρ G H σ (Stp.refl e st nd) k
theorem sv_cont (k : E.ct ρ) : Sv tCont ρ E := fun G H σ e st nd D _ _ _ d4 => d4 ρ G H σ (Stp.refl e st nd) k
/-- the list of slot i is handed to the world -/
theorem sv_fz (i : Nat) {p : Addr} {xs : List PyData} (hi : ρ[i]? = some (.mu p xs)) (h : Sv t (ρ.set i (.dat (.list xs))) E) : Sv t ρ E := fun G H σ e st nd D d1 d2 d3 d4 => by
  obtain ⟨m1, m2, vs, m3, m4⟩ := st.muget hi
  obtain ⟨G1, e1, s1, n1, k⟩ := bor_core hi e st nd
  -- the world with p
  have e2 : Ex (upd G p (.lst vs)) H := fun c o hc => by
    by_cases hb : c = p
    · subst hb; rw [upd_same] at hc; rw [← hc]; exact m3
    · rw [upd_ne hb] at hc; exact e c o hc
  have hsub : ∀ q ∈ adr (ρ.set i (.dat (.list xs))), q ∈ adr ρ := fun q hq => by
    rcases adr_set hq with hq | hq
    · simp [adr1] at hq
    · exact hq
  have hnp : p ∉ adr (ρ.set i (.dat (.list xs))) := fun hq => by
    have key : ∀ {ρ : En} {i : Nat}, (adr ρ).Nodup → ρ[i]? = some (.mu p xs) → p ∉ adr (ρ.set i (.dat (.list xs))) := by
      intro ρ
      induction ρ with
      | nil => intro i _ h; simp at h
      | cons s r ih =>
        intro i n h1 h2
        rw [adr_cons] at n
        obtain ⟨n1, n2, n3⟩ := List.nodup_append.mp n
        cases i with
        | zero =>
          simp at h1; subst h1
          rw [List.set_cons_zero, adr_cons] at h2
          exact n3 p (by simp [adr1]) p (by simpa [adr1] using h2) rfl
        | succ i =>
          have h1' : r[i]? = some (.mu p xs) := by simpa using h1
          rw [List.set_cons_succ, adr_cons] at h2
          rcases List.mem_append.mp h2 with h2 | h2
          · exact n3 p h2 p (mem_adr h1') rfl
          · exact ih n2 h1' h2
    exact key nd hi hq
  have st2 : StOk (upd G p (.lst vs)) H σ (ρ.set i (.dat (.list xs))) := by
    have q1 := (st.un' i).fz (o := .lst vs) m2 (by
      intro hq
      have h2 : adr (ρ.set i .un) = adr (ρ.set i (.dat (.list xs))) := by
        have : ∀ (ρ : En) (i : Nat), adr (ρ.set i .un) = adr (ρ.set i (.dat (.list xs))) := by
          intro ρ
          induction ρ with
          | nil => intro i; rfl
          | cons s r ih =>
            intro i
            cases i with
            | zero => rw [List.set_cons_zero, List.set_cons_zero, adr_cons, adr_cons]; rfl
            | succ i => rw [List.set_cons_succ, List.set_cons_succ, adr_cons, adr_cons, ih]
        exact this ρ i
      rw [h2] at hq; exact hnp hq)
    rw [StOk.iff] at q1 ⊢
    obtain ⟨l, k⟩ := q1
    refine ⟨by rw [List.length_set] at l ⊢; exact l, fun j o s h1 h2 => ?_⟩
    by_cases hj : i = j
    · subst hj
      have hlt : i < ρ.length := (List.getElem?_eq_some_iff.mp hi).1
      rw [List.getElem?_set_self hlt] at h2
      rw [m1] at h1
      have h1 := Option.some.inj h1
      have h2 := Option.some.inj h2
      subst h1; subst h2
      exact .inr ⟨_, rfl, .lst upd_same (dqs_mono (Ex.new m2) m4)⟩
    · exact k j o s h1 (by rw [List.getElem?_set_ne hj] at h2 ⊢; exact h2)
  have back : ∀ {ρ' G' H' σ'}, Stp (ρ.set i (.dat (.list xs))) (upd G p (.lst vs)) H ρ' G' H' σ' → Stp ρ G H ρ' G' H' σ' := fun s =>
    ⟨⟨(Ex.new m2).trans s.x.gg, s.x.gh, fun c o hc h => s.x.fr c o (fun z => hc (hsub c z)) h, s.x.th, fun c hc h1 h2 => by
      have hcp : c ≠ p := fun z => hc (by rw [z]; exact mem_adr hi)
      exact s.x.nw c (fun z => hc (hsub c z)) (by rw [upd_ne hcp]; exact h1) h2⟩, fun q hq => (s.a q hq).imp (hsub q) id, s.s, s.n⟩
  exact h _ H σ e2 st2 (nd_set0 rfl nd) D (fun ρ' G' H' σ' s w => d1 ρ' G' H' σ' (back s) w) (fun r v ρ' G' H' σ' s w => d2 r v ρ' G' H' σ' (back s) (w.sub hsub)) (fun ρ' G' H' σ' s w => d3 ρ' G' H' σ' (back s) w) (fun ρ' G' H' σ' s w => d4 ρ' G' H' σ' (back s) w)
/-- less is known -/
def Wk : En → En → Prop
  | [], [] => True
  | s :: ρ, s' :: ρ' => (s' = .un ∨ s' = s) ∧ Wk ρ ρ'
  | _, _ => False
theorem Wk.refl : ∀ ρ, Wk ρ ρ
  | [] => trivial
  | s :: ρ => ⟨.inr rfl, Wk.refl ρ⟩
theorem Wk.st {G H : Hp} : ∀ {σ : L2.St} {ρ ρ' : En}, Wk ρ ρ' → StOk G H σ ρ → StOk G H σ ρ'
  | _, [], [], _, h => h
  | _, s :: ρ, s' :: ρ', w, .cons h t => by
    obtain ⟨w1, w2⟩ := w
    refine .cons ?_ (Wk.st w2 t)
    rcases w1 with w1 | w1
    · exact .inl w1
    · rw [w1]; exact h
  | _, [], _ :: _, w, _ => w.elim
  | _, _ :: _, [], w, _ => w.elim
theorem Wk.sub : ∀ {ρ ρ' : En}, Wk ρ ρ' → (adr ρ').Sublist (adr ρ)
  | [], [], _ => List.Sublist.refl _
  | s :: ρ, s' :: ρ', w => by
    rw [adr_cons, adr_cons]
    rcases w.1 with h | h
    · rw [h]; exact (Wk.sub w.2).trans (List.sublist_append_right _ _)
    · rw [h]; exact (List.Sublist.refl _).append (Wk.sub w.2)
  | [], _ :: _, w => w.elim
  | _ :: _, [], w => w.elim
theorem Stp.wk {G H G' H' : Hp} {σ' : L2.St} (s : Stp ρ G H ρ1 G' H' σ') (w : Wk ρ1 ρ2) : Stp ρ G H ρ2 G' H' σ' :=
  ⟨s.x, fun q hq => s.a q (w.sub.subset hq), w.st s.s, s.n.sublist w.sub⟩
/-- for -/
theorem sv_for {wi : TI} {g : TG} {ds : List PyData} (hi : EvI b wi ρ ds ρ1) (bs : Nat → PyData → List (Nat × PyData)) (hg : ∀ (i : Nat) d, ds[i]? = some d → Gv g d (bs i d)) (Iv : Nat → En → Prop) (h0 : ∃ ρ', Wk ρ1 ρ' ∧ Iv 0 ρ')
    (hs : ∀ (i : Nat) d ρ2, ds[i]? = some d → Iv i ρ2 → Sv t (sets ρ2 (bs i d)) { E with nx := fun ρ' => ∃ ρ'', Wk ρ' ρ'' ∧ Iv (i + 1) ρ'', ct := fun ρ' => ∃ ρ'', Wk ρ' ρ'' ∧ Iv (i + 1) ρ'', bk := E.nx }) (hd : ∀ ρ2, Iv ds.length ρ2 → E.nx ρ2) : Sv (tFor wi g t) ρ E := fun G H σ e st nd D d1 d2 d3 d4 =>
  hi G H σ e st nd _ fun J G1 H1 x1 s1 a1 hJ => by
    have nd1 : (adr ρ1).Nodup := by rw [a1]; exact nd
    have s0 : Stp ρ G H ρ1 G1 H1 σ := stp_ev x1 a1 (fun q hq => .inl hq) s1 nd1
    obtain ⟨ρ0, w0, i0⟩ := h0
    refine ⟨fun i m σ' H' => i + m = ds.length ∧ ∃ ρ' G', Stp ρ G H ρ' G' H' σ' ∧ Ex G1 G' ∧ Iv i ρ', ⟨ds.length, by simp, ρ0, G1, s0.wk w0, Ex.refl _, i0⟩, fun i m σ' H' hW => ?_⟩
    obtain ⟨hm, ρ', G', s, eg, hI⟩ := hW
    obtain ⟨hstop, hgo⟩ := hJ G' H' eg s.x.gh
    by_cases hlt : i < ds.length
    · obtain ⟨d, hdd⟩ : ∃ d, ds[i]? = some d := ⟨ds[i], by simp [hlt]⟩
      obtain ⟨hgo1, hy⟩ := hgo i d hdd
      refine .inr ⟨hgo1, fun σ3 H3 => ∃ ρ3 G3, Stp ρ G H ρ3 G3 H3 σ3 ∧ Ex G1 G3 ∧ Iv (i + 1) ρ3, fun σ3 H3 h3 => ⟨m - 1, by omega, by omega, h3⟩, fun v H2 hv => ?_⟩
      obtain ⟨G2, x2, hd2⟩ := hy v H2 hv
      refine hg i d hdd G2 H2 σ' ρ' v x2.gh (s.s.mono x2) hd2 _ fun σ2 s2 _ _ => ?_
      have st2 : Stp ρ G H (sets ρ' (bs i d)) G2 H2 σ2 := ⟨s.x.trans (x2.up (M := adr ρ')) s.a, fun q hq => s.a q (adr_sets hq), s2, nd_sets s.n⟩
      have eg2 : Ex G1 G2 := eg.trans x2.gg
      exact hs i d ρ' hdd hI G2 H2 σ2 x2.gh s2 (nd_sets s.n) _
        (fun ρ3 G3 H3 σ3 s3 ⟨ρ4, w4, k⟩ => ⟨ρ4, G3, (st2.trans s3).wk w4, eg2.trans s3.x.gg, k⟩)
        (fun r v ρ3 G3 H3 σ3 s3 w k => d2 r v ρ3 G3 H3 σ3 (st2.trans s3) (w.via st2) k)
        (fun ρ3 G3 H3 σ3 s3 k => d1 ρ3 G3 H3 σ3 (st2.trans s3) k)
        (fun ρ3 G3 H3 σ3 s3 ⟨ρ4, w4, k⟩ => ⟨ρ4, G3, (st2.trans s3).wk w4, eg2.trans s3.x.gg, k⟩)
    · have ei : i = ds.length := by omega
      subst ei
      exact .inl ⟨hstop, d1 ρ' G' H' σ' s (hd ρ' hI)⟩
/-- while, by a word and a measure -/
theorem sv_while (Iv : Nat → En → Prop) (m0 : Nat) (h0 : ∃ ρ', Wk ρ ρ' ∧ Iv m0 ρ')
    (hs : ∀ m ρ2, Iv m ρ2 → ∃ b c ρ3, EvT b tt ρ2 c ρ3 ∧ (c = true → Sv t ρ3 { E with nx := fun ρ' => ∃ m' ρ'', m' < m ∧ Wk ρ' ρ'' ∧ Iv m' ρ'', ct := fun ρ' => ∃ m' ρ'', m' < m ∧ Wk ρ' ρ'' ∧ Iv m' ρ'', bk := E.nx }) ∧ (c = false → E.nx ρ3)) : Sv (tWhile tt t) ρ E := fun G H σ e st nd D d1 d2 d3 d4 => by
  obtain ⟨ρ0, w0, i0⟩ := h0
  refine ⟨fun m σ' H' => ∃ ρ' G', Stp ρ G H ρ' G' H' σ' ∧ Iv m ρ', ⟨m0, ρ0, G, (Stp.refl e st nd).wk w0, i0⟩, fun m σ' H' hW => ?_⟩
  obtain ⟨ρ', G', s, hI⟩ := hW
  obtain ⟨bb, c, ρ3, ht, k1, k2⟩ := hs m ρ' hI
  refine ht G' H' σ' s.x.gh s.s s.n _ fun G3 H3 x3 s3 a3 => ?_
  have n3 : (adr ρ3).Nodup := by rw [a3]; exact s.n
  have st3 : Stp ρ G H ρ3 G3 H3 σ' := s.trans (stp_ev x3 a3 (fun q hq => .inl hq) s3 n3)
  cases c with
  | false => exact d1 ρ3 G3 H3 σ' st3 (k2 rfl)
  | true =>
    refine ⟨fun σ4 H4 => ∃ m', m' < m ∧ ∃ ρ' G', Stp ρ G H ρ' G' H4 σ4 ∧ Iv m' ρ', fun σ4 H4 ⟨m', hm, h⟩ => ⟨m', hm, h⟩, ?_⟩
    exact k1 rfl G3 H3 σ' x3.gh s3 n3 _
      (fun ρ4 G4 H4 σ4 s4 ⟨m', ρ5, hm, w5, k⟩ => ⟨m', hm, ρ5, G4, (st3.trans s4).wk w5, k⟩)
      (fun r v ρ4 G4 H4 σ4 s4 w k => d2 r v ρ4 G4 H4 σ4 (st3.trans s4) (w.via st3) k)
      (fun ρ4 G4 H4 σ4 s4 k => d1 ρ4 G4 H4 σ4 (st3.trans s4) k)
      (fun ρ4 G4 H4 σ4 s4 ⟨m', ρ5, hm, w5, k⟩ => ⟨m', hm, ρ5, G4, (st3.trans s4).wk w5, k⟩)
end
end Kn

namespace Kn
open PySem L2

section
variable {b : Bool} {ρ ρ1 ρ2 ρ3 : En} {ta tb tc te : TE} {t u : TS} {tt : TT} {x y z : PyData} {r : Rv} {K : PySem.W.Frag} {E E' : Ens}
/-! ### own lists changed -/
theorem own_step {G H G1 H1 : Hp} {σ : L2.St} {i : Nat} {p : Addr} {xs ys : List PyData} {us : List V} (st : StOk G H σ ρ) (x1 : Ext (ws b ρ) G H G1 H1) (s1 : StOk G1 H1 σ ρ1) (a1 : adr ρ1 = adr ρ) (nd : (adr ρ).Nodup) (hi : ρ1[i]? = some (.mu p xs)) (hd : DqA G1 us ys) :
    Ext (ws true ρ) G H G1 (upd H1 p (.lst us)) ∧ StOk G1 (upd H1 p (.lst us)) σ (ρ1.set i (.mu p ys)) ∧ adr (ρ1.set i (.mu p ys)) = adr ρ := by
  obtain ⟨m1, m2, vs, m3, m4⟩ := s1.muget hi
  have hm : p ∈ adr ρ := by rw [← a1]; exact mem_adr hi
  have x0 : Ext (adr ρ) G H G1 H1 := by
    cases b with
    | true => exact x1
    | false => exact Ext.up x1
  exact ⟨x0.tr (Ext.set x1.gh hm m2), s1.chg hd (by rw [a1]; exact nd) hi, (adr_upd hi).trans a1⟩
theorem ev_append {i : Nat} {p : Addr} {xs : List PyData} (h : Ev b te ρ (.d x) ρ1) (hi0 : ∃ ys, ρ[i]? = some (.mu p ys)) (hi : ρ1[i]? = some (.mu p xs)) (hl : xs.length ≤ 1000000) : Ev true (tBM K "list" rAppend (tVar i) (tCons te tNil)) ρ (.d .none) (ρ1.set i (.mu p (xs ++ [x]))) := fun G H σ e st nd Q q => by
  obtain ⟨ys, hy⟩ := hi0
  obtain ⟨m1, m2, vs, m3, m4⟩ := st.muget hy
  refine ⟨.ref p, m1, .inl ⟨rfl, vs, .inl (.inl m3)⟩, ?_⟩
  refine h G H σ e st nd _ fun v G1 H1 x1 s1 a1 k1 => ?_
  obtain ⟨n1, n2, us, n3, n4⟩ := s1.muget hi
  refine ⟨p, us, v, rfl, rfl, n3, by rw [n4.len, sizeLine_eq]; omega, ?_⟩
  obtain ⟨y1, y2, y3⟩ := own_step st x1 s1 a1 nd hi (n4.app (.cons k1 .nil))
  exact q _ _ _ y1 y2 y3 .non
theorem ev_setix {i : Nat} {p : Addr} {xs : List PyData} {j : Int} {k : Nat} (h : Ev b te ρ (.d x) ρ1) (hj : Ev false tb ρ1 (.d (.int j)) ρ1) (hi : ρ1[i]? = some (.mu p xs)) (hk : ixN xs.length j = some k) (hn : E.nx (ρ1.set i (.mu p (xs.set k x)))) : Sv (tAsg te (gSub (tVar i) tb rSetL)) ρ E := fun G H σ e st nd D d1 _ _ _ =>
  h G H σ e st nd _ fun v G1 H1 x1 s1 a1 k1 => by
    obtain ⟨n1, n2, us, n3, n4⟩ := s1.muget hi
    refine ⟨.ref p, n1, ?_⟩
    refine hj G1 H1 σ x1.gh s1 (by rw [a1]; exact nd) _ fun w G2 H2 x2 s2 a2 k2 => ?_
    cases k2
    obtain ⟨n1, n2, us, n3, n4⟩ := s2.muget hi
    refine ⟨p, us, j, k, rfl, rfl, n3, by rw [n4.len]; exact hk, ?_⟩
    have y0 : Ext (ws b ρ) G H G2 H2 := x1.then x2.up a1
    obtain ⟨y1, y2, y3⟩ := own_step st y0 s2 a1 nd hi (DqA.set (dq_mono x2.gg k1) k n4)
    exact d1 _ G2 _ σ (stp_ev (b := true) y1 a1 (fun q hq => .inl (by rw [y3, ← a1] at hq; exact hq)) y2 (by rw [y3]; exact nd)) hn
theorem ev_insert {i : Nat} {p : Addr} {xs : List PyData} {j : Int} {r0 : V → List V → Hp → VK → Prop} (hr0 : r0 = fun x vs H Q => ∃ (l : Addr) (zs : List V) (i : Int) (y : V), x = .ref l ∧ vs = [.int i, y] ∧ H l = some (.lst zs) ∧ zs.length < sizeLine ∧ 0 ≤ i ∧ i < 2 ^ 63 ∧ Q .non (upd H l (.lst (zs.take i.toNat ++ [y] ++ zs.drop i.toNat))))
    (ha : Ev b ta ρ (.d (.int j)) ρ1) (h : Ev b te ρ1 (.d x) ρ2) (hi0 : ∃ ys, ρ[i]? = some (.mu p ys)) (hi : ρ2[i]? = some (.mu p xs)) (hl : xs.length ≤ 1000000) (h0 : 0 ≤ j ∧ j < 1000000000000) :
    Ev true (tBM K "list" r0 (tVar i) (tCons ta (tCons te tNil))) ρ (.d .none) (ρ2.set i (.mu p (xs.take j.toNat ++ [x] ++ xs.drop j.toNat))) := fun G H σ e st nd Q q => by
  subst hr0
  obtain ⟨ys, hy⟩ := hi0
  obtain ⟨m1, m2, vs, m3, m4⟩ := st.muget hy
  refine ⟨.ref p, m1, .inl ⟨rfl, vs, .inl (.inl m3)⟩, ?_⟩
  refine ha G H σ e st nd _ fun v0 G1 H1 x1 s1 a1 k1 => ?_
  refine h G1 H1 σ x1.gh s1 (by rw [a1]; exact nd) _ fun v G2 H2 x2 s2 a2 k2 => ?_
  cases k1
  obtain ⟨n1, n2, us, n3, n4⟩ := s2.muget hi
  refine ⟨p, us, j, v, rfl, rfl, n3, by rw [n4.len, sizeLine_eq]; omega, h0.1, by omega, ?_⟩
  obtain ⟨y1, y2, y3⟩ := own_step st (x1.then x2 a1) s2 (a2.trans a1) nd hi (((DqA.take j.toNat n4).app (.cons k2 .nil)).app (DqA.drop j.toNat n4))
  exact q _ _ _ y1 y2 y3 .non
theorem sq_ix {j : Int} {n k : Nat} (h : ixN n j = some k) : seqIndex? j n = some k ∧ k < n ∧ -(n : Int) ≤ j ∧ j < n := ixN_seq h
theorem ev_popAt {i : Nat} {p : Addr} {xs : List PyData} {j : Int} {k : Nat} (ha : Ev b ta ρ (.d (.int j)) ρ1) (hi0 : ∃ ys, ρ[i]? = some (.mu p ys)) (hi : ρ1[i]? = some (.mu p xs)) (hk : ixN xs.length j = some k) (hx : xs[k]? = some x) (hj : -1000000000000 < j ∧ j < 1000000000000) :
    Ev true (tBM K "list" rPopAt (tVar i) (tCons ta tNil)) ρ (.d x) (ρ1.set i (.mu p (xs.eraseIdx k))) := fun G H σ e st nd Q q => by
  obtain ⟨ys, hy⟩ := hi0
  obtain ⟨m1, m2, vs, m3, m4⟩ := st.muget hy
  refine ⟨.ref p, m1, .inl ⟨rfl, vs, .inl (.inl m3)⟩, ?_⟩
  refine ha G H σ e st nd _ fun v0 G1 H1 x1 s1 a1 k1 => ?_
  cases k1
  obtain ⟨n1, n2, us, n3, n4⟩ := s1.muget hi
  obtain ⟨v, v1, v2⟩ := n4.get' hx
  refine ⟨p, us, j, k, v, rfl, rfl, n3, by omega, by omega, by rw [n4.len]; exact (sq_ix hk).1, v1, ?_⟩
  obtain ⟨y1, y2, y3⟩ := own_step st x1 s1 a1 nd hi (DqA.eraseIdx k n4)
  exact q _ _ _ y1 y2 y3 v2
theorem DqA.dropLast {G : Hp} : ∀ {vs : List V} {ds : List PyData}, DqA G vs ds → DqA G vs.dropLast ds.dropLast
  | _, _, .nil => .nil
  | _, _, .cons _ .nil => .nil
  | _, _, .cons a (.cons b t) => .cons a (DqA.dropLast (.cons b t))
theorem ev_pop {i : Nat} {p : Addr} {xs : List PyData} (hi : ρ[i]? = some (.mu p xs)) (hx : xs[xs.length - 1]? = some x) :
    Ev true (tBM0 K "list" rPop (tVar i)) ρ (.d x) (ρ.set i (.mu p xs.dropLast)) := fun G H σ e st nd Q q => by
  obtain ⟨m1, m2, vs, m3, m4⟩ := st.muget hi
  refine ⟨.ref p, m1, .inl ⟨rfl, vs, .inl (.inl m3)⟩, ?_⟩
  obtain ⟨v, v1, v2⟩ := m4.get' hx
  refine ⟨p, vs, v, rfl, rfl, m3, by rw [m4.len]; exact v1, ?_⟩
  obtain ⟨y1, y2, y3⟩ := own_step (b := true) st (Ext.refl e) st rfl nd hi (DqA.dropLast m4)
  exact q _ _ _ y1 y2 y3 v2
/-- left.remove(k): the first k goes -/
theorem ev_remove {i : Nat} {p : Addr} {l : List Int} {k : Int} {j : Nat} (ha : Ev b ta ρ (.d (.int k)) ρ1) (hi0 : ∃ ys, ρ[i]? = some (.mu p ys)) (hi : ρ1[i]? = some (.mu p (l.map .int))) (hj : l[j]? = some k) (hno : ∀ m : Nat, m < j → l[m]? ≠ some k) :
    Ev true (tBM K "list" rRemI (tVar i) (tCons ta tNil)) ρ (.d .none) (ρ1.set i (.mu p ((l.eraseIdx j).map .int))) := fun G H σ e st nd Q q => by
  obtain ⟨ys, hy⟩ := hi0
  obtain ⟨m1, m2, vs, m3, m4⟩ := st.muget hy
  refine ⟨.ref p, m1, .inl ⟨rfl, vs, .inl (.inl m3)⟩, ?_⟩
  refine ha G H σ e st nd _ fun v0 G1 H1 x1 s1 a1 k1 => ?_
  cases k1
  obtain ⟨n1, n2, us, n3, n4⟩ := s1.muget hi
  have eu := of_dqs_ints n4
  subst eu
  refine ⟨p, l, k, j, rfl, rfl, n3, hj, hno, ?_⟩
  obtain ⟨y1, y2, y3⟩ := own_step st x1 s1 a1 nd hi (dqs_ints (H := G1) (l.eraseIdx j))
  exact q _ _ _ y1 y2 y3 .non
/-- n += e -/
theorem sv_aug {i : Nat} {f : Int → Int → Int} {m n : Int} (hi : ρ[i]? = some (.dat (.int m))) (h : Ev b te ρ (.d (.int n)) ρ1) (k : E.nx (ρ1.set i (.dat (.int (f m n))))) : Sv (tAug i te (ipI f)) ρ E := fun G H σ e st nd D d1 _ _ _ => by
  obtain ⟨v, v1, v2⟩ := st.get hi (by simp)
  cases v2
  refine ⟨_, v1, ?_⟩
  refine h G H σ e st nd _ fun w G1 H1 x1 s1 a1 r1 => ?_
  cases r1
  refine ⟨m, n, rfl, rfl, ?_⟩
  exact d1 _ G1 H1 _ (stp_ev x1 a1 (fun q hq => by
    rcases adr_set hq with hq | hq
    · simp [adr1] at hq
    · exact .inl hq) (s1.set (s := .dat (.int (f m n))) (Dq.int _) i) (nd_set0 rfl (by rw [a1]; exact nd))) k
/-- xs += ys, xs an own list -/
theorem sv_augL {i : Nat} {p : Addr} {xs ys zs : List PyData} (hi0 : ρ[i]? = some (.mu p xs)) (h : Ev b te ρ (.d (.list ys)) ρ1) (hi : ρ1[i]? = some (.mu p zs)) (hz : zs.length + ys.length ≤ 1000000) (k : E.nx (ρ1.set i (.mu p (zs ++ ys)))) : Sv (tAug i te rExt2) ρ E := fun G H σ e st nd D d1 _ _ _ => by
  obtain ⟨m1, m2, vs, m3, m4⟩ := st.muget hi0
  refine ⟨_, m1, ?_⟩
  refine h G H σ e st nd _ fun w G1 H1 x1 s1 a1 r1 => ?_
  obtain ⟨n1, n2, us, n3, n4⟩ := s1.muget hi
  cases r1 with
  | lst ha hs =>
    refine ⟨p, _, us, _, rfl, rfl, n3, x1.gh _ _ ha, by rw [n4.len, hs.len, sizeLine_eq]; omega, ?_⟩
    obtain ⟨y1, y2, y3⟩ := own_step st x1 s1 a1 nd hi (n4.app hs)
    have y2' := y2.set (s := .mu p (zs ++ ys)) (v := .ref p) ⟨rfl, n2, _, upd_same, n4.app hs⟩ i
    rw [List.set_set] at y2'
    exact d1 _ G1 _ _ (stp_ev (b := true) y1 a1 (fun q hq => .inl (by rw [y3, ← a1] at hq; exact hq)) y2' (by rw [y3]; exact nd)) k
/-- a, b = x, y -/
theorem sv_par {i j : Nat} {ta : TA} (h : EvA b ta ρ [.d x, .d y] ρ1) (k : E.nx ((ρ1.set i (.dat x)).set j (.dat y))) : Sv (tPar i j ta) ρ E := fun G H σ e st nd D d1 _ _ _ =>
  h G H σ e st nd _ fun vs G1 H1 x1 s1 a1 r1 => by
    have r2 := as_data (ds := [x, y]) r1
    cases r2 with
    | cons r3 r4 => cases r4 with
      | cons r5 r6 =>
        cases r6
        refine ⟨_, _, rfl, ?_⟩
        exact d1 _ G1 H1 _ (stp_ev x1 a1 (fun q hq => by
          rcases adr_set hq with hq | hq
          · simp [adr1] at hq
          · rcases adr_set hq with hq | hq
            · simp [adr1] at hq
            · exact .inl hq) ((s1.set (s := .dat x) r3 i).set (s := .dat y) r5 j) (nd_set0 rfl (nd_set0 rfl (by rw [a1]; exact nd)))) k
/-- a, b = e where e is a tuple of two -/
theorem sv_unp {i j : Nat} (h : Ev b te ρ (.d (.tuple [x, y])) ρ1) (k : E.nx ((ρ1.set i (.dat x)).set j (.dat y))) : Sv (tAsg te (gTup K 2 (gCons (gName i) (gCons (gName j) gNil)))) ρ E := fun G H σ e st nd D d1 _ _ _ =>
  h G H σ e st nd _ fun v G1 H1 x1 s1 a1 r1 => by
    have hg := gv_tup2 (K := K) (i := i) (j := j) (x := x) (y := y)
    refine hg G1 H1 σ ρ1 v x1.gh s1 r1 _ fun σ2 s2 _ _ => ?_
    exact d1 _ G1 H1 _ (stp_ev x1 a1 (fun q hq => .inl (adr_sets (bs := [(i, x), (j, y)]) hq)) s2 (nd_sets (bs := [(i, x), (j, y)]) (by rw [a1]; exact nd))) k

/-! ### a def's body -/
def slots0 (n : Nat) (ds : List PyData) : En := ds.map Sl.dat ++ List.replicate (n - ds.length) .un
theorem st_dats {G H : Hp} : ∀ {vs : List V} {ds : List PyData}, DqA G vs ds → StOk G H (vs.map some) (ds.map Sl.dat)
  | _, _, .nil => .nil
  | _, _, .cons h t => .cons (.inr ⟨_, rfl, h⟩) (st_dats t)
theorem st_app {G H : Hp} {σ' : List (Option V)} {ρ' : En} (h' : StOk G H σ' ρ') : ∀ {σ : List (Option V)} {ρ : En}, StOk G H σ ρ → StOk G H (σ ++ σ') (ρ ++ ρ')
  | _, _, .nil => h'
  | _, _, .cons h t => .cons h (st_app h' t)
theorem st_uns {G H : Hp} : ∀ n, StOk G H (List.replicate n none) (List.replicate n .un)
  | 0 => .nil
  | n + 1 => .cons (.inl rfl) (st_uns n)
theorem adr_app : ∀ (ρ ρ' : En), adr (ρ ++ ρ') = adr ρ ++ adr ρ'
  | [], _ => rfl
  | s :: ρ, ρ' => by rw [List.cons_append, adr_cons, adr_cons, adr_app, List.append_assoc]
theorem adr_uns : ∀ n, adr (List.replicate n .un) = []
  | 0 => rfl
  | n + 1 => by rw [List.replicate_succ, adr_cons, adr_uns n]; rfl
theorem adr_dats : ∀ ds : List PyData, adr (ds.map Sl.dat) = []
  | [] => rfl
  | d :: ds => by rw [List.map_cons, adr_cons, adr_dats ds]; rfl
theorem bodyD {N : List Str} {R : List PyData → Rv → Prop} {vs : List V} {H : Hp} {Q : VK} {E : XK} (h : spD R vs H Q E)
    (k : ∀ ds r, R ds r → Sv t (slots0 N.length ds) { nx := fun _ => r = .d .none, rt := fun r' _ => r' = r }) : t { nx := fun _ H' => Q .non H', rt := Q } (L2.start N vs) H := by
  obtain ⟨G, ds, r, e, hd, hR, q⟩ := h
  have hst : StOk G H (L2.start N vs) (slots0 N.length ds) := by
    unfold L2.start slots0
    rw [hd.len]
    exact st_app (st_uns _) (st_dats hd)
  have ha : adr (slots0 N.length ds) = [] := by unfold slots0; rw [adr_app, adr_dats, adr_uns]; rfl
  refine k ds r hR G H _ e hst (by rw [ha]; exact List.nodup_nil) _ (fun ρ' G' H' σ' s w => ?_) (fun r' v ρ' G' H' σ' s w z => ?_) (fun ρ' G' H' σ' s w => w.elim) (fun ρ' G' H' σ' s w => w.elim)
  · have x := s.x
    rw [ha] at x
    refine q _ G' H' x ?_
    rw [w]; exact .non
  · have x := s.x
    rw [ha] at x
    subst z
    refine q v G' H' x ?_
    cases r' with
    | d d => exact w
    | va u => exact w
    | l xs =>
      obtain ⟨p, vs, e1, e2, e3⟩ := w
      exact ⟨p, vs, e1, e2.resolve_left (by rw [ha]; simp), e3⟩
theorem lenD {R : List PyData → Rv → Prop} {n : Nat} (h : ∀ ds r, R ds r → ds.length = n) : ∀ vs H Q E, spD R vs H Q E → vs.length = n := fun vs H Q E q => by
  obtain ⟨G, ds, r, e, hd, hR, _⟩ := q
  rw [hd.len]; exact h ds r hR
def slotsO (n : Nat) (p : Addr) (xs ds : List PyData) : En := .mu p xs :: (ds.map Sl.dat ++ List.replicate (n - 1 - ds.length) .un)
theorem bodyO {N : List Str} {R : List PyData → List PyData → Rv → List PyData → Prop} {vs : List V} {H : Hp} {Q : VK} {E : XK} (h : spO R vs H Q E) (hnl : ∀ xs ds r ys, R xs ds r ys → ∀ l, r ≠ .l l)
    (k : ∀ p xs ds r ys, R xs ds r ys → Sv t (slotsO N.length p xs ds) { nx := fun ρ' => r = .d .none ∧ ρ'[0]? = some (.mu p ys), rt := fun r' ρ' => r' = r ∧ ρ'[0]? = some (.mu p ys) }) : t { nx := fun _ H' => Q .non H', rt := Q } (L2.start N vs) H := by
  obtain ⟨G, p, us, ws, xs, ds, r, ys, e, rfl, hp, hg, hus, hd, hR, q⟩ := h
  have hst : StOk G H (L2.start N (.ref p :: ws)) (slotsO N.length p xs ds) := by
    unfold L2.start slotsO
    refine .cons (.inr ⟨_, rfl, rfl, hg, us, hp, hus⟩) ?_
    have e1 : N.length - (V.ref p :: ws).length = N.length - 1 - ds.length := by rw [List.length_cons, hd.len]; omega
    rw [e1]
    exact st_app (st_uns _) (st_dats hd)
  have ha : adr (slotsO N.length p xs ds) = [p] := by unfold slotsO; rw [adr_cons, adr_app, adr_dats, adr_uns]; rfl
  have fin : ∀ {r' v ρ' G' H' σ'}, Stp (slotsO N.length p xs ds) G H ρ' G' H' σ' → RtOk (slotsO N.length p xs ds) H G' H' v r' → r' = r → ρ'[0]? = some (.mu p ys) → Q v H' := by
    intro r' v ρ' G' H' σ' s w z hi
    have x := s.x
    rw [ha] at x
    obtain ⟨_, n2, us', n3, n4⟩ := s.s.muget hi
    subst z
    refine q v G' H' us' x n3 n2 n4 ?_
    cases r' with
    | d d => exact w
    | va u => exact w
    | l l => exact absurd rfl (hnl _ _ _ _ hR l)
  refine k p xs ds r ys hR G H _ e hst (by rw [ha]; simp) _ (fun ρ' G' H' σ' s w => ?_) (fun r' v ρ' G' H' σ' s w z => fin s w z.1 z.2) (fun ρ' G' H' σ' s w => w.elim) (fun ρ' G' H' σ' s w => w.elim)
  exact fin (r' := .d .none) (v := .non) s .non w.1.symm w.2
theorem lenO {R : List PyData → List PyData → Rv → List PyData → Prop} {n : Nat} (h : ∀ xs ds r ys, R xs ds r ys → ds.length + 1 = n) : ∀ vs H Q E, spO R vs H Q E → vs.length = n := fun vs H Q E q => by
  obtain ⟨G, p, us, ws, xs, ds, r, ys, e, rfl, hp, hg, hus, hd, hR, _⟩ := q
  rw [List.length_cons, hd.len]; exact h xs ds r ys hR
end
end Kn

/-! rules of the machine that the hand layer lacks -/
namespace Kn
open PySem L2 PyProof.Rows
section
variable {prog : Program} {w : World} {A : Around} {E : Value → Shared → Prop} {s : Shared}
theorem call_fnK {id : String} {f : Builtin} {args : List Value} {kws : List (Str × Value)} {Q : Value → Shared → Prop} (hk : builtinKind id = none) (hp : plainId id = true) (hb : entryFor table id = some f) (ha : argsOk id ⟨args, kws⟩)
    (hc : wpAny (model prog w) A.in1 (f ⟨args, kws⟩) (fun fin s1 => match fin with
      | .done z => (match (Except.ok z : Result) with | .ok (.ret v) => Q v s1 | .ok _ => False | .error e => E e s1)
      | .again c => c.quiet = true ∧ codeAny (model prog w) A c (fun r s2 => match r with | .ok (.ret v) => Q v s2 | .ok _ => False | .error e => E e s2) s1) E s) : wpAny (model prog w) A (call (.builtin id) args kws) Q E s := by
  refine wpAny_call (codeAny_call_builtin hp hb ?_)
  simp only [checkBuiltinCall, hk]
  cases q : Manifest.signature? id with
  | none => exact wpAny_pure hc
  | some sig =>
    simp only [argsOk, q] at ha
    have e : Bind.checkArgs id sig ⟨args, kws⟩ = pure () := ha
    show wpAny _ A.in1 (Bind.checkArgs id sig ⟨args, kws⟩) _ _ s
    rw [e]; exact wpAny_pure hc
end

section
variable {prog : Program} {w : World} {A : Around} {R : Result → Shared → Prop} {I : Addr} {fp wr : List Addr} {n : Nat} {P : Nat → Value → Prop} {St : Nat → Heap → Prop}
/-- the loop of max, with any keywords -/
theorem max_loopK (W : Walks prog w A.in1 I fp wr n P St) (kws : List (Str × Value)) (bt : Nat → Nat → Bool) (cmp : CmpOf prog w A.in1 .Gt P bt) (S : Addr) (hSf : S ∉ fp) :
    ∀ (k j : Nat) (s : Shared) (vb : Value) (c : Nat), n - (j + 1) = k → j + 1 ≤ n → St (j + 1) s.heap → P (argBest bt j) vb → s.heap.get? S = some { cls := .type "list", dict := none, data := .seq #[vb, vb] c, slots := #[] } →
      (∀ v g tk, P (argBest bt (n - 1)) v → (∀ b o, b ∉ wr → b ≠ S → s.heap.get? b = some o → g.get? b = some o) → R (.ok (.ret v)) { s with heap := g, toks := tk }) → codeAny (model prog w) A (.builtin "max.loop" ⟨[.ref I, .none, .ref S], kws⟩) R s := by
  have outw : S ∉ wr := fun h => hSf (W.sub _ h)
  have nm : (toString "max" ++ toString ".loop" : String) = "max.loop" := by decide
  intro k
  induction k with
  | zero =>
    intro j s vb c hk hj st pb hS hR
    have ej : j + 1 = n := by omega
    refine codeAny_builtin F.entry_max_loop ?_; rw [Around.under_plainId F.plain_max_loop _]
    show wpAny _ A.in1 (Sem.bind (seqItems? (.ref S)) _) _ _ s
    refine wpAny_bind (wpAny_seqItems hS rfl ?_); show wpAny _ A.in1 (Sem.bind (tryCatch (pyNext (.ref I)) _) _) _ _ s
    refine wpAny_bind (wpAny_tryCatch (W.done s _ _ (ej ▸ st) fun g tk hk' => ?_))
    have hS2 := hk' S _ outw hS
    show wpAny _ A.in1 (Sem.bind (updateSeq S (fun _ => #[])) _) _ _ _
    refine wpAny_bind (wpAny_updateSeq hS2 rfl (wpAny_bind (wpAny_letGo (wpAny_pure ?_))))
    exact hR vb _ tk (by rw [← ej]; exact pb) fun b o h1 h2 e => (Heap.get?_update_other _ _ (Ne.symm h2)).trans (hk' b o h1 e)
  | succ k ih =>
    intro j s vb c hk hj st pb hS hR
    have lt : j + 1 < n := by omega
    refine codeAny_builtin F.entry_max_loop ?_; rw [Around.under_plainId F.plain_max_loop _]
    show wpAny _ A.in1 (Sem.bind (seqItems? (.ref S)) _) _ _ s
    refine wpAny_bind (wpAny_seqItems hS rfl ?_); show wpAny _ A.in1 (Sem.bind (tryCatch (pyNext (.ref I)) _) _) _ _ s
    refine wpAny_bind (wpAny_tryCatch (W.item (j + 1) s _ _ lt st fun v g tk hP st2 hk' => ?_))
    have hS2 := hk' S _ outw hS
    show wpAny _ A.in1 (Sem.bind (tryCatch (holding [v, v] (Sem.bind (richCompare .Gt v vb) _)) _) _) _ _ _
    refine wpAny_bind (wpAny_tryCatch (wpAny_holding (wpAny_bind (cmp (j + 1) (argBest bt j) v vb _ _ _ hP pb ?_))))
    refine wpAny_bind (wpAny_holding (wpAny_truthy_bool (wpAny_bind (wpAny_letGo (wpAny_pure ?_)))))
    cases hb : bt (j + 1) (argBest bt j) with
    | true =>
      simp only [if_true]
      refine wpAny_bind (wpAny_updateSeq hS2 rfl (wpAny_bind (wpAny_letGo ?_)))
      rw [nm]
      refine wpAny_pure ⟨plainId_quiet F.plain_max_loop _, ih (j + 1) _ v _ (by omega) lt (W.frame _ _ _ st2 fun b h1 o e => (Heap.get?_update_other _ _ (fun h : S = b => hSf (by rw [h]; exact h1))).trans e) (by simp only [argBest, hb, if_true]; exact hP) (Heap.get?_update_self _ hS2 rfl) fun v' g2 tk2 hP' hk2 => ?_⟩
      exact hR v' g2 tk2 hP' fun b o h1 h2 e => hk2 b o h1 h2 ((Heap.get?_update_other _ _ (Ne.symm h2)).trans (hk' b o h1 e))
    | false =>
      simp only [Bool.false_eq_true, if_false]
      refine wpAny_bind (wpAny_letGo ?_); rw [nm]
      refine wpAny_pure ⟨plainId_quiet F.plain_max_loop _, ih (j + 1) _ vb c (by omega) lt st2 (by simp only [argBest, hb, Bool.false_eq_true, if_false]; exact pb) hS2 fun v' g2 tk2 hP' hk2 => ?_⟩
      exact hR v' g2 tk2 hP' fun b o h1 h2 e => hk2 b o h1 h2 (hk' b o h1 e)
/-- max(x, default=d) -/
theorem max_default {E : Value → Shared → Prop} {s : Shared} {x d : Value} {Q : Value → Shared → Prop}
    (h : wpAny (model prog w) A.in1 (pyIter x) (fun it s₂ => ∃ I fp wr n P St bt, it = .ref I ∧ Walks prog w A.in1 I fp wr n P St ∧ St 0 s₂.heap ∧ (∀ b ∈ fp, b < s₂.heap.objs.size) ∧ CmpOf prog w A.in1 .Gt P bt ∧
      (0 < n → ∀ v g tk, P (argBest bt (n - 1)) v → (∀ b o, b ∉ wr → s₂.heap.get? b = some o → g.get? b = some o) → Q v { s₂ with heap := g, toks := tk }) ∧
      (n = 0 → ∀ g tk, (∀ b o, b ∉ wr → s₂.heap.get? b = some o → g.get? b = some o) → Q d { s₂ with heap := g, toks := tk })) E s) :
    wpAny (model prog w) A (call (.builtin "max") [x] [(Str.ofString "default", d)]) Q E s := by
  have nm : (toString "max" ++ toString ".loop" : String) = "max.loop" := by decide
  refine call_fnK F.kind_max F.plain_max F.entry_max (by unfold argsOk; kernel_rfl) ?_
  refine wpAny_bind (wpAny_of_eq (show Builtin.Builtins.bindParams "max" ["key", "default"] 0 ⟨[], [(Str.ofString "default", d)]⟩ = pure [none, some d] from rfl) ?_)
  refine wpAny_bind (wpAny_pure ?_)
  refine wpAny_bind (wpAny_mono h (fun it s₂ h₂ => ?_) fun _ _ e => e)
  obtain ⟨I, fp, wr, n, P, St, bt, rfl, W, st, hfp, cmp, h1, h2⟩ := h₂
  refine wpAny_bind (wpAny_newObj_type ?_)
  have hSf : s₂.heap.objs.size ∉ fp := fun hm => Nat.lt_irrefl _ (hfp _ hm)
  have outw : s₂.heap.objs.size ∉ wr := fun h => hSf (W.sub _ h)
  rw [nm]
  have st0 := W.frame _ _ _ st fun b _ o e => Heap.get?_push_of_some { cls := .type "list", dict := none, data := .seq #[] 0, slots := #[] } e
  have hS : (s₂.heap.push { cls := .type "list", dict := none, data := .seq #[] 0, slots := #[] }).get? s₂.heap.objs.size = some { cls := .type "list", dict := none, data := .seq #[] 0, slots := #[] } := Heap.get?_push_size _ rfl
  have nS : ∀ b o, s₂.heap.get? b = some o → b ≠ s₂.heap.objs.size := fun b o e => Nat.ne_of_lt (Heap.lt_size e)
  refine wpAny_pure ⟨plainId_quiet F.plain_max_loop _, ?_⟩
  refine codeAny_builtin F.entry_max_loop ?_; rw [Around.under_plainId F.plain_max_loop _]
  show wpAny _ A.in1 (Sem.bind (seqItems? (.ref s₂.heap.objs.size)) _) _ _ _
  refine wpAny_bind (wpAny_seqItems hS rfl ?_); show wpAny _ A.in1 (Sem.bind (tryCatch (pyNext (.ref I)) _) _) _ _ _
  by_cases hn : 0 < n
  · refine wpAny_bind (wpAny_tryCatch (W.item 0 _ _ _ hn st0 fun v g tk hP st2 hk' => ?_))
    have hS2 := hk' _ _ outw hS
    show wpAny _ A.in1 (Sem.bind (updateSeq s₂.heap.objs.size (fun _ => #[v, v])) _) _ _ _
    refine wpAny_bind (wpAny_updateSeq hS2 rfl ?_)
    rw [nm]
    refine wpAny_pure ⟨plainId_quiet F.plain_max_loop _, max_loopK W _ bt cmp _ hSf _ 0 _ v _ rfl hn (W.frame _ _ _ st2 fun b hbf o e => (Heap.get?_update_other _ _ (fun h : s₂.heap.objs.size = b => hSf (by rw [h]; exact hbf))).trans e) hP (Heap.get?_update_self _ hS2 rfl) fun v' g2 tk2 hP' hk2 => ?_⟩
    exact h1 hn v' g2 tk2 hP' fun b o hb e => hk2 b o hb (nS b o e) ((Heap.get?_update_other _ _ (Ne.symm (nS b o e))).trans (hk' b o hb (Heap.get?_push_of_some _ e)))
  · have e0 : n = 0 := by omega
    subst e0
    refine wpAny_bind (wpAny_tryCatch (W.done _ _ _ st0 fun g tk hk' => ?_))
    refine wpAny_bind (wpAny_rule ?_)
    exact wpAny_pure (h2 rfl g tk fun b o hb e => hk' b o hb (Heap.get?_push_of_some _ e))
end


section
variable {prog : Program} {w : World} {A : Around} {R : Result → Shared → Prop} {I : Addr} {fp wr : List Addr} {n : Nat} {P : Nat → Value → Prop} {St : Nat → Heap → Prop}
/-- the loop of min, with any keywords -/
theorem min_loopK (W : Walks prog w A.in1 I fp wr n P St) (kws : List (Str × Value)) (bt : Nat → Nat → Bool) (cmp : CmpOf prog w A.in1 .Lt P bt) (S : Addr) (hSf : S ∉ fp) :
    ∀ (k j : Nat) (s : Shared) (vb : Value) (c : Nat), n - (j + 1) = k → j + 1 ≤ n → St (j + 1) s.heap → P (argBest bt j) vb → s.heap.get? S = some { cls := .type "list", dict := none, data := .seq #[vb, vb] c, slots := #[] } →
      (∀ v g tk, P (argBest bt (n - 1)) v → (∀ b o, b ∉ wr → b ≠ S → s.heap.get? b = some o → g.get? b = some o) → R (.ok (.ret v)) { s with heap := g, toks := tk }) → codeAny (model prog w) A (.builtin "min.loop" ⟨[.ref I, .none, .ref S], kws⟩) R s := by
  have outw : S ∉ wr := fun h => hSf (W.sub _ h)
  have nm : (toString "min" ++ toString ".loop" : String) = "min.loop" := by decide
  intro k
  induction k with
  | zero =>
    intro j s vb c hk hj st pb hS hR
    have ej : j + 1 = n := by omega
    refine codeAny_builtin F.entry_min_loop ?_; rw [Around.under_plainId F.plain_min_loop _]
    show wpAny _ A.in1 (Sem.bind (seqItems? (.ref S)) _) _ _ s
    refine wpAny_bind (wpAny_seqItems hS rfl ?_); show wpAny _ A.in1 (Sem.bind (tryCatch (pyNext (.ref I)) _) _) _ _ s
    refine wpAny_bind (wpAny_tryCatch (W.done s _ _ (ej ▸ st) fun g tk hk' => ?_))
    have hS2 := hk' S _ outw hS
    show wpAny _ A.in1 (Sem.bind (updateSeq S (fun _ => #[])) _) _ _ _
    refine wpAny_bind (wpAny_updateSeq hS2 rfl (wpAny_bind (wpAny_letGo (wpAny_pure ?_))))
    exact hR vb _ tk (by rw [← ej]; exact pb) fun b o h1 h2 e => (Heap.get?_update_other _ _ (Ne.symm h2)).trans (hk' b o h1 e)
  | succ k ih =>
    intro j s vb c hk hj st pb hS hR
    have lt : j + 1 < n := by omega
    refine codeAny_builtin F.entry_min_loop ?_; rw [Around.under_plainId F.plain_min_loop _]
    show wpAny _ A.in1 (Sem.bind (seqItems? (.ref S)) _) _ _ s
    refine wpAny_bind (wpAny_seqItems hS rfl ?_); show wpAny _ A.in1 (Sem.bind (tryCatch (pyNext (.ref I)) _) _) _ _ s
    refine wpAny_bind (wpAny_tryCatch (W.item (j + 1) s _ _ lt st fun v g tk hP st2 hk' => ?_))
    have hS2 := hk' S _ outw hS
    show wpAny _ A.in1 (Sem.bind (tryCatch (holding [v, v] (Sem.bind (richCompare .Lt v vb) _)) _) _) _ _ _
    refine wpAny_bind (wpAny_tryCatch (wpAny_holding (wpAny_bind (cmp (j + 1) (argBest bt j) v vb _ _ _ hP pb ?_))))
    refine wpAny_bind (wpAny_holding (wpAny_truthy_bool (wpAny_bind (wpAny_letGo (wpAny_pure ?_)))))
    cases hb : bt (j + 1) (argBest bt j) with
    | true =>
      simp only [if_true]
      refine wpAny_bind (wpAny_updateSeq hS2 rfl (wpAny_bind (wpAny_letGo ?_)))
      rw [nm]
      refine wpAny_pure ⟨plainId_quiet F.plain_min_loop _, ih (j + 1) _ v _ (by omega) lt (W.frame _ _ _ st2 fun b h1 o e => (Heap.get?_update_other _ _ (fun h : S = b => hSf (by rw [h]; exact h1))).trans e) (by simp only [argBest, hb, if_true]; exact hP) (Heap.get?_update_self _ hS2 rfl) fun v' g2 tk2 hP' hk2 => ?_⟩
      exact hR v' g2 tk2 hP' fun b o h1 h2 e => hk2 b o h1 h2 ((Heap.get?_update_other _ _ (Ne.symm h2)).trans (hk' b o h1 e))
    | false =>
      simp only [Bool.false_eq_true, if_false]
      refine wpAny_bind (wpAny_letGo ?_); rw [nm]
      refine wpAny_pure ⟨plainId_quiet F.plain_min_loop _, ih (j + 1) _ vb c (by omega) lt st2 (by simp only [argBest, hb, Bool.false_eq_true, if_false]; exact pb) hS2 fun v' g2 tk2 hP' hk2 => ?_⟩
      exact hR v' g2 tk2 hP' fun b o h1 h2 e => hk2 b o h1 h2 (hk' b o h1 e)
/-- min(x, default=d) -/
theorem min_default {E : Value → Shared → Prop} {s : Shared} {x d : Value} {Q : Value → Shared → Prop}
    (h : wpAny (model prog w) A.in1 (pyIter x) (fun it s₂ => ∃ I fp wr n P St bt, it = .ref I ∧ Walks prog w A.in1 I fp wr n P St ∧ St 0 s₂.heap ∧ (∀ b ∈ fp, b < s₂.heap.objs.size) ∧ CmpOf prog w A.in1 .Lt P bt ∧
      (0 < n → ∀ v g tk, P (argBest bt (n - 1)) v → (∀ b o, b ∉ wr → s₂.heap.get? b = some o → g.get? b = some o) → Q v { s₂ with heap := g, toks := tk }) ∧
      (n = 0 → ∀ g tk, (∀ b o, b ∉ wr → s₂.heap.get? b = some o → g.get? b = some o) → Q d { s₂ with heap := g, toks := tk })) E s) :
    wpAny (model prog w) A (call (.builtin "min") [x] [(Str.ofString "default", d)]) Q E s := by
  have nm : (toString "min" ++ toString ".loop" : String) = "min.loop" := by decide
  refine call_fnK F.kind_min F.plain_min F.entry_min (by unfold argsOk; kernel_rfl) ?_
  refine wpAny_bind (wpAny_of_eq (show Builtin.Builtins.bindParams "min" ["key", "default"] 0 ⟨[], [(Str.ofString "default", d)]⟩ = pure [none, some d] from rfl) ?_)
  refine wpAny_bind (wpAny_pure ?_)
  refine wpAny_bind (wpAny_mono h (fun it s₂ h₂ => ?_) fun _ _ e => e)
  obtain ⟨I, fp, wr, n, P, St, bt, rfl, W, st, hfp, cmp, h1, h2⟩ := h₂
  refine wpAny_bind (wpAny_newObj_type ?_)
  have hSf : s₂.heap.objs.size ∉ fp := fun hm => Nat.lt_irrefl _ (hfp _ hm)
  have outw : s₂.heap.objs.size ∉ wr := fun h => hSf (W.sub _ h)
  rw [nm]
  have st0 := W.frame _ _ _ st fun b _ o e => Heap.get?_push_of_some { cls := .type "list", dict := none, data := .seq #[] 0, slots := #[] } e
  have hS : (s₂.heap.push { cls := .type "list", dict := none, data := .seq #[] 0, slots := #[] }).get? s₂.heap.objs.size = some { cls := .type "list", dict := none, data := .seq #[] 0, slots := #[] } := Heap.get?_push_size _ rfl
  have nS : ∀ b o, s₂.heap.get? b = some o → b ≠ s₂.heap.objs.size := fun b o e => Nat.ne_of_lt (Heap.lt_size e)
  refine wpAny_pure ⟨plainId_quiet F.plain_min_loop _, ?_⟩
  refine codeAny_builtin F.entry_min_loop ?_; rw [Around.under_plainId F.plain_min_loop _]
  show wpAny _ A.in1 (Sem.bind (seqItems? (.ref s₂.heap.objs.size)) _) _ _ _
  refine wpAny_bind (wpAny_seqItems hS rfl ?_); show wpAny _ A.in1 (Sem.bind (tryCatch (pyNext (.ref I)) _) _) _ _ _
  by_cases hn : 0 < n
  · refine wpAny_bind (wpAny_tryCatch (W.item 0 _ _ _ hn st0 fun v g tk hP st2 hk' => ?_))
    have hS2 := hk' _ _ outw hS
    show wpAny _ A.in1 (Sem.bind (updateSeq s₂.heap.objs.size (fun _ => #[v, v])) _) _ _ _
    refine wpAny_bind (wpAny_updateSeq hS2 rfl ?_)
    rw [nm]
    refine wpAny_pure ⟨plainId_quiet F.plain_min_loop _, min_loopK W _ bt cmp _ hSf _ 0 _ v _ rfl hn (W.frame _ _ _ st2 fun b hbf o e => (Heap.get?_update_other _ _ (fun h : s₂.heap.objs.size = b => hSf (by rw [h]; exact hbf))).trans e) hP (Heap.get?_update_self _ hS2 rfl) fun v' g2 tk2 hP' hk2 => ?_⟩
    exact h1 hn v' g2 tk2 hP' fun b o hb e => hk2 b o hb (nS b o e) ((Heap.get?_update_other _ _ (Ne.symm (nS b o e))).trans (hk' b o hb (Heap.get?_push_of_some _ e)))
  · have e0 : n = 0 := by omega
    subst e0
    refine wpAny_bind (wpAny_tryCatch (W.done _ _ _ st0 fun g tk hk' => ?_))
    refine wpAny_bind (wpAny_rule ?_)
    exact wpAny_pure (h2 rfl g tk fun b o hb e => hk' b o hb (Heap.get?_push_of_some _ e))
end

section
variable {prog : Program} {w : World} {A : Around} {R : Result → Shared → Prop} {I : Addr} {fp wr : List Addr} {n : Nat} {P : Nat → Value → Prop} {St : Nat → Heap → Prop}
/-- the loop of sum over truth values -/
theorem sumB_loop (W : Walks prog w A.in1 I fp wr n P St) (vb : Nat → Bool) (hval : ∀ i v, P i v → v = .bool (vb i)) (hn : n < 1000000000000) (S : Addr) (hSf : S ∉ fp) :
    ∀ (k i : Nat) (s : Shared) (tA : Tok) (c : Nat), n - i = k → i ≤ n → St i s.heap → s.heap.get? S = some { cls := .type "list", dict := none, data := .seq #[.int (preSum (fun j => if vb j then 1 else 0) i) tA] c, slots := #[] } →
      (∀ g tk t', (∀ b o, b ∉ wr → b ≠ S → s.heap.get? b = some o → g.get? b = some o) → R (.ok (.ret (.int (preSum (fun j => if vb j then 1 else 0) n) t'))) { s with heap := g, toks := tk }) → codeAny (model prog w) A (.builtin "sum.loop" ⟨[.ref I, .ref S, rawInt 0, rawInt 0], []⟩) R s := by
  have outw : S ∉ wr := fun h => hSf (W.sub _ h)
  have bnd : ∀ i, 0 ≤ preSum (fun j => if vb j then 1 else 0) i ∧ preSum (fun j => if vb j then (1 : Int) else 0) i ≤ i := by
    intro i
    induction i with
    | zero => exact ⟨Int.le_refl _, Int.le_refl _⟩
    | succ i ih =>
      simp only [preSum]
      cases vb i <;> simp <;> omega
  intro k
  induction k with
  | zero =>
    intro i s tA c hk hi st hS hR
    have ei : i = n := by omega
    subst ei
    refine codeAny_builtin F.entry_sum_loop ?_; rw [Around.under_plainId F.plain_sum_loop _]
    show wpAny _ A.in1 (Sem.bind (seqItems? (.ref S)) _) _ _ s
    refine wpAny_bind (wpAny_seqItems hS rfl ?_); show wpAny _ A.in1 (Sem.bind (tryCatch (pyNext (.ref I)) _) _) _ _ s
    refine wpAny_bind (wpAny_tryCatch (W.done s _ _ st fun g tk hk' => ?_))
    exact wpAny_pure (hR g tk tA fun b o h1 _ e => hk' b o h1 e)
  | succ k ih =>
    intro i s tA c hk hi st hS hR
    have lt : i < n := by omega
    refine codeAny_builtin F.entry_sum_loop ?_; rw [Around.under_plainId F.plain_sum_loop _]
    show wpAny _ A.in1 (Sem.bind (seqItems? (.ref S)) _) _ _ s
    refine wpAny_bind (wpAny_seqItems hS rfl ?_); show wpAny _ A.in1 (Sem.bind (tryCatch (pyNext (.ref I)) _) _) _ _ s
    refine wpAny_bind (wpAny_tryCatch (W.item i s _ _ lt st fun v g tk hP st2 hk' => ?_))
    have ev := hval i v hP
    subst ev
    have hS2 := hk' S _ outw hS
    have bi := bnd i
    cases hvb : vb i
    all_goals
      have ps : preSum (fun j => if vb j then (1 : Int) else 0) (i + 1) = preSum (fun j => if vb j then 1 else 0) i + (if vb i then 1 else 0) := rfl
      rw [hvb] at ps
      simp only [if_true, Bool.false_eq_true, if_false] at ps
      have key : ∀ (c : Bool) (x y : Sem Fin) {Q1 : Fin → Shared → Prop} {E1 : Value → Shared → Prop} {s1 : Shared}, c = true → wpAny (model prog w) A.in1 x Q1 E1 s1 → wpAny (model prog w) A.in1 (if c = true then x else y) Q1 E1 s1 := fun c x y _ _ _ h k => by rw [if_pos h]; exact k
      refine key _ (Sem.bind (mkInt _) _) _ ?_ ?_
      · show ((decide (-(2 ^ 63) ≤ _) && decide (_ < 2 ^ 63)) && (decide (-(2 ^ 63) ≤ _) && decide (_ < 2 ^ 63))) = true
        simp only [Bool.and_eq_true, decide_eq_true_eq]
        simp
        omega
      · refine wpAny_bind (wpAny_mkInt ?_)
        show wpAny _ A.in1 (Sem.bind (updateSeq S (fun _ => #[.int _ tk])) _) _ _ _
        refine wpAny_bind (wpAny_updateSeq hS2 rfl (wpAny_pure ⟨plainId_quiet F.plain_sum_loop _, ih (i + 1) _ tk _ (by omega) lt (W.frame _ _ _ st2 fun b hb o e => ?_) (by rw [ps]; exact Heap.get?_update_self _ hS2 rfl) fun g2 tk2 t2 hk2 => ?_⟩))
        · exact (Heap.get?_update_other _ _ (fun h : S = b => hSf (by rw [h]; exact hb))).trans e
        · exact hR g2 tk2 t2 fun b o h1 h2 e => hk2 b o h1 h2 ((Heap.get?_update_other _ _ (Ne.symm h2)).trans (hk' b o h1 e))
theorem sumB_call {E : Value → Shared → Prop} {s : Shared} {x : Value} {Q : Value → Shared → Prop}
    (h : wpAny (model prog w) A.in1 (pyIter x) (fun it s₂ => ∃ (I : Addr) (fp wr : List Addr) (n : Nat) (P : Nat → Value → Prop) (St : Nat → Heap → Prop) (vb : Nat → Bool), it = .ref I ∧ Walks prog w A.in1 I fp wr n P St ∧ St 0 s₂.heap ∧ (∀ b ∈ fp, b < s₂.heap.objs.size) ∧ n < 1000000000000 ∧
      (∀ i v, P i v → v = .bool (vb i)) ∧ ∀ g tk t', (∀ b o, b ∉ wr → s₂.heap.get? b = some o → g.get? b = some o) → Q (.int (preSum (fun j => if vb j then 1 else 0) n) t') { s₂ with heap := g, toks := tk }) E s) :
    wpAny (model prog w) A (call (.builtin "sum") [x]) Q E s := by
  refine call_fnK F.kind_sum F.plain_sum F.entry_sum (F.args_sum1 _) ?_
  unfold Builtin.«sum»
  simp only [List.length_cons, List.length_nil]; rw [if_neg (by decide)]
  refine wpAny_bind (wpAny_of_eq (show Builtin.Builtins.bindParams "sum" ["start"] 0 { } = pure [none] from rfl) (wpAny_bind (wpAny_mono h (fun it s₂ h₂ => ?_) fun _ _ e => e)))
  obtain ⟨I, fp, wr, n, P, St, vb, rfl, W, st, hfp, hn, hval, hQ⟩ := h₂
  refine wpAny_bind (wpAny_mkInt (wpAny_bind (wpAny_pure ?_))); simp only [List.forIn_cons, List.forIn_nil]
  refine wpAny_bind (wpAny_bind (wpAny_bind (wpAny_isInstance (T := "int") (b := false) (typeIs_int _ _ _) PySem.sub_int_str ?_))); simp only [Bool.false_eq_true, if_false]
  refine wpAny_pure (wpAny_bind (wpAny_bind (wpAny_isInstance (T := "int") (b := false) (typeIs_int _ _ _) PySem.sub_int_bytes ?_))); simp only [Bool.false_eq_true, if_false]
  refine wpAny_pure (wpAny_bind (wpAny_bind (wpAny_isInstance (T := "int") (b := false) (typeIs_int _ _ _) PySem.sub_int_bytearray ?_))); simp only [Bool.false_eq_true, if_false]
  refine wpAny_pure (wpAny_pure (wpAny_bind (wpAny_newObj_type ?_)))
  have hSf : s₂.heap.objs.size ∉ fp := fun hm => Nat.lt_irrefl _ (hfp _ hm)
  refine wpAny_pure ⟨plainId_quiet F.plain_sum_loop _, sumB_loop W vb hval hn s₂.heap.objs.size hSf n 0 _ s₂.toks 0 rfl (Nat.zero_le _) (W.frame _ _ _ st fun b _ o e => Heap.get?_push_of_some _ e) (Heap.get?_push_size _ rfl) fun g tk t' hk => ?_⟩
  exact hQ g tk t' fun b o h1 e => hk b o h1 (Nat.ne_of_lt (Heap.lt_size e)) (Heap.get?_push_of_some _ e)
end
/-! ### over the layer -/
section
variable {X : Cx}
/-- the items of a list or a tuple are walked -/
theorem iter_sq {pins : List (Addr × Obj)} {σ : L2.St} {H : Hp} {s : Shared} {E : Value → Shared → Prop} {Q : Value → Shared → Prop} {a : Addr} {xs : List V} (I : Inv X pins σ H s) (hc : X.calm = true) (h : SqL X.K H a xs ∨ SqT X.K H a xs)
    (q : ∀ (its : List Value) (s₂ : Shared) (St : Nat → Heap → Prop), Vals xs its → xs.length ≤ sizeLine → (∃ o, s₂ = { s with heap := s.heap.push o }) → Walks X.prog X.w X.A.in1 s.heap.objs.size [s.heap.objs.size, a] [s.heap.objs.size] its.length (fun i v => its[i]? = some v) St → St 0 s₂.heap → (∀ b ∈ [s.heap.objs.size, a], b < s₂.heap.objs.size) → Q (.ref s.heap.objs.size) s₂) :
    wpAny (model X.prog X.w) X.A.in1 (pyIter (.ref a)) Q E s := by
  have hh : X.A.in1.handled = none := I.ok.hd hc
  rcases h with h | h
  · obtain ⟨its, rv, hl, hz⟩ := I.list h
    have hlt : a < s.heap.objs.size := by obtain ⟨o, n, e, _⟩ := hl; exact Heap.lt_size e
    refine wpAny_pyIter_list hl.isList (q its _ (fun i h => h.IsListIter s.heap.objs.size a i ∧ h.IsList a its.toArray) rv hz ⟨_, rfl⟩ ?_ ⟨⟨_, Heap.get?_push_size _ rfl, rfl, rfl⟩, hl.isList.push _⟩ ?_)
    · have W := Walks.list (prog := X.prog) (w := X.w) hh s.heap.objs.size a (Nat.ne_of_lt hlt) its.toArray
      simpa using W
    · intro b hb
      rw [Heap.size_push]
      simp at hb
      rcases hb with rfl | rfl
      · exact Nat.lt_succ_self _
      · exact Nat.lt_succ_of_lt hlt
  · obtain ⟨its, rv, hl, hz⟩ := I.tuple h
    have hlt : a < s.heap.objs.size := by obtain ⟨o, e, _⟩ := hl; exact Heap.lt_size e
    refine wpAny_pyIter_tuple hl (q its _ (fun i h => h.IsTupleIter s.heap.objs.size a i ∧ h.IsTuple a its.toArray) rv hz ⟨_, rfl⟩ ?_ ⟨⟨_, Heap.get?_push_size _ rfl, rfl, rfl⟩, ?_⟩ ?_)
    · have W := Walks.tuple (prog := X.prog) (w := X.w) hh s.heap.objs.size a (Nat.ne_of_lt hlt) its.toArray
      simpa using W
    · obtain ⟨o, e, c, n, d⟩ := hl
      exact ⟨o, Heap.get?_push_of_some _ e, c, n, d⟩
    · intro b hb
      rw [Heap.size_push]
      simp at hb
      rcases hb with rfl | rfl
      · exact Nat.lt_succ_self _
      · exact Nat.lt_succ_of_lt hlt
/-- behind a walk all is kept -/
theorem walked {pins : List (Addr × Obj)} {σ : L2.St} {H : Hp} {s s₂ : Shared} {Q : VK} {v : V} {u : Value} {g : Heap} {tk : Nat} (I : Inv X pins σ H s) (e2 : ∃ o, s₂ = { s with heap := s.heap.push o }) (hk : ∀ b o, b ∉ [s.heap.objs.size] → s₂.heap.get? b = some o → g.get? b = some o)
    (r : RelV v u) (q : Q v H) : EP X pins σ Q u { s₂ with heap := g, toks := tk } := by
  obtain ⟨o, rfl⟩ := e2
  refine ⟨v, H, I.kept fun b u e => hk b u (fun hm => ?_) (Heap.get?_push_of_some _ e), r, q⟩
  rw [List.mem_singleton.mp hm] at e
  exact absurd (Heap.lt_size e) (Nat.lt_irrefl _)
theorem ints_get {ns : List Int} {its : List Value} {i : Nat} {v : Value} (r : Vals (ns.map V.int) its) (h : its[i]? = some v) : ∃ t, v = .int (ns.getD i 0) t := by
  have hi : i < its.length := (List.getElem?_eq_some_iff.mp h).1
  have hl := r.length
  rw [List.length_map] at hl
  have h1 : (ns.map V.int)[i]? = some (.int (ns.getD i 0)) := by
    rw [List.getElem?_map, List.getElem?_eq_getElem (by omega), List.getD_eq_getElem?_getD, List.getElem?_eq_getElem (by omega)]; rfl
  obtain ⟨u, h2, t, h3⟩ := r.get h1
  rw [h] at h2
  exact ⟨t, (Option.some.inj h2).trans h3⟩
theorem bools_get {bs : List Bool} {its : List Value} {i : Nat} {v : Value} (r : Vals (bs.map V.bl) its) (h : its[i]? = some v) : v = .bool (bs.getD i false) := by
  have hi : i < its.length := (List.getElem?_eq_some_iff.mp h).1
  have hl := r.length
  rw [List.length_map] at hl
  have h1 : (bs.map V.bl)[i]? = some (.bl (bs.getD i false)) := by
    rw [List.getElem?_map, List.getElem?_eq_getElem (by omega), List.getD_eq_getElem?_getD, List.getElem?_eq_getElem (by omega)]; rfl
  obtain ⟨u, h2, h3⟩ := r.get h1
  rw [h] at h2
  exact (Option.some.inj h2).trans h3
theorem preSum_ext {f g : Nat → Int} : ∀ n, (∀ i, i < n → f i = g i) → preSum f n = preSum g n
  | 0, _ => rfl
  | n + 1, h => by rw [preSum, preSum, preSum_ext n fun i hi => h i (by omega), h n (by omega)]
theorem preSum_all (l : List Int) : preSum (fun i => l.getD i 0) l.length = l.sum := by
  rw [preSum_getD, List.take_length]
/-- sum of a list or tuple of ints -/
def rSumI (K : PySem.W.Frag) : List V → Hp → VK → Prop := fun vs H Q => ∃ (a : Addr) (ns : List Int), vs = [V.ref a] ∧ (SqL K H a (ns.map V.int) ∨ SqT K H a (ns.map V.int)) ∧ Q (.int ns.sum) H
theorem kr_sumI (hc : X.calm = true) : CallR X (.builtin "sum") (rSumI X.K) := by
  intro pins s σ H vs us Q I r h
  obtain ⟨a, ns, rfl, hs, q⟩ := h
  rw [Vals.ref1 r]
  refine call_sum_walkG (iter_sq I hc hs fun its s₂ St rv hz e2 W st hf => ?_)
  have hl := rv.length
  rw [List.length_map] at hl
  refine ⟨_, _, _, _, _, St, fun i => ns.getD i 0, rfl, W, st, hf, fun i v hv => ints_get rv hv, fun g tk t hk => ?_⟩
  rw [← hl, preSum_all]
  exact walked (v := .int _) I e2 hk ⟨_, rfl⟩ q
/-- sum of a list of truth values -/
def rSumB (K : PySem.W.Frag) : List V → Hp → VK → Prop := fun vs H Q => ∃ (a : Addr) (bs : List Bool), vs = [V.ref a] ∧ (SqL K H a (bs.map V.bl) ∨ SqT K H a (bs.map V.bl)) ∧ Q (.int (bs.map fun b => if b then (1 : Int) else 0).sum) H
theorem kr_sumB (hc : X.calm = true) : CallR X (.builtin "sum") (rSumB X.K) := by
  intro pins s σ H vs us Q I r h
  obtain ⟨a, bs, rfl, hs, q⟩ := h
  rw [Vals.ref1 r]
  refine sumB_call (iter_sq I hc hs fun its s₂ St rv hz e2 W st hf => ?_)
  have hl := rv.length
  rw [List.length_map] at hl hz
  have hn : its.length < 1000000000000 := by rw [sizeLine_eq] at hz; omega
  refine ⟨_, _, _, _, _, St, fun i => bs.getD i false, rfl, W, st, hf, hn, fun i v hv => bools_get rv hv, fun g tk t hk => ?_⟩
  have e : preSum (fun j => if bs.getD j false = true then 1 else 0) its.length = (bs.map fun b => if b then (1 : Int) else 0).sum := by
    rw [← preSum_all, List.length_map, hl]
    refine preSum_ext _ fun i hi => ?_
    rw [List.getD_eq_getElem?_getD, List.getD_eq_getElem?_getD, List.getElem?_map, List.getElem?_eq_getElem (by omega)]
    rfl
  rw [e]
  exact walked (v := .int _) I e2 hk ⟨_, rfl⟩ q
/-- max, min of a list or tuple of ints, and with a default -/
def maxD (d : Int) : List Int → Int
  | [] => d
  | x :: l => l.foldl max x
def minD (d : Int) : List Int → Int
  | [] => d
  | x :: l => l.foldl min x
theorem foldl_max_le : ∀ (l : List Int) (x : Int), x ≤ l.foldl max x ∧ (∀ y ∈ l, y ≤ l.foldl max x) ∧ (l.foldl max x = x ∨ l.foldl max x ∈ l)
  | [], x => ⟨Int.le_refl _, fun y h => by simp at h, .inl rfl⟩
  | z :: l, x => by
    obtain ⟨h1, h2, h3⟩ := foldl_max_le l (max x z)
    refine ⟨by simp only [List.foldl_cons]; omega, fun y hy => ?_, ?_⟩
    · simp only [List.foldl_cons]
      rcases List.mem_cons.mp hy with rfl | hy
      · omega
      · exact h2 y hy
    · simp only [List.foldl_cons]
      rcases h3 with h3 | h3
      · rw [h3]
        rcases Int.le_total x z with h | h
        · right; rw [Int.max_eq_right h]; exact List.mem_cons_self
        · left; exact Int.max_eq_left h
      · exact .inr (List.mem_cons_of_mem _ h3)
theorem foldl_min_le : ∀ (l : List Int) (x : Int), l.foldl min x ≤ x ∧ (∀ y ∈ l, l.foldl min x ≤ y) ∧ (l.foldl min x = x ∨ l.foldl min x ∈ l)
  | [], x => ⟨Int.le_refl _, fun y h => by simp at h, .inl rfl⟩
  | z :: l, x => by
    obtain ⟨h1, h2, h3⟩ := foldl_min_le l (min x z)
    refine ⟨by simp only [List.foldl_cons]; omega, fun y hy => ?_, ?_⟩
    · simp only [List.foldl_cons]
      rcases List.mem_cons.mp hy with rfl | hy
      · omega
      · exact h2 y hy
    · simp only [List.foldl_cons]
      rcases h3 with h3 | h3
      · rw [h3]
        rcases Int.le_total x z with h | h
        · left; exact Int.min_eq_left h
        · right; rw [Int.min_eq_right h]; exact List.mem_cons_self
      · exact .inr (List.mem_cons_of_mem _ h3)
theorem maxD_mem {d : Int} {l : List Int} (h : l ≠ []) : maxD d l ∈ l ∧ ∀ y ∈ l, y ≤ maxD d l := by
  cases l with
  | nil => exact absurd rfl h
  | cons x l =>
    obtain ⟨h1, h2, h3⟩ := foldl_max_le l x
    refine ⟨?_, fun y hy => ?_⟩
    · show l.foldl max x ∈ _
      rcases h3 with h3 | h3
      · rw [h3]; exact List.mem_cons_self
      · exact List.mem_cons_of_mem _ h3
    · show y ≤ l.foldl max x
      rcases List.mem_cons.mp hy with rfl | hy
      · exact h1
      · exact h2 y hy
theorem minD_mem {d : Int} {l : List Int} (h : l ≠ []) : minD d l ∈ l ∧ ∀ y ∈ l, minD d l ≤ y := by
  cases l with
  | nil => exact absurd rfl h
  | cons x l =>
    obtain ⟨h1, h2, h3⟩ := foldl_min_le l x
    refine ⟨?_, fun y hy => ?_⟩
    · show l.foldl min x ∈ _
      rcases h3 with h3 | h3
      · rw [h3]; exact List.mem_cons_self
      · exact List.mem_cons_of_mem _ h3
    · show l.foldl min x ≤ y
      rcases List.mem_cons.mp hy with rfl | hy
      · exact h1
      · exact h2 y hy
theorem getD_mem' {l : List Int} {i : Nat} (h : i < l.length) : l.getD i 0 ∈ l := by
  rw [List.getD_eq_getElem?_getD, List.getElem?_eq_getElem h]
  exact List.getElem_mem h
theorem mem_getD' {l : List Int} {x : Int} (h : x ∈ l) : ∃ i, i < l.length ∧ l.getD i 0 = x := by
  obtain ⟨i, hi, e⟩ := List.getElem_of_mem h
  exact ⟨i, hi, by rw [List.getD_eq_getElem?_getD, List.getElem?_eq_getElem hi]; exact e⟩
theorem argGt_max {d : Int} {l : List Int} (h : 0 < l.length) : l.getD (argBest (fun i j => decide (l.getD i 0 > l.getD j 0)) (l.length - 1)) 0 = maxD d l := by
  obtain ⟨h1, h2⟩ := argBest_gt (fun i => l.getD i 0) (l.length - 1)
  obtain ⟨h3, h4⟩ := maxD_mem (d := d) (l := l) (by intro z; rw [z] at h; simp at h)
  obtain ⟨j, hj, e⟩ := mem_getD' h3
  have q1 := h2 j (by omega)
  have q2 := h4 _ (getD_mem' (l := l) (i := argBest (fun i j => decide (l.getD i 0 > l.getD j 0)) (l.length - 1)) (by omega))
  rw [e] at q1
  omega
theorem argLt_min {d : Int} {l : List Int} (h : 0 < l.length) : l.getD (argBest (fun i j => decide (l.getD i 0 < l.getD j 0)) (l.length - 1)) 0 = minD d l := by
  obtain ⟨h1, h2⟩ := argBest_lt (fun i => l.getD i 0) (l.length - 1)
  obtain ⟨h3, h4⟩ := minD_mem (d := d) (l := l) (by intro z; rw [z] at h; simp at h)
  obtain ⟨j, hj, e⟩ := mem_getD' h3
  have q1 := h2 j (by omega)
  have q2 := h4 _ (getD_mem' (l := l) (i := argBest (fun i j => decide (l.getD i 0 < l.getD j 0)) (l.length - 1)) (by omega))
  rw [e] at q1
  omega
def rMaxI (K : PySem.W.Frag) : List V → Hp → VK → Prop := fun vs H Q => ∃ (a : Addr) (ns : List Int), vs = [V.ref a] ∧ (SqL K H a (ns.map V.int) ∨ SqT K H a (ns.map V.int)) ∧ 0 < ns.length ∧ Q (.int (maxD 0 ns)) H
def rMinI (K : PySem.W.Frag) : List V → Hp → VK → Prop := fun vs H Q => ∃ (a : Addr) (ns : List Int), vs = [V.ref a] ∧ (SqL K H a (ns.map V.int) ∨ SqT K H a (ns.map V.int)) ∧ 0 < ns.length ∧ Q (.int (minD 0 ns)) H
theorem kr_maxI (hc : X.calm = true) : CallR X (.builtin "max") (rMaxI X.K) := by
  intro pins s σ H vs us Q I r h
  obtain ⟨a, ns, rfl, hs, h0, q⟩ := h
  rw [Vals.ref1 r]
  refine call_max_walk (iter_sq I hc hs fun its s₂ St rv hz e2 W st hf => ?_)
  have hl := rv.length
  rw [List.length_map] at hl
  refine ⟨_, _, _, _, _, St, _, rfl, W, st, hf, by omega, CmpOf.ints_gt (fun i => ns.getD i 0) fun i v hv => ints_get rv hv, fun v g tk hv hk => ?_⟩
  obtain ⟨t, rfl⟩ := ints_get rv hv
  rw [← hl]
  rw [argGt_max (d := 0) h0]
  exact walked (v := .int _) I e2 hk ⟨_, rfl⟩ q
theorem kr_minI (hc : X.calm = true) : CallR X (.builtin "min") (rMinI X.K) := by
  intro pins s σ H vs us Q I r h
  obtain ⟨a, ns, rfl, hs, h0, q⟩ := h
  rw [Vals.ref1 r]
  refine call_min_walk (iter_sq I hc hs fun its s₂ St rv hz e2 W st hf => ?_)
  have hl := rv.length
  rw [List.length_map] at hl
  refine ⟨_, _, _, _, _, St, _, rfl, W, st, hf, by omega, CmpOf.ints_lt (fun i => ns.getD i 0) fun i v hv => ints_get rv hv, fun v g tk hv hk => ?_⟩
  obtain ⟨t, rfl⟩ := ints_get rv hv
  rw [← hl]
  rw [argLt_min (d := 0) h0]
  exact walked (v := .int _) I e2 hk ⟨_, rfl⟩ q
def rMaxK (K : PySem.W.Frag) : List V → List V → Hp → VK → Prop := fun vs zs H Q => ∃ (a : Addr) (ns : List Int) (d : Int), vs = [V.ref a] ∧ zs = [.int d] ∧ (SqL K H a (ns.map V.int) ∨ SqT K H a (ns.map V.int)) ∧ Q (.int (maxD d ns)) H
theorem kr_maxK (hc : X.calm = true) : CallRK X (.builtin "max") [Str.ofString "default"] (rMaxK X.K) := by
  intro pins s σ H vs zs us ws Q I r rz h
  obtain ⟨a, ns, d, rfl, rfl, hs, q⟩ := h
  rw [Vals.ref1 r]
  obtain ⟨w1, rfl, td, rfl⟩ := vals1 rz
  refine max_default (iter_sq I hc hs fun its s₂ St rv hz e2 W st hf => ?_)
  have hl := rv.length
  rw [List.length_map] at hl
  refine ⟨_, _, _, _, _, St, _, rfl, W, st, hf, CmpOf.ints_gt (fun i => ns.getD i 0) fun i v hv => ints_get rv hv, fun h0 v g tk hv hk => ?_, fun h0 g tk hk => ?_⟩
  · obtain ⟨t, rfl⟩ := ints_get rv hv
    rw [← hl]
    rw [argGt_max (d := d) (by omega)]
    exact walked (v := .int _) I e2 hk ⟨_, rfl⟩ q
  · have : ns = [] := List.length_eq_zero_iff.mp (by omega)
    subst this
    exact walked (v := .int _) I e2 hk ⟨td, rfl⟩ q
end
end Kn

namespace Kn
open PySem L2 PyProof.Rows

/-! ### insertion sort: the one sorted arrangement -/
def ins (x : Int) : List Int → List Int
  | [] => [x]
  | y :: l => if x ≤ y then x :: y :: l else y :: ins x l
def srt : List Int → List Int
  | [] => []
  | x :: l => ins x (srt l)
theorem ins_perm (x : Int) : ∀ l, (ins x l).Perm (x :: l)
  | [] => List.Perm.refl _
  | y :: l => by
    unfold ins
    split
    · exact List.Perm.refl _
    · exact ((ins_perm x l).cons y).trans (List.Perm.swap x y l)
theorem srt_perm : ∀ l, (srt l).Perm l
  | [] => List.Perm.refl _
  | x :: l => (ins_perm x (srt l)).trans ((srt_perm l).cons x)
theorem ins_sorted (x : Int) : ∀ {l}, List.Pairwise (· ≤ ·) l → List.Pairwise (· ≤ ·) (ins x l)
  | [], _ => by simp [ins]
  | y :: l, h => by
    obtain ⟨h1, h2⟩ := List.pairwise_cons.mp h
    unfold ins
    split
    · rename_i hxy
      refine List.pairwise_cons.mpr ⟨fun z hz => ?_, h⟩
      rcases List.mem_cons.mp hz with rfl | hz
      · exact hxy
      · exact Int.le_trans hxy (h1 z hz)
    · rename_i hxy
      refine List.pairwise_cons.mpr ⟨fun z hz => ?_, ins_sorted x h2⟩
      rcases List.mem_cons.mp ((ins_perm x l).mem_iff.mp hz) with rfl | hz
      · omega
      · exact h1 z hz
theorem srt_sorted : ∀ l, List.Pairwise (· ≤ ·) (srt l)
  | [] => List.Pairwise.nil
  | x :: l => ins_sorted x (srt_sorted l)
theorem sorted_one : ∀ {l l' : List Int}, l.Perm l' → List.Pairwise (· ≤ ·) l → List.Pairwise (· ≤ ·) l' → l = l'
  | [], l', p, _, _ => (List.Perm.nil_eq p)
  | x :: l, [], p, _, _ => by have := p.length_eq; simp at this
  | x :: l, y :: l', p, h, h' => by
    obtain ⟨h1, h2⟩ := List.pairwise_cons.mp h
    obtain ⟨h1', h2'⟩ := List.pairwise_cons.mp h'
    have e : x = y := by
      have hx : x ∈ y :: l' := p.mem_iff.mp List.mem_cons_self
      have hy : y ∈ x :: l := p.mem_iff.mpr List.mem_cons_self
      rcases List.mem_cons.mp hx with e | hx
      · exact e
      · rcases List.mem_cons.mp hy with e | hy
        · exact e.symm
        · have a := h1 y hy; have b := h1' x hx; omega
    subst e
    rw [sorted_one (List.Perm.cons_inv p) h2 h2']
theorem srt_of {l l' : List Int} (p : l'.Perm l) (h : List.Pairwise (· ≤ ·) l') : l' = srt l := sorted_one (p.trans (srt_perm l).symm) h (srt_sorted l)
theorem srt_len (l : List Int) : (srt l).length = l.length := (srt_perm l).length_eq
theorem srt_mem {x : Int} {l : List Int} : x ∈ srt l ↔ x ∈ l := (srt_perm l).mem_iff
/-- the falling arrangement -/
def srtD (l : List Int) : List Int := (srt l).reverse
theorem srtD_of {l l' : List Int} (p : l'.Perm l) (h : List.Pairwise (· ≥ ·) l') : l' = srtD l := by
  have e : l'.reverse = srt l := srt_of ((List.reverse_perm l').trans p) (by rw [List.pairwise_reverse]; exact h)
  unfold srtD
  rw [← e, List.reverse_reverse]
theorem srtD_perm (l : List Int) : (srtD l).Perm l := (List.reverse_perm _).trans (srt_perm l)
theorem srtD_sorted (l : List Int) : List.Pairwise (· ≥ ·) (srtD l) := by
  unfold srtD
  rw [List.pairwise_reverse]
  exact srt_sorted l
theorem srtD_len (l : List Int) : (srtD l).length = l.length := (srtD_perm l).length_eq
theorem srtD_mem {x : Int} {l : List Int} : x ∈ srtD l ↔ x ∈ l := (srtD_perm l).mem_iff

abbrev iL (l : List Int) : PyData := .list (l.map .int)
abbrev iT (l : List Int) : PyData := .tuple (l.map .int)

section
variable {X : Cx} {K : PySem.W.Frag} {b : Bool} {ρ ρ1 ρ2 ρ3 : En} {ta tk tb tc te : TE} {x y z : PyData} {r : Rv}
theorem as1 {G : Hp} {σ : L2.St} {vs : List V} {d : PyData} (h : AsOk G σ vs [.d d]) : ∃ v, vs = [v] ∧ Dq G v d := by
  cases h with
  | cons h t => cases t; exact ⟨_, rfl, h⟩
theorem as2 {G : Hp} {σ : L2.St} {vs : List V} {d e : PyData} (h : AsOk G σ vs [.d d, .d e]) : ∃ v w, vs = [v, w] ∧ Dq G v d ∧ Dq G w e := by
  cases h with
  | cons h t => cases t with
    | cons h2 t => cases t; exact ⟨_, _, rfl, h, h2⟩
/-- len -/
def rLen (K : PySem.W.Frag) : List V → Hp → VK → Prop := fun vs H Q => ∃ p ys, vs = [.ref p] ∧ (SqL K H p ys ∨ SqT K H p ys) ∧ Q (.int ys.length) H
theorem kr_len : CallR X (.builtin "len") (rLen X.K) := call_len_seq
theorem rc_lenL {l : List PyData} : RcD (rLen K) [.d (.list l)] (.d (.int l.length)) := rc_val fun G H σ vs e hv Q q => by
  obtain ⟨v, rfl, h⟩ := as1 hv
  cases h with
  | lst ha hs => exact ⟨_, _, rfl, .inl (.inl (.inl (e _ _ ha))), by rw [hs.len]; exact q _ (.int _)⟩
theorem rc_lenT {l : List PyData} : RcD (rLen K) [.d (.tuple l)] (.d (.int l.length)) := rc_val fun G H σ vs e hv Q q => by
  obtain ⟨v, rfl, h⟩ := as1 hv
  cases h with
  | tup ha hs => exact ⟨_, _, rfl, .inr (.inl (.inl (e _ _ ha))), by rw [hs.len]; exact q _ (.int _)⟩
theorem rc_lenLi {l : List Int} : RcD (rLen K) [.d (iL l)] (.d (.int l.length)) := by
  have h := rc_lenL (K := K) (l := l.map .int)
  rw [List.length_map] at h; exact h
theorem rc_lenTi {l : List Int} : RcD (rLen K) [.d (iT l)] (.d (.int l.length)) := by
  have h := rc_lenT (K := K) (l := l.map .int)
  rw [List.length_map] at h; exact h
/-- sum -/
theorem rc_sumL {l : List Int} : RcD (rSumI K) [.d (iL l)] (.d (.int l.sum)) := rc_val fun G H σ vs e hv Q q => by
  obtain ⟨v, rfl, h⟩ := as1 hv
  cases h with
  | lst ha hs => rw [of_dqs_ints hs] at ha; exact ⟨_, l, rfl, .inl (.inl (.inl (e _ _ ha))), q _ (.int _)⟩
theorem rc_sumT {l : List Int} : RcD (rSumI K) [.d (iT l)] (.d (.int l.sum)) := rc_val fun G H σ vs e hv Q q => by
  obtain ⟨v, rfl, h⟩ := as1 hv
  cases h with
  | tup ha hs => rw [of_dqs_ints hs] at ha; exact ⟨_, l, rfl, .inr (.inl (.inl (e _ _ ha))), q _ (.int _)⟩
theorem rc_sumB {l : List Bool} : RcD (rSumB K) [.d (.list (l.map .bool))] (.d (.int (l.map fun b => if b then (1 : Int) else 0).sum)) := rc_val fun G H σ vs e hv Q q => by
  obtain ⟨v, rfl, h⟩ := as1 hv
  cases h with
  | lst ha hs => rw [of_dqs_bools hs] at ha; exact ⟨_, l, rfl, .inl (.inl (.inl (e _ _ ha))), q _ (.int _)⟩
/-- max, min -/
theorem rc_maxL {l : List Int} (h0 : 0 < l.length) : RcD (rMaxI K) [.d (iL l)] (.d (.int (maxD 0 l))) := rc_val fun G H σ vs e hv Q q => by
  obtain ⟨v, rfl, h⟩ := as1 hv
  cases h with
  | lst ha hs => rw [of_dqs_ints hs] at ha; exact ⟨_, l, rfl, .inl (.inl (.inl (e _ _ ha))), h0, q _ (.int _)⟩
theorem rc_maxT {l : List Int} (h0 : 0 < l.length) : RcD (rMaxI K) [.d (iT l)] (.d (.int (maxD 0 l))) := rc_val fun G H σ vs e hv Q q => by
  obtain ⟨v, rfl, h⟩ := as1 hv
  cases h with
  | tup ha hs => rw [of_dqs_ints hs] at ha; exact ⟨_, l, rfl, .inr (.inl (.inl (e _ _ ha))), h0, q _ (.int _)⟩
theorem rc_minL {l : List Int} (h0 : 0 < l.length) : RcD (rMinI K) [.d (iL l)] (.d (.int (minD 0 l))) := rc_val fun G H σ vs e hv Q q => by
  obtain ⟨v, rfl, h⟩ := as1 hv
  cases h with
  | lst ha hs => rw [of_dqs_ints hs] at ha; exact ⟨_, l, rfl, .inl (.inl (.inl (e _ _ ha))), h0, q _ (.int _)⟩
theorem rc_minT {l : List Int} (h0 : 0 < l.length) : RcD (rMinI K) [.d (iT l)] (.d (.int (minD 0 l))) := rc_val fun G H σ vs e hv Q q => by
  obtain ⟨v, rfl, h⟩ := as1 hv
  cases h with
  | tup ha hs => rw [of_dqs_ints hs] at ha; exact ⟨_, l, rfl, .inr (.inl (.inl (e _ _ ha))), h0, q _ (.int _)⟩
def rMax2 : List V → Hp → VK → Prop := fun vs H Q => ∃ i j, vs = [.int i, .int j] ∧ Q (.int (if j > i then j else i)) H
def rMin2 : List V → Hp → VK → Prop := fun vs H Q => ∃ i j, vs = [.int i, .int j] ∧ Q (.int (if j < i then j else i)) H
theorem kr_max2 (hc : X.calm = true) : CallR X (.builtin "max") rMax2 := call_max2 hc
theorem kr_min2 (hc : X.calm = true) : CallR X (.builtin "min") rMin2 := call_min2 hc
theorem rc_max2 {i j : Int} : RcD rMax2 [.d (.int i), .d (.int j)] (.d (.int (max i j))) := rc_val fun G H σ vs e hv Q q => by
  obtain ⟨v, w, rfl, h1, h2⟩ := as2 hv
  cases h1; cases h2
  have e : (if j > i then j else i) = max i j := by split <;> omega
  exact ⟨i, j, rfl, by rw [e]; exact q _ (.int _)⟩
theorem rc_min2 {i j : Int} : RcD rMin2 [.d (.int i), .d (.int j)] (.d (.int (min i j))) := rc_val fun G H σ vs e hv Q q => by
  obtain ⟨v, w, rfl, h1, h2⟩ := as2 hv
  cases h1; cases h2
  have e : (if j < i then j else i) = min i j := by split <;> omega
  exact ⟨i, j, rfl, by rw [e]; exact q _ (.int _)⟩
/-- a built-in with keywords -/
def RcK (r : List V → List V → Hp → VK → Prop) (as ks : List Ar) (z : Rv) : Prop := ∀ (G H : Hp) (σ : L2.St) (vs ws : List V), Ex G H → AsOk G σ vs as → AsOk G σ ws ks → ∀ Q : VK, (∀ u G' H', Ext [] G H G' H' → ROk G H G' H' u z → Q u H') → r vs ws H Q
theorem ev_ckw {r : List V → List V → Hp → VK → Prop} {ta tk : TA} {as ks : List Ar} {z : Rv} (h : EvA b ta ρ as ρ1) (h2 : EvA b tk ρ1 ks ρ2) (hr : RcK r as ks z) : Ev b (tCKw r ta tk) ρ z ρ2 := fun G H σ e st nd Q q =>
  h G H σ e st nd _ fun vs G1 H1 x1 s1 a1 k1 => h2 G1 H1 σ x1.gh s1 (by rw [a1]; exact nd) _ fun ws G2 H2 x2 s2 a2 k2 => by
    have y2 := x1.then x2 a1
    exact hr G2 H2 σ vs ws x2.gh (k1.mono x2.gg) k2 Q fun u G3 H3 x3 k3 => q u G3 H3 (y2.tr x3.up) (s2.mono x3) (a2.trans a1) (k3.back y2)
theorem rk_maxL {l : List Int} {d : Int} : RcK (rMaxK K) [.d (iL l)] [.d (.int d)] (.d (.int (maxD d l))) := fun G H σ vs ws e hv hw Q q => by
  obtain ⟨v, rfl, h⟩ := as1 hv
  obtain ⟨w, rfl, h2⟩ := as1 hw
  cases h2
  cases h with
  | lst ha hs => rw [of_dqs_ints hs] at ha; exact ⟨_, l, d, rfl, rfl, .inl (.inl (.inl (e _ _ ha))), q _ G H (Ext.refl e) (.int _)⟩
theorem rk_maxT {l : List Int} {d : Int} : RcK (rMaxK K) [.d (iT l)] [.d (.int d)] (.d (.int (maxD d l))) := fun G H σ vs ws e hv hw Q q => by
  obtain ⟨v, rfl, h⟩ := as1 hv
  obtain ⟨w, rfl, h2⟩ := as1 hw
  cases h2
  cases h with
  | tup ha hs => rw [of_dqs_ints hs] at ha; exact ⟨_, l, d, rfl, rfl, .inr (.inl (.inl (e _ _ ha))), q _ G H (Ext.refl e) (.int _)⟩
/-- sorted -/
theorem rc_sorted {l : List Int} : RcD (rSortedI K) [.d (iL l)] (.l ((srt l).map .int)) := fun G H σ vs e hv Q q => by
  obtain ⟨v, rfl, h⟩ := as1 hv
  cases h with
  | lst ha hs =>
    rw [of_dqs_ints hs] at ha
    refine ⟨_, l, rfl, .inl (.inl (e _ _ ha)), fun ns' p hp hs' hn => ?_⟩
    rw [srt_of hp hs']
    exact q _ G _ (Ext.own e hn) ⟨p, _, rfl, hn, e.none hn, upd_same, dqs_ints _⟩
theorem rk_sortedR {l : List Int} : RcK (rSortedKw K true [.bl true]) [.d (iL l)] [.d (.bool true)] (.l ((srtD l).map .int)) := fun G H σ vs ws e hv hw Q q => by
  obtain ⟨v, rfl, h⟩ := as1 hv
  obtain ⟨w, rfl, h2⟩ := as1 hw
  cases h2
  cases h with
  | lst ha hs =>
    rw [of_dqs_ints hs] at ha
    refine ⟨_, l, rfl, rfl, .inl (.inl (e _ _ ha)), fun ns' p hp hs' hn => ?_⟩
    rw [srtD_of hp hs']
    exact q _ G _ (Ext.own e hn) ⟨p, _, rfl, hn, e.none hn, upd_same, dqs_ints _⟩
/-- tuple(..), list(..) -/
def rTup (K : PySem.W.Frag) : List V → Hp → VK → Prop := fun vs H Q => ∃ p ys, vs = [.ref p] ∧ ((SqL K H p ys ∧ ∀ l, H l = none → Q (.ref l) (upd H l (.tup ys))) ∨ (SqT K H p ys ∧ Q (.ref p) H))
theorem kr_tup : CallR X (.type "tuple") (rTup X.K) := call_tuple_of
theorem rc_tupL {l : List PyData} : RcD (rTup K) [.d (.list l)] (.d (.tuple l)) := fun G H σ vs e hv Q q => by
  obtain ⟨v, rfl, h⟩ := as1 hv
  cases h with
  | lst ha hs => exact ⟨_, _, rfl, .inl ⟨.inl (.inl (e _ _ ha)), fun p hp => q _ _ _ (Ext.new e hp) (.tup upd_same (dqs_mono (Ex.new (e.none hp)) hs))⟩⟩
theorem rc_tupT {l : List PyData} : RcD (rTup K) [.d (.tuple l)] (.d (.tuple l)) := fun G H σ vs e hv Q q => by
  obtain ⟨v, rfl, h⟩ := as1 hv
  cases h with
  | tup ha hs => exact ⟨_, _, rfl, .inr ⟨.inl (.inl (e _ _ ha)), q _ G H (Ext.refl e) (.tup ha hs)⟩⟩
def rLst (K : PySem.W.Frag) : List V → Hp → VK → Prop := fun vs H Q => ∃ p ys, vs = [.ref p] ∧ (SqL K H p ys ∨ SqT K H p ys) ∧ ∀ l, H l = none → Q (.ref l) (upd H l (.lst ys))
theorem kr_lst : CallR X (.type "list") (rLst X.K) := call_list_of
theorem rc_lstL {l : List PyData} : RcD (rLst K) [.d (.list l)] (.l l) := fun G H σ vs e hv Q q => by
  obtain ⟨v, rfl, h⟩ := as1 hv
  cases h with
  | lst ha hs => exact ⟨_, _, rfl, .inl (.inl (.inl (e _ _ ha))), fun p hp => q _ G _ (Ext.own e hp) ⟨p, _, rfl, hp, e.none hp, upd_same, hs⟩⟩
theorem rc_lstT {l : List PyData} : RcD (rLst K) [.d (.tuple l)] (.l l) := fun G H σ vs e hv Q q => by
  obtain ⟨v, rfl, h⟩ := as1 hv
  cases h with
  | tup ha hs => exact ⟨_, _, rfl, .inr (.inl (.inl (e _ _ ha))), fun p hp => q _ G _ (Ext.own e hp) ⟨p, _, rfl, hp, e.none hp, upd_same, hs⟩⟩
/-- xs[::-1] -/
theorem ev_revL {xs : List PyData} (h : Ev b te ρ (.d (.list xs)) ρ1) : Ev b (tRevL K te) ρ (.l xs.reverse) ρ1 := fun G H σ e st nd Q q =>
  h G H σ e st nd _ fun v G1 H1 x1 s1 a1 k1 => by
    cases k1 with
    | lst ha hs =>
      rename_i a vs
      refine ⟨a, vs, rfl, .inl (.inl (x1.gh _ _ ha)), fun p hp => ?_⟩
      have x2 : Ext [] G1 H1 G1 (upd H1 p (.lst vs.reverse)) := Ext.own x1.gh hp
      refine q _ _ _ (x1.tr x2.up) (s1.mono x2) a1 ⟨p, _, rfl, ?_, x1.gh.none hp, upd_same, hs.rev⟩
      cases z : H p with
      | none => rfl
      | some o => exact absurd hp (x1.th p (by rw [z]; simp))
/-- all, any -/
theorem rc_all {l : List Bool} : RcD (rAll K) [.d (.list (l.map .bool))] (.d (.bool (l.all id))) := rc_val fun G H σ vs e hv Q q => by
  obtain ⟨v, rfl, h⟩ := as1 hv
  cases h with
  | lst ha hs => rw [of_dqs_bools hs] at ha; exact ⟨_, l, rfl, .inl (.inl (e _ _ ha)), q _ (.bl _)⟩
theorem rc_any {l : List Bool} : RcD (rAny K) [.d (.list (l.map .bool))] (.d (.bool (l.any id))) := rc_val fun G H σ vs e hv Q q => by
  obtain ⟨v, rfl, h⟩ := as1 hv
  cases h with
  | lst ha hs => rw [of_dqs_bools hs] at ha; exact ⟨_, l, rfl, .inl (.inl (e _ _ ha)), q _ (.bl _)⟩
/-- isinstance of data and a built-in type -/
def tyN : PyData → String
  | .none => "NoneType"
  | .bool _ => "bool"
  | .int _ => "int"
  | .str _ => "str"
  | .list _ => "list"
  | .tuple _ => "tuple"
  | .dict _ => "dict"
def isTyN (s n : String) : Bool := s == n || (n == "int" && s == "bool")
def isTy (d : PyData) (n : String) : Bool := isTyN (tyN d) n
theorem tyN_mem (d : PyData) : tyN d ∈ ["NoneType", "bool", "int", "str", "list", "tuple", "dict"] := by cases d <;> simp [tyN]
theorem ty_of {G H : Hp} {v : V} (e : Ex G H) : ∀ {d : PyData}, Dq G v d → TyX K H v (.type (tyN d))
  | _, .non => .base .non
  | _, .bl b => .base (.bl b)
  | _, .int i => .base (.int i)
  | _, .str x => .base (.str x)
  | _, .lst ha _ => .base (.lst (e _ _ ha))
  | _, .tup ha _ => .base (.tup (e _ _ ha))
theorem rc_isi {d : PyData} {n : String} {r : Bool} (h : kitB (tyN d) n = some r) : RcD (rIsi K) [.d d, .va (.ty n)] (.d (.bool r)) := rc_val fun G H σ vs e hv Q q => by
  cases hv with
  | cons h1 t => cases t with
    | cons h2 t =>
      cases t
      have h2' : _ = V.ty n := h2
      subst h2'
      exact ⟨_, _, _, _, r, rfl, .ty n, ty_of e h1, kit_ty h, q _ (.bl _)⟩
theorem kit_int (d : PyData) : kitB (tyN d) "int" = some (isTy d "int") := (show ∀ s ∈ ["NoneType", "bool", "int", "str", "list", "tuple", "dict"], kitB s "int" = some (isTyN s "int") by decide +kernel) _ (tyN_mem d)
theorem kit_bool (d : PyData) : kitB (tyN d) "bool" = some (isTy d "bool") := (show ∀ s ∈ ["NoneType", "bool", "int", "str", "list", "tuple", "dict"], kitB s "bool" = some (isTyN s "bool") by decide +kernel) _ (tyN_mem d)
theorem kit_tuple (d : PyData) : kitB (tyN d) "tuple" = some (isTy d "tuple") := (show ∀ s ∈ ["NoneType", "bool", "int", "str", "list", "tuple", "dict"], kitB s "tuple" = some (isTyN s "tuple") by decide +kernel) _ (tyN_mem d)
theorem kit_list (d : PyData) : kitB (tyN d) "list" = some (isTy d "list") := (show ∀ s ∈ ["NoneType", "bool", "int", "str", "list", "tuple", "dict"], kitB s "list" = some (isTyN s "list") by decide +kernel) _ (tyN_mem d)
theorem kit_str (d : PyData) : kitB (tyN d) "str" = some (isTy d "str") := (show ∀ s ∈ ["NoneType", "bool", "int", "str", "list", "tuple", "dict"], kitB s "str" = some (isTyN s "str") by decide +kernel) _ (tyN_mem d)
/-- list(range(..)) -/
def EvR (b : Bool) (tr : L2.St → Hp → (Int → Int → Hp → Prop) → Prop) (ρ : En) (lo hi : Int) (ρ' : En) : Prop :=
  ∀ (G H : Hp) (σ : L2.St), Ex G H → StOk G H σ ρ → (adr ρ).Nodup → ∀ Q : Int → Int → Hp → Prop, (∀ G' H', Ext (ws b ρ) G H G' H' → StOk G' H' σ ρ' → adr ρ' = adr ρ → Q lo hi H') → tr σ H Q
theorem er_1 {n : Int} (h : Ev b te ρ (.d (.int n)) ρ1) : EvR b (tRg1 te) ρ 0 n ρ1 := fun G H σ e st nd Q q =>
  h G H σ e st nd _ fun v G1 H1 x1 s1 a1 k1 => by cases k1; exact ⟨n, rfl, q G1 H1 x1 s1 a1⟩
theorem er_2 {m n : Int} (h : Ev b te ρ (.d (.int m)) ρ1) (h2 : Ev b tb ρ1 (.d (.int n)) ρ2) : EvR b (tRg2 te tb) ρ m n ρ2 := fun G H σ e st nd Q q =>
  h G H σ e st nd _ fun v G1 H1 x1 s1 a1 k1 => h2 G1 H1 σ x1.gh s1 (by rw [a1]; exact nd) _ fun w G2 H2 x2 s2 a2 k2 => by
    cases k1; cases k2
    exact ⟨m, n, rfl, rfl, q G2 H2 (x1.then x2 a1) s2 (a2.trans a1)⟩
theorem rgV_is (lo : Int) : ∀ n : Nat, (List.range n).map (fun i => V.int (lo + (i : Nat))) = (rgI lo n).map V.int := by
  intro n
  apply List.ext_getElem?
  intro i
  rw [List.getElem?_map, List.getElem?_map]
  by_cases hi : i < n
  · rw [List.getElem?_range hi, rgI_get n lo i hi]; rfl
  · rw [List.getElem?_eq_none (by simp; omega), List.getElem?_eq_none (by rw [rgI_len]; omega)]; rfl
theorem ev_listRg {tr : L2.St → Hp → (Int → Int → Hp → Prop) → Prop} {lo hi : Int} (h : EvR b tr ρ lo hi ρ1) (hl : -1000000 ≤ lo ∧ lo ≤ 1000000 ∧ -1000000 ≤ hi ∧ hi ≤ 1000000) : Ev b (tLstRg tr) ρ (.l ((rgI lo (hi - lo).toNat).map .int)) ρ1 := fun G H σ e st nd Q q =>
  h G H σ e st nd _ fun G1 H1 x1 s1 a1 => by
    refine ⟨⟨by omega, by omega, by omega, by omega, by omega⟩, fun p hp => ?_⟩
    have x2 : Ext [] G1 H1 G1 (upd H1 p (.lst (rgV lo hi))) := Ext.own x1.gh hp
    refine q _ _ _ (x1.tr x2.up) (s1.mono x2) a1 ⟨p, _, rfl, ?_, x1.gh.none hp, upd_same, ?_⟩
    · cases z : H p with
      | none => rfl
      | some o => exact absurd hp (x1.th p (by rw [z]; simp))
    · unfold rgV
      rw [rgV_is]
      exact dqs_ints _
end
end Kn

namespace Kn
open PySem L2 PyProof.Rows

/-! ### kinds of data -/
abbrev eL {α : Type} (e : α → PyData) (l : List α) : PyData := .list (l.map e)
abbrev eT {α : Type} (e : α → PyData) (l : List α) : PyData := .tuple (l.map e)
abbrev eP {α β : Type} (e : α → PyData) (f : β → PyData) (p : α × β) : PyData := .tuple [e p.1, f p.2]
def eO {α : Type} (e : α → PyData) : Option α → PyData
  | none => .none
  | some x => e x
section
variable {α β γ : Type} {b : Bool} {ρ ρ1 ρ2 ρ3 : En} {ta tk tb tc te : TE} {t u : TS} {tt : TT} {x y z : PyData} {r : Rv} {K : PySem.W.Frag} {wi : TI} {g : TG} {vs : List Nat} {E : Ens}

/-! ### comprehensions over typed lists -/
theorem ev_lcF {xs : List α} {enc : α → PyData} {j : Nat} {p : α → Bool} {f : α → β} (eb : β → PyData) (hi : EvI b wi ρ (xs.map enc) ρ1) (hj : j ∈ vs) (hl : xs.length ≤ 1000000)
    (hs : ∀ x ∈ xs, EvT false tt ((wipeE ρ1 vs).set j (.dat (enc x))) (p x) ((wipeE ρ1 vs).set j (.dat (enc x))) ∧ (p x = true → Ev false te ((wipeE ρ1 vs).set j (.dat (enc x))) (.d (eb (f x))) ((wipeE ρ1 vs).set j (.dat (enc x))))) :
    Ev b (tLc wi (gName j) tt te vs) ρ (.l (((xs.filter p).map f).map eb)) ρ1 := by
  rw [List.map_map]
  exact ev_lc xs enc (fun x => [(j, enc x)]) p (eb ∘ f) hi (fun x _ => ⟨gv_name, fun q hq => by rw [List.mem_singleton.mp hq]; exact hj⟩) hs hl
theorem ev_lcM {xs : List α} {enc : α → PyData} {j : Nat} {f : α → β} (eb : β → PyData) (hi : EvI b wi ρ (xs.map enc) ρ1) (hj : j ∈ vs) (hl : xs.length ≤ 1000000)
    (hs : ∀ x ∈ xs, Ev false te ((wipeE ρ1 vs).set j (.dat (enc x))) (.d (eb (f x))) ((wipeE ρ1 vs).set j (.dat (enc x)))) : Ev b (tLc wi (gName j) tYes te vs) ρ (.l ((xs.map f).map eb)) ρ1 := by
  have h := ev_lcF (p := fun _ => true) (tt := tYes) eb hi hj hl fun x hx => ⟨fun G H σ e st nd Q q => q G H (Ext.refl e) st rfl, fun _ => hs x hx⟩
  rwa [show xs.filter (fun _ => true) = xs from List.filter_eq_self.mpr fun _ _ => rfl] at h
/-- over pairs -/
theorem ev_lcF2 {xs : List (α × β)} {e1 : α → PyData} {e2 : β → PyData} {i j : Nat} {p : α × β → Bool} {f : α × β → γ} (eb : γ → PyData) (hi : EvI b wi ρ (xs.map (eP e1 e2)) ρ1) (hj : i ∈ vs ∧ j ∈ vs) (hl : xs.length ≤ 1000000)
    (hs : ∀ x ∈ xs, EvT false tt (((wipeE ρ1 vs).set i (.dat (e1 x.1))).set j (.dat (e2 x.2))) (p x) (((wipeE ρ1 vs).set i (.dat (e1 x.1))).set j (.dat (e2 x.2))) ∧ (p x = true → Ev false te (((wipeE ρ1 vs).set i (.dat (e1 x.1))).set j (.dat (e2 x.2))) (.d (eb (f x))) (((wipeE ρ1 vs).set i (.dat (e1 x.1))).set j (.dat (e2 x.2))))) :
    Ev b (tLc wi (gTup K 2 (gCons (gName i) (gCons (gName j) gNil))) tt te vs) ρ (.l (((xs.filter p).map f).map eb)) ρ1 := by
  rw [List.map_map]
  refine ev_lc xs (eP e1 e2) (fun x => [(i, e1 x.1), (j, e2 x.2)]) p (eb ∘ f) hi (fun x _ => ⟨gv_tup2, fun q hq => ?_⟩) hs hl
  rcases List.mem_cons.mp hq with h | h
  · rw [h]; exact hj.1
  · rw [List.mem_singleton.mp h]; exact hj.2
theorem ev_lcM2 {xs : List (α × β)} {e1 : α → PyData} {e2 : β → PyData} {i j : Nat} {f : α × β → γ} (eb : γ → PyData) (hi : EvI b wi ρ (xs.map (eP e1 e2)) ρ1) (hj : i ∈ vs ∧ j ∈ vs) (hl : xs.length ≤ 1000000)
    (hs : ∀ x ∈ xs, Ev false te (((wipeE ρ1 vs).set i (.dat (e1 x.1))).set j (.dat (e2 x.2))) (.d (eb (f x))) (((wipeE ρ1 vs).set i (.dat (e1 x.1))).set j (.dat (e2 x.2)))) :
    Ev b (tLc wi (gTup K 2 (gCons (gName i) (gCons (gName j) gNil))) tYes te vs) ρ (.l ((xs.map f).map eb)) ρ1 := by
  have h := ev_lcF2 (K := K) (p := fun _ => true) (tt := tYes) eb hi hj hl fun x hx => ⟨fun G H σ e st nd Q q => q G H (Ext.refl e) st rfl, fun _ => hs x hx⟩
  rwa [show xs.filter (fun _ => true) = xs from List.filter_eq_self.mpr fun _ _ => rfl] at h
/-- the element changes what the slots own: S what is carried -/
def mapS {σ : Type} (f : σ → α → β × σ) : σ → List α → List β × σ
  | s, [] => ([], s)
  | s, x :: l => ((f s x).1 :: (mapS f (f s x).2 l).1, (mapS f (f s x).2 l).2)
theorem mapS_snoc {σ : Type} (f : σ → α → β × σ) : ∀ (l : List α) (s : σ) (x : α), mapS f s (l ++ [x]) = ((mapS f s l).1 ++ [(f (mapS f s l).2 x).1], (f (mapS f s l).2 x).2)
  | [], s, x => rfl
  | y :: l, s, x => by simp [mapS, mapS_snoc f l]
theorem mapS_len {σ : Type} (f : σ → α → β × σ) : ∀ (l : List α) (s : σ), (mapS f s l).1.length = l.length
  | [], s => rfl
  | y :: l, s => by simp [mapS, mapS_len f l]
theorem StOk.unwipe {G H G' H' : Hp} {σ : L2.St} {ρ ρ' : En} {vs : List Nat} {σ2 : L2.St} {ρ2 : En} (h2 : StOk G' H' σ2 ρ2) (hl : σ2.length = σ.length) (hσ : ∀ (i : Nat), i ∉ vs → σ2[i]? = σ[i]?) (hr : ∀ (i : Nat), i ∉ vs → ρ2[i]? = ρ'[i]?) (hll : ρ'.length = ρ2.length)
    (h : StOk G H σ ρ) (hv : ∀ (i : Nat), i ∈ vs → ρ'[i]? = ρ[i]?) (hm : ∀ (i : Nat) p xs, i ∈ vs → ρ[i]? ≠ some (.mu p xs)) (e : Ex G G') : StOk G' H' σ ρ' := by
  rw [StOk.iff]
  obtain ⟨l2, k2⟩ := StOk.iff.mp h2
  obtain ⟨l1, k1⟩ := StOk.iff.mp h
  refine ⟨by omega, fun i o s h1 h3 => ?_⟩
  by_cases hi : i ∈ vs
  · rw [hv i hi] at h3
    rcases k1 i o s h1 h3 with q | ⟨v, q1, q2⟩
    · exact .inl q
    · refine .inr ⟨v, q1, ?_⟩
      cases s with
      | un => trivial
      | dat d => exact dq_mono e q2
      | va u => exact q2
      | kl K ns => obtain ⟨a0, e1, e2⟩ := q2; exact ⟨a0, e1, Ex.sl e e2⟩
      | mu p xs => exact absurd h3 (hm i p xs hi)
  · exact k2 i o s (by rw [hσ i hi]; exact h1) (by rw [hr i hi]; exact h3)
theorem wipeE_out {i : Nat} : ∀ {vs : List Nat} {ρ : En}, i ∉ vs → (wipeE ρ vs)[i]? = ρ[i]?
  | [], _, _ => rfl
  | v :: vs, ρ, h => by
    have h1 : v ≠ i := fun e => h (by rw [e]; exact List.mem_cons_self)
    unfold wipeE
    rw [List.getElem?_set_ne h1]
    exact wipeE_out fun m => h (List.mem_cons_of_mem _ m)
theorem ev_lcS {S : Type} {xs : List α} {enc : α → PyData} {j : Nat} {f : S → α → β × S} (eb : β → PyData) (C : S → En) (s0 : S) (hi : EvI true wi ρ (xs.map enc) (C s0)) (hj : j ∈ vs) (hl : xs.length ≤ 1000000)
    (hC : ∀ s, adr (C s) = adr (C s0) ∧ (C s).length = (C s0).length ∧ ∀ (i : Nat), i ∈ vs → (C s)[i]? = some .un)
    (hs : ∀ s, ∀ x ∈ xs, Ev true te ((wipeE (C s) vs).set j (.dat (enc x))) (.d (eb (f s x).1)) ((wipeE (C (f s x).2) vs).set j (.dat (enc x)))) :
    Ev true (tLc wi (gName j) tYes te vs) ρ (.l ((mapS f s0 xs).1.map eb)) (C (mapS f s0 xs).2) := fun G H σ e st nd Q q =>
  hi G H σ e st nd _ fun J G1 H1 x1 s1 a1 hJ Dl hD => by
    have nd1 : (adr (C s0)).Nodup := by rw [a1]; exact nd
    have hD0 : H Dl = none := by
      cases z : H Dl with
      | none => rfl
      | some o => exact absurd hD (x1.th Dl (by rw [z]; simp))
    refine ⟨fun i m H' => i + m = xs.length ∧ ∃ G' acc, Ext (adr (C s0)) G1 H1 G' H' ∧ StOk G' H' σ (C (mapS f s0 (xs.take i)).2) ∧ G' Dl = none ∧ H' Dl = some (.lst acc) ∧ DqA G' acc ((mapS f s0 (xs.take i)).1.map eb), ⟨xs.length, by simp, G1, [], Ext.own x1.gh hD, ?_, x1.gh.none hD, upd_same, .nil⟩, fun i m H' hW => ?_⟩
    · exact s1.mono (Ext.own x1.gh hD)
    obtain ⟨hm, G', acc, x2, st2, gD, hDl, hacc⟩ := hW
    have hDa : Dl ∉ adr (C s0) := fun hmm => by
      rw [a1] at hmm
      obtain ⟨_, us, hu⟩ := st.own hmm
      rw [hD0] at hu; cases hu
    obtain ⟨hstop, hgo⟩ := hJ G' H' x2.gg x2.gh
    by_cases hlt : i < xs.length
    · obtain ⟨x, hx⟩ : ∃ x, xs[i]? = some x := ⟨xs[i], by simp [hlt]⟩
      have hmem : x ∈ xs := List.mem_of_getElem? hx
      obtain ⟨hgo1, hy⟩ := hgo i (enc x) (by rw [List.getElem?_map, hx]; rfl)
      refine .inr ⟨hgo1, fun H3 => ∃ G' acc, Ext (adr (C s0)) G1 H1 G' H3 ∧ StOk G' H3 σ (C (mapS f s0 (xs.take (i + 1))).2) ∧ G' Dl = none ∧ H3 Dl = some (.lst acc) ∧ DqA G' acc ((mapS f s0 (xs.take (i + 1))).1.map eb), fun H3 h3 => ⟨m - 1, by omega, by omega, h3⟩, fun v H3 hv => ?_⟩
      obtain ⟨G3, x3, hd3⟩ := hy v H3 hv
      generalize hs0 : (mapS f s0 (xs.take i)).2 = s at st2
      obtain ⟨c1, c2, c3⟩ := hC s
      have st3 := st2.mono x3
      have sw : StOk G3 H3 (wipe σ vs) (wipeE (C s) vs) := st3.wipe vs
      have y3 : Ext (adr (C s0)) G1 H1 G3 H3 := x2.tr x3.up
      have D3 : H3 Dl = some (.lst acc) := x3.hh _ _ hDl
      have gD3 : G3 Dl = none := x3.nw Dl (by simp) gD (by rw [hDl]; simp)
      have etake : xs.take (i + 1) = xs.take i ++ [x] := by rw [List.take_add_one, hx]; rfl
      have hset : ∀ (k : Nat), k ∉ vs → ((wipe σ vs).set j (some v))[k]? = σ[k]? := fun k hk => by
        rw [List.getElem?_set_ne (fun z => hk (by rw [← z]; exact hj)), wipe_out hk]
      refine ⟨wipe_ext (by rw [List.length_set, wipe_length]) fun k hk => by rw [hset k hk, wipe_out hk], ?_⟩
      have s4 : StOk G3 H3 ((wipe σ vs).set j (some v)) ((wipeE (C s) vs).set j (.dat (enc x))) := sw.set (s := .dat (enc x)) hd3 j
      have ad4 : adr ((wipeE (C s) vs).set j (.dat (enc x))) = adr (C s0) := by
        have h1 : ∀ (vs : List Nat), (∀ i ∈ vs, (C s)[i]? = some .un) → wipeE (C s) vs = C s := by
          intro vs
          induction vs with
          | nil => intro _; rfl
          | cons w vs ih =>
            intro hw
            unfold wipeE
            rw [ih fun i hi => hw i (List.mem_cons_of_mem _ hi)]
            have := hw w List.mem_cons_self
            apply List.ext_getElem?
            intro k
            by_cases hk : w = k
            · subst hk; rw [List.getElem?_set_self (List.getElem?_eq_some_iff.mp this).1, this]
            · rw [List.getElem?_set_ne hk]
        rw [h1 vs c3]
        have h2 : ∀ (ρ : En) (j : Nat), ρ[j]? = some .un → adr (ρ.set j (.dat (enc x))) = adr ρ := by
          intro ρ
          induction ρ with
          | nil => intro j h; simp at h
          | cons a r ih =>
            intro j h
            cases j with
            | zero => simp at h; subst h; rfl
            | succ j => rw [List.set_cons_succ, adr_cons, adr_cons, ih j (by simpa using h)]
        rw [h2 _ j (c3 j hj)]
        exact c1
      refine hs s x hmem G3 H3 _ x3.gh s4 (by rw [ad4]; exact nd1) _ fun w G5 H5 x5 s5 a5 k5 => ?_
      have x5' : Ext (adr (C s0)) G3 H3 G5 H5 := by
        have : Ext (adr ((wipeE (C s) vs).set j (.dat (enc x)))) G3 H3 G5 H5 := x5
        rwa [ad4] at this
      have D5 : H5 Dl = some (.lst acc) := x5'.fr _ _ hDa D3
      have gD5 : G5 Dl = none := x5'.nw Dl hDa gD3 (by rw [D3]; simp)
      have y5 : Ext (adr (C s0)) G1 H1 G5 H5 := y3.tr x5'
      have s6 : StOk G5 H5 σ (C (f s x).2) := by
        obtain ⟨d1, d2, d3⟩ := hC (f s x).2
        refine s5.unwipe (by rw [List.length_set, wipe_length]) hset (fun k hk => ?_) (by rw [List.length_set, wipeE_len]) st3 (fun k hk => by rw [d3 k hk, c3 k hk]) (fun k p ys hk => by rw [c3 k hk]; simp) x5'.gg
        rw [List.getElem?_set_ne (fun z => hk (by rw [← z]; exact hj)), wipeE_out hk]
      have x6 : Ext [Dl] G5 H5 G5 (upd H5 Dl (.lst (acc ++ [w]))) := Ext.set x5'.gh (by simp) gD5
      refine ⟨acc, D5, ?_, G5, acc ++ [w], ?_, ?_, gD5, upd_same, ?_⟩
      · rw [hacc.len, List.length_map, mapS_len, sizeLine_eq]
        have h2 : (xs.take i).length ≤ xs.length := by rw [List.length_take]; omega
        omega
      · exact y5.trans x6 fun c hc => .inr (by rw [List.mem_singleton.mp hc]; exact hD)
      · rw [etake, mapS_snoc, hs0]
        have keep : ∀ {σ : List (Option V)} {ρ : En}, StOk G5 H5 σ ρ → Dl ∉ adr ρ → StOk G5 (upd H5 Dl (.lst (acc ++ [w]))) σ ρ := by
          intro σ ρ h
          induction h with
          | nil => intro _; exact .nil
          | @cons o s σ ρ h t ih =>
            intro hp
            rw [adr_cons] at hp
            refine .cons ?_ (ih fun z => hp (List.mem_append_right _ z))
            rcases h with h | ⟨v, h1, h2⟩
            · exact .inl h
            · refine .inr ⟨v, h1, ?_⟩
              cases s with
              | un => trivial
              | dat d => exact h2
              | va u => exact h2
              | kl K ns => exact h2
              | mu q zs =>
                obtain ⟨k1, k2, vs, k3, k4⟩ := h2
                refine ⟨k1, k2, vs, ?_, k4⟩
                rw [upd_ne (fun z => hp (List.mem_append_left _ (by simp [adr1, z])))]; exact k3
        exact keep s6 (by rw [(hC (f s x).2).1]; exact hDa)
      · rw [etake, mapS_snoc, hs0, List.map_append]
        exact (dqs_mono x5'.gg (dqs_mono x3.gg hacc)).app (.cons k5 .nil)
    · have ei : i = xs.length := by omega
      refine .inl ⟨by rw [List.length_map] at hstop; rw [ei]; exact hstop, ?_⟩
      rw [ei, List.take_length] at hacc st2
      have x0 : Ext (ws true ρ) G H G' H' := Ext.tr x1 (show Ext (adr ρ) G1 H1 G' H' by rw [← a1]; exact x2)
      exact q _ G' H' x0 st2 ((hC _).1.trans a1) ⟨Dl, acc, rfl, hD0, gD, hDl, hacc⟩

/-! ### typed walks -/
theorem zip_typed (e1 : α → PyData) (e2 : β → PyData) : ∀ (xs : List α) (ys : List β), zipD (xs.map e1) (ys.map e2) = (xs.zip ys).map (eP e1 e2)
  | [], ys => by cases ys <;> rfl
  | x :: xs, [] => rfl
  | x :: xs, y :: ys => by simp [zipD, zip_typed e1 e2 xs ys]
def enumI : Int → List α → List (Int × α)
  | _, [] => []
  | k, x :: xs => (k, x) :: enumI (k + 1) xs
theorem enum_typed (e : α → PyData) : ∀ (xs : List α) (k : Int), enumD k (xs.map e) = (enumI k xs).map (eP .int e)
  | [], _ => rfl
  | x :: xs, k => by simp [enumD, enumI, enum_typed e xs]
theorem ei_zL {ta : TA} {e1 : α → PyData} {e2 : β → PyData} {xs : List α} {ys : List β} (h : EvA b ta ρ [.d (eL e1 xs), .d (eL e2 ys)] ρ1) : EvI b (RZ.iZipA K ta) ρ ((xs.zip ys).map (eP e1 e2)) ρ1 := by
  rw [← zip_typed]; exact ei_zipL h
theorem ei_zT {ta : TA} {e1 : α → PyData} {e2 : β → PyData} {xs : List α} {ys : List β} (h : EvA b ta ρ [.d (eT e1 xs), .d (eT e2 ys)] ρ1) : EvI b (RZ.iZipA K ta) ρ ((xs.zip ys).map (eP e1 e2)) ρ1 := by
  rw [← zip_typed]; exact ei_zipT h
theorem ei_en {ta : TA} {e : α → PyData} {xs : List α} (h : EvA b ta ρ [.d (eL e xs)] ρ1) : EvI b (iEnum K ta) ρ ((enumI 0 xs).map (eP .int e)) ρ1 := by
  rw [← enum_typed]; exact ei_enum h

theorem split_at {xs : List α} {i : Nat} {x : α} (h : xs[i]? = some x) : xs = xs.take i ++ x :: xs.drop (i + 1) := by
  obtain ⟨h1, h2⟩ := List.getElem?_eq_some_iff.mp h
  subst h2
  rw [List.getElem_cons_drop, List.take_append_drop]
/-! ### loops over typed lists -/
/-- a search: it gives back at the first place where p holds -/
theorem sv_find {xs : List α} {enc : α → PyData} {j : Nat} (hi : EvI b wi ρ (xs.map enc) ρ1) (ρ0 : En) (hw : Wk ρ1 ρ0) (p : α → Bool) (f : α → Rv)
    (hs : ∀ x ∈ xs, Sv t (ρ0.set j (.dat (enc x))) { nx := fun ρ' => p x = false ∧ Wk ρ' ρ0, ct := fun ρ' => p x = false ∧ Wk ρ' ρ0, rt := fun r _ => p x = true ∧ r = f x })
    (h1 : ∀ x ρ', xs.find? p = some x → E.rt (f x) ρ') (h2 : xs.find? p = none → E.nx ρ0) : Sv (tFor wi (gName j) t) ρ E := by
  refine sv_for hi (fun _ d => [(j, d)]) (fun _ _ _ => gv_name) (fun i ρ' => ρ' = ρ0 ∧ ∀ x ∈ xs.take i, p x = false) ⟨ρ0, hw, rfl, by simp⟩ (fun i d ρ2 hd hI => ?_) fun ρ2 hI => ?_
  · obtain ⟨rfl, hI⟩ := hI
    rw [List.getElem?_map] at hd
    cases hx : xs[i]? with
    | none => rw [hx] at hd; cases hd
    | some x =>
      rw [hx] at hd
      have hd : enc x = d := Option.some.inj hd
      subst hd
      have etake : xs.take (i + 1) = xs.take i ++ [x] := by rw [List.take_add_one, hx]; rfl
      have hn : ∀ ρ', p x = false ∧ Wk ρ' ρ2 → ∃ ρ'', Wk ρ' ρ'' ∧ ρ'' = ρ2 ∧ ∀ x ∈ xs.take (i + 1), p x = false := fun ρ' ⟨h1, h2⟩ => ⟨ρ2, h2, rfl, fun y hy => by
        rw [etake] at hy
        rcases List.mem_append.mp hy with hy | hy
        · exact hI y hy
        · rw [List.mem_singleton.mp hy]; exact h1⟩
      refine (hs x (List.mem_of_getElem? hx)).imp hn (fun r ρ' h => ?_) (fun _ h => h.elim) hn
      obtain ⟨h3, rfl⟩ := h
      refine h1 x ρ' ?_
      have hsplit : xs = xs.take i ++ x :: xs.drop (i + 1) := split_at hx
      rw [hsplit, List.find?_append, List.find?_eq_none.mpr fun y hy => by rw [hI y hy]; decide]
      simp [h3]
  · obtain ⟨rfl, hI⟩ := hI
    refine h2 (List.find?_eq_none.mpr fun y hy => ?_)
    rw [List.length_map, List.take_length] at hI
    rw [hI y hy]; decide
/-- a fold: what is carried stands in the slots as C says -/
theorem sv_fold {S : Type} {xs : List α} {enc : α → PyData} {j : Nat} (hi : EvI b wi ρ (xs.map enc) ρ1) (C : S → En) (f : S → α → S) (s0 : S) (hw : Wk ρ1 (C s0))
    (hs : ∀ (pre : List α) (x : α) (post : List α), xs = pre ++ x :: post → Sv t ((C (pre.foldl f s0)).set j (.dat (enc x))) { E with nx := fun ρ' => Wk ρ' (C (f (pre.foldl f s0) x)), ct := fun ρ' => Wk ρ' (C (f (pre.foldl f s0) x)), bk := E.nx })
    (hd : E.nx (C (xs.foldl f s0))) : Sv (tFor wi (gName j) t) ρ E := by
  refine sv_for hi (fun _ d => [(j, d)]) (fun _ _ _ => gv_name) (fun i ρ' => ρ' = C ((xs.take i).foldl f s0)) ⟨_, hw, rfl⟩ (fun i d ρ2 hd hI => ?_) fun ρ2 hI => ?_
  · subst hI
    rw [List.getElem?_map] at hd
    cases hx : xs[i]? with
    | none => rw [hx] at hd; cases hd
    | some x =>
      rw [hx] at hd
      have hd : enc x = d := Option.some.inj hd
      subst hd
      have etake : xs.take (i + 1) = xs.take i ++ [x] := by rw [List.take_add_one, hx]; rfl
      have hsplit : xs = xs.take i ++ x :: xs.drop (i + 1) := split_at hx
      have hf : f ((xs.take i).foldl f s0) x = (xs.take (i + 1)).foldl f s0 := by rw [etake, List.foldl_append]; rfl
      refine (hs _ x _ hsplit).imp (fun ρ' h => ⟨_, h, by rw [hf]⟩) (fun _ _ h => h) (fun _ h => h) (fun ρ' h => ⟨_, h, by rw [hf]⟩)
  · rw [hI, List.length_map, List.take_length]; exact hd
/-- over pairs -/
theorem sv_fold2 {S : Type} {xs : List (α × β)} {e1 : α → PyData} {e2 : β → PyData} {i j : Nat} (hi : EvI b wi ρ (xs.map (eP e1 e2)) ρ1) (C : S → En) (f : S → α × β → S) (s0 : S) (hw : Wk ρ1 (C s0))
    (hs : ∀ (pre : List (α × β)) (x : α × β) (post : List (α × β)), xs = pre ++ x :: post → Sv t (((C (pre.foldl f s0)).set i (.dat (e1 x.1))).set j (.dat (e2 x.2))) { E with nx := fun ρ' => Wk ρ' (C (f (pre.foldl f s0) x)), ct := fun ρ' => Wk ρ' (C (f (pre.foldl f s0) x)), bk := E.nx })
    (hd : E.nx (C (xs.foldl f s0))) : Sv (tFor wi (gTup K 2 (gCons (gName i) (gCons (gName j) gNil))) t) ρ E := by
  refine sv_for hi (fun k d => match xs[k]? with | some x => [(i, e1 x.1), (j, e2 x.2)] | none => []) (fun k d hd => ?_) (fun i ρ' => ρ' = C ((xs.take i).foldl f s0)) ⟨_, hw, rfl⟩ (fun i d ρ2 hd hI => ?_) fun ρ2 hI => ?_
  · rw [List.getElem?_map] at hd
    cases hx : xs[k]? with
    | none => rw [hx] at hd; cases hd
    | some x =>
      rw [hx] at hd
      have hd : eP e1 e2 x = d := Option.some.inj hd
      subst hd
      exact gv_tup2
  · subst hI
    rw [List.getElem?_map] at hd
    cases hx : xs[i]? with
    | none => rw [hx] at hd; cases hd
    | some x =>
      rw [hx] at hd
      have hd : eP e1 e2 x = d := Option.some.inj hd
      subst hd
      have etake : xs.take (i + 1) = xs.take i ++ [x] := by rw [List.take_add_one, hx]; rfl
      have hsplit : xs = xs.take i ++ x :: xs.drop (i + 1) := split_at hx
      have hf : f ((xs.take i).foldl f s0) x = (xs.take (i + 1)).foldl f s0 := by rw [etake, List.foldl_append]; rfl
      exact (hs _ x _ hsplit).imp (fun ρ' h => ⟨_, h, by rw [hf]⟩) (fun _ _ h => h) (fun _ h => h) (fun ρ' h => ⟨_, h, by rw [hf]⟩)
  · rw [hI, List.length_map, List.take_length]; exact hd
/-- each turn goes on: C holds of what is carried -/
theorem sv_each {S : Type} {xs : List α} {enc : α → PyData} {j : Nat} (hi : EvI b wi ρ (xs.map enc) ρ1) (I : S → Prop) (C : S → En) (s0 : S) (h0 : I s0) (hw : Wk ρ1 (C s0))
    (hs : ∀ s, I s → ∀ x ∈ xs, Sv t ((C s).set j (.dat (enc x))) { E with nx := fun ρ' => ∃ s', I s' ∧ Wk ρ' (C s'), ct := fun ρ' => ∃ s', I s' ∧ Wk ρ' (C s'), bk := E.nx })
    (hd : ∀ s, I s → E.nx (C s)) : Sv (tFor wi (gName j) t) ρ E := by
  refine sv_for hi (fun _ d => [(j, d)]) (fun _ _ _ => gv_name) (fun i ρ' => ∃ s, I s ∧ ρ' = C s) ⟨_, hw, s0, h0, rfl⟩ (fun i d ρ2 hd hI => ?_) fun ρ2 hI => ?_
  · obtain ⟨s, hI, rfl⟩ := hI
    rw [List.getElem?_map] at hd
    cases hx : xs[i]? with
    | none => rw [hx] at hd; cases hd
    | some x =>
      rw [hx] at hd
      have hd : enc x = d := Option.some.inj hd
      subst hd
      exact (hs s hI x (List.mem_of_getElem? hx)).imp (fun ρ' ⟨s', h1, h2⟩ => ⟨_, h2, s', h1, rfl⟩) (fun _ _ h => h) (fun _ h => h) (fun ρ' ⟨s', h1, h2⟩ => ⟨_, h2, s', h1, rfl⟩)
  · obtain ⟨s, hI, rfl⟩ := hI
    exact hd s hI
/-- two ways that join -/
theorem sv_join (ρm : En) (h : Sv t ρ { E with nx := fun ρ' => Wk ρ' ρm }) (k : Sv u ρm E) : Sv (tSeq t u) ρ E := sv_seq (fun G H σ e st nd D d1 d2 d3 d4 =>
  h G H σ e st nd D (fun ρ' G' H' σ' s w => d1 ρm G' H' σ' (s.wk w) k) d2 d3 d4)
end
end Kn

namespace Kn
open PySem PySem.Spec PyProof.Rows L2

/-! ### names -/
theorem bt_len : bootBuiltins "len" = some (.builtin "len") := by decide +kernel
theorem bt_sum : bootBuiltins "sum" = some (.builtin "sum") := by decide +kernel
theorem bt_max : bootBuiltins "max" = some (.builtin "max") := by decide +kernel
theorem bt_min : bootBuiltins "min" = some (.builtin "min") := by decide +kernel
theorem bt_sorted : bootBuiltins "sorted" = some (.builtin "sorted") := by decide +kernel
theorem bt_isinstance : bootBuiltins "isinstance" = some (.builtin "isinstance") := by decide +kernel
theorem bt_all : bootBuiltins "all" = some (.builtin "all") := by decide +kernel
theorem bt_any : bootBuiltins "any" = some (.builtin "any") := by decide +kernel
theorem bt_tuple : bootBuiltins "tuple" = some (.type "tuple") := by decide +kernel
theorem bt_list : bootBuiltins "list" = some (.type "list") := by decide +kernel
theorem bt_int : bootBuiltins "int" = some (.type "int") := by decide +kernel
theorem bt_bool : bootBuiltins "bool" = some (.type "bool") := by decide +kernel
theorem bt_str : bootBuiltins "str" = some (.type "str") := by decide +kernel
theorem bt_set : bootBuiltins "set" = some (.type "set") := by decide +kernel
theorem bt_dict : bootBuiltins "dict" = some (.type "dict") := by decide +kernel
/-! ### what a text's names stand for -/
/-- a module's constant -/
def CG (mg : Str → Option Value) (x : Str) (v : V) : Prop := ∃ u, mg x = some u ∧ RelV v u
theorem pe_gl {X : Cx} {x : Str} {v : V} {pos : Pos} (hg : Gl X x) (h : CG X.mg x v) (hd : (x == ("__debug__" : Str)) = false := by decide) : PE X (.Name x pos) (tC v) := by
  obtain ⟨u, h1, h2⟩ := h
  exact pe_glob hg h1 h2 hd
/-- a def that keeps its promise -/
structure Cal (P : Program) (w : World) (K : PySem.W.Frag) (mg : Str → Option Value) (base : Heap) (dvs : List V) (x : Str) (k : Nat) (ps : List Str) (sp : Sp) (f : Addr) (fd : FuncData) : Prop where
  m : mg x = some (.ref f)
  kp : PySem.W.keepIn K (.ref f) = true
  g : FnOk P w K mg base CX0 k f fd ps sp
  b : ∃ ds, Vals dvs ds ∧ Binds K fd ps ds
theorem Binds.no {K : PySem.W.Frag} {fd : FuncData} {ps : List Str} (h : Binds K fd ps []) : ∃ ds, Vals [] ds ∧ Binds K fd ps ds := ⟨[], .nil, h⟩
section
variable {X : Cx} {dvs : List V} {k j : Nat} {st : Stmt} {x : Str} {ps : List Str} {sp : Sp} {p pos : Pos} {e : Expr} {es : List Expr} {t tk : TA} {f : Addr} {fd : FuncData}
theorem pe_cal (C : Cal X.prog X.w X.K X.mg X.base dvs x k ps sp f fd) (hr : Room j X.A) (hk : k ≤ j) (hg : Gl X x) (ha : PA X (e :: es) t) (hdb : (x == ("__debug__" : Str)) = false := by decide)
    (he : starEach (e :: es) X.env = (false, eval e X.env) :: starEach es X.env := by rfl) (hpl : (backTo pos (starEach es X.env)).any (·.1) = false := by rfl) : PE X (.Call (.Name x p) (e :: es) [] pos) (tCall sp dvs E0 t) := by
  obtain ⟨ds, h1, h2⟩ := C.b
  exact pe_call C.g (hr.mono hk) hg C.m C.kp h2 h1 pass0 ha hdb he hpl
theorem pe_cal0 (C : Cal X.prog X.w X.K X.mg X.base dvs x k ps sp f fd) (hr : Room j X.A) (hk : k ≤ j) (hg : Gl X x) (hdb : (x == ("__debug__" : Str)) = false := by decide) : PE X (.Call (.Name x p) [] [] pos) (tCall sp dvs E0 tNil) := by
  obtain ⟨ds, h1, h2⟩ := C.b
  exact pe_call0 C.g (hr.mono hk) hg C.m C.kp h2 h1 pass0 hdb

/-! ### calls by keywords -/
def pk {α : Type} (n m : Nat) (π : List Nat) (us ws : List α) : List α := if us.length = n ∧ ws.length = m then π.filterMap (fun i => (us ++ ws)[i]?) else []
theorem pk_vals {n m : Nat} {π : List Nat} {vs zs : List V} {us ws : List Value} (h : Vals vs us) (h2 : Vals zs ws) : Vals (pk n m π vs zs) (pk n m π us ws) := by
  unfold pk
  rw [h.length, h2.length]
  split
  · have h3 := h.append h2
    generalize vs ++ zs = a at h3
    generalize us ++ ws = b at h3
    induction π with
    | nil => exact .nil
    | cons i π ih =>
      cases hi : a[i]? with
      | none =>
        have : b[i]? = none := by rw [List.getElem?_eq_none_iff] at hi ⊢; rw [← h3.length]; exact hi
        rw [List.filterMap_cons_none hi, List.filterMap_cons_none this]; exact ih
      | some v =>
        obtain ⟨u, h4, h5⟩ := h3.get hi
        rw [List.filterMap_cons_some hi, List.filterMap_cons_some h4]; exact .cons h5 ih
  · exact .nil
theorem pk_dqs {G : Hp} {n m : Nat} {π : List Nat} {vs zs : List V} {us ws : List PyData} (h : DqA G vs us) (h2 : DqA G zs ws) : DqA G (pk n m π vs zs) (pk n m π us ws) := by
  unfold pk
  rw [h.len, h2.len]
  split
  · have h3 := h.app h2
    generalize vs ++ zs = a at h3
    generalize us ++ ws = b at h3
    induction π with
    | nil => exact .nil
    | cons i π ih =>
      cases hi : a[i]? with
      | none =>
        have : b[i]? = none := by rw [List.getElem?_eq_none_iff] at hi ⊢; rw [← h3.len]; exact hi
        rw [List.filterMap_cons_none hi, List.filterMap_cons_none this]; exact ih
      | some v =>
        obtain ⟨u, h4, h5⟩ := h3.get hi
        rw [List.filterMap_cons_some hi, List.filterMap_cons_some h4]; exact .cons h5 ih
  · exact .nil
theorem kb_fun {K : PySem.W.Frag} {qual : Str} {ps ks : List Str} {n m : Nat} {π : List Nat} (F : Fun K x qual st f fd) (h0 : 0 < ps.length)
    (h : ∀ (kV doc pm : Value) (an : Option Addr) (cdv ct : Value) (us ws : List Value), us.length = n → ws.length = m → bindArgs (PySem.W.fnOf x qual (defArgs st) (defBody st) (defScope st) .none kV doc pm an cdv ct) ⟨us, ks.zip ws⟩ = pure (ps.zip (pk n m π us ws))) :
    KBinds K fd ps ks (pk n m π) (pk n m π) := by
  obtain ⟨oc, od, kV, doc, pm, an, cdv, ct, osl, rfl, lk, hcd⟩ := F.ex
  refine ⟨fun s us ws kin hl => ?_, fun h h2 => pk_vals h h2⟩
  by_cases hc : us.length = n ∧ ws.length = m
  · exact .of_eq (h kV doc pm an cdv ct us ws hc.1 hc.2)
  · unfold pk at hl
    rw [if_neg hc] at hl
    exact absurd hl (by simp; omega)
variable {n m : Nat} {π : List Nat} {ks : List Str} {kws : List Keyword}
theorem pe_calK (C : Cal X.prog X.w X.K X.mg X.base dvs x k ps sp f fd) (hr : Room j X.A) (hk : k ≤ j) (hb : KBinds X.K fd ps ks (pk n m π) (pk n m π)) (hg : Gl X x) (ha : PA X (e :: es) t) (hkw : PK X kws tk)
    (hall : (backToKw pos (keywordEach kws X.env)).all (·.1.isSome) = true := by rfl) (hks : (backToKw pos (keywordEach kws X.env)).filterMap (·.1) = ks := by rfl)
    (hdb : (x == ("__debug__" : Str)) = false := by decide) (he : starEach (e :: es) X.env = (false, eval e X.env) :: starEach es X.env := by rfl)
    (hpl : ((backTo pos (starEach (e :: es) X.env)).any (·.1) || (backToKw pos (keywordEach kws X.env)).any (·.1.isNone)) = false := by rfl) : PE X (.Call (.Name x p) (e :: es) kws pos) (tCallK sp (pk n m π) E0 t tk) :=
  pe_callK C.g (hr.mono hk) hg C.m C.kp hb pass0 ha hkw hall hks hdb he hpl
theorem pe_calK0 (C : Cal X.prog X.w X.K X.mg X.base dvs x k ps sp f fd) (hr : Room j X.A) (hk : k ≤ j) (hb : KBinds X.K fd ps ks (pk n m π) (pk n m π)) (hg : Gl X x) (hkw : PK X kws tk)
    (hall : (backToKw pos (keywordEach kws X.env)).all (·.1.isSome) = true := by rfl) (hks : (backToKw pos (keywordEach kws X.env)).filterMap (·.1) = ks := by rfl)
    (hdb : (x == ("__debug__" : Str)) = false := by decide) (hpl : ((backTo pos (starEach [] X.env)).any (·.1) || (backToKw pos (keywordEach kws X.env)).any (·.1.isNone)) = false := by rfl) :
    PE X (.Call (.Name x p) [] kws pos) (tCallK sp (pk n m π) E0 tNil tk) := by
  refine ⟨fun pins s σ H Q I h => ?_⟩
  refine wpAny_Call_Name_kw (ld_glob I hg C.m ?_ hdb)
  refine PySem.W.callWith_KW0 (h₀ := X.base) I.ok.mod.kin C.kp hall (thn (hkw.run pos pins s σ H _ I h) fun ws s2 ⟨zs, H2, I2, rz, q2⟩ => ⟨I2.kIn, ?_⟩) hpl
  rw [hks]
  exact run_fnk (us := []) (vs := []) C.g (hr.mono hk) hb pass0 I2 .nil rz q2
end

section
variable {b : Bool} {ρ ρ1 ρ2 ρ3 : En} {ta tk tb te : TE} {t u : TS} {tt : TT} {x y z : PyData} {r : Rv} {K : PySem.W.Frag} {α β : Type}
theorem ev_callK {R : List PyData → Rv → Prop} {E : XK} {ta tk : TA} {ds es : List PyData} {n m : Nat} {π : List Nat} (h : EvA b ta ρ (ds.map Ar.d) ρ1) (h2 : EvA b tk ρ1 (es.map Ar.d) ρ2) {as : List PyData} (e0 : pk n m π ds es = as) (hr : R as r) :
    Ev b (tCallK (spD R) (pk n m π) E ta tk) ρ r ρ2 := fun G H σ e st nd Q q =>
  h G H σ e st nd _ fun vs G1 H1 x1 s1 a1 k1 => h2 G1 H1 σ x1.gh s1 (by rw [a1]; exact nd) _ fun zs G2 H2 x2 s2 a2 k2 =>
    ⟨G2, as, r, x2.gh, by rw [← e0]; exact pk_dqs (as_data (k1.mono x2.gg)) (as_data k2), hr, fun v G3 H3 x3 k3 => q v G3 H3 ((x1.then x2 a1).tr x3.up) (s2.mono x3) (a2.trans a1) ((k3.back x2).back x1)⟩

/-! ### typed forms -/
theorem ei_tupD {xs : List PyData} (h : Ev b te ρ (.d (.tuple xs)) ρ1) : EvI b (iTup K te) ρ (xs.map id) ρ1 := by rw [List.map_id]; exact ei_tup h
theorem ei_listD {xs : List PyData} (h : Ev b te ρ (.d (.list xs)) ρ1) : EvI b (iList K te) ρ (xs.map id) ρ1 := by rw [List.map_id]; exact ei_list h

theorem o2_catm (e : α → PyData) {xs ys : List α} (hz : xs.length + ys.length ≤ 1000000) : Op2 rCat (eL e xs) (eL e ys) (.l ((xs ++ ys).map e)) := by
  rw [List.map_append]; exact o2_cat (by rw [List.length_map, List.length_map, sizeLine_eq]; omega)
theorem o2_catTm (e : α → PyData) {xs ys : List α} (hz : xs.length + ys.length ≤ 1000000) : Op2 (rCatA K) (eT e xs) (eT e ys) (.d (eT e (xs ++ ys))) := by
  rw [show eT e (xs ++ ys) = .tuple (xs.map e ++ ys.map e) by simp [List.map_append]]; exact o2_catT (by rw [List.length_map, List.length_map, sizeLine_eq]; omega)
theorem rep_flat (e : α → PyData) (k : Nat) (xs : List α) : (List.replicate k (xs.map e)).flatten = ((List.replicate k xs).flatten).map e := by
  induction k with
  | zero => rfl
  | succ k ih => rw [List.replicate_succ, List.replicate_succ, List.flatten_cons, List.flatten_cons, ih, List.map_append]
theorem o2_repm (e : α → PyData) {xs : List α} {k : Int} (hk : k < 1000000 ∧ -1000000 < k) (hz : xs.length * k.toNat ≤ 1000000) : Op2 rRep (eL e xs) (.int k) (.l ((List.replicate k.toNat xs).flatten.map e)) := by
  rw [← rep_flat]; exact o2_rep ⟨by omega, by omega⟩ (by rw [List.length_map, sizeLine_eq]; omega)
theorem o2_rep1 (e : α → PyData) {a : α} {k : Int} (hk : k ≤ 1000 ∧ -1000000 < k) : Op2 rRep (.list [e a]) (.int k) (.l ((List.replicate k.toNat a).map e)) := by
  have h := o2_repm (xs := [a]) (k := k) e ⟨by omega, hk.2⟩ (by simp; omega)
  have e1 : (List.replicate k.toNat [a]).flatten = List.replicate k.toNat a := by
    induction k.toNat with
    | zero => rfl
    | succ n ih => rw [List.replicate_succ, List.flatten_cons, ih, List.replicate_succ]; rfl
  rw [e1] at h; exact h
theorem o2_repTm (e : α → PyData) {xs : List α} {k : Int} (hk : 2 ≤ k ∧ k ≤ 1000) (hz : xs ≠ [] ∧ xs.length ≤ 1000) : Op2 (rRepT K) (eT e xs) (.int k) (.d (eT e (List.replicate k.toNat xs).flatten)) := fun G H v w eg hv hw Q q => by
  cases hv with
  | tup ha hs =>
    cases hw
    rename_i a vs
    refine ⟨_, k, vs, rfl, rfl, .inl (.inl (eg _ _ ha)), fun z => ?_, hk.1, hk.2, by rw [hs.len, List.length_map]; exact hz.2, fun p hp => ?_⟩
    · have := hs.len; rw [z, List.length_map] at this; exact hz.1 (List.eq_nil_of_length_eq_zero this.symm)
    · have x2 : Ext [] G H (upd G p (.tup (List.replicate k.toNat vs).flatten)) (upd H p (.tup (List.replicate k.toNat vs).flatten)) := Ext.new eg hp
      refine q _ _ _ x2 (.tup upd_same ?_)
      rw [← rep_flat]
      have key : ∀ n : Nat, DqA (upd G p (.tup (List.replicate k.toNat vs).flatten)) (List.replicate n vs).flatten (List.replicate n (xs.map e)).flatten := by
        intro n
        induction n with
        | zero => exact .nil
        | succ n ih =>
          rw [List.replicate_succ, List.replicate_succ, List.flatten_cons, List.flatten_cons]
          exact (dqs_mono x2.gg hs).app ih
      exact key _
theorem at_map (e : α → PyData) {xs : List α} {i : Int} {d : α} (hi : atI xs i = some d) : atI (xs.map e) i = some (e d) := by
  unfold atI at hi ⊢
  rw [List.length_map]
  cases hj : ixN xs.length i with
  | none => rw [hj] at hi; cases hi
  | some j =>
    rw [hj] at hi
    have hi : xs[j]? = some d := hi
    show (xs.map e)[j]? = _
    rw [List.getElem?_map, hi]; rfl
theorem o2_ixLm (e : α → PyData) {xs : List α} {i : Int} {d : α} (hi : atI xs i = some d) : Op2 (rIxL K) (eL e xs) (.int i) (.d (e d)) := o2_ixL (at_map e hi)
theorem o2_ixTm (e : α → PyData) {xs : List α} {i : Int} {d : α} (hi : atI xs i = some d) : Op2 (rIxT K) (eT e xs) (.int i) (.d (e d)) := o2_ixT (at_map e hi)
def cutA (xs : List α) (lo hi : Option Int) : List α := (xs.drop (HT.sIx xs.length 0 lo)).take (HT.sIx xs.length xs.length hi - HT.sIx xs.length 0 lo)
theorem cut_map (e : α → PyData) (xs : List α) (lo hi : Option Int) : cutD (xs.map e) lo hi = (cutA xs lo hi).map e := by
  unfold cutD cutA
  rw [List.length_map, List.map_take, List.map_drop]
theorem ev_slLm {tl th : TO} (e : α → PyData) {xs : List α} {lo hi : Option Int} (h : Ev b te ρ (.d (eL e xs)) ρ1) (h1 : EvO b tl ρ1 lo ρ2) (h2 : EvO b th ρ2 hi ρ3) : Ev b (tSl (rSlL K) te tl th) ρ (.l ((cutA xs lo hi).map e)) ρ3 := by
  rw [← cut_map]; exact ev_slL h h1 h2
theorem ev_slTm {tl th : TO} (e : α → PyData) {xs : List α} {lo hi : Option Int} (h : Ev b te ρ (.d (eT e xs)) ρ1) (h1 : EvO b tl ρ1 lo ρ2) (h2 : EvO b th ρ2 hi ρ3) : Ev b (tSl (rSlA K) te tl th) ρ (.d (eT e (cutA xs lo hi))) ρ3 := by
  rw [show eT e (cutA xs lo hi) = .tuple (cutD (xs.map e) lo hi) by rw [cut_map]]; exact ev_slT h h1 h2
theorem ev_revLm (e : α → PyData) {xs : List α} (h : Ev b te ρ (.d (eL e xs)) ρ1) : Ev b (tRevL K te) ρ (.l (xs.reverse.map e)) ρ1 := by
  rw [List.map_reverse]; exact ev_revL h
theorem rc_lenLm {e : α → PyData} {l : List α} : RcD (rLen K) [.d (eL e l)] (.d (.int l.length)) := by
  have h := rc_lenL (K := K) (l := l.map e); rwa [List.length_map] at h
theorem rc_lenTm {e : α → PyData} {l : List α} : RcD (rLen K) [.d (eT e l)] (.d (.int l.length)) := by
  have h := rc_lenT (K := K) (l := l.map e); rwa [List.length_map] at h
/-- slices from the front -/
theorem cut_to {xs : List α} {n : Int} (h : 0 ≤ n) : cutA xs none (some n) = xs.take n.toNat := by
  unfold cutA
  obtain ⟨k, rfl⟩ := Int.eq_ofNat_of_zero_le h
  rw [HT.sIx_none, show HT.sIx xs.length xs.length (some (k : Int)) = min k xs.length from HT.sIx_nat xs.length xs.length k]
  simp only [List.drop_zero, Nat.sub_zero, Int.toNat_natCast]
  by_cases hk : k ≤ xs.length
  · rw [Nat.min_eq_left hk]
  · rw [Nat.min_eq_right (by omega), List.take_length, List.take_of_length_le (by omega)]
theorem cut_from {xs : List α} {n : Int} (h : 0 ≤ n) : cutA xs (some n) none = xs.drop n.toNat := by
  unfold cutA
  obtain ⟨k, rfl⟩ := Int.eq_ofNat_of_zero_le h
  rw [HT.sIx_none, show HT.sIx xs.length 0 (some (k : Int)) = min k xs.length from HT.sIx_nat xs.length 0 k]
  simp only [Int.toNat_natCast]
  by_cases hk : k ≤ xs.length
  · rw [Nat.min_eq_left hk, List.take_of_length_le (by rw [List.length_drop]; omega)]
  · rw [Nat.min_eq_right (by omega), List.drop_length, List.drop_of_length_le (by omega)]; simp
theorem pg_subL {X : Cx} {o i : Expr} {pos : Pos} {to ti : TE} (ho : PE X o to) (hi : PE X i ti)
    (ha : ∀ v, assign (.Subscript o i pos) X.env v = (do
      let ov ← holding [v] (eval o X.env)
      let iv ← holding [v, ov] (eval i X.env)
      standAt pos
      holding [v, ov, iv] (setItem ov iv v)
      release [v, ov, iv] []) := by intro _; rfl) : PG X (.Subscript o i pos) (gSub to ti rSetL) := pg_sub ho hi set_list ha
end
/-! ### kinds of data that are compared -/
structure EqT {α : Type} [DecidableEq α] (e : α → PyData) (n : Nat) : Prop where
  lay : ∀ a, (e a).canLay0 = true
  dep : ∀ a, (e a).depth ≤ n
  eq : ∀ a b, PyData.eqv (e a) (e b) = decide (a = b)
theorem eq_int : EqT PyData.int 0 := ⟨fun _ => rfl, fun _ => Nat.le_refl _, fun a b => by
  show (a == b) = decide (a = b)
  rfl⟩
theorem eq_bool : EqT PyData.bool 0 := ⟨fun _ => rfl, fun _ => Nat.le_refl _, fun a b => by cases a <;> cases b <;> rfl⟩
section
variable {α β : Type} [DecidableEq α] [DecidableEq β] {e : α → PyData} {e2 : β → PyData} {n m : Nat}
theorem eq_all (h : EqT e n) : ∀ a b : List α, PyData.eqvAll (a.map e) (b.map e) = decide (a = b)
  | [], [] => rfl
  | [], _ :: _ => by simp [PyData.eqvAll]
  | _ :: _, [] => by simp [PyData.eqvAll]
  | x :: a, y :: b => by
    show (PyData.eqv (e x) (e y) && PyData.eqvAll (a.map e) (b.map e)) = _
    rw [h.eq, eq_all h a b]
    by_cases h1 : x = y <;> by_cases h2 : a = b <;> simp [h1, h2]
theorem lay_all (h : EqT e n) : ∀ a : List α, PyData.canLayAll0 (a.map e) = true
  | [] => rfl
  | x :: a => by show ((e x).canLay0 && PyData.canLayAll0 (a.map e)) = true; rw [h.lay, lay_all h a]; rfl
theorem dep_all (h : EqT e n) : ∀ a : List α, PyData.depthAll (a.map e) ≤ n
  | [] => Nat.zero_le _
  | x :: a => by show max (e x).depth (PyData.depthAll (a.map e)) ≤ n; have := h.dep x; have := dep_all h a; omega
theorem eq_L (h : EqT e n) : EqT (eL e) (n + 1) := ⟨fun a => lay_all h a, fun a => by show PyData.depthAll (a.map e) + 1 ≤ _; have := dep_all h a; omega, fun a b => eq_all h a b⟩
theorem eq_T (h : EqT e n) : EqT (eT e) (n + 1) := ⟨fun a => lay_all h a, fun a => by show PyData.depthAll (a.map e) + 1 ≤ _; have := dep_all h a; omega, fun a b => eq_all h a b⟩
theorem eq_P (h : EqT e n) (h2 : EqT e2 m) : EqT (eP e e2) (max n m + 1) := ⟨fun a => by show ((e a.1).canLay0 && ((e2 a.2).canLay0 && true)) = true; rw [h.lay, h2.lay]; rfl,
  fun a => by show max (e a.1).depth (max (e2 a.2).depth 0) + 1 ≤ _; have := h.dep a.1; have := h2.dep a.2; omega,
  fun a b => by
    show (PyData.eqv (e a.1) (e b.1) && (PyData.eqv (e2 a.2) (e2 b.2) && true)) = _
    rw [h.eq, h2.eq]
    obtain ⟨a1, a2⟩ := a
    obtain ⟨b1, b2⟩ := b
    by_cases h1 : a1 = b1 <;> by_cases h2 : a2 = b2 <;> simp [h1, h2]⟩
theorem EqT.sh (h : EqT e n) (hn : n ≤ 64) (a : α) : SeqAt.shaped (e a) = true := by
  unfold SeqAt.shaped
  rw [h.lay, Bool.true_and, decide_eq_true_eq]
  exact Nat.le_trans (h.dep a) hn
theorem o2_eqDm {K : PySem.W.Frag} {a b : α} (h : EqT e n) (hn : n ≤ 64) : Op2 (rEqD K) (e a) (e b) (.d (.bool (decide (a = b)))) := by
  rw [← h.eq]; exact o2_eqD (h.sh hn a) (h.sh hn b)
theorem o2_neDm {K : PySem.W.Frag} {a b : α} (h : EqT e n) (hn : n ≤ 64) : Op2 (rNeD K) (e a) (e b) (.d (.bool (!decide (a = b)))) := by
  rw [← h.eq]; exact o2_neD (h.sh hn a) (h.sh hn b)
theorem any_mem (h : EqT e n) (a : α) : ∀ l : List α, ((l.map e).any fun z => PyData.eqv z (e a)) = decide (a ∈ l)
  | [] => rfl
  | x :: l => by
    rw [List.map_cons, List.any_cons, any_mem h a l, h.eq]
    by_cases h1 : x = a <;> by_cases h2 : a ∈ l <;> simp [h1, h2, eq_comm]
    exact fun z => h1 z.symm
theorem o2_inDm {K : PySem.W.Frag} {a : α} {l : List α} (h : EqT e n) (hn : n + 1 ≤ 64) : Op2 (rInD K) (e a) (eL e l) (.d (.bool (decide (a ∈ l)))) := o2_val fun G H v w eg hv hw Q q => by
  refine ⟨e a, l.map e, dq_dp (dq_mono eg hv), dq_dp (dq_mono eg hw), h.sh (by omega) a, (eq_L h).sh hn l, ?_⟩
  rw [any_mem h]
  exact q _ (.bl _)
theorem o2_niDm {K : PySem.W.Frag} {a : α} {l : List α} (h : EqT e n) (hn : n + 1 ≤ 64) : Op2 (rNotInD K) (e a) (eL e l) (.d (.bool (!decide (a ∈ l)))) := o2_val fun G H v w eg hv hw Q q => by
  refine ⟨e a, l.map e, dq_dp (dq_mono eg hv), dq_dp (dq_mono eg hw), h.sh (by omega) a, (eq_L h).sh hn l, ?_⟩
  rw [any_mem h]
  exact q _ (.bl _)
end
section
variable {b : Bool} {ρ ρ1 : En} {ta : TA} {α : Type}
theorem ev_tupm (e : α → PyData) (xs : List α) (h : EvA b ta ρ ((xs.map e).map Ar.d) ρ1) (hl : xs.length ≤ 1000) : Ev b (tTup ta) ρ (.d (eT e xs)) ρ1 := ev_tup h (by rw [List.length_map]; exact hl)
theorem ev_lstm (e : α → PyData) (xs : List α) (h : EvA b ta ρ ((xs.map e).map Ar.d) ρ1) (hl : xs.length ≤ 1000) : Ev b (tLst ta) ρ (.l (xs.map e)) ρ1 := ev_lst h (by rw [List.length_map]; exact hl)
end
end Kn

namespace Kn
open PySem PySem.Spec PyProof.Rows L2
/-! ### the script -/
section
variable {b : Bool} {ρ ρ1 ρ2 ρ3 : En} {ta tb tc te : TE} {t u : TS} {tt : TT} {x y z : PyData} {r : Rv} {K : PySem.W.Frag} {E E' : Ens} {ns : List Int}
/-- a name that holds the script -/
def EvK (K : PySem.W.Frag) (ns : List Int) (b : Bool) (te : TE) (ρ : En) (ρ' : En) : Prop :=
  ∀ (G H : Hp) (σ : L2.St), Ex G H → StOk G H σ ρ → (adr ρ).Nodup → ∀ Q : VK, (∀ v G' H', Ext (ws b ρ) G H G' H' → StOk G' H' σ ρ' → adr ρ' = adr ρ → (∃ a, v = .ref a ∧ SqL K G' a (ns.map V.int)) → Q v H') → te σ H Q
theorem ev_k {i : Nat} (h : ρ[i]? = some (.kl K ns)) : EvK K ns b (tVar i) ρ ρ := fun G H σ e st _ Q q => by
  obtain ⟨v, h1, h2⟩ := st.get h (by simp)
  exact ⟨v, h1, q v G H (Ext.refl e) st rfl h2⟩
theorem ea_k {tr : TA} {as : List Ar} (h : EvK K ns b ta ρ ρ1) (hr : EvA b tr ρ1 as ρ2) : EvA b (tCons ta tr) ρ (.kl K ns :: as) ρ2 := fun G H σ e st nd Q q =>
  h G H σ e st nd _ fun v G1 H1 x1 s1 a1 k1 => hr G1 H1 σ x1.gh s1 (by rw [a1]; exact nd) _ fun vs G2 H2 x2 s2 a2 k2 =>
    q _ G2 H2 (x1.then x2 a1) s2 (a2.trans a1) (.cons (show AOk G2 σ v (.kl K ns) from by obtain ⟨a, e1, e2⟩ := k1; exact ⟨a, e1, Ex.sl x2.gg e2⟩) k2)
theorem rc_lenK : RcD (rLen K) [.kl K ns] (.d (.int ns.length)) := rc_val fun G H σ vs e hv Q q => by
  cases hv with
  | cons h t =>
    cases t
    obtain ⟨a, rfl, h2⟩ := h
    refine ⟨a, ns.map V.int, rfl, .inl (Ex.sl e h2), ?_⟩
    rw [List.length_map]
    exact q _ (.int _)
theorem ev_ixK {i : Int} {n : Int} (ha : EvK K ns b ta ρ ρ1) (hb : Ev b tb ρ1 (.d (.int i)) ρ2) (hi : atI ns i = some n) : Ev b (tOp (rIxL K) ta tb) ρ (.d (.int n)) ρ2 := fun G H σ e st nd Q q =>
  ha G H σ e st nd _ fun v G1 H1 x1 s1 a1 ⟨a, e1, e2⟩ => hb G1 H1 σ x1.gh s1 (by rw [a1]; exact nd) _ fun w G2 H2 x2 s2 a2 k2 => by
    cases k2
    subst e1
    have hm : atI (ns.map V.int) i = some (.int n) := by
      unfold atI at hi ⊢
      rw [List.length_map]
      cases hj : ixN ns.length i with
      | none => rw [hj] at hi; cases hi
      | some j =>
        rw [hj] at hi
        have hi : ns[j]? = some n := hi
        show (ns.map V.int)[j]? = _
        rw [List.getElem?_map, hi]; rfl
    refine ⟨a, _, i, _, rfl, rfl, Ex.sl x2.gh (Ex.sl x2.gg e2), hm, ?_⟩
    exact q _ G2 H2 (x1.then x2 a1) s2 (a2.trans a1) (.int n)
/-- a def over the script and data -/
def spK (K : PySem.W.Frag) (R : List Int → List PyData → Rv → Prop) : Sp := fun vs H Q _ => ∃ G a ws ns ds r, Ex G H ∧ vs = .ref a :: ws ∧ SqL K G a (ns.map V.int) ∧ DqA G ws ds ∧ R ns ds r ∧ ∀ v G' H', Ext [] G H G' H' → ROk G H G' H' v r → Q v H'
theorem ev_callS {R : List Int → List PyData → Rv → Prop} {E : XK} {ta : TA} {ds : List PyData} (h : EvA b ta ρ (.kl K ns :: ds.map Ar.d) ρ1) (hr : R ns ds r) : Ev b (tCall (spK K R) [] E ta) ρ r ρ1 := fun G H σ e st nd Q q =>
  h G H σ e st nd _ fun vs G1 H1 x1 s1 a1 k1 => by
    cases k1 with
    | @cons v vs _ _ h1 h2 =>
      obtain ⟨a, rfl, h3⟩ := h1
      exact ⟨G1, a, vs, ns, ds, r, x1.gh, by rw [List.append_nil], h3, as_data h2, hr, fun v G2 H2 x2 k2 => q v G2 H2 (x1.tr x2.up) (s1.mono x2) a1 (k2.back x1)⟩
def slotsK (K : PySem.W.Frag) (n : Nat) (ns : List Int) (ds : List PyData) : En := .kl K ns :: (ds.map Sl.dat ++ List.replicate (n - 1 - ds.length) .un)
theorem bodyK {N : List Str} {R : List Int → List PyData → Rv → Prop} {vs : List V} {H : Hp} {Q : VK} {E : XK} (h : spK K R vs H Q E)
    (k : ∀ ns ds r, R ns ds r → Sv t (slotsK K N.length ns ds) { nx := fun _ => r = .d .none, rt := fun r' _ => r' = r }) : t { nx := fun _ H' => Q .non H', rt := Q } (L2.start N vs) H := by
  obtain ⟨G, a, ws, ns, ds, r, e, rfl, hS, hd, hR, q⟩ := h
  have hst : StOk G H (L2.start N (.ref a :: ws)) (slotsK K N.length ns ds) := by
    unfold L2.start slotsK
    refine .cons (.inr ⟨_, rfl, a, rfl, hS⟩) ?_
    have e1 : N.length - (V.ref a :: ws).length = N.length - 1 - ds.length := by rw [List.length_cons, hd.len]; omega
    rw [e1]
    exact st_app (st_uns _) (st_dats hd)
  have ha : adr (slotsK K N.length ns ds) = [] := by unfold slotsK; rw [adr_cons, adr_app, adr_dats, adr_uns]; rfl
  refine k ns ds r hR G H _ e hst (by rw [ha]; exact List.nodup_nil) _ (fun ρ' G' H' σ' s w => ?_) (fun r' v ρ' G' H' σ' s w z => ?_) (fun ρ' G' H' σ' s w => w.elim) (fun ρ' G' H' σ' s w => w.elim)
  · have x := s.x
    rw [ha] at x
    refine q _ G' H' x ?_
    rw [w]; exact .non
  · have x := s.x
    rw [ha] at x
    subst z
    refine q v G' H' x ?_
    cases r' with
    | d d => exact w
    | va u => exact w
    | l xs =>
      obtain ⟨p, vs, e1, e2, e3⟩ := w
      exact ⟨p, vs, e1, e2.resolve_left (by rw [ha]; simp), e3⟩
theorem lenK {R : List Int → List PyData → Rv → Prop} {n : Nat} (h : ∀ ns ds r, R ns ds r → ds.length + 1 = n) : ∀ vs H Q E, spK K R vs H Q E → vs.length = n := fun vs H Q E q => by
  obtain ⟨G, a, ws, ns, ds, r, e, rfl, hS, hd, hR, _⟩ := q
  rw [List.length_cons, hd.len]; exact h ns ds r hR
/-- the law's own promise -/
def R_law (ns : List Int) (ds : List PyData) (r : Rv) : Prop := ds = [] ∧ ns.length ≤ 63 ∧ r = .d (.bool true)
theorem law_start (K : PySem.W.Frag) (H : Hp) (a : Addr) (ns : List Int) (hl : ns.length ≤ 63) (hS : SqL K H a (ns.map V.int)) : spK K R_law [.ref a] H (fun v _ => v = .bl true) fun _ _ _ => False :=
  ⟨H, a, [], ns, [], _, Ex.refl H, rfl, hS, .nil, ⟨rfl, hl, rfl⟩, fun v G' H' x h => by cases h; rfl⟩
end
end Kn

namespace Kn
open PySem PySem.Spec PyProof.Rows L2
/-! ### the draws -/
def mixV (c k : Int) : Int :=
  let m := (c % 2147483647 * 48271 + k * 69621 + 1048583) % 2147483629
  let m2 := m * m % 2147483587
  m2 * (m2 + 2) % 2147483579
def cellAt (ns : List Int) (k : Int) : Int := if k < ns.length then (atI ns k).getD 0 else 0
def cellV (ns : List Int) (k : Int) : Int :=
  if (10 : Int) ^ (18 : Int).toNat ≤ cellAt ns k then (cellAt ns k - (10 : Int) ^ (18 : Int).toNat) % ((10 : Int) ^ (60 : Int).toNat * (10 : Int) ^ (60 : Int).toNat * (10 : Int) ^ (60 : Int).toNat * (10 : Int) ^ (60 : Int).toNat)
  else (rgI 0 (24 : Int).toNat).foldl (fun f j => f * 2147483579 + mixV (cellAt ns k) (7 * k + 100 * j + j * j)) 0
theorem cell_at {ns : List Int} {k : Int} (h0 : 0 ≤ k) (h : k < ns.length) : atI ns k = some (cellAt ns k) := by
  unfold cellAt
  rw [if_pos h]
  obtain ⟨i, rfl⟩ := Int.eq_ofNat_of_zero_le h0
  have hi : i < ns.length := by omega
  have e : ns[i]? = some ns[i] := List.getElem?_eq_getElem hi
  have e2 := atI_nat (xs := ns) (j := i) e
  rw [e2]; rfl
/-- draws one after another -/
def takes (top : Int) : Int → Nat → List Int × Int
  | c, 0 => ([], c)
  | c, n + 1 => ((1 + c % top) :: (takes top (c / top) n).1, (takes top (c / top) n).2)
theorem takes_map (top : Int) : ∀ (xs : List Int) (c : Int), mapS (fun c (_ : Int) => (1 + c % top, c / top)) c xs = takes top c xs.length
  | [], c => rfl
  | x :: xs, c => by simp [mapS, takes, takes_map top xs]
theorem takes_len (top : Int) : ∀ (n : Nat) (c : Int), (takes top c n).1.length = n
  | 0, c => rfl
  | n + 1, c => by simp [takes, takes_len top n]
theorem takes_mem {top : Int} (h : 0 < top) : ∀ {n : Nat} {c x : Int}, x ∈ (takes top c n).1 → 1 ≤ x ∧ x ≤ top
  | 0, c, x, hx => by simp [takes] at hx
  | n + 1, c, x, hx => by
    rcases List.mem_cons.mp hx with e | hx
    · have := Int.emod_nonneg c (by omega : top ≠ 0); have := Int.emod_lt_of_pos c h; omega
    · exact takes_mem h hx
/-- the first ones go while the sum is too great -/
def light (m : Int) : List Int → List Int
  | [] => []
  | x :: l => if m < (x :: l).sum then light m l else x :: l
theorem light_suf (m : Int) : ∀ l, (light m l).Sublist l
  | [] => List.Sublist.refl _
  | x :: l => by
    unfold light
    split
    · exact (light_suf m l).trans (List.sublist_cons_self _ _)
    · exact List.Sublist.refl _
theorem light_sum {m : Int} (h : 0 ≤ m) : ∀ l, (light m l).sum ≤ m
  | [] => h
  | x :: l => by
    unfold light
    split
    · exact light_sum h l
    · omega
/-- a lot that is drawn -/
def lotV (c most top : Int) : List Int := light 200 (srt (takes top (c / (most + 1)) (c % (most + 1)).toNat).1).reverse
def lotC (c most top : Int) : Int := (takes top (c / (most + 1)) (c % (most + 1)).toNat).2
def Desc (l : List Int) : Prop := l.Pairwise (· ≥ ·)
structure Lot (l : List Int) : Prop where
  pos : ∀ x ∈ l, 1 ≤ x
  desc : Desc l
  len : l.length ≤ 60
  sum : l.sum ≤ 200
theorem lotV_sub (c most top : Int) : (lotV c most top).Sublist (srtD (takes top (c / (most + 1)) (c % (most + 1)).toNat).1) := light_suf _ _
theorem lotV_mem {c most top x : Int} (h : 0 < top) (hx : x ∈ lotV c most top) : 1 ≤ x ∧ x ≤ top := takes_mem h (srtD_mem.mp ((lotV_sub c most top).subset hx))
theorem lotV_len {c most top : Int} (h : 0 ≤ most) : (lotV c most top).length ≤ most.toNat := by
  have h1 := (lotV_sub c most top).length_le
  rw [srtD_len, takes_len] at h1
  have h2 := Int.emod_lt_of_pos c (show 0 < most + 1 by omega)
  have h3 := Int.emod_nonneg c (show most + 1 ≠ 0 by omega)
  omega
theorem lotV_lot {c most top : Int} (h : 0 < top) (h0 : 0 ≤ most) (h6 : most ≤ 60) : Lot (lotV c most top) where
  pos := fun x hx => (lotV_mem h hx).1
  desc := (srtD_sorted _).sublist (lotV_sub c most top)
  len := by have := lotV_len (c := c) (top := top) h0; omega
  sum := light_sum (by decide) _
/-! ### what is a lot -/
def isI (lo hi : Int) : PyData → Bool
  | .int i => decide (lo ≤ i) && decide (i ≤ hi)
  | _ => false
def pairsOk : List Int → Bool
  | x :: y :: l => decide (y ≤ x) && pairsOk (y :: l)
  | _ => true
def fitsV (l : List Int) : Bool := decide ((l.length : Int) ≤ 60) && decide (l.sum ≤ 200)
def intsD : List PyData → List Int
  | [] => []
  | .int i :: l => i :: intsD l
  | _ :: l => intsD l
def isLotD : PyData → Bool
  | .tuple ds => ds.all (isI 1 200) && (((intsD ds).zip ((intsD ds).drop 1)).all (fun p => decide (p.2 ≤ p.1)) && fitsV (intsD ds))
  | _ => false
theorem all_ints : ∀ {ds : List PyData}, ds.all (isI 1 200) = true → ds = (intsD ds).map .int
  | [], _ => rfl
  | d :: ds, h => by
    rw [List.all_cons, Bool.and_eq_true] at h
    cases d with
    | int i => show _ = PyData.int i :: (intsD ds).map .int; rw [← all_ints h.2]
    | _ => exact absurd h.1 (by simp [isI])
theorem ints_map : ∀ l : List Int, intsD (l.map .int) = l
  | [] => rfl
  | x :: l => by show x :: intsD (l.map .int) = _; rw [ints_map l]
theorem desc_zip : ∀ {l : List Int}, ((l.zip (l.drop 1)).all (fun p => decide (p.2 ≤ p.1))) = true ↔ Desc l
  | [] => by simp [Desc]
  | [x] => by simp [Desc]
  | x :: y :: l => by
    have ih := desc_zip (l := y :: l)
    simp only [List.drop_succ_cons, List.drop_zero, List.zip_cons_cons, List.all_cons, Bool.and_eq_true, decide_eq_true_eq] at ih ⊢
    rw [ih]
    unfold Desc
    constructor
    · rintro ⟨h1, h2⟩
      refine .cons (fun z hz => ?_) h2
      rcases List.mem_cons.mp hz with e | hz
      · rw [e]; exact h1
      · have := List.rel_of_pairwise_cons h2 hz; show x ≥ z; omega
    · intro h
      cases h with
      | cons h1 h2 => exact ⟨h1 y List.mem_cons_self, h2⟩
theorem sum_pos : ∀ {l : List Int}, (∀ y ∈ l, 1 ≤ y) → 0 ≤ l.sum
  | [], _ => Int.le_refl 0
  | y :: l, h => by
    rw [List.sum_cons]
    have := sum_pos (l := l) fun z hz => h z (List.mem_cons_of_mem _ hz)
    have := h y List.mem_cons_self
    omega
theorem le_sum : ∀ {l : List Int} {x : Int}, (∀ y ∈ l, 1 ≤ y) → x ∈ l → x ≤ l.sum
  | y :: l, x, h, hx => by
    have h0 : 0 ≤ l.sum := sum_pos fun z hz => h z (List.mem_cons_of_mem _ hz)
    rw [List.sum_cons]
    rcases List.mem_cons.mp hx with e | hx
    · omega
    · have := le_sum (fun z hz => h z (List.mem_cons_of_mem _ hz)) hx; have := h y List.mem_cons_self; omega
theorem Lot.le {l : List Int} (h : Lot l) {x : Int} (hx : x ∈ l) : 1 ≤ x ∧ x ≤ 200 := ⟨h.pos x hx, Int.le_trans (le_sum h.pos hx) h.sum⟩
theorem isLot_of {l : List Int} (h : Lot l) : isLotD (eT .int l) = true := by
  show ((l.map PyData.int).all (isI 1 200) && (_ && fitsV (intsD (l.map .int)))) = true
  rw [ints_map]
  rw [desc_zip.mpr h.desc]
  have h1 : (l.map PyData.int).all (isI 1 200) = true := by
    rw [List.all_eq_true]
    intro d hd
    obtain ⟨x, hx, rfl⟩ := List.mem_map.mp hd
    have := h.le hx
    simp [isI]; omega
  rw [h1]
  have := h.len
  have := h.sum
  simp [fitsV]
  omega
theorem lot_of {l : List Int} (h : isLotD (eT .int l) = true) : Lot l := by
  have h : ((l.map PyData.int).all (isI 1 200) && (((intsD (l.map .int)).zip ((intsD (l.map .int)).drop 1)).all (fun p => decide (p.2 ≤ p.1)) && fitsV (intsD (l.map .int)))) = true := h
  rw [ints_map] at h
  simp only [Bool.and_eq_true, fitsV, decide_eq_true_eq] at h
  obtain ⟨h1, h2, h3, h4⟩ := h
  refine ⟨fun x hx => ?_, desc_zip.mp h2, by omega, h4⟩
  rw [List.all_eq_true] at h1
  have := h1 (.int x) (List.mem_map.mpr ⟨x, hx, rfl⟩)
  simp [isI] at this
  exact this.1
/-! ### capacities, sums -/
def capOf (l : List Int) (n : Int) : Int := ((l.filter fun t => decide (n ≤ t)).map fun t => t - n + 1).sum
theorem isLotD_tup (ds : List PyData) : isLotD (.tuple ds) = (ds.all (isI 1 200) && (((intsD ds).zip ((intsD ds).drop 1)).all (fun p => decide (p.2 ≤ p.1)) && fitsV (intsD ds))) := rfl
theorem lot_small {v : PyData} (h : isLotD v = true) : ∀ ds, v = .tuple ds → ds.length ≤ 1000000 := by
  rintro ds rfl
  have h1 : (ds.all (isI 1 200) && (((intsD ds).zip ((intsD ds).drop 1)).all (fun p => decide (p.2 ≤ p.1)) && fitsV (intsD ds))) = true := h
  simp only [Bool.and_eq_true, fitsV, decide_eq_true_eq] at h1
  rw [all_ints h1.1, List.length_map]
  omega
end Kn

namespace Kn
open PySem PySem.Spec PyProof.Rows L2
/-! ### capacities and top sums -/
theorem cap_nil (n : Int) : capOf [] n = 0 := rfl
theorem cap_cons (x : Int) (l : List Int) (n : Int) : capOf (x :: l) n = (if n ≤ x then x - n + 1 else 0) + capOf l n := by
  unfold capOf
  by_cases h : n ≤ x
  · rw [List.filter_cons_of_pos (by simpa using h), if_pos h, List.map_cons, List.sum_cons]
  · rw [List.filter_cons_of_neg (by simpa using h), if_neg h]; omega
theorem cap_app (a b : List Int) (n : Int) : capOf (a ++ b) n = capOf a n + capOf b n := by
  induction a with
  | nil => rw [List.nil_append, cap_nil]; omega
  | cons x a ih => rw [List.cons_append, cap_cons, cap_cons, ih]; omega
theorem cap_pos (l : List Int) (n : Int) : 0 ≤ capOf l n := by
  induction l with
  | nil => exact Int.le_refl 0
  | cons x l ih => rw [cap_cons]; split <;> omega
theorem len_mul_succ (k : Nat) (m : Int) : ((k + 1 : Nat) : Int) * m = (k : Int) * m + m := by
  rw [Int.natCast_add, Int.add_mul]; simp
theorem cap_ge {a : List Int} {n : Int} (h : ∀ t ∈ a, n - 1 ≤ t) : capOf a n = a.sum - a.length * (n - 1) := by
  induction a with
  | nil => rw [cap_nil]; simp
  | cons x a ih =>
    rw [cap_cons, ih fun t ht => h t (List.mem_cons_of_mem _ ht), List.sum_cons, List.length_cons, len_mul_succ]
    have := h x List.mem_cons_self
    split <;> omega
theorem cap_zero {a : List Int} {n : Int} (h : ∀ t ∈ a, t ≤ n - 1) : capOf a n = 0 := by
  induction a with
  | nil => rfl
  | cons x a ih =>
    rw [cap_cons, ih fun t ht => h t (List.mem_cons_of_mem _ ht)]
    have := h x List.mem_cons_self
    split <;> omega
theorem cap_lb0 (a : List Int) (n : Int) : a.sum - a.length * (n - 1) ≤ capOf a n := by
  induction a with
  | nil => rw [cap_nil]; simp
  | cons x a ih =>
    rw [cap_cons, List.sum_cons, List.length_cons, len_mul_succ]
    split <;> omega
theorem cap_lb (l : List Int) (k : Nat) {n : Int} (hn : 1 ≤ n) : (l.take k).sum - k * (n - 1) ≤ capOf l n := by
  have h1 := cap_lb0 (l.take k) n
  have h2 : capOf l n = capOf (l.take k) n + capOf (l.drop k) n := by rw [← cap_app, List.take_append_drop]
  have h3 := cap_pos (l.drop k) n
  have h4 : ((l.take k).length : Int) * (n - 1) ≤ k * (n - 1) := Int.mul_le_mul_of_nonneg_right (by have := List.length_take_le k l; omega) (by omega)
  omega
theorem desc_tail {x : Int} {l : List Int} (h : Desc (x :: l)) : Desc l := (List.pairwise_cons.mp h).2
theorem desc_head {x : Int} {l : List Int} (h : Desc (x :: l)) {y : Int} (hy : y ∈ l) : y ≤ x := (List.pairwise_cons.mp h).1 y hy
theorem cap_at {l : List Int} (h : Desc l) (n : Int) : ∃ k, k ≤ l.length ∧ capOf l n = (l.take k).sum - k * (n - 1) := by
  induction l with
  | nil => exact ⟨0, Nat.le_refl _, by rw [cap_nil]; simp⟩
  | cons x l ih =>
    by_cases hx : n ≤ x
    · obtain ⟨k, hk, e⟩ := ih (desc_tail h)
      refine ⟨k + 1, by simp; omega, ?_⟩
      rw [cap_cons, if_pos hx, e, List.take_succ_cons, List.sum_cons, len_mul_succ]
      omega
    · refine ⟨0, Nat.zero_le _, ?_⟩
      rw [cap_zero]
      · simp
      · intro t ht
        rcases List.mem_cons.mp ht with e | ht
        · omega
        · have := desc_head h ht; omega
/-- the top sum is reached at the level behind the last tool -/
theorem cap_top {l : List Int} (h : Desc l) {k : Nat} {v : Int} (hk : l[k]? = some v) : capOf l (v + 1) = (l.take (k + 1)).sum - (k + 1 : Nat) * v := by
  have h2 : capOf l (v + 1) = capOf (l.take (k + 1)) (v + 1) + capOf (l.drop (k + 1)) (v + 1) := by rw [← cap_app, List.take_append_drop]
  obtain ⟨hlt, hv⟩ := List.getElem?_eq_some_iff.mp hk
  have hp := List.pairwise_iff_getElem.mp h
  rw [h2, cap_ge (a := l.take (k + 1)), cap_zero (a := l.drop (k + 1)), List.length_take, Nat.min_eq_left (by omega)]
  · simp
  · intro t ht
    obtain ⟨j, hj, e⟩ := List.getElem_of_mem ht
    rw [List.getElem_drop] at e
    have := hp k (k + 1 + j) hlt (by rw [List.length_drop] at hj; omega) (by omega)
    omega
  · intro t ht
    obtain ⟨j, hj, e⟩ := List.getElem_of_mem ht
    rw [List.getElem_take] at e
    rw [List.length_take] at hj
    by_cases hjk : j = k
    · subst hjk; omega
    · have := hp j k (by omega) hlt (by omega)
      omega
theorem sum_take_len {l : List Int} {k : Nat} (h : l.length ≤ k) : (l.take k).sum = l.sum := by rw [List.take_of_length_le h]
theorem rgI_snoc (lo : Int) : ∀ m : Nat, rgI lo (m + 1) = rgI lo m ++ [lo + m]
  | 0 => by simp [rgI]
  | m + 1 => by
    show lo :: rgI (lo + 1) (m + 1) = lo :: rgI (lo + 1) m ++ [lo + (m + 1 : Nat)]
    rw [rgI_snoc (lo + 1) m, List.cons_append]
    congr 3
    omega
theorem sum_app (a b : List Int) : (a ++ b).sum = a.sum + b.sum := by
  induction a with
  | nil => simp
  | cons x a ih => rw [List.cons_append, List.sum_cons, List.sum_cons, ih]; omega
theorem maxD_eq {d m : Int} {l : List Int} (h1 : m ∈ l) (h2 : ∀ y ∈ l, y ≤ m) : maxD d l = m := by
  have := maxD_mem (d := d) (List.ne_nil_of_mem h1)
  have := this.2 m h1
  have := h2 _ (maxD_mem (d := d) (List.ne_nil_of_mem h1)).1
  omega
theorem minD_eq {d m : Int} {l : List Int} (h1 : m ∈ l) (h2 : ∀ y ∈ l, m ≤ y) : minD d l = m := by
  have := minD_mem (d := d) (List.ne_nil_of_mem h1)
  have := this.2 m h1
  have := h2 _ (minD_mem (d := d) (List.ne_nil_of_mem h1)).1
  omega
theorem atI_rg {α : Type} {f : Int → α} {n : Nat} {x : Int} (h : x ∈ rgI 0 n) : atI ((rgI 0 n).map f) x = some (f x) := by
  obtain ⟨h1, h2⟩ := mem_rgI.mp h
  obtain ⟨k, rfl⟩ := Int.eq_ofNat_of_zero_le h1
  refine atI_nat ?_
  rw [List.getElem?_map, rgI_get n 0 k (by omega)]
  simp
/-- capacity is the greatest value of a top sum less its count times what is under the level -/
theorem cap_dual {l : List Int} (h : Desc l) {n : Int} (hn : 1 ≤ n) {m : Nat} (hm : l.length < m) : maxD 0 ((rgI 0 m).map fun x => (l.take x.toNat).sum - x * (n - 1)) = capOf l n := by
  refine maxD_eq ?_ ?_
  · obtain ⟨k, hk, e⟩ := cap_at h n
    rw [e]
    exact List.mem_map.mpr ⟨k, mem_rgI.mpr ⟨by omega, by omega⟩, by simp⟩
  · intro y hy
    obtain ⟨x, hx, rfl⟩ := List.mem_map.mp hy
    obtain ⟨k, rfl⟩ := Int.eq_ofNat_of_zero_le (mem_rgI.mp hx).1
    exact cap_lb l k hn
theorem Lot.only {l : List Int} (h : Lot l) (hx : 200 ∈ l) : l = [200] := by
  cases l with
  | nil => cases hx
  | cons x r =>
    have hs := h.sum
    rw [List.sum_cons] at hs
    have hr : ∀ y ∈ r, 1 ≤ y := fun y hy => h.pos y (List.mem_cons_of_mem _ hy)
    have h0 := sum_pos hr
    have hx1 : 200 ≤ x := by
      rcases List.mem_cons.mp hx with e | hx
      · omega
      · exact desc_head h.desc hx
    cases r with
    | nil => have : x = 200 := by omega
             rw [this]
    | cons y r =>
      have := hr y List.mem_cons_self
      rw [List.sum_cons] at h0 hs
      have := sum_pos (l := r) fun z hz => hr z (List.mem_cons_of_mem _ hz)
      omega
/-- the top sum is the least value of capacity plus count times what is under the level -/
theorem top_dual {l : List Int} (h : Lot l) {k m : Nat} (hm : ∀ t ∈ l, min 200 (t + 1) ≤ m) (h1 : 1 ≤ m) (h1k : 1 ≤ k) : minD 0 ((rgI 1 m).map fun n => capOf l n + (k : Int) * (n - 1)) = (l.take k).sum := by
  refine minD_eq ?_ ?_
  · have hk0 : k ≠ 0 := by omega
    · obtain ⟨k, rfl⟩ := Nat.exists_eq_succ_of_ne_zero hk0
      by_cases hk : k < l.length
      · have hv : l[k]? = some l[k] := List.getElem?_eq_getElem hk
        generalize l[k] = v at hv
        have hmem := List.mem_of_getElem? hv
        have hle := h.le hmem
        have hmv := hm v hmem
        by_cases h2 : v = 200
        · subst h2
          have e := h.only hmem
          subst e
          have : k = 0 := by simpa using hk
          subst this
          exact List.mem_map.mpr ⟨200, mem_rgI.mpr ⟨by omega, by omega⟩, by decide⟩
        · refine List.mem_map.mpr ⟨v + 1, mem_rgI.mpr ⟨by omega, by omega⟩, ?_⟩
          rw [cap_top h.desc hv]
          simp
      · refine List.mem_map.mpr ⟨1, mem_rgI.mpr ⟨by omega, by omega⟩, ?_⟩
        rw [cap_ge (by intro t ht; have := h.pos t ht; omega), sum_take_len (by omega)]
        simp
  · intro y hy
    obtain ⟨n, hn, rfl⟩ := List.mem_map.mp hy
    have := cap_lb l k (mem_rgI.mp hn).1
    omega
end Kn

namespace Kn
open PySem PySem.Spec PyProof.Rows L2
/-! ### sorted over a dict of ints -/
section
variable {P : Program} {w : World} {A : Around} {E : Value → Shared → Prop} {s : Shared} {a : Addr}
theorem collect_d {knd : KeyKind P w Key} {kvs : List (Key × Value)} {ep : Nat} {Q : List Value → Shared → Prop} (hh : A.handled = none) (lo : (a == sysModules) = false) (hd : s.heap.DictAt knd a kvs ep) (hn : kvs.length ≤ sizeLine)
    (hQ : ∀ h' tk acc', (∀ b o, s.heap.get? b = some o → h'.get? b = some o) → s.heap.objs.size < h'.objs.size → ItemsOf (fun i v => ∃ k x, kvs[i]? = some (k, x) ∧ knd.is k v = true) acc' kvs.length → Q acc'.toList { s with heap := h', toks := tk }) :
    wpAny (model P w) A (collect (.ref a)) Q E s := by
  unfold collect
  refine wpAny_bind (wpAny_runValue (codeAny_builtin PySem.F.entry_proto_collect ?_))
  rw [Around.under_plainId PySem.F.plain_proto_collect _]
  show wpAny _ A.in1 (newList [] >>= fun l => again (.builtin "list.__iadd__" ⟨[l, .ref a], []⟩)) _ _ s
  refine wpAny_bind (wpAny_newObj_type ?_)
  refine wpAny_pure ⟨plainId_quiet PySem.F.plain_list_iadd _, codeAny_builtin PySem.F.entry_list_iadd ?_⟩
  rw [Around.under_plainId PySem.F.plain_list_iadd _]
  have hS : (s.heap.push { cls := .type "list", data := .seq ([] : List Value).toArray }).get? s.heap.objs.size = some { cls := .type "list", data := .seq #[] 0 } := Heap.get?_push_size _ rfl
  show wpAny _ A.in1 (Builtin.List.listExtendWith (.ref s.heap.objs.size) (.ref a) (.ref s.heap.objs.size)) _ _ _
  have K := PySem.W.kdl_dict (prog := P) (w := w) (knd := knd) (kvs := kvs) (ep := ep) lo
  have hlt := hd.lt_size
  refine wpAny_mono (PySem.W.kdl_extend (A := A) (s := { s with heap := s.heap.push { cls := .type "list", data := .seq ([] : List Value).toArray } }) K hh (hd.push _) s.heap.objs.size (Nat.ne_of_gt hlt) (Nat.ne_of_gt hlt) (.ref s.heap.objs.size) 0 hS
    (R := fun rr s' => rr = .ok (.ret (.ref s.heap.objs.size)) ∧ ∃ (h' : Heap) (tk : Nat) (acc : Array Value) (c' : Nat), s' = { s with heap := h', toks := tk } ∧
      (∀ b o, s.heap.get? b = some o → h'.get? b = some o) ∧ h'.get? s.heap.objs.size = some { cls := .type "list", dict := none, data := .seq acc c', slots := #[] } ∧ ItemsOf (fun i v => ∃ k x, kvs[i]? = some (k, x) ∧ knd.is k v = true) acc kvs.length)
    (fun h' tk acc c' hk e hi => ⟨rfl, h', tk, acc, c', rfl, fun b o q => hk b o (Nat.ne_of_lt (Heap.lt_size q)) (Heap.get?_push_of_some _ q), e, hi⟩) hn) (fun fin s' h => ?_) (fun e s' h => ?_)
  · cases fin with
    | done f =>
      obtain ⟨e, h', tk, acc, c', rfl, hk, hS', hi⟩ := h
      cases e
      show wpAny _ A (load s.heap.objs.size >>= _) _ _ _
      exact wpAny_bind (wpAny_load hS' (wpAny_pure (hQ h' tk acc hk (Heap.lt_size hS') hi)))
    | again c' =>
      refine ⟨h.1, codeAny_mono h.2 fun rr s'' hr' => ?_⟩
      obtain ⟨rfl, h', tk, acc, c', rfl, hk, hS', hi⟩ := hr'
      show wpAny _ A (load s.heap.objs.size >>= _) _ _ _
      exact wpAny_bind (wpAny_load hS' (wpAny_pure (hQ h' tk acc hk (Heap.lt_size hS') hi)))
  · exact absurd h.1 (by simp)
theorem sorted_dR {knd : KeyKind P w Key} {kvs : List (Key × Value)} {ep : Nat} {b : Bool} {ns : List Int} {Q : Value → Shared → Prop} (hh : A.handled = none) (lo : (a == sysModules) = false) (hd : s.heap.DictAt knd a kvs ep) (hn : kvs.length ≤ sizeLine)
    (hk : ∀ vs : List Value, vs.length = kvs.length → (∀ (i : Nat) (v : Value), vs[i]? = some v → ∃ k x, kvs[i]? = some (k, x) ∧ knd.is k v = true) → IntsAre vs ns)
    (hQ : ∀ (h' : Heap) (tk : Nat) (p : Addr) (out : List Value) (c : Nat) (ns' : List Int), (∀ b o, s.heap.get? b = some o → h'.get? b = some o) → s.heap.objs.size ≤ p → h'.get? p = some (seqObj "list" out.toArray c) → IntsAre out ns' → ns'.Perm ns → Ordered b ns' → Q (.ref p) { s with heap := h', toks := tk }) :
    wpAny (model P w) A (call (.builtin "sorted") [.ref a] [(Str.ofString "reverse", .bool b)]) Q E s := by
  refine call_function_entry_kw kind_sorted plain_sorted entry_sorted (args_sorted_rev _ _) ?_
  unfold Builtin.«sorted»
  refine wpAny_bind (m := checkCount "sorted" 1 1 _) (wpAny_pure ?_)
  refine wpAny_bind (collect_d (A := A.in1) hh lo hd hn fun h1 tk acc k1 hz1 hi => ?_)
  have hl : acc.toList.length = kvs.length := by rw [Array.length_toList]; exact hi.1
  have hI : IntsAre acc.toList ns := hk acc.toList hl fun i v e => hi.2 i v (by rw [← Array.getElem?_toList]; exact e)
  refine wpAny_bind (wpAny_newList ?_ (by rw [hl]; exact hn))
  have hoL : (h1.push (seqObj "list" acc.toList.toArray 0)).get? h1.objs.size = some (seqObj "list" acc.toList.toArray 0) := Heap.get?_push_size _ rfl
  refine wpAny_bind (wpAny_holding (wpAny_call_entry_kw slot_list_sort ⟨_, hoL, rfl⟩ entry_list_sort (PyProof.Rows.list_sort_tree_revAny hoL hI (by rw [hl]; exact hn) fun out ns' a1 a2 a3 => ⟨_, rfl, ?_⟩) (args_list_sort_rev _ _)))
  obtain ⟨c, hc⟩ := sortedHeap_at (vs := acc.toList) (out := out) hoL
  have hz : s.heap.objs.size ≤ h1.objs.size := Nat.le_of_lt hz1
  refine wpAny_pure ⟨_, rfl, hQ _ tk h1.objs.size out.toList c ns' (fun b u e => ?_) hz (by rw [Array.toArray_toList]; exact hc) a1 a2 a3⟩
  have q := k1 b u e
  have hlt := Heap.lt_size q
  show (sortedHeap (h1.push (seqObj "list" acc.toList.toArray 0)) h1.objs.size acc.toList out).get? b = some u
  rw [sortedHeap_old (Nat.ne_of_lt hlt) (by rw [size_push']; exact Nat.lt_succ_of_lt hlt)]
  exact Heap.get?_push_of_some _ q
end
section
variable {X : Cx}
def rSortDR (b : Bool) : List V → List V → Hp → VK → Prop := fun vs zs H Q => ∃ (a : Addr) (kvs : List (Key × V)) (ns : List Int), vs = [V.ref a] ∧ zs = [.bl b] ∧ H a = some (.dK kvs) ∧ kvs.map (·.1) = ns.map Sum.inl ∧
  ∀ (ns' : List Int) (p : Addr), ns'.Perm ns → OrdB b ns' → H p = none → Q (.ref p) (upd H p (.lst (ns'.map V.int)))
theorem ints_keys {kvs : List (Key × Value)} {knd : Key → Value → Bool} (hknd : ∀ k v, knd k v = true → RelV (kV k) v) : ∀ {ns : List Int} {ks : List Key} {vs : List Value}, ks = ns.map Sum.inl → vs.length = ks.length → (∀ (i : Nat) v, vs[i]? = some v → ∃ k, ks[i]? = some k ∧ knd k v = true) → IntsAre vs ns
  | [], _, vs, rfl, hl, h => by
    have : vs = [] := List.eq_nil_of_length_eq_zero (by simpa using hl)
    subst this; exact .nil
  | n :: ns, _, [], rfl, hl, h => by simp at hl
  | n :: ns, _, v :: vs, rfl, hl, h => by
    obtain ⟨k, h1, h2⟩ := h 0 v rfl
    have : k = Sum.inl n := by simpa using h1.symm
    subst this
    obtain ⟨t, rfl⟩ : ∃ t, v = Value.int n t := hknd _ _ h2
    exact .cons n t (ints_keys (kvs := kvs) (knd := knd) hknd rfl (by simpa using hl) fun i u hu => by
      obtain ⟨k, h3, h4⟩ := h (i + 1) u (by simpa using hu)
      exact ⟨k, by simpa using h3, h4⟩)
theorem kr_sortDR {b : Bool} (hc : X.calm = true) : CallRK X (.builtin "sorted") [Str.ofString "reverse"] (rSortDR b) := by
  intro pins s σ H vs zs us ws Q I r rz h
  obtain ⟨a, kvs, ns, rfl, rfl, hk, hns, q⟩ := h
  obtain rfl := Vals.ref1 r
  obtain ⟨w1, rfl, e1⟩ := vals1 rz
  obtain rfl : w1 = Value.bool b := e1
  obtain ⟨z, lo, vs, rk, hd⟩ := (show ObjOk X.prog X.w H s.heap a (.dK kvs) from I.hok a _ hk)
  obtain ⟨ep, hat⟩ := hd.dictAt
  have hl : kvs.length = vs.length := Paired.length rk
  refine sorted_dR (knd := mixKind X.prog X.w) (kvs := vs) (ep := ep) (ns := ns) (I.ok.hd hc) lo hat (by rw [← hl]; exact z) (fun us hlu hu => ?_) fun h' tk p out c ns' hkeep hz hp h1 h2 h3 => ?_
  · refine ints_keys (kvs := vs) (knd := (mixKind X.prog X.w).is) (fun k v h => keyIs_rel h) hns (by rw [List.length_map, hl]; exact hlu) fun i v e => ?_
    obtain ⟨k, x, e1, e2⟩ := hu i v e
    refine ⟨k, ?_, e2⟩
    rw [KV.keys rk, List.getElem?_map, e1]; rfl
  · have hlen : (ns'.map V.int).length ≤ sizeLine := by
      rw [List.length_map, h2.length_eq]
      have : (kvs.map (·.1)).length = ns.length := by rw [hns, List.length_map]
      rw [List.length_map] at this
      omega
    refine ⟨.ref p, upd H p (.lst (ns'.map V.int)), I.laid (t' := tk) hkeep hz (show ObjOk X.prog X.w _ _ _ (.lst (ns'.map V.int)) from ⟨hlen, out, c, vals_of_ints h1, hp⟩), rfl, q ns' p h2 h3 (I.hok.fresh hz)⟩
end
/-! ### the distinct ones, from the greatest on -/
def addI (acc : List Int) (x : Int) : List Int := if x ∈ acc then acc else acc ++ [x]
def nubI (l : List Int) : List Int := l.foldl addI []
theorem nub_snoc (l : List Int) (x : Int) : nubI (l ++ [x]) = addI (nubI l) x := by unfold nubI; rw [List.foldl_append]; rfl
theorem add_mem {acc : List Int} {x y : Int} : y ∈ addI acc x ↔ y ∈ acc ∨ y = x := by
  unfold addI
  split
  · constructor
    · exact .inl
    · rintro (h | rfl)
      · exact h
      · assumption
  · simp
theorem fold_mem : ∀ (l acc : List Int) (y : Int), y ∈ l.foldl addI acc ↔ y ∈ acc ∨ y ∈ l
  | [], acc, y => by simp
  | x :: l, acc, y => by rw [List.foldl_cons, fold_mem l, add_mem, List.mem_cons, or_assoc]
theorem nub_mem {l : List Int} {y : Int} : y ∈ nubI l ↔ y ∈ l := by unfold nubI; rw [fold_mem]; simp
theorem add_nodup {acc : List Int} {x : Int} (h : acc.Nodup) : (addI acc x).Nodup := by
  unfold addI
  split
  · exact h
  · rename_i hx
    exact List.nodup_append.mpr ⟨h, by simp, fun a ha b hb => by rw [List.mem_singleton.mp hb]; exact fun e => hx (by rw [← e]; exact ha)⟩
theorem fold_nodup : ∀ (l acc : List Int), acc.Nodup → (l.foldl addI acc).Nodup
  | [], _, h => h
  | x :: l, acc, h => by rw [List.foldl_cons]; exact fold_nodup l _ (add_nodup h)
theorem nub_nodup (l : List Int) : (nubI l).Nodup := fold_nodup l [] List.nodup_nil
theorem fold_len : ∀ (l acc : List Int), (l.foldl addI acc).length ≤ acc.length + l.length
  | [], acc => by simp
  | x :: l, acc => by
    rw [List.foldl_cons]
    have h1 := fold_len l (addI acc x)
    have h2 : (addI acc x).length ≤ acc.length + 1 := by unfold addI; split <;> simp
    simp only [List.length_cons]; omega
theorem nub_len (l : List Int) : (nubI l).length ≤ l.length := by have := fold_len l []; simpa [nubI] using this
/-- the dict that stands for a set of ints -/
def tabT (ks : List Int) : List (Key × V) := ks.map fun k => (Sum.inl k, V.bl true)
theorem put_tab (ks : List Int) (x : Int) : putK (tabT ks) (Sum.inl x) (V.bl true) = tabT (addI ks x) := by
  unfold putK
  have h1 : ((tabT ks).any fun kv => decide (kv.1 = (Sum.inl x : Key))) = decide (x ∈ ks) := by
    induction ks with
    | nil => rfl
    | cons k ks ih =>
      show (decide ((Sum.inl k : Key) = Sum.inl x) || (tabT ks).any _) = _
      rw [ih]
      by_cases h : k = x <;> by_cases h2 : x ∈ ks <;> simp [h, h2, eq_comm]
  rw [h1]
  unfold addI
  by_cases h : x ∈ ks
  · rw [if_pos (by simpa using h), if_pos h]
    unfold tabT
    rw [List.map_map]
    refine List.map_congr_left fun k _ => ?_
    show (if (Sum.inl k : Key) = Sum.inl x then ((Sum.inl k : Key), V.bl true) else (Sum.inl k, V.bl true)) = _
    split <;> rfl
  · rw [if_neg (by simpa using h), if_neg h]
    unfold tabT
    rw [List.map_append]; rfl
section
variable {b : Bool} {ρ ρ1 : En} {wi : TI} {tt : TT} {vs : List Nat} {j : Nat}
theorem ev_sortDC {xs : List Int} {p : Int → Bool} (hi : EvI b wi ρ (xs.map .int) ρ1) (hj : j ∈ vs) (hjl : j < ρ1.length) (hl : xs.length ≤ 1000000)
    (hs : ∀ x ∈ xs, EvT false tt ((wipeE ρ1 vs).set j (.dat (.int x))) (p x) ((wipeE ρ1 vs).set j (.dat (.int x)))) :
    Ev b (tCKw (rSortDR true) (tCons (tDc wi (gName j) tt (tVar j) (tC (.bl true)) vs) tNil) (tCons (tC (.bl true)) tNil)) ρ (.l ((srtD (nubI (xs.filter p))).map .int)) ρ1 := fun G H σ e st nd Q q =>
  hi G H σ e st nd _ fun J G1 H1 x1 s1 a1 hJ Dl hD => by
    have nd1 : (adr ρ1).Nodup := by rw [a1]; exact nd
    refine ⟨fun i m H' => i + m = xs.length ∧ ∃ G', Ext [] G1 H1 G' H' ∧ G' Dl = none ∧ H' Dl = some (.dK (tabT (nubI ((xs.take i).filter p)))), ⟨xs.length, by simp, G1, Ext.own x1.gh hD, x1.gh.none hD, upd_same⟩, fun i m H' hW => ?_⟩
    obtain ⟨hm, G', x2, gD, hDl⟩ := hW
    obtain ⟨hstop, hgo⟩ := hJ G' H' x2.gg x2.gh
    by_cases hlt : i < xs.length
    · obtain ⟨x, hx⟩ : ∃ x, xs[i]? = some x := ⟨xs[i], by simp [hlt]⟩
      have hmem : x ∈ xs := List.mem_of_getElem? hx
      obtain ⟨hgo1, hy⟩ := hgo i (.int x) (by rw [List.getElem?_map, hx]; rfl)
      refine .inr ⟨hgo1, fun H3 => ∃ G', Ext [] G1 H1 G' H3 ∧ G' Dl = none ∧ H3 Dl = some (.dK (tabT (nubI ((xs.take (i + 1)).filter p)))), fun H3 h3 => ⟨m - 1, by omega, by omega, h3⟩, fun v H3 hv => ?_⟩
      obtain ⟨G3, x3, hd3⟩ := hy v H3 hv
      have y3 := x2.tr x3
      have sw : StOk G3 H3 (wipe σ vs) (wipeE ρ1 vs) := (s1.mono y3).wipe vs
      refine gv_name (j := j) (d := .int x) G3 H3 _ _ v x3.gh sw hd3 _ fun σ2 s2 l2 o2 => ?_
      have D3 := x3.hh _ _ hDl
      have gD3 : G3 Dl = none := x3.nw Dl (by simp) gD (by rw [hDl]; simp)
      have etake : xs.take (i + 1) = xs.take i ++ [x] := by rw [List.take_add_one, hx]; rfl
      refine ⟨wipe_ext (by rw [l2, wipe_length]) fun k hk => o2 k fun hmm => ?_, ?_⟩
      · have : k = j := by simpa using hmm
        exact hk (by rw [this]; exact hj)
      · have nd2 : (adr ((wipeE ρ1 vs).set j (.dat (.int x)))).Nodup := nd_set0 rfl (nd_wipe nd1 vs)
        refine hs x hmem G3 H3 σ2 x3.gh s2 nd2 _ fun G4 H4 x4 s4 a4 => ?_
        have D4 := x4.hh _ _ D3
        have gD4 : G4 Dl = none := x4.nw Dl (show Dl ∉ ([] : List Addr) by simp) gD3 (by rw [D3]; simp)
        have y4 : Ext [] G1 H1 G4 H4 := y3.tr x4
        cases hp : p x with
        | false =>
          show ∃ G', _
          refine ⟨G4, y4, gD4, ?_⟩
          rw [etake, List.filter_append, List.filter_cons, if_neg (by rw [hp]; decide)]
          rw [List.filter_nil, List.append_nil]
          exact D4
        | true =>
          have hslot : ((wipeE ρ1 vs).set j (.dat (.int x)))[j]? = some (.dat (.int x)) := List.getElem?_set_self (by rw [wipeE_len]; exact hjl)
          obtain ⟨v5, h5, k5⟩ := s4.get hslot (by simp)
          cases k5
          refine ⟨_, h5, tabT (nubI ((xs.take i).filter p)), Sum.inl x, rfl, D4, ?_, ?_⟩
          · unfold tabT
            rw [List.length_map, sizeLine_eq]
            have h1 := List.length_filter_le p (xs.take i)
            have h2 : (xs.take i).length ≤ xs.length := by rw [List.length_take]; omega
            have h3 := nub_len ((xs.take i).filter p)
            omega
          · have x6 : Ext [Dl] G4 H4 G4 (upd H4 Dl (.dK (putK (tabT (nubI ((xs.take i).filter p))) (Sum.inl x) (.bl true)))) := Ext.set x4.gh (by simp) gD4
            refine ⟨G4, y4.trans x6 fun c hc => .inr (by rw [List.mem_singleton.mp hc]; exact hD), gD4, ?_⟩
            rw [upd_same, put_tab, etake, List.filter_append, List.filter_cons, if_pos hp, List.filter_nil, nub_snoc]
    · have ei : i = xs.length := by omega
      refine .inl ⟨by rw [List.length_map] at hstop; rw [ei]; exact hstop, ?_⟩
      rw [ei, List.take_length] at hDl
      refine ⟨Dl, _, nubI (xs.filter p), rfl, rfl, hDl, by unfold tabT; rw [List.map_map]; rfl, fun ns' pa hp ho hn => ?_⟩
      have ho : ns'.Pairwise (· ≥ ·) := ho
      rw [srtD_of hp ho]
      have x7 : Ext (ws b ρ) G H G' (upd H' pa (.lst ((srtD (nubI (xs.filter p))).map V.int))) := (x1.tr x2.up).tr (Ext.own x2.gh hn)
      refine q _ G' _ x7 ((s1.mono x2).mono (Ext.own x2.gh hn)) a1 ⟨pa, _, rfl, ?_, x2.gh.none hn, upd_same, dqs_ints _⟩
      cases z : H pa with
      | none => rfl
      | some o => exact absurd hn ((x1.tr x2.up).th pa (by rw [z]; simp))
end
end Kn

namespace Kn
open PySem PySem.Spec PyProof.Rows L2
/-! ### texts and truth values in a display -/
theorem of_dqs_strs {H : Hp} : ∀ {l : List Str} {vs : List V}, DqA H vs (l.map PyData.str) → vs = l.map V.str
  | [], _, .nil => rfl
  | _ :: l, _, .cons (.str _) t => by rw [of_dqs_strs (l := l) t]; rfl
theorem strs_flat : ∀ l : List Str, (l.map V.str).all flatV = true
  | [] => rfl
  | x :: l => by rw [List.map_cons, List.all_cons, strs_flat l]; rfl
theorem bools_flat : ∀ l : List Bool, (l.map V.bl).all flatV = true
  | [] => rfl
  | x :: l => by rw [List.map_cons, List.all_cons, bools_flat l]; rfl
theorem inV_strs (x : Str) (l : List Str) : inV (V.str x) (l.map V.str) = l.any fun y => y == x := by
  unfold inV; rw [List.any_map]; rfl
theorem inV_bools (x : Bool) : ∀ l : List Bool, inV (V.bl x) (l.map V.bl) = decide (x ∈ l)
  | [] => rfl
  | y :: l => by
    have ih := inV_bools x l
    unfold inV at ih ⊢
    rw [List.map_cons, List.any_cons, ih]
    show (eqV (V.bl y) (V.bl x) || _) = _
    cases x <;> cases y <;> simp [eqV]
section
variable {K : PySem.W.Frag}
theorem o2_niTs {l : List Str} {i : Str} : Op2 (rIn K true) (.str i) (.tuple (l.map .str)) (.d (.bool (!(l.any fun y => y == i)))) := o2_val fun G H v w e hv hw Q q => by
  cases hv; cases hw with
  | tup ha hs =>
    rw [of_dqs_strs hs] at ha
    exact ⟨_, _, rfl, .inr (.inl (.inl (e _ _ ha))), rfl, strs_flat l, by
      show Q (.bl (!inV (V.str i) (l.map V.str))) H
      rw [inV_strs]; exact q _ (.bl _)⟩
theorem o2_niLb {l : List Bool} {i : Bool} : Op2 (rIn K true) (.bool i) (eL .bool l) (.d (.bool (!decide (i ∈ l)))) := o2_val fun G H v w e hv hw Q q => by
  cases hv; cases hw with
  | lst ha hs =>
    rw [of_dqs_bools hs] at ha
    exact ⟨_, _, rfl, .inl (.inl (.inl (e _ _ ha))), rfl, bools_flat l, by
      show Q (.bl (!inV (V.bl i) (l.map V.bl))) H
      rw [inV_bools]; exact q _ (.bl _)⟩
theorem o2_inLb {l : List Bool} {i : Bool} : Op2 (rIn K false) (.bool i) (eL .bool l) (.d (.bool (decide (i ∈ l)))) := o2_val fun G H v w e hv hw Q q => by
  cases hv; cases hw with
  | lst ha hs =>
    rw [of_dqs_bools hs] at ha
    exact ⟨_, _, rfl, .inl (.inl (.inl (e _ _ ha))), rfl, bools_flat l, by rw [inV_bools]; exact q _ (.bl _)⟩
end
section
variable {K : PySem.W.Frag}
theorem o2_inTs {l : List Str} {i : Str} : Op2 (rIn K false) (.str i) (.tuple (l.map .str)) (.d (.bool (l.any fun y => y == i))) := o2_val fun G H v w e hv hw Q q => by
  cases hv; cases hw with
  | tup ha hs =>
    rw [of_dqs_strs hs] at ha
    exact ⟨_, _, rfl, .inr (.inl (.inl (e _ _ ha))), rfl, strs_flat l, by
      show Q (.bl (inV (V.str i) (l.map V.str))) H
      rw [inV_strs]; exact q _ (.bl _)⟩
end
/-! ### x is True, x is False -/
theorem o2_isBl {a b : Bool} : Op2 rIsB (.bool a) (.bool b) (.d (.bool (decide (a = b)))) := o2_val fun G H v w e hv hw Q q => by
  cases hv; cases hw
  exact ⟨a, b, rfl, rfl, q _ (.bl _)⟩
/-! ### the words -/
def byS (s : Bool) : Str := if s then Str.ofString "sharpest" else Str.ofString "dullest"
theorem byS_in (s : Bool) : (!([Str.ofString "dullest", Str.ofString "sharpest"].any fun y => y == byS s)) = false := by cases s <;> decide +kernel
theorem byS_is (s : Bool) : decide (byS s = Str.ofString "sharpest") = s := by cases s <;> decide +kernel
/-! ### rows -/
def isRowD : PyData → Bool
  | .list ds => decide ((ds.length : Int) ≤ 200) && ds.all (isI 1 200)
  | _ => false
theorem isRowD_list (ds : List PyData) : isRowD (.list ds) = (decide ((ds.length : Int) ≤ 200) && ds.all (isI 1 200)) := rfl
structure Row (l : List Int) : Prop where
  len : l.length ≤ 200
  ok : ∀ x ∈ l, 1 ≤ x ∧ x ≤ 200
theorem isRow_of {l : List Int} (h : Row l) : isRowD (eL .int l) = true := by
  show (decide (((l.map PyData.int).length : Int) ≤ 200) && (l.map PyData.int).all (isI 1 200)) = true
  have h1 : (l.map PyData.int).all (isI 1 200) = true := by
    rw [List.all_eq_true]
    intro d hd
    obtain ⟨x, hx, rfl⟩ := List.mem_map.mp hd
    have := h.ok x hx
    simp [isI]; omega
  rw [h1]
  have := h.len
  simp; omega
theorem row_small {v : PyData} (h : isRowD v = true) : ∀ ds, v = .list ds → ds.length ≤ 1000000 := by
  rintro ds rfl
  rw [isRowD_list, Bool.and_eq_true, decide_eq_true_eq] at h
  omega
theorem row_of {l : List Int} (h : isRowD (eL .int l) = true) : Row l := by
  have h : (decide (((l.map PyData.int).length : Int) ≤ 200) && (l.map PyData.int).all (isI 1 200)) = true := h
  rw [Bool.and_eq_true, decide_eq_true_eq, List.length_map] at h
  refine ⟨by omega, fun x hx => ?_⟩
  have := List.all_eq_true.mp h.2 (.int x) (List.mem_map.mpr ⟨x, hx, rfl⟩)
  simpa [isI] using this
/-! ### what the first lot can do less -/
def gapV (a b : List Int) : Option Int := (rgI 1 (maxD 0 b + 1 - 1).toNat).find? fun n => decide (capOf a n < capOf b n)
def partL (a : List Int) (n : Int) : List Int := List.replicate (capOf a n + 1).toNat n
def partV (a b : List Int) : Rv := match gapV a b with
  | none => .d .none
  | some n => .l ((partL a n).map .int)
theorem part_none {a b : List Int} (h : gapV a b = none) : partV a b = .d .none := by unfold partV; rw [h]
theorem part_some {a b : List Int} {n : Int} (h : gapV a b = some n) : partV a b = .l ((partL a n).map .int) := by unfold partV; rw [h]
theorem cap_le {l : List Int} {n : Int} (hn : 1 ≤ n) (h : ∀ x ∈ l, 1 ≤ x) : capOf l n ≤ l.sum := by
  induction l with
  | nil => rw [cap_nil]; simp
  | cons x l ih =>
    have := h x List.mem_cons_self
    have := ih fun y hy => h y (List.mem_cons_of_mem _ hy)
    rw [cap_cons, List.sum_cons]
    split <;> omega
theorem Lot.cap {l : List Int} (h : Lot l) {n : Int} (hn : 1 ≤ n) : 0 ≤ capOf l n ∧ capOf l n ≤ 200 := ⟨cap_pos l n, Int.le_trans (cap_le hn h.pos) h.sum⟩
theorem maxD_le {l : List Int} {m : Int} (h0 : 0 ≤ m) (h : ∀ x ∈ l, x ≤ m) : maxD 0 l ≤ m := by
  by_cases hl : l = []
  · subst hl; exact h0
  · exact h _ (maxD_mem (d := 0) hl).1
theorem maxD_nn {l : List Int} (h : ∀ x ∈ l, 1 ≤ x) : 0 ≤ maxD 0 l := by
  by_cases hl : l = []
  · subst hl; decide
  · have := h _ (maxD_mem (d := 0) hl).1; omega
theorem maxD_ub {l : List Int} {x : Int} (hx : x ∈ l) : x ≤ maxD 0 l := (maxD_mem (d := 0) (List.ne_nil_of_mem hx)).2 x hx
theorem gap_some {a b : List Int} {n : Int} (h : gapV a b = some n) : 1 ≤ n ∧ n ≤ maxD 0 b ∧ capOf a n < capOf b n ∧ ∀ m, 1 ≤ m → m < n → capOf b m ≤ capOf a m := by
  unfold gapV at h
  have h1 := List.find?_some h
  have h2 := List.mem_of_find?_eq_some h
  have h3 := mem_rgI.mp h2
  refine ⟨by omega, by omega, by simpa using h1, fun m hm hmn => ?_⟩
  obtain ⟨-, as, bs, e, hno⟩ := List.find?_eq_some_iff_append.mp h
  have hlen : as.length = (n - 1).toNat := by
    have hk : (rgI 1 (maxD 0 b + 1 - 1).toNat)[as.length]? = some n := by rw [e]; simp
    have hlt : as.length < (rgI 1 (maxD 0 b + 1 - 1).toNat).length := by rw [e]; simp
    rw [rgI_len] at hlt
    rw [rgI_get _ _ _ hlt] at hk
    have := Option.some.inj hk
    omega
  have hmem : m ∈ as := by
    have hk : (rgI 1 (maxD 0 b + 1 - 1).toNat)[(m - 1).toNat]? = some ((1 : Int) + (((m - 1).toNat : Nat) : Int)) := rgI_get _ _ _ (by omega)
    rw [e, List.getElem?_append_left (by omega)] at hk
    have := List.mem_of_getElem? hk
    rwa [show (1 : Int) + (((m - 1).toNat : Nat) : Int) = m by omega] at this
  have := hno m hmem
  simp at this
  exact this
theorem gap_none {a b : List Int} (h : gapV a b = none) : ∀ n, 1 ≤ n → capOf b n ≤ capOf a n := by
  intro n hn
  unfold gapV at h
  by_cases hb : n ≤ maxD 0 b
  · have := List.find?_eq_none.mp h n (mem_rgI.mpr ⟨hn, by omega⟩)
    simpa using this
  · rw [cap_zero (a := b) fun t ht => by have := maxD_ub ht; omega]
    exact cap_pos a n
theorem gap_iff {a b : List Int} : gapV a b = none ↔ ∀ n, 1 ≤ n → capOf b n ≤ capOf a n :=
  ⟨gap_none, fun h => by
    cases e : gapV a b with
    | none => rfl
    | some n => have := gap_some e; have := h n this.1; omega⟩
/-! ### use of a tool -/
def suitV (l : List Int) (n : Int) : List Int := srtD (nubI (l.filter fun t => decide (n ≤ t)))
theorem suit_mem {l : List Int} {n t : Int} : t ∈ suitV l n ↔ t ∈ l ∧ n ≤ t := by
  unfold suitV
  rw [srtD_mem, nub_mem, List.mem_filter, decide_eq_true_eq]
def wornV (l : List Int) (t : Int) : List Int := srtD ((l.erase t ++ [t - 1]).filter fun v => decide (0 < v))
theorem worn_len {l : List Int} {t : Int} (h : t ∈ l) : (wornV l t).length ≤ l.length := by
  unfold wornV
  rw [srtD_len]
  have h1 := List.length_filter_le (fun v => decide (0 < v)) (l.erase t ++ [t - 1])
  rw [List.length_append, List.length_erase_of_mem h, List.length_singleton] at h1
  have := List.length_pos_of_mem h
  omega
theorem erase_at {l : List Int} {t : Int} (h : t ∈ l) : ∃ j, l[j]? = some t ∧ (∀ m : Nat, m < j → l[m]? ≠ some t) ∧ l.eraseIdx j = l.erase t := by
  induction l with
  | nil => cases h
  | cons x l ih =>
    by_cases hx : x = t
    · subst hx
      exact ⟨0, rfl, fun m hm => absurd hm (by omega), by simp⟩
    · obtain ⟨j, h1, h2, h3⟩ := ih ((List.mem_cons.mp h).resolve_left fun e => hx e.symm)
      refine ⟨j + 1, by simpa using h1, fun m hm => ?_, ?_⟩
      · cases m with
        | zero => simpa using hx
        | succ m => simpa using h2 m (by omega)
      · rw [List.eraseIdx_cons_succ, h3, List.erase_cons_tail (by simpa using hx)]
def headI (l : List Int) : Int := (l[0]?).getD 0
def lastI (l : List Int) : Int := (l[l.length - 1]?).getD 0
def pickV (s : Bool) (l : List Int) (n : Int) : Int := if (suitV l n).length = 0 then 0 else if s = true then headI (suitV l n) else lastI (suitV l n)
theorem pick_mem {s : Bool} {l : List Int} {n : Int} (h : (suitV l n).length ≠ 0) : pickV s l n ∈ suitV l n := by
  unfold pickV
  rw [if_neg h]
  split
  · have e : (suitV l n)[0]? = some (suitV l n)[0] := List.getElem?_eq_getElem (by omega)
    unfold headI; rw [e]; exact List.getElem_mem _
  · have e : (suitV l n)[(suitV l n).length - 1]? = some (suitV l n)[(suitV l n).length - 1] := List.getElem?_eq_getElem (by omega)
    unfold lastI; rw [e]; exact List.getElem_mem _
theorem pick_in {s : Bool} {l : List Int} {n : Int} (h : 0 < pickV s l n) : pickV s l n ∈ l ∧ n ≤ pickV s l n := by
  by_cases h0 : (suitV l n).length = 0
  · unfold pickV at h; rw [if_pos h0] at h; exact absurd h (by decide)
  · exact suit_mem.mp (pick_mem h0)
def stepS (s : Bool) (p : List Int × List Int) (n : Int) : List Int × List Int := (p.1 ++ [pickV s p.2 n], if 0 < pickV s p.2 n then wornV p.2 (pickV s p.2 n) else p.2)
def servedV (s : Bool) (l row : List Int) : List Int × List Int := row.foldl (stepS s) ([], l)
theorem serve_len (s : Bool) : ∀ (row : List Int) (p : List Int × List Int), (row.foldl (stepS s) p).1.length = p.1.length + row.length ∧ (row.foldl (stepS s) p).2.length ≤ p.2.length
  | [], p => ⟨rfl, Nat.le_refl _⟩
  | n :: row, p => by
    rw [List.foldl_cons]
    obtain ⟨h1, h2⟩ := serve_len s row (stepS s p n)
    have h3 : (stepS s p n).1.length = p.1.length + 1 := by unfold stepS; simp
    have h4 : (stepS s p n).2.length ≤ p.2.length := by
      unfold stepS
      show (if _ then _ else _ : List Int).length ≤ _
      split
      · rename_i h; exact worn_len (pick_in h).1
      · exact Nat.le_refl _
    simp only [List.length_cons]
    omega
end Kn

namespace Kn
open PySem PySem.Spec PyProof.Rows L2
/-! ### capacities behind the use of a tool -/
theorem cap_perm {a b : List Int} (h : a.Perm b) (n : Int) : capOf a n = capOf b n := by
  induction h with
  | nil => rfl
  | cons x _ ih => rw [cap_cons, cap_cons, ih]
  | swap x y l => rw [cap_cons, cap_cons, cap_cons, cap_cons]; omega
  | trans _ _ ih1 ih2 => rw [ih1, ih2]
theorem cap_filter {n : Int} (hn : 1 ≤ n) : ∀ l : List Int, capOf (l.filter fun v => decide (0 < v)) n = capOf l n
  | [] => rfl
  | x :: l => by
    by_cases h : 0 < x
    · rw [List.filter_cons_of_pos (by simpa using h), cap_cons, cap_cons, cap_filter hn l]
    · rw [List.filter_cons_of_neg (by simpa using h), cap_cons, cap_filter hn l, if_neg (by omega)]; omega
theorem cap_worn {l : List Int} {t n : Int} (h : t ∈ l) (hn : 1 ≤ n) : capOf (wornV l t) n = capOf l n - (if n ≤ t then 1 else 0) := by
  unfold wornV
  rw [cap_perm (srtD_perm _), cap_filter hn, cap_app]
  have h2 := cap_perm (List.perm_cons_erase h) n
  rw [cap_cons] at h2
  rw [h2, cap_cons, cap_nil]
  split <;> split <;> omega
theorem worn_pos {l : List Int} {t : Int} : ∀ x ∈ wornV l t, 1 ≤ x := fun x hx => by
  unfold wornV at hx
  have := (List.mem_filter.mp (srtD_mem.mp hx)).2
  simp at this
  omega
theorem cap_one {l : List Int} (h : ∀ x ∈ l, 1 ≤ x) : capOf l 1 = l.sum := by
  rw [cap_ge (by intro t ht; have := h t ht; omega)]; simp
theorem worn_lot {l : List Int} {t : Int} (h : Lot l) (ht : t ∈ l) : Lot (wornV l t) where
  pos := worn_pos
  desc := srtD_sorted _
  len := Nat.le_trans (worn_len ht) h.len
  sum := by
    rw [← cap_one worn_pos, cap_worn ht (by decide), cap_one h.pos]
    have := h.sum
    split <;> omega
/-! ### what serve picks -/
def nextL (s : Bool) (l : List Int) (n : Int) : List Int := if 0 < pickV s l n then wornV l (pickV s l n) else l
def picksL (s : Bool) : List Int → List Int → List Int
  | _, [] => []
  | l, n :: row => pickV s l n :: picksL s (nextL s l n) row
def endL (s : Bool) : List Int → List Int → List Int
  | l, [] => l
  | l, n :: row => endL s (nextL s l n) row
theorem served_go (s : Bool) : ∀ (row ps l : List Int), row.foldl (stepS s) (ps, l) = (ps ++ picksL s l row, endL s l row)
  | [], ps, l => by simp [picksL, endL]
  | n :: row, ps, l => by
    rw [List.foldl_cons]
    show row.foldl (stepS s) (ps ++ [pickV s l n], nextL s l n) = _
    rw [served_go s row]
    simp [picksL, endL]
theorem served_eq (s : Bool) (l row : List Int) : servedV s l row = (picksL s l row, endL s l row) := by
  unfold servedV
  rw [served_go, List.nil_append]
theorem next_lot {s : Bool} {l : List Int} (h : Lot l) (n : Int) : Lot (nextL s l n) := by
  unfold nextL
  split
  · rename_i hp; exact worn_lot h (pick_in hp).1
  · exact h
theorem end_lot {s : Bool} : ∀ {row l : List Int}, Lot l → Lot (endL s l row)
  | [], _, h => h
  | n :: row, _, h => end_lot (row := row) (next_lot h n)
theorem suit_some {l : List Int} {n : Int} (h : 0 < capOf l n) : (suitV l n).length ≠ 0 := by
  intro h0
  have : ∀ t ∈ l, t ≤ n - 1 := fun t ht => by
    by_cases hn : n ≤ t
    · have := List.length_pos_of_mem (suit_mem.mpr ⟨ht, hn⟩); omega
    · omega
  rw [cap_zero this] at h
  exact absurd h (by decide)
theorem pick_some {s : Bool} {l : List Int} {n : Int} (hn : 1 ≤ n) (h : 0 < capOf l n) : n ≤ pickV s l n ∧ pickV s l n ∈ l := by
  have := suit_mem.mp (pick_mem (s := s) (suit_some h))
  exact ⟨this.2, this.1⟩
theorem pick_none {s : Bool} {l : List Int} {n : Int} (h : capOf l n = 0) : pickV s l n = 0 := by
  unfold pickV
  rw [if_pos]
  apply Classical.byContradiction
  intro hne
  have hm := suit_mem.mp (pick_mem (s := s) hne)
  have h2 := cap_perm (List.perm_cons_erase hm.1) n
  rw [cap_cons, if_pos hm.2, h] at h2
  have := cap_pos (l.erase (pickV s l n)) n
  omega
theorem cap_next {s : Bool} {l : List Int} {n k : Int} (hn : 1 ≤ n) (hk : 1 ≤ k) (h : 0 < capOf l n) : capOf (nextL s l n) k = capOf l k - (if k ≤ pickV s l n then 1 else 0) := by
  obtain ⟨h1, h2⟩ := pick_some (s := s) hn h
  unfold nextL
  rw [if_pos (by omega), cap_worn h2 hk]
theorem next_none {s : Bool} {l : List Int} {n : Int} (h : capOf l n = 0) : nextL s l n = l := by
  unfold nextL
  rw [pick_none h, if_neg (by decide)]
/-- a row of one need -/
theorem same_done {s : Bool} {n : Int} (hn : 1 ≤ n) : ∀ (m : Nat) {l : List Int}, (m : Int) ≤ capOf l n → (0 : Int) ∉ picksL s l (List.replicate m n)
  | 0, l, _ => by simp [picksL]
  | m + 1, l, h => by
    have hp : 0 < capOf l n := by omega
    have hk := pick_some (s := s) hn hp
    rw [List.replicate_succ]
    show (0 : Int) ∉ pickV s l n :: picksL s (nextL s l n) (List.replicate m n)
    rw [List.mem_cons, not_or]
    refine ⟨by omega, same_done hn m ?_⟩
    rw [cap_next hn hn hp, if_pos hk.1]
    omega
theorem same_not {s : Bool} {n : Int} (hn : 1 ≤ n) : ∀ (m : Nat) {l : List Int}, capOf l n < (m : Int) → (0 : Int) ∈ picksL s l (List.replicate m n)
  | 0, l, h => by have := cap_pos l n; omega
  | m + 1, l, h => by
    rw [List.replicate_succ]
    show (0 : Int) ∈ pickV s l n :: picksL s (nextL s l n) (List.replicate m n)
    by_cases hp : 0 < capOf l n
    · have hk := pick_some (s := s) hn hp
      refine List.mem_cons_of_mem _ (same_not hn m ?_)
      rw [cap_next hn hn hp, if_pos hk.1]
      omega
    · have := cap_pos l n
      rw [pick_none (by omega)]
      exact List.mem_cons_self
/-! ### equal capacities, equal lots -/
theorem tops_eq : ∀ {a b : List Int}, (∀ x ∈ a, 1 ≤ x) → (∀ x ∈ b, 1 ≤ x) → (∀ k : Nat, (a.take k).sum = (b.take k).sum) → a = b
  | [], [], _, _, _ => rfl
  | [], y :: b, _, hb, h => by have := h 1; have := hb y List.mem_cons_self; simp at *; omega
  | x :: a, [], ha, _, h => by have := h 1; have := ha x List.mem_cons_self; simp at *; omega
  | x :: a, y :: b, ha, hb, h => by
    have h1 : x = y := by have := h 1; simpa using this
    subst h1
    rw [tops_eq (a := a) (b := b) (fun z hz => ha z (List.mem_cons_of_mem _ hz)) (fun z hz => hb z (List.mem_cons_of_mem _ hz)) fun k => by
      have := h (k + 1)
      simp at this
      omega]
/-- where the top sum stands below capacity plus count, it is reached -/
theorem top_at {l : List Int} (h : Desc l) (hp : ∀ x ∈ l, 1 ≤ x) (k : Nat) : ∃ n, 1 ≤ n ∧ (l.take k).sum = capOf l n + k * (n - 1) ∨ (k = 0 ∧ (l.take k).sum = 0) := by
  cases k with
  | zero => exact ⟨1, .inr ⟨rfl, rfl⟩⟩
  | succ k =>
    by_cases hk : k < l.length
    · have hv : l[k]? = some l[k] := List.getElem?_eq_getElem hk
      refine ⟨l[k] + 1, .inl ⟨?_, ?_⟩⟩
      · have := hp l[k] (List.getElem_mem _); omega
      · rw [cap_top h hv]; simp
    · refine ⟨1, .inl ⟨by omega, ?_⟩⟩
      rw [cap_one hp, sum_take_len (by omega)]; simp
theorem tops_of_caps {a b : List Int} (ha : Desc a) (hp : ∀ x ∈ a, 1 ≤ x) (h : ∀ n, 1 ≤ n → capOf b n ≤ capOf a n) (k : Nat) : (b.take k).sum ≤ (a.take k).sum := by
  obtain ⟨n, ⟨h1, h2⟩ | ⟨h1, h2⟩⟩ := top_at ha hp k
  · have := cap_lb b k h1; have := h n h1; omega
  · subst h1; simp
theorem caps_of_tops {a b : List Int} (hb : Desc b) (h : ∀ k, k ≤ b.length → (b.take k).sum ≤ (a.take k).sum) {n : Int} (hn : 1 ≤ n) : capOf b n ≤ capOf a n := by
  obtain ⟨k, hk, e⟩ := cap_at hb n
  have := cap_lb a k hn
  have := h k hk
  omega
theorem caps_eq {a b : List Int} (ha : Lot a) (hb : Lot b) (h : ∀ n, 1 ≤ n → capOf a n = capOf b n) : a = b :=
  tops_eq ha.pos hb.pos fun k => Int.le_antisymm (tops_of_caps hb.desc hb.pos (fun n hn => by rw [h n hn]; exact Int.le_refl _) k) (tops_of_caps ha.desc ha.pos (fun n hn => by rw [h n hn]; exact Int.le_refl _) k)
/-- the first of a range -/
theorem filter_first {p : Int → Bool} : ∀ (m : Nat) (lo n : Int), lo ≤ n → n < lo + m → p n = true → (∀ k, lo ≤ k → k < n → p k = false) → ∃ r, (rgI lo m).filter p = n :: r
  | 0, lo, n, h1, h2, _, _ => by omega
  | m + 1, lo, n, h1, h2, hp, hno => by
    show ∃ r, (lo :: rgI (lo + 1) m).filter p = n :: r
    by_cases e : lo = n
    · subst e; exact ⟨_, List.filter_cons_of_pos hp⟩
    · obtain ⟨r, hr⟩ := filter_first m (lo + 1) n (by omega) (by omega) hp fun k hk hk2 => hno k (by omega) hk2
      exact ⟨r, by rw [List.filter_cons_of_neg (by rw [hno lo (by omega) (by omega)]; decide), hr]⟩
theorem cut_last {α : Type} (l : List α) (x : α) : cutA (l ++ [x]) none (some (-1)) = l := by
  unfold cutA
  rw [HT.sIx_none]
  have e : HT.sIx (l ++ [x]).length (l ++ [x]).length (some (-1)) = l.length := by
    unfold HT.sIx
    simp
    omega
  rw [e]
  simp
/-- over pairs: each turn goes on -/
theorem sv_each2 {α β S : Type} {b : Bool} {ρ ρ1 : En} {wi : TI} {t : TS} {E : Ens} {K : PySem.W.Frag} {xs : List (α × β)} {e1 : α → PyData} {e2 : β → PyData} {i j : Nat} (hi : EvI b wi ρ (xs.map (eP e1 e2)) ρ1) (I : S → Prop) (C : S → En) (s0 : S) (h0 : I s0) (hw : Wk ρ1 (C s0))
    (hs : ∀ s, I s → ∀ x ∈ xs, Sv t (((C s).set i (.dat (e1 x.1))).set j (.dat (e2 x.2))) { E with nx := fun ρ' => ∃ s', I s' ∧ Wk ρ' (C s'), ct := fun ρ' => ∃ s', I s' ∧ Wk ρ' (C s'), bk := E.nx })
    (hd : ∀ s, I s → E.nx (C s)) : Sv (tFor wi (gTup K 2 (gCons (gName i) (gCons (gName j) gNil))) t) ρ E := by
  refine sv_for hi (fun k d => match xs[k]? with | some x => [(i, e1 x.1), (j, e2 x.2)] | none => []) (fun k d hd => ?_) (fun i ρ' => ∃ s, I s ∧ ρ' = C s) ⟨_, hw, s0, h0, rfl⟩ (fun i d ρ2 hd hI => ?_) fun ρ2 hI => ?_
  · rw [List.getElem?_map] at hd
    cases hx : xs[k]? with
    | none => rw [hx] at hd; cases hd
    | some x =>
      rw [hx] at hd
      have hd : eP e1 e2 x = d := Option.some.inj hd
      subst hd
      exact gv_tup2
  · obtain ⟨s, hI, rfl⟩ := hI
    rw [List.getElem?_map] at hd
    cases hx : xs[i]? with
    | none => rw [hx] at hd; cases hd
    | some x =>
      rw [hx] at hd
      have hd : eP e1 e2 x = d := Option.some.inj hd
      subst hd
      exact (hs s hI x (List.mem_of_getElem? hx)).imp (fun ρ' ⟨s', h1, h2⟩ => ⟨_, h2, s', h1, rfl⟩) (fun _ _ h => h) (fun _ h => h) (fun ρ' ⟨s', h1, h2⟩ => ⟨_, h2, s', h1, rfl⟩)
  · obtain ⟨s, hI, rfl⟩ := hI
    exact hd s hI
def lotB (l : List Int) : Bool := isLotD (eT .int l)
theorem lots_all {l : List (List Int × List Int)} (h : (l.all fun p => lotB p.1 && lotB p.2) = true) : ∀ p ∈ l, Lot p.1 ∧ Lot p.2 := fun p hp => by
  have := List.all_eq_true.mp h p hp
  rw [Bool.and_eq_true] at this
  exact ⟨lot_of this.1, lot_of this.2⟩
end Kn

namespace Kn
open PySem PySem.Spec PyProof.Rows L2
def topS (i : Nat) : Stmt := PySem.Challenge.pw_keenlot_k20_covers_gap_and_parting_row.main.body.getD i (.Pass ⟨0, 0, 0, 0⟩)
structure Txt (mg : Str → Option Value) : Prop where
  n_all : mg "all" = none
  n_bool : mg "bool" = none
  n_int : mg "int" = none
  n_isinstance : mg "isinstance" = none
  n_len : mg "len" = none
  n_list : mg "list" = none
  n_max : mg "max" = none
  n_min : mg "min" = none
  n_range : mg "range" = none
  n_sorted : mg "sorted" = none
  n_sum : mg "sum" = none
  n_tuple : mg "tuple" = none
  n_zip : mg "zip" = none
  c_LIMIT : CG mg "LIMIT" (.int 200)
  c_MOST_TOOLS : CG mg "MOST_TOOLS" (.int 60)
section
variable {P : Program} {w : World} {K : PySem.W.Frag} {mg : Str → Option Value} {base : Heap}
def s_is_integer : Stmt := topS 8
abbrev N_is_integer : List Str := ["value", "low", "high"]
theorem scis_integer : FnScope N_is_integer ["value", "low", "high"] (defScope s_is_integer) := ⟨rfl, rfl, rfl, by decide +kernel, rfl, by decide +kernel, by decide +kernel⟩
def R_is_integer (ds : List PyData) (r : Rv) : Prop := ∃ (v : PyData) (lo hi : Int), ds = [v, .int lo, .int hi] ∧ r = .d (.bool (isI lo hi v))
theorem ok_is_integer {f : Addr} {fd : FuncData} (F : Fun K "is_integer" "is_integer" s_is_integer f fd) (m : mg "is_integer" = some (.ref f)) (T : Txt mg) : Cal P w K mg base [] "is_integer" 1 ["value", "low", "high"] (spD R_is_integer) f fd := by
  refine ⟨m, F.kp, F.ok scis_integer (lenD fun ds r h => by obtain ⟨v, lo, hi, rfl, rfl⟩ := h; rfl) (fun cdv A outer s H vs Q E hr h => ?_), Binds.no (F.binds fun _ _ _ _ _ _ us hl => match us, hl with | [_, _, _], _ => rfl)⟩
  refine ⟨_, (pss_one (ps_ret (pe_and (pe_callB call_isi (by rfl) T.n_isinstance bt_isinstance (pa_cons (pv 0) (pa_cons (pe_bltn (v := .ty "int") (by rfl) T.n_int bt_int rfl) pa_nil))) (pe_and (pe_not (pe_callB call_isi (by rfl) T.n_isinstance bt_isinstance (pa_cons (pv 0) (pa_cons (pe_bltn (v := .ty "bool") (by rfl) T.n_bool bt_bool rfl) pa_nil)))) (pe_one (pe_chain op_le op_le (pv 1) (pv 0) (pv 2))))))), bodyD h fun ds r hR => ?_⟩
  obtain ⟨v, lo, hi, rfl, rfl⟩ := hR
  show Sv _ [.dat _, .dat _, .dat _] _
  cases v with
  | int i =>
    refine sv_ret (b := false) (ev_and (ev_cb (ea_d (ev_var rfl) (ea_v ev_c ea_nil)) (rc_isi (kit_int _))) fun _ => (ev_and (ev_not (ev_cb (ea_d (ev_var rfl) (ea_v ev_c ea_nil)) (rc_isi (kit_bool _)))) fun _ => (ev_chain (ev_var rfl) (ev_var rfl) o2_B (ev_var rfl) o2_B))) ?_
    show _ = _
    simp [isI, isTy, isTyN, tyN]
  | bool i =>
    refine sv_ret (b := false) (ev_and (ev_cb (ea_d (ev_var rfl) (ea_v ev_c ea_nil)) (rc_isi (kit_int _))) fun _ => (ev_and (c := false) (d := true) (Ev.is (ev_not (ev_cb (ea_d (ev_var rfl) (ea_v ev_c ea_nil)) (rc_isi (kit_bool _)))) rfl) fun h => absurd h (by decide))) ?_
    rfl
  | _ =>
    refine sv_ret (b := false) (ev_and (c := false) (d := true) (Ev.is (ev_cb (ea_d (ev_var rfl) (ea_v ev_c ea_nil)) (rc_isi (kit_int _))) rfl) fun h => absurd h (by decide)) ?_
    rfl
  all_goals rfl
def s_fits : Stmt := topS 9
abbrev N_fits : List Str := ["lot"]
theorem scfits : FnScope N_fits ["lot"] (defScope s_fits) := ⟨rfl, rfl, rfl, by decide +kernel, rfl, by decide +kernel, by decide +kernel⟩
def R_fits (ds : List PyData) (r : Rv) : Prop := ∃ (l : List Int), ds = [eT .int l] ∧ r = .d (.bool (fitsV l))
theorem ok_fits {f : Addr} {fd : FuncData} (F : Fun K "fits" "fits" s_fits f fd) (m : mg "fits" = some (.ref f)) (T : Txt mg) : Cal P w K mg base [] "fits" 1 ["lot"] (spD R_fits) f fd := by
  refine ⟨m, F.kp, F.ok scfits (lenD fun ds r h => by obtain ⟨l, rfl, rfl⟩ := h; rfl) (fun cdv A outer s H vs Q E hr h => ?_), Binds.no (F.binds fun _ _ _ _ _ _ us hl => match us, hl with | [_], _ => rfl)⟩
  refine ⟨_, (pss_one (ps_ret (pe_and (pe_cmpR op_le (pe_callB kr_len (by rfl) T.n_len bt_len (pa_cons (pv 0) pa_nil)) (pe_gl (by rfl) T.c_MOST_TOOLS) (nomark _)) (pe_one (pe_cmpR op_le (pe_callB (kr_sumI rfl) (by rfl) T.n_sum bt_sum (pa_cons (pv 0) pa_nil)) (pe_gl (by rfl) T.c_LIMIT) (nomark _)))))), bodyD h fun ds r hR => ?_⟩
  obtain ⟨l, rfl, rfl⟩ := hR
  show Sv _ [.dat _] _
  -- return
  refine sv_ret (b := false) (ev_and (ev_op (ev_cb (ea_d (ev_var rfl) ea_nil) rc_lenTm) ev_int o2_B) fun _ => (ev_op (ev_cb (ea_d (ev_var rfl) ea_nil) rc_sumT) ev_int o2_B)) ?_
  all_goals rfl
def s_is_lot : Stmt := topS 10
abbrev N_is_lot : List Str := ["value", "tool", "first", "second"]
theorem scis_lot : FnScope N_is_lot ["value"] (defScope s_is_lot) := ⟨rfl, rfl, rfl, by decide +kernel, rfl, by decide +kernel, by decide +kernel⟩
def R_is_lot (ds : List PyData) (r : Rv) : Prop := ∃ (v : PyData), ds = [v] ∧ (∀ ds, v = .tuple ds → ds.length ≤ 1000000) ∧ r = .d (.bool (isLotD v))
theorem ok_is_lot {f : Addr} {fd : FuncData} (F : Fun K "is_lot" "is_lot" s_is_lot f fd) (m : mg "is_lot" = some (.ref f)) (T : Txt mg) {f_is_integer : Addr} {d_is_integer : FuncData} (C_is_integer : Cal P w K mg base [] "is_integer" 1 ["value", "low", "high"] (spD R_is_integer) f_is_integer d_is_integer) {f_fits : Addr} {d_fits : FuncData} (C_fits : Cal P w K mg base [] "fits" 1 ["lot"] (spD R_fits) f_fits d_fits) : Cal P w K mg base [] "is_lot" 2 ["value"] (spD R_is_lot) f fd := by
  refine ⟨m, F.kp, F.ok scis_lot (lenD fun ds r h => by obtain ⟨v, rfl, h0, rfl⟩ := h; rfl) (fun cdv A outer s H vs Q E hr h => ?_), Binds.no (F.binds fun _ _ _ _ _ _ us hl => match us, hl with | [_], _ => rfl)⟩
  refine ⟨_, (pss_cons (ps_if (PW.pt (pw_or (pt_not (pt_val (pe_callB call_isi (by rfl) T.n_isinstance bt_isinstance (pa_cons (pv 0) (pa_cons (pe_bltn (v := .ty "tuple") (by rfl) T.n_tuple bt_tuple rfl) pa_nil))))) (pw_or1 (pt_not (pt_val (pe_callB (cr_all rfl) (by rfl) T.n_all bt_all (pa_cons (pe_lc (own := [("tool", 1)]) (g := (gName 1)) (tt := tYes) rfl scis_lot.nd (pi_tup (pv 0)) (blkOk_by (N := N_is_lot) (sc := defScope s_is_lot) (by decide +kernel)) (fun _ _ _ _ _ => (pg_name (i := 1) scis_lot.nd rfl (Or.inl rfl) (Or.inr rfl))) (fun _ _ _ _ _ => pts_nil) (fun _ _ _ _ _ => (pe_cal C_is_integer hr (by decide) (by rfl) (pa_cons (pv 1) (pa_cons pe_int (pa_cons (pe_gl (by rfl) T.c_LIMIT) pa_nil)))))) pa_nil))))))) (pss_one (ps_ret pe_bl)) pss_nil) (pss_one (ps_ret (pe_and (pe_callB (cr_all rfl) (by rfl) T.n_all bt_all (pa_cons (pe_lc (own := [("first", 2), ("second", 3)]) (g := (gTup K 2 (gCons (gName 2) (gCons (gName 3) gNil)))) (tt := tYes) rfl scis_lot.nd (RZ.pi_zipA (by rfl) T.n_zip (pa_cons (pv 0) (pa_cons (pe_slice sl_tupA (pv 0) (po_some pe_int) po_none) pa_nil))) (blkOk_by (N := N_is_lot) (sc := defScope s_is_lot) (by decide +kernel)) (fun _ _ _ _ _ => (pg_tup rfl (pgs_cons (pg_name (i := 2) scis_lot.nd rfl (Or.inl rfl) (Or.inr rfl)) (pgs_cons (pg_name (i := 3) scis_lot.nd rfl (Or.inl rfl) (Or.inr rfl)) pgs_nil)))) (fun _ _ _ _ _ => pts_nil) (fun _ _ _ _ _ => (pe_cmpR op_ge (pv 2) (pv 3) (nomark _)))) pa_nil)) (pe_one (pe_cal C_fits hr (by decide) (by rfl) (pa_cons (pv 0) pa_nil))))))), bodyD h fun ds r hR => ?_⟩
  obtain ⟨v, rfl, h0, rfl⟩ := hR
  show Sv _ [.dat _, .un, .un, .un] _
  cases v with
  | tuple ds =>
    have hl := h0 ds rfl
    refine sv_seq (sv_if (b := false) (c := !(ds.all (isI 1 200))) (EvT.is (et_orF (EvT.is (et_not (et_B (ev_cb (ea_d (ev_var rfl) (ea_v ev_c ea_nil)) (rc_isi (kit_tuple _))))) rfl) (et_not (et_B (ev_cb (ea_d (ev_fz (ev_lcM (α := PyData) (enc := id) (xs := ds) .bool (ei_tupD (ev_var rfl)) (by decide) hl fun x hx => (ev_call0 (ds := [_, _, _]) (ea_d (ev_var rfl) (ea_d ev_int (ea_d ev_int ea_nil))) ⟨_, _, _, rfl, rfl⟩))) ea_nil) rc_all)))) (by rw [List.all_map]; rfl)) (fun hc => ?_) (fun hc => ?_))
    · refine sv_ret (b := false) ev_bl ?_
      show Rv.d (.bool false) = .d (.bool (isLotD (.tuple ds)))
      have : ds.all (isI 1 200) = false := by simpa using hc
      rw [isLotD_tup, this]; rfl
    · have hc : ds.all (isI 1 200) = true := by simpa using hc
      refine sv_nx ?_
      obtain ⟨l, rfl⟩ : ∃ l : List Int, ds = l.map .int := ⟨_, all_ints hc⟩
      have hl : l.length ≤ 1000000 := by rwa [List.length_map] at hl
      refine sv_ret (b := false) (ev_and (ev_cb (ea_d (ev_fz (ev_lcM2 .bool (ei_zT (e1 := .int) (e2 := .int) (ea_d (ev_var rfl) (ea_d (ev_slTm .int (ev_var rfl) (eo_s ev_int) eo_n) ea_nil))) ⟨by decide, by decide⟩ (by rw [List.length_zip]; omega) fun x hx => (ev_op (ev_var rfl) (ev_var rfl) o2_B))) ea_nil) rc_all) fun _ => (ev_call0 (ds := [_]) (ea_d (ev_var rfl) ea_nil) ⟨_, rfl, rfl⟩)) ?_
      show Rv.d (.bool _) = .d (.bool (isLotD (.tuple _)))
      rw [isLotD_tup, hc, ints_map, List.all_map, cut_from (by decide)]
      rfl
  | _ =>
    refine sv_seq (sv_if (b := false) (c := true) (et_orT (EvT.is (et_not (et_B (ev_cb (ea_d (ev_var rfl) (ea_v ev_c ea_nil)) (rc_isi (kit_tuple _))))) rfl)) (fun hc => ?_) (fun hc => absurd hc (by decide)))
    exact sv_ret (b := false) ev_bl rfl
  all_goals rfl
def s_check_lot : Stmt := topS 11
abbrev N_check_lot : List Str := ["value"]
theorem sccheck_lot : FnScope N_check_lot ["value"] (defScope s_check_lot) := ⟨rfl, rfl, rfl, by decide +kernel, rfl, by decide +kernel, by decide +kernel⟩
def R_check_lot (ds : List PyData) (r : Rv) : Prop := ∃ (v : PyData), ds = [v] ∧ (isLotD v = true) ∧ r = .d (.none)
theorem ok_check_lot {f : Addr} {fd : FuncData} (F : Fun K "check_lot" "check_lot" s_check_lot f fd) (m : mg "check_lot" = some (.ref f)) (T : Txt mg) {f_is_lot : Addr} {d_is_lot : FuncData} (C_is_lot : Cal P w K mg base [] "is_lot" 2 ["value"] (spD R_is_lot) f_is_lot d_is_lot) : Cal P w K mg base [] "check_lot" 3 ["value"] (spD R_check_lot) f fd := by
  refine ⟨m, F.kp, F.ok sccheck_lot (lenD fun ds r h => by obtain ⟨v, rfl, h0, rfl⟩ := h; rfl) (fun cdv A outer s H vs Q E hr h => ?_), Binds.no (F.binds fun _ _ _ _ _ _ us hl => match us, hl with | [_], _ => rfl)⟩
  refine ⟨_, (pss_one (ps_if (pt_not (pt_val (pe_cal C_is_lot hr (by decide) (by rfl) (pa_cons (pv 0) pa_nil)))) (pss_one ps_never) pss_nil)), bodyD h fun ds r hR => ?_⟩
  obtain ⟨v, rfl, h0, rfl⟩ := hR
  show Sv _ [.dat _] _
  refine sv_if (b := false) (c := false) (EvT.is (et_not (et_B (ev_call0 (ds := [_]) (ea_d (ev_var rfl) ea_nil) ⟨_, rfl, lot_small h0, rfl⟩))) (by rw [h0]; rfl)) (fun hc => absurd hc (by decide)) (fun hc => ?_)
  exact sv_nx rfl
  all_goals rfl
def s_sorted_lot : Stmt := topS 12
abbrev N_sorted_lot : List Str := ["values", "value"]
theorem scsorted_lot : FnScope N_sorted_lot ["values"] (defScope s_sorted_lot) := ⟨rfl, rfl, rfl, by decide +kernel, rfl, by decide +kernel, by decide +kernel⟩
def R_sorted_lot (ds : List PyData) (r : Rv) : Prop := ∃ (l : List Int), ds = [eL .int l] ∧ (l.length ≤ 1000000) ∧ r = .d (eT .int (srtD (l.filter fun v => decide (0 < v))))
theorem ok_sorted_lot {f : Addr} {fd : FuncData} (F : Fun K "sorted_lot" "sorted_lot" s_sorted_lot f fd) (m : mg "sorted_lot" = some (.ref f)) (T : Txt mg) : Cal P w K mg base [] "sorted_lot" 1 ["values"] (spD R_sorted_lot) f fd := by
  refine ⟨m, F.kp, F.ok scsorted_lot (lenD fun ds r h => by obtain ⟨l, rfl, h0, rfl⟩ := h; rfl) (fun cdv A outer s H vs Q E hr h => ?_), Binds.no (F.binds fun _ _ _ _ _ _ us hl => match us, hl with | [_], _ => rfl)⟩
  refine ⟨_, (pss_one (ps_ret (pe_callTy kr_tup (by rfl) T.n_tuple bt_tuple (pa_cons (pe_callBK (cr_sortedRev (b := true)) (by rfl) T.n_sorted bt_sorted (pa_cons (pe_lc (own := [("value", 1)]) (g := (gName 1)) rfl scsorted_lot.nd (pi_list (pv 0)) (blkOk_by (N := N_sorted_lot) (sc := defScope s_sorted_lot) (by decide +kernel)) (fun _ _ _ _ _ => (pg_name (i := 1) scsorted_lot.nd rfl (Or.inl rfl) (Or.inr rfl))) (fun _ _ _ _ _ => (pts_one (pt_cmpR op_gt (pv 1) pe_int (nomark _)))) (fun _ _ _ _ _ => (pv 1))) pa_nil) (pk_cons pe_bl pk_nil)) pa_nil)))), bodyD h fun ds r hR => ?_⟩
  obtain ⟨l, rfl, h0, rfl⟩ := hR
  show Sv _ [.dat _, .un] _
  -- return
  refine sv_ret (b := false) (ev_cb (ea_d (ev_fz (ev_ckw (ea_d (ev_fz (ev_lcF .int (ei_list (ev_var rfl)) (by decide) (by first | decide | omega | assumption | (have hm := mem_rgI.mp (by assumption); omega) | (unfold L2.CMul; omega) | (unfold L2.CPow; decide) | (unfold L2.CMulW; decide +kernel) | (unfold L2.CDiv; omega) | (rw [rgI_len]; omega) | (exact lot_of (by decide +kernel)) | (simp; done) | (simp only [List.length_map, List.length_cons, List.length_nil, List.length_append]; omega)) fun x hx => ⟨(et_t (ev_op (ev_var rfl) ev_int o2_B)), fun hp => (ev_var rfl)⟩)) ea_nil) (ea_d ev_bl ea_nil) rk_sortedR)) ea_nil) rc_tupL) ?_
  all_goals (show Rv.d _ = Rv.d _; rw [List.map_id'])
def s_capacity_of : Stmt := topS 13
abbrev N_capacity_of : List Str := ["lot", "need", "tool"]
theorem sccapacity_of : FnScope N_capacity_of ["lot", "need"] (defScope s_capacity_of) := ⟨rfl, rfl, rfl, by decide +kernel, rfl, by decide +kernel, by decide +kernel⟩
def R_capacity_of (ds : List PyData) (r : Rv) : Prop := ∃ (l : List Int) (n : Int), ds = [eT .int l, .int n] ∧ (l.length ≤ 1000000) ∧ r = .d (.int (capOf l n))
theorem ok_capacity_of {f : Addr} {fd : FuncData} (F : Fun K "capacity_of" "capacity_of" s_capacity_of f fd) (m : mg "capacity_of" = some (.ref f)) (T : Txt mg) : Cal P w K mg base [] "capacity_of" 1 ["lot", "need"] (spD R_capacity_of) f fd := by
  refine ⟨m, F.kp, F.ok sccapacity_of (lenD fun ds r h => by obtain ⟨l, n, rfl, h0, rfl⟩ := h; rfl) (fun cdv A outer s H vs Q E hr h => ?_), Binds.no (F.binds fun _ _ _ _ _ _ us hl => match us, hl with | [_, _], _ => rfl)⟩
  refine ⟨_, (pss_one (ps_ret (pe_callB (kr_sumI rfl) (by rfl) T.n_sum bt_sum (pa_cons (pe_lc (own := [("tool", 2)]) (g := (gName 2)) rfl sccapacity_of.nd (pi_tup (pv 0)) (blkOk_by (N := N_capacity_of) (sc := defScope s_capacity_of) (by decide +kernel)) (fun _ _ _ _ _ => (pg_name (i := 2) sccapacity_of.nd rfl (Or.inl rfl) (Or.inr rfl))) (fun _ _ _ _ _ => (pts_one (pt_cmpR op_ge (pv 2) (pv 1) (nomark _)))) (fun _ _ _ _ _ => (pe_op op_add (pe_op op_sub (pv 2) (pv 1)) pe_int))) pa_nil)))), bodyD h fun ds r hR => ?_⟩
  obtain ⟨l, n, rfl, h0, rfl⟩ := hR
  show Sv _ [.dat _, .dat _, .un] _
  -- return
  refine sv_ret (b := false) (ev_cb (ea_d (ev_fz (ev_lcF .int (ei_tup (ev_var rfl)) (by decide) (by first | decide | omega | assumption | (have hm := mem_rgI.mp (by assumption); omega) | (unfold L2.CMul; omega) | (unfold L2.CPow; decide) | (unfold L2.CMulW; decide +kernel) | (unfold L2.CDiv; omega) | (rw [rgI_len]; omega) | (exact lot_of (by decide +kernel)) | (simp; done) | (simp only [List.length_map, List.length_cons, List.length_nil, List.length_append]; omega)) fun x hx => ⟨(et_t (ev_op (ev_var rfl) (ev_var rfl) o2_B)), fun hp => (ev_op (ev_op (ev_var rfl) (ev_var rfl) o2_I) ev_int o2_I)⟩)) ea_nil) rc_sumL) ?_
  all_goals rfl
def s_gap_of : Stmt := topS 15
abbrev N_gap_of : List Str := ["first", "second", "need"]
theorem scgap_of : FnScope N_gap_of ["first", "second"] (defScope s_gap_of) := ⟨rfl, rfl, rfl, by decide +kernel, rfl, by decide +kernel, by decide +kernel⟩
def R_gap_of (ds : List PyData) (r : Rv) : Prop := ∃ (a b : List Int), ds = [eT .int a, eT .int b] ∧ (a.length ≤ 1000000 ∧ b.length ≤ 1000000) ∧ (∀ x ∈ b, x ≤ 1000000) ∧ (∀ x ∈ b, 1 ≤ x) ∧ r = .d (eO .int (gapV a b))
theorem ok_gap_of {f : Addr} {fd : FuncData} (F : Fun K "gap_of" "gap_of" s_gap_of f fd) (m : mg "gap_of" = some (.ref f)) (T : Txt mg) {f_capacity_of : Addr} {d_capacity_of : FuncData} (C_capacity_of : Cal P w K mg base [] "capacity_of" 1 ["lot", "need"] (spD R_capacity_of) f_capacity_of d_capacity_of) : Cal P w K mg base [] "gap_of" 2 ["first", "second"] (spD R_gap_of) f fd := by
  refine ⟨m, F.kp, F.ok scgap_of (lenD fun ds r h => by obtain ⟨a, b, rfl, h0, h1, h2, rfl⟩ := h; rfl) (fun cdv A outer s H vs Q E hr h => ?_), Binds.no (F.binds fun _ _ _ _ _ _ us hl => match us, hl with | [_, _], _ => rfl)⟩
  refine ⟨_, (pss_cons (ps_for PassesOwn.never rfl (pi_range2 (by rfl) T.n_range (pa_cons pe_int (pa_cons (pe_op op_add (pe_callBK (kr_maxK rfl) (by rfl) T.n_max bt_max (pa_cons (pv 1) pa_nil) (pk_cons pe_int pk_nil)) pe_int) pa_nil))) (pg_name (i := 2) scgap_of.nd rfl (Or.inl rfl)) (pss_one (ps_if (pt_cmpR op_lt (pe_cal C_capacity_of hr (by decide) (by rfl) (pa_cons (pv 0) (pa_cons (pv 2) pa_nil))) (pe_cal C_capacity_of hr (by decide) (by rfl) (pa_cons (pv 1) (pa_cons (pv 2) pa_nil))) (nomark _)) (pss_one (ps_ret (pv 2))) pss_nil))) (pss_one (ps_ret pe_non))), bodyD h fun ds r hR => ?_⟩
  obtain ⟨a, b, rfl, h0, h1, h2, rfl⟩ := hR
  show Sv _ [.dat _, .dat _, .un] _
  refine sv_seq (sv_find (b := false) (enc := .int) (ei_r2 (ea_d ev_int (ea_d (ev_op (ev_ckw (ea_d (ev_var rfl) ea_nil) (ea_d ev_int ea_nil) rk_maxT) ev_int o2_I) ea_nil)) (by have := maxD_le (l := b) (m := 1000000) (by decide) h1; have : 0 ≤ maxD 0 b := by { exact maxD_nn h2 }; omega) (by decide)) [.dat _, .dat _, .un] (Wk.refl _) (fun n => decide (capOf a n < capOf b n)) (fun n => .d (.int n)) (fun x hx => ?_) (fun x ρ' hx => ?_) fun hn => ?_)
  · refine sv_if (b := false) (et_t (ev_op (ev_call0 (ds := [_, _]) (ea_d (ev_var rfl) (ea_d (ev_var rfl) ea_nil)) ⟨_, _, rfl, h0.1, rfl⟩) (ev_call0 (ds := [_, _]) (ea_d (ev_var rfl) (ea_d (ev_var rfl) ea_nil)) ⟨_, _, rfl, h0.2, rfl⟩) o2_B)) (fun hc => ?_) (fun hc => ?_)
    · exact sv_ret (b := false) (ev_var rfl) ⟨hc, rfl⟩
    · exact sv_nx ⟨hc, .inr rfl, .inr rfl, .inl rfl, trivial⟩
  · show Rv.d _ = Rv.d _
    unfold gapV
    rw [hx]; rfl
  · refine sv_ret (b := false) ev_non ?_
    show Rv.d _ = Rv.d _
    unfold gapV
    rw [hn]; rfl
  all_goals rfl
def s_covers : Stmt := topS 16
abbrev N_covers : List Str := ["first", "second"]
theorem sccovers : FnScope N_covers ["first", "second"] (defScope s_covers) := ⟨rfl, rfl, rfl, by decide +kernel, rfl, by decide +kernel, by decide +kernel⟩
def R_covers (ds : List PyData) (r : Rv) : Prop := ∃ (a b : List Int), ds = [eT .int a, eT .int b] ∧ (Lot a) ∧ (Lot b) ∧ r = .d (.bool (gapV a b).isNone)
theorem ok_covers {f : Addr} {fd : FuncData} (F : Fun K "covers" "covers" s_covers f fd) (m : mg "covers" = some (.ref f)) (T : Txt mg) {f_check_lot : Addr} {d_check_lot : FuncData} (C_check_lot : Cal P w K mg base [] "check_lot" 3 ["value"] (spD R_check_lot) f_check_lot d_check_lot) {f_gap_of : Addr} {d_gap_of : FuncData} (C_gap_of : Cal P w K mg base [] "gap_of" 2 ["first", "second"] (spD R_gap_of) f_gap_of d_gap_of) : Cal P w K mg base [] "covers" 4 ["first", "second"] (spD R_covers) f fd := by
  refine ⟨m, F.kp, F.ok sccovers (lenD fun ds r h => by obtain ⟨a, b, rfl, h0, h1, rfl⟩ := h; rfl) (fun cdv A outer s H vs Q E hr h => ?_), Binds.no (F.binds fun _ _ _ _ _ _ us hl => match us, hl with | [_, _], _ => rfl)⟩
  refine ⟨_, (pss_cons (ps_expr (pe_cal C_check_lot hr (by decide) (by rfl) (pa_cons (pv 0) pa_nil))) (pss_cons (ps_expr (pe_cal C_check_lot hr (by decide) (by rfl) (pa_cons (pv 1) pa_nil))) (pss_one (ps_ret (pe_cmpR op_isN (pe_cal C_gap_of hr (by decide) (by rfl) (pa_cons (pv 0) (pa_cons (pv 1) pa_nil))) pe_non (nomark _)))))), bodyD h fun ds r hR => ?_⟩
  obtain ⟨a, b, rfl, h0, h1, rfl⟩ := hR
  show Sv _ [.dat _, .dat _] _
  have hl0 := h0.len
  have hl1 := h1.len
  refine sv_seq (sv_drop (b := false) (ev_call0 (ds := [_]) (ea_d (ev_var rfl) ea_nil) ⟨_, rfl, isLot_of (by assumption), rfl⟩) ?_)
  show Sv _ [.dat _, .dat _] _
  refine sv_seq (sv_drop (b := false) (ev_call0 (ds := [_]) (ea_d (ev_var rfl) ea_nil) ⟨_, rfl, isLot_of (by assumption), rfl⟩) ?_)
  show Sv _ [.dat _, .dat _] _
  -- return
  refine sv_ret (b := false) (ev_op (ev_call0 (ds := [_, _]) (ea_d (ev_var rfl) (ea_d (ev_var rfl) ea_nil)) ⟨_, _, rfl, ⟨by omega, by omega⟩, (fun x hx => by have := h1.le hx; omega), h1.pos, rfl⟩) ev_non o2_isN) ?_
  all_goals (show Rv.d _ = Rv.d _; cases gapV a b <;> rfl)
def s_gap : Stmt := topS 17
abbrev N_gap : List Str := ["first", "second"]
theorem scgap : FnScope N_gap ["first", "second"] (defScope s_gap) := ⟨rfl, rfl, rfl, by decide +kernel, rfl, by decide +kernel, by decide +kernel⟩
def R_gap (ds : List PyData) (r : Rv) : Prop := ∃ (a b : List Int), ds = [eT .int a, eT .int b] ∧ (Lot a) ∧ (Lot b) ∧ r = .d (eO .int (gapV a b))
theorem ok_gap {f : Addr} {fd : FuncData} (F : Fun K "gap" "gap" s_gap f fd) (m : mg "gap" = some (.ref f)) (T : Txt mg) {f_check_lot : Addr} {d_check_lot : FuncData} (C_check_lot : Cal P w K mg base [] "check_lot" 3 ["value"] (spD R_check_lot) f_check_lot d_check_lot) {f_gap_of : Addr} {d_gap_of : FuncData} (C_gap_of : Cal P w K mg base [] "gap_of" 2 ["first", "second"] (spD R_gap_of) f_gap_of d_gap_of) : Cal P w K mg base [] "gap" 4 ["first", "second"] (spD R_gap) f fd := by
  refine ⟨m, F.kp, F.ok scgap (lenD fun ds r h => by obtain ⟨a, b, rfl, h0, h1, rfl⟩ := h; rfl) (fun cdv A outer s H vs Q E hr h => ?_), Binds.no (F.binds fun _ _ _ _ _ _ us hl => match us, hl with | [_, _], _ => rfl)⟩
  refine ⟨_, (pss_cons (ps_expr (pe_cal C_check_lot hr (by decide) (by rfl) (pa_cons (pv 0) pa_nil))) (pss_cons (ps_expr (pe_cal C_check_lot hr (by decide) (by rfl) (pa_cons (pv 1) pa_nil))) (pss_one (ps_ret (pe_cal C_gap_of hr (by decide) (by rfl) (pa_cons (pv 0) (pa_cons (pv 1) pa_nil))))))), bodyD h fun ds r hR => ?_⟩
  obtain ⟨a, b, rfl, h0, h1, rfl⟩ := hR
  show Sv _ [.dat _, .dat _] _
  have hl0 := h0.len
  have hl1 := h1.len
  refine sv_seq (sv_drop (b := false) (ev_call0 (ds := [_]) (ea_d (ev_var rfl) ea_nil) ⟨_, rfl, isLot_of (by assumption), rfl⟩) ?_)
  show Sv _ [.dat _, .dat _] _
  refine sv_seq (sv_drop (b := false) (ev_call0 (ds := [_]) (ea_d (ev_var rfl) ea_nil) ⟨_, rfl, isLot_of (by assumption), rfl⟩) ?_)
  show Sv _ [.dat _, .dat _] _
  -- return
  refine sv_ret (b := false) (ev_call0 (ds := [_, _]) (ea_d (ev_var rfl) (ea_d (ev_var rfl) ea_nil)) ⟨_, _, rfl, ⟨by omega, by omega⟩, (fun x hx => by have := h1.le hx; omega), h1.pos, rfl⟩) ?_
  all_goals rfl
def s_parting_row : Stmt := topS 18
abbrev N_parting_row : List Str := ["first", "second", "need"]
theorem scparting_row : FnScope N_parting_row ["first", "second"] (defScope s_parting_row) := ⟨rfl, rfl, rfl, by decide +kernel, rfl, by decide +kernel, by decide +kernel⟩
def R_parting_row (ds : List PyData) (r : Rv) : Prop := ∃ (a b : List Int), ds = [eT .int a, eT .int b] ∧ (Lot a) ∧ (Lot b) ∧ r = partV a b
theorem ok_parting_row {f : Addr} {fd : FuncData} (F : Fun K "parting_row" "parting_row" s_parting_row f fd) (m : mg "parting_row" = some (.ref f)) (T : Txt mg) {f_capacity_of : Addr} {d_capacity_of : FuncData} (C_capacity_of : Cal P w K mg base [] "capacity_of" 1 ["lot", "need"] (spD R_capacity_of) f_capacity_of d_capacity_of) {f_gap : Addr} {d_gap : FuncData} (C_gap : Cal P w K mg base [] "gap" 4 ["first", "second"] (spD R_gap) f_gap d_gap) : Cal P w K mg base [] "parting_row" 5 ["first", "second"] (spD R_parting_row) f fd := by
  refine ⟨m, F.kp, F.ok scparting_row (lenD fun ds r h => by obtain ⟨a, b, rfl, h0, h1, rfl⟩ := h; rfl) (fun cdv A outer s H vs Q E hr h => ?_), Binds.no (F.binds fun _ _ _ _ _ _ us hl => match us, hl with | [_, _], _ => rfl)⟩
  refine ⟨_, (pss_cons (ps_set (i := 2) scparting_row.nd rfl (Or.inl rfl) (pe_cal C_gap hr (by decide) (by rfl) (pa_cons (pv 0) (pa_cons (pv 1) pa_nil)))) (pss_one (ps_ret (pe_ifExp (pt_cmpR op_isN (pv 2) pe_non (nomark _)) pe_non (pe_op op_rep (pe_lst (pa_cons (pv 2) pa_nil)) (pe_op op_add (pe_cal C_capacity_of hr (by decide) (by rfl) (pa_cons (pv 0) (pa_cons (pv 2) pa_nil))) pe_int)))))), bodyD h fun ds r hR => ?_⟩
  obtain ⟨a, b, rfl, h0, h1, rfl⟩ := hR
  show Sv _ [.dat _, .dat _, .un] _
  have hl0 := h0.len
  refine sv_seq (sv_asg (b := false) (ev_call0 (ds := [_, _]) (ea_d (ev_var rfl) (ea_d (ev_var rfl) ea_nil)) ⟨_, _, rfl, h0, h1, rfl⟩) ?_)
  show Sv _ [.dat _, .dat _, .dat _] _
  cases hg : gapV a b with
  | none =>
    refine sv_ret (b := false) (ev_if (c := true) (et_t (ev_op (ev_var rfl) ev_non o2_isN)) (fun hc => ev_non) (fun hc => absurd hc (by decide))) ?_
    exact (part_none hg).symm
  | some n =>
    have hn := gap_some hg
    have hcap := h0.cap hn.1
    refine sv_retL (b := false) (ev_if (c := false) (et_t (ev_op (ev_var rfl) ev_non o2_isN)) (fun hc => absurd hc (by decide)) (fun hc => ((ev_op (ev_fz (ev_lstm .int [n] (ea_d (ev_var rfl) ea_nil) (Nat.le_of_ble_eq_true rfl))) (ev_op (ev_call0 (ds := [_, _]) (ea_d (ev_var rfl) (ea_d (ev_var rfl) ea_nil)) ⟨_, n, rfl, (by omega), rfl⟩) ev_int o2_I) (o2_rep1 .int (by omega)))))) ?_
    exact (part_some hg).symm
  all_goals rfl
def s_is_row : Stmt := topS 20
abbrev N_is_row : List Str := ["value", "need"]
theorem scis_row : FnScope N_is_row ["value"] (defScope s_is_row) := ⟨rfl, rfl, rfl, by decide +kernel, rfl, by decide +kernel, by decide +kernel⟩
def R_is_row (ds : List PyData) (r : Rv) : Prop := ∃ (v : PyData), ds = [v] ∧ (∀ ds, v = .list ds → ds.length ≤ 1000000) ∧ r = .d (.bool (isRowD v))
theorem ok_is_row {f : Addr} {fd : FuncData} (F : Fun K "is_row" "is_row" s_is_row f fd) (m : mg "is_row" = some (.ref f)) (T : Txt mg) {f_is_integer : Addr} {d_is_integer : FuncData} (C_is_integer : Cal P w K mg base [] "is_integer" 1 ["value", "low", "high"] (spD R_is_integer) f_is_integer d_is_integer) : Cal P w K mg base [] "is_row" 2 ["value"] (spD R_is_row) f fd := by
  refine ⟨m, F.kp, F.ok scis_row (lenD fun ds r h => by obtain ⟨v, rfl, h0, rfl⟩ := h; rfl) (fun cdv A outer s H vs Q E hr h => ?_), Binds.no (F.binds fun _ _ _ _ _ _ us hl => match us, hl with | [_], _ => rfl)⟩
  refine ⟨_, (pss_one (ps_ret (pe_and (pe_callB call_isi (by rfl) T.n_isinstance bt_isinstance (pa_cons (pv 0) (pa_cons (pe_bltn (v := .ty "list") (by rfl) T.n_list bt_list rfl) pa_nil))) (pe_and (pe_cmpR op_le (pe_callB kr_len (by rfl) T.n_len bt_len (pa_cons (pv 0) pa_nil)) (pe_gl (by rfl) T.c_LIMIT) (nomark _)) (pe_one (pe_callB (cr_all rfl) (by rfl) T.n_all bt_all (pa_cons (pe_lc (own := [("need", 1)]) (g := (gName 1)) (tt := tYes) rfl scis_row.nd (pi_list (pv 0)) (blkOk_by (N := N_is_row) (sc := defScope s_is_row) (by decide +kernel)) (fun _ _ _ _ _ => (pg_name (i := 1) scis_row.nd rfl (Or.inl rfl) (Or.inr rfl))) (fun _ _ _ _ _ => pts_nil) (fun _ _ _ _ _ => (pe_cal C_is_integer hr (by decide) (by rfl) (pa_cons (pv 1) (pa_cons pe_int (pa_cons (pe_gl (by rfl) T.c_LIMIT) pa_nil)))))) pa_nil))))))), bodyD h fun ds r hR => ?_⟩
  obtain ⟨v, rfl, h0, rfl⟩ := hR
  show Sv _ [.dat _, .un] _
  cases v with
  | list ds =>
    have hl := h0 ds rfl
    refine sv_ret (b := false) (ev_and (ev_cb (ea_d (ev_var rfl) (ea_v ev_c ea_nil)) (rc_isi (kit_list _))) fun _ => (ev_and (ev_op (ev_cb (ea_d (ev_var rfl) ea_nil) rc_lenL) ev_int o2_B) fun _ => (ev_cb (ea_d (ev_fz (ev_lcM (α := PyData) (enc := id) (xs := ds) .bool (ei_listD (ev_var rfl)) (by decide) hl fun x hx => (ev_call0 (ds := [_, _, _]) (ea_d (ev_var rfl) (ea_d ev_int (ea_d ev_int ea_nil))) ⟨_, _, _, rfl, rfl⟩))) ea_nil) rc_all))) ?_
    show Rv.d _ = Rv.d _
    rw [isRowD_list, List.all_map]
    rfl
  | _ =>
    refine sv_ret (b := false) (ev_and (c := false) (d := true) (Ev.is (ev_cb (ea_d (ev_var rfl) (ea_v ev_c ea_nil)) (rc_isi (kit_list _))) rfl) fun h => absurd h (by decide)) ?_
    rfl
  all_goals rfl
def s_check_row : Stmt := topS 21
abbrev N_check_row : List Str := ["value"]
theorem sccheck_row : FnScope N_check_row ["value"] (defScope s_check_row) := ⟨rfl, rfl, rfl, by decide +kernel, rfl, by decide +kernel, by decide +kernel⟩
def R_check_row (ds : List PyData) (r : Rv) : Prop := ∃ (v : PyData), ds = [v] ∧ (isRowD v = true) ∧ r = .d (.none)
theorem ok_check_row {f : Addr} {fd : FuncData} (F : Fun K "check_row" "check_row" s_check_row f fd) (m : mg "check_row" = some (.ref f)) (T : Txt mg) {f_is_row : Addr} {d_is_row : FuncData} (C_is_row : Cal P w K mg base [] "is_row" 2 ["value"] (spD R_is_row) f_is_row d_is_row) : Cal P w K mg base [] "check_row" 3 ["value"] (spD R_check_row) f fd := by
  refine ⟨m, F.kp, F.ok sccheck_row (lenD fun ds r h => by obtain ⟨v, rfl, h0, rfl⟩ := h; rfl) (fun cdv A outer s H vs Q E hr h => ?_), Binds.no (F.binds fun _ _ _ _ _ _ us hl => match us, hl with | [_], _ => rfl)⟩
  refine ⟨_, (pss_one (ps_if (pt_not (pt_val (pe_cal C_is_row hr (by decide) (by rfl) (pa_cons (pv 0) pa_nil)))) (pss_one ps_never) pss_nil)), bodyD h fun ds r hR => ?_⟩
  obtain ⟨v, rfl, h0, rfl⟩ := hR
  show Sv _ [.dat _] _
  refine sv_if (b := false) (c := false) (EvT.is (et_not (et_B (ev_call0 (ds := [_]) (ea_d (ev_var rfl) ea_nil) ⟨_, rfl, row_small h0, rfl⟩))) (by rw [h0]; rfl)) (fun hc => absurd hc (by decide)) (fun hc => ?_)
  exact sv_nx rfl
  all_goals rfl
def s_worn : Stmt := topS 22
abbrev N_worn : List Str := ["lot", "tool", "left"]
theorem scworn : FnScope N_worn ["lot", "tool"] (defScope s_worn) := ⟨rfl, rfl, rfl, by decide +kernel, rfl, by decide +kernel, by decide +kernel⟩
def R_worn (ds : List PyData) (r : Rv) : Prop := ∃ (l : List Int) (t : Int), ds = [eT .int l, .int t] ∧ (l.length ≤ 1000) ∧ (t ∈ l) ∧ r = .d (eT .int (wornV l t))
theorem ok_worn {f : Addr} {fd : FuncData} (F : Fun K "worn" "worn" s_worn f fd) (m : mg "worn" = some (.ref f)) (T : Txt mg) {f_sorted_lot : Addr} {d_sorted_lot : FuncData} (C_sorted_lot : Cal P w K mg base [] "sorted_lot" 1 ["values"] (spD R_sorted_lot) f_sorted_lot d_sorted_lot) : Cal P w K mg base [] "worn" 2 ["lot", "tool"] (spD R_worn) f fd := by
  refine ⟨m, F.kp, F.ok scworn (lenD fun ds r h => by obtain ⟨l, t, rfl, h0, h1, rfl⟩ := h; rfl) (fun cdv A outer s H vs Q E hr h => ?_), Binds.no (F.binds fun _ _ _ _ _ _ us hl => match us, hl with | [_, _], _ => rfl)⟩
  refine ⟨_, (pss_cons (ps_set (i := 2) scworn.nd rfl (Or.inl rfl) (pe_callTy kr_lst (by rfl) T.n_list bt_list (pa_cons (pv 0) pa_nil))) (pss_cons (ps_expr (pe_bm PySem.F.plainAttrs_list PySem.F.slot_list_remove PySem.F.type_list_remove mt_remove (pv 2) (pa_cons (pv 1) pa_nil))) (pss_one (ps_ret (pe_cal C_sorted_lot hr (by decide) (by rfl) (pa_cons (pe_op op_cat (pv 2) (pe_lst (pa_cons (pe_op op_sub (pv 1) pe_int) pa_nil))) pa_nil)))))), bodyD h fun ds r hR => ?_⟩
  obtain ⟨l, t, rfl, h0, h1, rfl⟩ := hR
  show Sv _ [.dat _, .dat _, .un] _
  have hlp := List.length_pos_of_mem h1
  obtain ⟨j, hj, hno, he⟩ := erase_at h1
  refine sv_seq (sv_asgL (b := false) (ev_cb (ea_d (ev_var rfl) ea_nil) rc_lstT) fun p_left hp_left => ?_)
  show Sv _ [.dat _, .dat _, .mu _ _] _
  refine sv_seq (sv_drop (b := true) (ev_remove (b := false) (i := 2) (ev_var rfl) ⟨_, rfl⟩ rfl hj hno) ?_)
  rw [he]
  show Sv _ [.dat _, .dat _, .mu _ _] _
  refine sv_ret (b := false) (ev_call0 (ds := [_]) (ea_d (ev_fz (ev_bor 2 rfl (ev_op (ev_var rfl) (ev_fz (ev_lstm .int [_] (ea_d (ev_op (ev_var rfl) ev_int o2_I) ea_nil) (Nat.le_of_ble_eq_true rfl))) (o2_catm .int (by rw [List.length_erase_of_mem h1]; simp only [List.length_singleton]; omega))) (noLs_ints _))) ea_nil) ⟨_, rfl, (by rw [List.length_append, List.length_erase_of_mem h1]; simp only [List.length_singleton]; omega), rfl⟩) ?_
  rfl
  all_goals rfl
def s_suitable : Stmt := topS 23
abbrev N_suitable : List Str := ["lot", "need", "tool"]
theorem scsuitable : FnScope N_suitable ["lot", "need"] (defScope s_suitable) := ⟨rfl, rfl, rfl, by decide +kernel, rfl, by decide +kernel, by decide +kernel⟩
def R_suitable (ds : List PyData) (r : Rv) : Prop := ∃ (l : List Int) (n : Int), ds = [eT .int l, .int n] ∧ (l.length ≤ 1000000) ∧ r = .d (eL .int (suitV l n))
theorem ok_suitable {f : Addr} {fd : FuncData} (F : Fun K "suitable" "suitable" s_suitable f fd) (m : mg "suitable" = some (.ref f)) (T : Txt mg) : Cal P w K mg base [] "suitable" 1 ["lot", "need"] (spD R_suitable) f fd := by
  refine ⟨m, F.kp, F.ok scsuitable (lenD fun ds r h => by obtain ⟨l, n, rfl, h0, rfl⟩ := h; rfl) (fun cdv A outer s H vs Q E hr h => ?_), Binds.no (F.binds fun _ _ _ _ _ _ us hl => match us, hl with | [_, _], _ => rfl)⟩
  refine ⟨_, (pss_one (ps_ret (pe_callBK (kr_sortDR (b := true) rfl) (by rfl) T.n_sorted bt_sorted (pa_cons (pe_dc (own := [("tool", 2)]) (g := (gName 2)) rfl scsuitable.nd (pi_tup (pv 0)) (blkOk_by (N := N_suitable) (sc := defScope s_suitable) (by decide +kernel)) (fun _ _ _ _ _ => (pg_name (i := 2) scsuitable.nd rfl (Or.inl rfl) (Or.inr rfl))) (fun _ _ _ _ _ => (pts_one (pt_cmpR op_ge (pv 2) (pv 1) (nomark _)))) (fun _ _ _ _ _ => (pv 2)) (fun _ _ _ _ _ => pe_bl)) pa_nil) (pk_cons pe_bl pk_nil)))), bodyD h fun ds r hR => ?_⟩
  obtain ⟨l, n, rfl, h0, rfl⟩ := hR
  show Sv _ [.dat _, .dat _, .un] _
  -- return
  refine sv_ret (b := false) (ev_fz (ev_sortDC (j := 2) (ei_tup (ev_var rfl)) (by decide) (Nat.le_of_ble_eq_true rfl) (by first | decide | omega | assumption | (have hm := mem_rgI.mp (by assumption); omega) | (unfold L2.CMul; omega) | (unfold L2.CPow; decide) | (unfold L2.CMulW; decide +kernel) | (unfold L2.CDiv; omega) | (rw [rgI_len]; omega) | (exact lot_of (by decide +kernel)) | (simp; done) | (simp only [List.length_map, List.length_cons, List.length_nil, List.length_append]; omega)) fun x hx => (et_t (ev_op (ev_var rfl) (ev_var rfl) o2_B)))) ?_
  all_goals rfl
def s_check_by : Stmt := topS 24
abbrev N_check_by : List Str := ["by"]
theorem sccheck_by : FnScope N_check_by ["by"] (defScope s_check_by) := ⟨rfl, rfl, rfl, by decide +kernel, rfl, by decide +kernel, by decide +kernel⟩
def R_check_by (ds : List PyData) (r : Rv) : Prop := ∃ (s : Bool), ds = [.str (byS s)] ∧ r = .d (.none)
theorem ok_check_by {f : Addr} {fd : FuncData} (F : Fun K "check_by" "check_by" s_check_by f fd) (m : mg "check_by" = some (.ref f)) (T : Txt mg) : Cal P w K mg base [] "check_by" 1 ["by"] (spD R_check_by) f fd := by
  refine ⟨m, F.kp, F.ok sccheck_by (lenD fun ds r h => by obtain ⟨s, rfl, rfl⟩ := h; rfl) (fun cdv A outer s H vs Q E hr h => ?_), Binds.no (F.binds fun _ _ _ _ _ _ us hl => match us, hl with | [_], _ => rfl)⟩
  refine ⟨_, (pss_one (ps_if (pt_cmpR op_notIn_seq (pv 0) (pe_tup (pa_cons pe_str (pa_cons pe_str pa_nil))) (by with_unfolding_all rfl)) (pss_one ps_never) pss_nil)), bodyD h fun ds r hR => ?_⟩
  obtain ⟨s, rfl, rfl⟩ := hR
  show Sv _ [.dat _] _
  refine sv_if (b := false) (c := false) (et_t (Ev.is (ev_op (ev_var rfl) (ev_tupm .str [_, _] (ea_d ev_str (ea_d ev_str ea_nil)) (Nat.le_of_ble_eq_true rfl)) o2_niTs) (by rw [byS_in]))) (fun hc => absurd hc (by decide)) (fun hc => ?_)
  exact sv_nx rfl
  all_goals rfl
def s_served : Stmt := topS 25
abbrev N_served : List Str := ["lot", "row", "by", "picks", "need", "tools", "pick"]
theorem scserved : FnScope N_served ["lot", "row", "by"] (defScope s_served) := ⟨rfl, rfl, rfl, by decide +kernel, rfl, by decide +kernel, by decide +kernel⟩
def R_served (ds : List PyData) (r : Rv) : Prop := ∃ (l row : List Int) (s : Bool), ds = [eT .int l, eL .int row, .str (byS s)] ∧ (l.length ≤ 1000) ∧ (row.length ≤ 1000) ∧ r = .d (eP (eL .int) (eT .int) (servedV s l row))
theorem ok_served {f : Addr} {fd : FuncData} (F : Fun K "served" "served" s_served f fd) (m : mg "served" = some (.ref f)) (T : Txt mg) {f_worn : Addr} {d_worn : FuncData} (C_worn : Cal P w K mg base [] "worn" 2 ["lot", "tool"] (spD R_worn) f_worn d_worn) {f_suitable : Addr} {d_suitable : FuncData} (C_suitable : Cal P w K mg base [] "suitable" 1 ["lot", "need"] (spD R_suitable) f_suitable d_suitable) : Cal P w K mg base [] "served" 3 ["lot", "row", "by"] (spD R_served) f fd := by
  refine ⟨m, F.kp, F.ok scserved (lenD fun ds r h => by obtain ⟨l, row, s, rfl, h0, h1, rfl⟩ := h; rfl) (fun cdv A outer s H vs Q E hr h => ?_), Binds.no (F.binds fun _ _ _ _ _ _ us hl => match us, hl with | [_, _, _], _ => rfl)⟩
  refine ⟨_, (pss_cons (ps_set (i := 3) scserved.nd rfl (Or.inl rfl) (pe_lst pa_nil)) (pss_cons (ps_for PassesOwn.never rfl (pi_list (pv 1)) (pg_name (i := 4) scserved.nd rfl (Or.inl rfl)) (pss_cons (ps_set (i := 5) scserved.nd rfl (Or.inl rfl) (pe_cal C_suitable hr (by decide) (by rfl) (pa_cons (pv 0) (pa_cons (pv 4) pa_nil)))) (pss_cons (ps_set (i := 6) scserved.nd rfl (Or.inl rfl) (pe_ifExp (pt_cmpR op_eq (pe_callB kr_len (by rfl) T.n_len bt_len (pa_cons (pv 5) pa_nil)) pe_int (nomark _)) pe_int (pe_ifExp (pt_cmpR op_eq (pv 2) pe_str (nomark _)) (pe_ix ix_list (pv 5) pe_int (fun _ _ => rfl)) (pe_ix ix_list (pv 5) (pe_un un_neg pe_int) (fun _ _ => rfl))))) (pss_cons (ps_if (pt_cmpR op_gt (pv 6) pe_int (nomark _)) (pss_one (ps_set (i := 0) scserved.nd rfl (Or.inl rfl) (pe_cal C_worn hr (by decide) (by rfl) (pa_cons (pv 0) (pa_cons (pv 6) pa_nil))))) pss_nil) (pss_one (ps_expr (pe_bm PySem.F.plainAttrs_list PySem.F.slot_list_append PySem.F.type_list_append mt_append (pv 3) (pa_cons (pv 6) pa_nil)))))))) (pss_one (ps_ret (pe_tup (pa_cons (pv 3) (pa_cons (pv 0) pa_nil))))))), bodyD h fun ds r hR => ?_⟩
  obtain ⟨l, row, s, rfl, h0, h1, rfl⟩ := hR
  show Sv _ [.dat _, .dat _, .dat _, .un, .un, .un, .un] _
  refine sv_seq (sv_asgL (b := false) (ev_lstm .int [] ea_nil (by decide)) fun p_picks hp_picks => ?_)
  show Sv _ [.dat _, .dat _, .dat _, .mu _ _, .un, .un, .un] _
  refine sv_seq (sv_fold (S := List Int × List Int) (b := false) (enc := .int) (ei_list (ev_var rfl)) (fun p => [.dat (eT .int p.2), .dat (eL .int row), .dat (.str (byS s)), .mu p_picks (p.1.map .int), .un, .un, .un]) (stepS s) ([], l) (Wk.refl _) (fun pre x post hx => ?_) ?_)
  · obtain ⟨q1, q2⟩ := serve_len s pre ([], l)
    generalize pre.foldl (stepS s) ([], l) = p at q1 q2
    obtain ⟨ps, lo⟩ := p
    have hpl : pre.length ≤ row.length := by rw [hx]; simp
    have q1 : ps.length = 0 + pre.length := q1
    have q2 : lo.length ≤ l.length := q2
    show Sv _ [.dat _, .dat _, .dat _, .mu _ _, .dat _, .un, .un] _
    refine sv_seq (sv_asg (b := false) (ev_call0 (ds := [_, _]) (ea_d (ev_var rfl) (ea_d (ev_var rfl) ea_nil)) ⟨_, _, rfl, (by show lo.length ≤ _; omega), rfl⟩) ?_)
    show Sv _ [.dat _, .dat _, .dat _, .mu _ _, .dat _, .dat _, .un] _
    have hv : ∃ hh ll : Int, ((suitV lo x).length ≠ 0 → atI (suitV lo x) 0 = some hh ∧ atI (suitV lo x) (-1) = some ll) ∧ hh = headI (suitV lo x) ∧ ll = lastI (suitV lo x) := by
      refine ⟨_, _, fun h => ?_, rfl, rfl⟩
      have e : (suitV lo x)[0]? = some (suitV lo x)[0] := List.getElem?_eq_getElem (by omega)
      have e2 : (suitV lo x)[(suitV lo x).length - 1]? = some (suitV lo x)[(suitV lo x).length - 1] := List.getElem?_eq_getElem (by omega)
      refine ⟨?_, ?_⟩
      · unfold headI; rw [e]; exact atI_nat (j := 0) e
      · unfold lastI; rw [e2]
        unfold atI ixN
        rw [if_neg (by decide), if_pos (by omega)]
        show (suitV lo x)[((-1 : Int) + ((suitV lo x).length : Nat)).toNat]? = _
        rw [show ((-1 : Int) + ((suitV lo x).length : Nat)).toNat = (suitV lo x).length - 1 by omega]
        exact e2
    obtain ⟨hh, ll, hv1, hv2, hv3⟩ := hv
    have z0 : decide (((suitV lo x).length : Int) = 0) = true → pickV s lo x = 0 := fun hc => by
      have hc := of_decide_eq_true hc
      unfold pickV
      rw [if_pos (by omega)]
    have z1 : decide (((suitV lo x).length : Int) = 0) = false → (suitV lo x).length ≠ 0 := fun hc => by
      have hc := of_decide_eq_false hc
      omega
    have z2 : (suitV lo x).length ≠ 0 → decide (byS s = Str.ofString "sharpest") = true → pickV s lo x = hh := fun hc hd => by
      rw [byS_is] at hd
      unfold pickV
      rw [if_neg hc, if_pos hd, hv2]
    have z3 : (suitV lo x).length ≠ 0 → decide (byS s = Str.ofString "sharpest") = false → pickV s lo x = ll := fun hc hd => by
      rw [byS_is] at hd
      unfold pickV
      rw [if_neg hc, if_neg (by rw [hd]; decide), hv3]
    refine sv_seq (sv_asg (b := false) (x := .int (pickV s lo x)) (ev_if (et_t (ev_op (ev_cb (ea_d (ev_var rfl) ea_nil) rc_lenLm) ev_int o2_eqI)) (fun hc => Ev.is ev_int (by rw [z0 hc])) (fun hc => ev_if (et_t (ev_op (ev_var rfl) ev_str o2_eqS)) (fun hd => Ev.is (ev_op (ev_var rfl) ev_int (o2_ixLm .int (hv1 (z1 hc)).1)) (by rw [z2 (z1 hc) hd])) (fun hd => Ev.is (ev_op (ev_var rfl) (ev_un ev_int o1_neg) (o2_ixLm .int (hv1 (z1 hc)).2)) (by rw [z3 (z1 hc) hd])))) ?_)
    show Sv _ [.dat _, .dat _, .dat _, .mu _ _, .dat _, .dat _, .dat _] _
    refine sv_join [.dat (eT .int (stepS s (ps, lo) x).2), .dat (eL .int row), .dat (.str (byS s)), .mu p_picks (ps.map .int), .dat (.int x), .dat (eL .int (suitV lo x)), .dat (.int (pickV s lo x))] (sv_if (b := false) (et_t (ev_op (ev_var rfl) ev_int o2_B)) (fun hc => ?_) (fun hc => ?_)) ?_
    · have hc : 0 < pickV s lo x := of_decide_eq_true hc
      refine sv_asg (b := false) (ev_call0 (ds := [_, _]) (ea_d (ev_var rfl) (ea_d (ev_var rfl) ea_nil)) ⟨_, _, rfl, (by show lo.length ≤ _; omega), (pick_in hc).1, rfl⟩) ?_
      have e : (stepS s (ps, lo) x).2 = wornV lo (pickV s lo x) := by unfold stepS; exact if_pos hc
      rw [e]
      exact Wk.refl _
    · have hc : ¬ 0 < pickV s lo x := of_decide_eq_false hc
      refine sv_nx ?_
      have e : (stepS s (ps, lo) x).2 = lo := by unfold stepS; exact if_neg hc
      rw [e]
      exact Wk.refl _
    refine sv_drop (b := true) (ev_append (b := false) (i := 3) (ev_var rfl) ⟨_, rfl⟩ rfl (by rw [List.length_map]; omega)) ?_
    refine ⟨.inr rfl, .inr rfl, .inr rfl, .inr ?_, .inl rfl, .inl rfl, .inl rfl, trivial⟩
    show Sl.mu _ (((ps ++ [pickV s lo x]).map _)) = _
    rw [List.map_append]; rfl
  · refine sv_fz 3 rfl ?_
    refine sv_ret (b := false) (ev_tup (ds := [_, _]) (ea_d (ev_var rfl) (ea_d (ev_var rfl) ea_nil)) (Nat.le_of_ble_eq_true rfl)) ?_
    rfl
  all_goals rfl
def s_serve : Stmt := topS 26
abbrev N_serve : List Str := ["lot", "row", "by"]
theorem scserve : FnScope N_serve ["lot", "row", "by"] (defScope s_serve) := ⟨rfl, rfl, rfl, by decide +kernel, rfl, by decide +kernel, by decide +kernel⟩
def R_serve (ds : List PyData) (r : Rv) : Prop := ∃ (l row : List Int) (s : Bool), ds = [eT .int l, eL .int row, .str (byS s)] ∧ (Lot l) ∧ (Row row) ∧ r = .d (eP (eL .int) (eT .int) (servedV s l row))
theorem ok_serve {f : Addr} {fd : FuncData} (F : Fun K "serve" "serve" s_serve f fd) (m : mg "serve" = some (.ref f)) (T : Txt mg) (hb : ∃ ds, Vals [.str "dullest"] ds ∧ Binds K fd ["lot", "row", "by"] ds) {f_check_lot : Addr} {d_check_lot : FuncData} (C_check_lot : Cal P w K mg base [] "check_lot" 3 ["value"] (spD R_check_lot) f_check_lot d_check_lot) {f_check_row : Addr} {d_check_row : FuncData} (C_check_row : Cal P w K mg base [] "check_row" 3 ["value"] (spD R_check_row) f_check_row d_check_row) {f_check_by : Addr} {d_check_by : FuncData} (C_check_by : Cal P w K mg base [] "check_by" 1 ["by"] (spD R_check_by) f_check_by d_check_by) {f_served : Addr} {d_served : FuncData} (C_served : Cal P w K mg base [] "served" 3 ["lot", "row", "by"] (spD R_served) f_served d_served) : Cal P w K mg base [.str "dullest"] "serve" 4 ["lot", "row", "by"] (spD R_serve) f fd := by
  refine ⟨m, F.kp, F.ok scserve (lenD fun ds r h => by obtain ⟨l, row, s, rfl, h0, h1, rfl⟩ := h; rfl) (fun cdv A outer s H vs Q E hr h => ?_), hb⟩
  refine ⟨_, (pss_cons (ps_expr (pe_cal C_check_lot hr (by decide) (by rfl) (pa_cons (pv 0) pa_nil))) (pss_cons (ps_expr (pe_cal C_check_row hr (by decide) (by rfl) (pa_cons (pv 1) pa_nil))) (pss_cons (ps_expr (pe_cal C_check_by hr (by decide) (by rfl) (pa_cons (pv 2) pa_nil))) (pss_one (ps_ret (pe_cal C_served hr (by decide) (by rfl) (pa_cons (pv 0) (pa_cons (pv 1) (pa_cons (pv 2) pa_nil))))))))), bodyD h fun ds r hR => ?_⟩
  obtain ⟨l, row, s, rfl, h0, h1, rfl⟩ := hR
  show Sv _ [.dat _, .dat _, .dat _] _
  have hl0 := h0.len
  have hl1 := h1.len
  refine sv_seq (sv_drop (b := false) (ev_call0 (ds := [_]) (ea_d (ev_var rfl) ea_nil) ⟨_, rfl, isLot_of (by assumption), rfl⟩) ?_)
  show Sv _ [.dat _, .dat _, .dat _] _
  refine sv_seq (sv_drop (b := false) (ev_call0 (ds := [_]) (ea_d (ev_var rfl) ea_nil) ⟨_, rfl, isRow_of (by assumption), rfl⟩) ?_)
  show Sv _ [.dat _, .dat _, .dat _] _
  refine sv_seq (sv_drop (b := false) (ev_call0 (ds := [_]) (ea_d (ev_var rfl) ea_nil) ⟨_, rfl, rfl⟩) ?_)
  show Sv _ [.dat _, .dat _, .dat _] _
  -- return
  refine sv_ret (b := false) (ev_call0 (ds := [_, _, _]) (ea_d (ev_var rfl) (ea_d (ev_var rfl) (ea_d (ev_var rfl) ea_nil))) ⟨_, _, _, rfl, (by first | decide | omega | assumption | (have hm := mem_rgI.mp (by assumption); omega) | (unfold L2.CMul; omega) | (unfold L2.CPow; decide) | (unfold L2.CMulW; decide +kernel) | (unfold L2.CDiv; omega) | (rw [rgI_len]; omega) | (exact lot_of (by decide +kernel)) | (simp; done) | (simp only [List.length_map, List.length_cons, List.length_nil, List.length_append]; omega)), (by first | decide | omega | assumption | (have hm := mem_rgI.mp (by assumption); omega) | (unfold L2.CMul; omega) | (unfold L2.CPow; decide) | (unfold L2.CMulW; decide +kernel) | (unfold L2.CDiv; omega) | (rw [rgI_len]; omega) | (exact lot_of (by decide +kernel)) | (simp; done) | (simp only [List.length_map, List.length_cons, List.length_nil, List.length_append]; omega)), rfl⟩) ?_
  all_goals rfl
def s_law_mixed : Stmt := topS 28
abbrev N__law_mixed : List Str := ["cell", "k", "mix"]
theorem sc_law_mixed : FnScope N__law_mixed ["cell", "k"] (defScope s_law_mixed) := ⟨rfl, rfl, rfl, by decide +kernel, rfl, by decide +kernel, by decide +kernel⟩
def R__law_mixed (ds : List PyData) (r : Rv) : Prop := ∃ (c k : Int), ds = [.int c, .int k] ∧ (-1000000 ≤ k ∧ k ≤ 1000000) ∧ r = .d (.int (mixV c k))
theorem ok__law_mixed {f : Addr} {fd : FuncData} (F : Fun K "_law_mixed" "_law_mixed" s_law_mixed f fd) (m : mg "_law_mixed" = some (.ref f)) (T : Txt mg) : Cal P w K mg base [] "_law_mixed" 1 ["cell", "k"] (spD R__law_mixed) f fd := by
  refine ⟨m, F.kp, F.ok sc_law_mixed (lenD fun ds r h => by obtain ⟨c, k, rfl, h0, rfl⟩ := h; rfl) (fun cdv A outer s H vs Q E hr h => ?_), Binds.no (F.binds fun _ _ _ _ _ _ us hl => match us, hl with | [_, _], _ => rfl)⟩
  refine ⟨_, (pss_cons (ps_set (i := 2) sc_law_mixed.nd rfl (Or.inl rfl) (pe_op op_mod (pe_op op_add (pe_op op_add (pe_op op_mul (pe_op op_mod (pv 0) pe_int) pe_int) (pe_op op_mul (pv 1) pe_int)) pe_int) pe_int)) (pss_cons (ps_set (i := 2) sc_law_mixed.nd rfl (Or.inl rfl) (pe_op op_mod (pe_op op_mul (pv 2) (pv 2)) pe_int)) (pss_one (ps_ret (pe_op op_mod (pe_op op_mul (pv 2) (pe_op op_add (pv 2) pe_int)) pe_int))))), bodyD h fun ds r hR => ?_⟩
  obtain ⟨c, k, rfl, h0, rfl⟩ := hR
  show Sv _ [.dat _, .dat _, .un] _
  refine sv_seq (sv_asg (b := false) (ev_op (ev_op (ev_op (ev_op (ev_op (ev_var rfl) ev_int (o2_C (by first | decide | omega | assumption | (have hm := mem_rgI.mp (by assumption); omega) | (unfold L2.CMul; omega) | (unfold L2.CPow; decide) | (unfold L2.CMulW; decide +kernel) | (unfold L2.CDiv; omega) | (rw [rgI_len]; omega) | (exact lot_of (by decide +kernel)) | (simp; done) | (simp only [List.length_map, List.length_cons, List.length_nil, List.length_append]; omega)))) ev_int (o2_C (by first | decide | omega | assumption | (have hm := mem_rgI.mp (by assumption); omega) | (unfold L2.CMul; omega) | (unfold L2.CPow; decide) | (unfold L2.CMulW; decide +kernel) | (unfold L2.CDiv; omega) | (rw [rgI_len]; omega) | (exact lot_of (by decide +kernel)) | (simp; done) | (simp only [List.length_map, List.length_cons, List.length_nil, List.length_append]; omega)))) (ev_op (ev_var rfl) ev_int (o2_C (by first | decide | omega | assumption | (have hm := mem_rgI.mp (by assumption); omega) | (unfold L2.CMul; omega) | (unfold L2.CPow; decide) | (unfold L2.CMulW; decide +kernel) | (unfold L2.CDiv; omega) | (rw [rgI_len]; omega) | (exact lot_of (by decide +kernel)) | (simp; done) | (simp only [List.length_map, List.length_cons, List.length_nil, List.length_append]; omega)))) o2_I) ev_int o2_I) ev_int (o2_C (by first | decide | omega | assumption | (have hm := mem_rgI.mp (by assumption); omega) | (unfold L2.CMul; omega) | (unfold L2.CPow; decide) | (unfold L2.CMulW; decide +kernel) | (unfold L2.CDiv; omega) | (rw [rgI_len]; omega) | (exact lot_of (by decide +kernel)) | (simp; done) | (simp only [List.length_map, List.length_cons, List.length_nil, List.length_append]; omega)))) ?_)
  show Sv _ [.dat _, .dat _, .dat _] _
  refine sv_seq (sv_asg (b := false) (ev_op (ev_op (ev_var rfl) (ev_var rfl) (o2_C (by first | decide | omega | assumption | (have hm := mem_rgI.mp (by assumption); omega) | (unfold L2.CMul; omega) | (unfold L2.CPow; decide) | (unfold L2.CMulW; decide +kernel) | (unfold L2.CDiv; omega) | (rw [rgI_len]; omega) | (exact lot_of (by decide +kernel)) | (simp; done) | (simp only [List.length_map, List.length_cons, List.length_nil, List.length_append]; omega)))) ev_int (o2_C (by first | decide | omega | assumption | (have hm := mem_rgI.mp (by assumption); omega) | (unfold L2.CMul; omega) | (unfold L2.CPow; decide) | (unfold L2.CMulW; decide +kernel) | (unfold L2.CDiv; omega) | (rw [rgI_len]; omega) | (exact lot_of (by decide +kernel)) | (simp; done) | (simp only [List.length_map, List.length_cons, List.length_nil, List.length_append]; omega)))) ?_)
  show Sv _ [.dat _, .dat _, .dat _] _
  -- return
  refine sv_ret (b := false) (ev_op (ev_op (ev_var rfl) (ev_op (ev_var rfl) ev_int o2_I) (o2_C (by first | decide | omega | assumption | (have hm := mem_rgI.mp (by assumption); omega) | (unfold L2.CMul; omega) | (unfold L2.CPow; decide) | (unfold L2.CMulW; decide +kernel) | (unfold L2.CDiv; omega) | (rw [rgI_len]; omega) | (exact lot_of (by decide +kernel)) | (simp; done) | (simp only [List.length_map, List.length_cons, List.length_nil, List.length_append]; omega)))) ev_int (o2_C (by first | decide | omega | assumption | (have hm := mem_rgI.mp (by assumption); omega) | (unfold L2.CMul; omega) | (unfold L2.CPow; decide) | (unfold L2.CMulW; decide +kernel) | (unfold L2.CDiv; omega) | (rw [rgI_len]; omega) | (exact lot_of (by decide +kernel)) | (simp; done) | (simp only [List.length_map, List.length_cons, List.length_nil, List.length_append]; omega)))) ?_
  all_goals rfl
def s_law_cell : Stmt := topS 29
abbrev N__law_cell : List Str := ["script", "k", "cell", "found", "j"]
theorem sc_law_cell : FnScope N__law_cell ["script", "k"] (defScope s_law_cell) := ⟨rfl, rfl, rfl, by decide +kernel, rfl, by decide +kernel, by decide +kernel⟩
def R__law_cell (ns : List Int) (ds : List PyData) (r : Rv) : Prop := ∃ (k : Int), ds = [.int k] ∧ (0 ≤ k ∧ k ≤ 1000) ∧ r = .d (.int (cellV ns k))
theorem ok__law_cell {f : Addr} {fd : FuncData} (F : Fun K "_law_cell" "_law_cell" s_law_cell f fd) (m : mg "_law_cell" = some (.ref f)) (T : Txt mg) {f__law_mixed : Addr} {d__law_mixed : FuncData} (C__law_mixed : Cal P w K mg base [] "_law_mixed" 1 ["cell", "k"] (spD R__law_mixed) f__law_mixed d__law_mixed) : Cal P w K mg base [] "_law_cell" 2 ["script", "k"] (spK K R__law_cell) f fd := by
  refine ⟨m, F.kp, F.ok sc_law_cell (lenK fun ns ds r h => by obtain ⟨k, rfl, h0, rfl⟩ := h; rfl) (fun cdv A outer s H vs Q E hr h => ?_), Binds.no (F.binds fun _ _ _ _ _ _ us hl => match us, hl with | [_, _], _ => rfl)⟩
  refine ⟨_, (pss_cons (ps_set (i := 2) sc_law_cell.nd rfl (Or.inl rfl) pe_int) (pss_cons (ps_if (pt_cmpR op_lt (pv 1) (pe_callB kr_len (by rfl) T.n_len bt_len (pa_cons (pv 0) pa_nil)) (nomark _)) (pss_one (ps_set (i := 2) sc_law_cell.nd rfl (Or.inl rfl) (pe_ix ix_list (pv 0) (pv 1) (fun _ _ => rfl)))) pss_nil) (pss_cons (ps_if (pt_cmpR op_ge (pv 2) (pe_op op_pow pe_int pe_int) (nomark _)) (pss_one (ps_ret (pe_op op_mod (pe_op op_sub (pv 2) (pe_op op_pow pe_int pe_int)) (pe_op op_mulW (pe_op op_mulW (pe_op op_mulW (pe_op op_pow pe_int pe_int) (pe_op op_pow pe_int pe_int)) (pe_op op_pow pe_int pe_int)) (pe_op op_pow pe_int pe_int))))) pss_nil) (pss_cons (ps_set (i := 3) sc_law_cell.nd rfl (Or.inl rfl) pe_int) (pss_cons (ps_for PassesOwn.never rfl (pi_range1 (by rfl) T.n_range (pa_cons pe_int pa_nil)) (pg_name (i := 4) sc_law_cell.nd rfl (Or.inl rfl)) (pss_one (ps_set (i := 3) sc_law_cell.nd rfl (Or.inl rfl) (pe_op op_add (pe_op op_mul (pv 3) pe_int) (pe_cal C__law_mixed hr (by decide) (by rfl) (pa_cons (pv 2) (pa_cons (pe_op op_add (pe_op op_add (pe_op op_mul pe_int (pv 1)) (pe_op op_mul pe_int (pv 4))) (pe_op op_mul (pv 4) (pv 4))) pa_nil))))))) (pss_one (ps_ret (pv 3)))))))), bodyK h fun ns ds r hR => ?_⟩
  obtain ⟨k, rfl, h0, rfl⟩ := hR
  show Sv _ [.kl _ _, .dat _, .un, .un, .un] _
  refine sv_seq (sv_asg (b := false) ev_int ?_)
  show Sv _ [.kl _ _, .dat _, .dat _, .un, .un] _
  refine sv_join [.kl K ns, .dat (.int k), .dat (.int (cellAt ns k)), .un, .un] (sv_if (b := false) (et_t (ev_op (ev_var rfl) (ev_cb (ea_k (ev_k rfl) ea_nil) rc_lenK) o2_B)) (fun hc => ?_) (fun hc => ?_)) ?_
  · have hc : k < ns.length := of_decide_eq_true hc
    refine sv_asg (b := false) (ev_ixK (ev_k rfl) (ev_var rfl) (cell_at h0.1 hc)) ?_
    exact Wk.refl _
  · have hc : ¬ k < ns.length := of_decide_eq_false hc
    refine sv_nx ?_
    have e : cellAt ns k = 0 := by unfold cellAt; rw [if_neg hc]
    show Wk _ _
    rw [e]
    exact Wk.refl _
  refine sv_seq (sv_if (b := false) (et_t (ev_op (ev_var rfl) (ev_op ev_int ev_int (o2_C (by first | decide | omega | assumption | (have hm := mem_rgI.mp (by assumption); omega) | (unfold L2.CMul; omega) | (unfold L2.CPow; decide) | (unfold L2.CMulW; decide +kernel) | (unfold L2.CDiv; omega) | (rw [rgI_len]; omega) | (exact lot_of (by decide +kernel)) | (simp; done) | (simp only [List.length_map, List.length_cons, List.length_nil, List.length_append]; omega)))) o2_B)) (fun hc => ?_) (fun hc => ?_))
  · refine sv_ret (b := false) (ev_op (ev_op (ev_var rfl) (ev_op ev_int ev_int (o2_C (by first | decide | omega | assumption | (have hm := mem_rgI.mp (by assumption); omega) | (unfold L2.CMul; omega) | (unfold L2.CPow; decide) | (unfold L2.CMulW; decide +kernel) | (unfold L2.CDiv; omega) | (rw [rgI_len]; omega) | (exact lot_of (by decide +kernel)) | (simp; done) | (simp only [List.length_map, List.length_cons, List.length_nil, List.length_append]; omega)))) o2_I) (ev_op (ev_op (ev_op (ev_op ev_int ev_int (o2_C (by first | decide | omega | assumption | (have hm := mem_rgI.mp (by assumption); omega) | (unfold L2.CMul; omega) | (unfold L2.CPow; decide) | (unfold L2.CMulW; decide +kernel) | (unfold L2.CDiv; omega) | (rw [rgI_len]; omega) | (exact lot_of (by decide +kernel)) | (simp; done) | (simp only [List.length_map, List.length_cons, List.length_nil, List.length_append]; omega)))) (ev_op ev_int ev_int (o2_C (by first | decide | omega | assumption | (have hm := mem_rgI.mp (by assumption); omega) | (unfold L2.CMul; omega) | (unfold L2.CPow; decide) | (unfold L2.CMulW; decide +kernel) | (unfold L2.CDiv; omega) | (rw [rgI_len]; omega) | (exact lot_of (by decide +kernel)) | (simp; done) | (simp only [List.length_map, List.length_cons, List.length_nil, List.length_append]; omega)))) (o2_C (by first | decide | omega | assumption | (have hm := mem_rgI.mp (by assumption); omega) | (unfold L2.CMul; omega) | (unfold L2.CPow; decide) | (unfold L2.CMulW; decide +kernel) | (unfold L2.CDiv; omega) | (rw [rgI_len]; omega) | (exact lot_of (by decide +kernel)) | (simp; done) | (simp only [List.length_map, List.length_cons, List.length_nil, List.length_append]; omega)))) (ev_op ev_int ev_int (o2_C (by first | decide | omega | assumption | (have hm := mem_rgI.mp (by assumption); omega) | (unfold L2.CMul; omega) | (unfold L2.CPow; decide) | (unfold L2.CMulW; decide +kernel) | (unfold L2.CDiv; omega) | (rw [rgI_len]; omega) | (exact lot_of (by decide +kernel)) | (simp; done) | (simp only [List.length_map, List.length_cons, List.length_nil, List.length_append]; omega)))) (o2_C (by first | decide | omega | assumption | (have hm := mem_rgI.mp (by assumption); omega) | (unfold L2.CMul; omega) | (unfold L2.CPow; decide) | (unfold L2.CMulW; decide +kernel) | (unfold L2.CDiv; omega) | (rw [rgI_len]; omega) | (exact lot_of (by decide +kernel)) | (simp; done) | (simp only [List.length_map, List.length_cons, List.length_nil, List.length_append]; omega)))) (ev_op ev_int ev_int (o2_C (by first | decide | omega | assumption | (have hm := mem_rgI.mp (by assumption); omega) | (unfold L2.CMul; omega) | (unfold L2.CPow; decide) | (unfold L2.CMulW; decide +kernel) | (unfold L2.CDiv; omega) | (rw [rgI_len]; omega) | (exact lot_of (by decide +kernel)) | (simp; done) | (simp only [List.length_map, List.length_cons, List.length_nil, List.length_append]; omega)))) (o2_C (by first | decide | omega | assumption | (have hm := mem_rgI.mp (by assumption); omega) | (unfold L2.CMul; omega) | (unfold L2.CPow; decide) | (unfold L2.CMulW; decide +kernel) | (unfold L2.CDiv; omega) | (rw [rgI_len]; omega) | (exact lot_of (by decide +kernel)) | (simp; done) | (simp only [List.length_map, List.length_cons, List.length_nil, List.length_append]; omega)))) (o2_C (by first | decide | omega | assumption | (have hm := mem_rgI.mp (by assumption); omega) | (unfold L2.CMul; omega) | (unfold L2.CPow; decide) | (unfold L2.CMulW; decide +kernel) | (unfold L2.CDiv; omega) | (rw [rgI_len]; omega) | (exact lot_of (by decide +kernel)) | (simp; done) | (simp only [List.length_map, List.length_cons, List.length_nil, List.length_append]; omega)))) ?_
    show Rv.d _ = Rv.d _
    unfold cellV
    rw [if_pos (of_decide_eq_true hc)]
  · refine sv_nx ?_
    refine sv_seq (sv_asg (b := false) ev_int ?_)
    show Sv _ [.kl _ _, .dat _, .dat _, .dat _, .un] _
    refine sv_seq (sv_fold (b := false) (enc := .int) (ei_r1 (ea_d ev_int ea_nil) (by decide)) (fun f : Int => [.kl K ns, .dat (.int k), .dat (.int (cellAt ns k)), .dat (.int f), .un]) (fun f j => f * 2147483579 + mixV (cellAt ns k) (7 * k + 100 * j + j * j)) 0 (Wk.refl _) (fun pre x post hx => ?_) ?_)
    · have hm := mem_rgI.mp (show x ∈ rgI 0 (24 : Int).toNat by rw [hx]; simp)
      have hj : x * x ≤ 1000 ∧ 0 ≤ x * x := ⟨Int.le_trans (Int.mul_le_mul (by omega : x ≤ 24) (by omega : x ≤ 24) hm.1 (by decide)) (by decide), Int.mul_nonneg hm.1 hm.1⟩
      refine sv_asg (b := false) (ev_op (ev_op (ev_var rfl) ev_int (o2_C (.inr (by decide)))) (ev_call0 (ds := [_, _]) (ea_d (ev_var rfl) (ea_d (ev_op (ev_op (ev_op ev_int (ev_var rfl) (o2_C (.inl (by decide)))) (ev_op ev_int (ev_var rfl) (o2_C (.inl (by decide)))) o2_I) (ev_op (ev_var rfl) (ev_var rfl) (o2_C (.inl (by omega)))) o2_I) ea_nil)) ⟨_, _, rfl, (by omega), rfl⟩) o2_I) ?_
      exact ⟨.inr rfl, .inr rfl, .inr rfl, .inr rfl, .inl rfl, trivial⟩
    · refine sv_ret (b := false) (ev_var rfl) ?_
      show Rv.d _ = Rv.d _
      unfold cellV
      rw [if_neg (of_decide_eq_false hc)]
  all_goals rfl
def s_law_take : Stmt := topS 30
abbrev N__law_take : List Str := ["own", "size", "digit"]
theorem sc_law_take : FnScope N__law_take ["own", "size"] (defScope s_law_take) := ⟨rfl, rfl, rfl, by decide +kernel, rfl, by decide +kernel, by decide +kernel⟩
def R__law_take (xs ds : List PyData) (r : Rv) (ys : List PyData) : Prop := ∃ (c s : Int), xs = [.int c] ∧ ds = [.int s] ∧ (0 < s ∧ s < 1000000000) ∧ r = .d (.int (c % s)) ∧ ys = [.int (c / s)]
theorem ok__law_take {f : Addr} {fd : FuncData} (F : Fun K "_law_take" "_law_take" s_law_take f fd) (m : mg "_law_take" = some (.ref f)) (T : Txt mg) : Cal P w K mg base [] "_law_take" 1 ["own", "size"] (spO R__law_take) f fd := by
  refine ⟨m, F.kp, F.ok sc_law_take (lenO fun xs ds r ys h => by obtain ⟨c, s, rfl, rfl, h0, rfl, rfl⟩ := h; rfl) (fun cdv A outer s H vs Q E hr h => ?_), Binds.no (F.binds fun _ _ _ _ _ _ us hl => match us, hl with | [_, _], _ => rfl)⟩
  refine ⟨_, (pss_cons (ps_set (i := 2) sc_law_take.nd rfl (Or.inl rfl) (pe_op op_mod (pe_ix ix_list (pv 0) pe_int (fun _ _ => rfl)) (pv 1))) (pss_cons (ps_asg (pe_op op_fdiv (pe_ix ix_list (pv 0) pe_int (fun _ _ => rfl)) (pv 1)) (pg_subL (pv 0) pe_int)) (pss_one (ps_ret (pv 2))))), bodyO h (fun xs ds r ys h => by obtain ⟨c, s, rfl, rfl, h0, rfl, rfl⟩ := h; intro l e; cases e) fun p_own xs ds r ys hR => ?_⟩
  obtain ⟨c, s, rfl, rfl, h0, rfl, rfl⟩ := hR
  show Sv _ [.mu _ _, .dat _, .un] _
  refine sv_seq (sv_asg (b := false) (ev_op (ev_bor 0 rfl (ev_op (ev_var rfl) ev_int (o2_ixL (d := .int c) rfl)) rfl) (ev_var rfl) (o2_C h0.1)) ?_)
  show Sv _ [.mu _ _, .dat _, .dat _] _
  refine sv_seq (ev_setix (b := false) (i := 0) (k := 0) (ev_op (ev_bor 0 rfl (ev_op (ev_var rfl) ev_int (o2_ixL (d := .int c) rfl)) rfl) (ev_var rfl) (o2_C (by unfold L2.CDiv; omega))) ev_int rfl rfl ?_)
  show Sv _ [.mu _ _, .dat _, .dat _] _
  refine sv_ret (b := false) (ev_var rfl) ?_
  exact ⟨rfl, rfl⟩
  all_goals rfl
def s_law_lot : Stmt := topS 31
abbrev N__law_lot : List Str := ["own", "most", "top", "values", "k"]
theorem sc_law_lot : FnScope N__law_lot ["own", "most", "top"] (defScope s_law_lot) := ⟨rfl, rfl, rfl, by decide +kernel, rfl, by decide +kernel, by decide +kernel⟩
def R__law_lot (xs ds : List PyData) (r : Rv) (ys : List PyData) : Prop := ∃ (c most top : Int), xs = [.int c] ∧ ds = [.int most, .int top] ∧ (0 ≤ most ∧ most ≤ 60) ∧ (0 < top ∧ top < 1000000000) ∧ r = .d (eT .int (lotV c most top)) ∧ ys = [.int (lotC c most top)]
theorem ok__law_lot {f : Addr} {fd : FuncData} (F : Fun K "_law_lot" "_law_lot" s_law_lot f fd) (m : mg "_law_lot" = some (.ref f)) (T : Txt mg) {f__law_take : Addr} {d__law_take : FuncData} (C__law_take : Cal P w K mg base [] "_law_take" 1 ["own", "size"] (spO R__law_take) f__law_take d__law_take) : Cal P w K mg base [] "_law_lot" 2 ["own", "most", "top"] (spO R__law_lot) f fd := by
  refine ⟨m, F.kp, F.ok sc_law_lot (lenO fun xs ds r ys h => by obtain ⟨c, most, top, rfl, rfl, h0, h1, rfl, rfl⟩ := h; rfl) (fun cdv A outer s H vs Q E hr h => ?_), Binds.no (F.binds fun _ _ _ _ _ _ us hl => match us, hl with | [_, _, _], _ => rfl)⟩
  refine ⟨_, (pss_cons (ps_set (i := 3) sc_law_lot.nd rfl (Or.inl rfl) (pe_revL (pe_callB cr_sortedI (by rfl) T.n_sorted bt_sorted (pa_cons (pe_lc (own := [("k", 4)]) (g := (gName 4)) (tt := tYes) rfl sc_law_lot.nd (pi_range1 (by rfl) T.n_range (pa_cons (pe_cal C__law_take hr (by decide) (by rfl) (pa_cons (pv 0) (pa_cons (pe_op op_add (pv 1) pe_int) pa_nil))) pa_nil)) (blkOk_by (N := N__law_lot) (sc := defScope s_law_lot) (by decide +kernel)) (fun _ _ _ _ _ => (pg_name (i := 4) sc_law_lot.nd rfl (Or.inl rfl) (Or.inr rfl))) (fun _ _ _ _ _ => pts_nil) (fun _ _ _ _ _ => (pe_op op_add pe_int (pe_cal C__law_take hr (by decide) (by rfl) (pa_cons (pv 0) (pa_cons (pv 2) pa_nil)))))) pa_nil)))) (pss_cons (ps_while PassesOwn.never (pt_cmpR op_gt (pe_callB (kr_sumI rfl) (by rfl) T.n_sum bt_sum (pa_cons (pv 3) pa_nil)) pe_int (nomark _)) (pss_one (ps_expr (pe_bm PySem.F.plainAttrs_list PySem.F.slot_list_pop PySem.F.type_list_pop mt_popAt (pv 3) (pa_cons pe_int pa_nil))))) (pss_one (ps_ret (pe_callTy kr_tup (by rfl) T.n_tuple bt_tuple (pa_cons (pv 3) pa_nil)))))), bodyO h (fun xs ds r ys h => by obtain ⟨c, most, top, rfl, rfl, h0, h1, rfl, rfl⟩ := h; intro l e; cases e) fun p_own xs ds r ys hR => ?_⟩
  obtain ⟨c, most, top, rfl, rfl, h0, h1, rfl, rfl⟩ := hR
  show Sv _ [.mu _ _, .dat _, .dat _, .un, .un] _
  have hm := Int.emod_nonneg c (show most + 1 ≠ 0 by omega)
  have hm2 := Int.emod_lt_of_pos c (show 0 < most + 1 by omega)
  refine sv_seq (sv_asgL (b := true) (ev_revLm .int (ev_fz (ev_cb (ea_d (ev_fz (ev_lcS (β := Int) (xs := rgI 0 (c % (most + 1)).toNat) (enc := .int) (f := fun c _ => (1 + c % top, c / top)) .int (fun c => [.mu p_own [.int c], .dat (.int most), .dat (.int top), .un, .un]) (c / (most + 1)) (ei_r1 (ea_d (ev_callO0 (i := 0) (ds := [_]) (ea_o rfl (ea_d (ev_op (ev_var rfl) ev_int o2_I) ea_nil)) rfl ⟨_, _, rfl, rfl, (by omega), rfl, rfl⟩) ea_nil) (by omega)) (by decide) (by rw [rgI_len]; omega) (fun s => ⟨rfl, rfl, fun i hi => by
      have hi : i = 4 := List.mem_singleton.mp hi
      subst hi; rfl⟩) fun s x hx => (ev_op ev_int (ev_callO0 (i := 0) (ds := [_]) (ea_o rfl (ea_d (ev_var rfl) ea_nil)) rfl ⟨_, _, rfl, rfl, (by omega), rfl, rfl⟩) o2_I))) ea_nil) rc_sorted))) fun p_values hp_values => ?_)
  show Sv _ [.mu _ _, .dat _, .dat _, .mu _ _, .un] _
  rw [takes_map, rgI_len]
  refine sv_seq (sv_while (fun m ρ2 => ∃ l : List Int, m = l.length ∧ light 200 l = lotV c most top ∧ ρ2 = [.mu p_own [.int (lotC c most top)], .dat (.int most), .dat (.int top), .mu p_values (l.map .int), .un]) _ ⟨_, Wk.refl _, _, rfl, rfl, rfl⟩ (fun m ρ2 hI => ?_))
  obtain ⟨l, rfl, hl, rfl⟩ := hI
  refine ⟨false, _, _, et_t (ev_op (ev_bor 3 rfl (ev_cb (ea_d (ev_var rfl) ea_nil) rc_sumL) rfl) ev_int o2_B), fun hc => ?_, fun hc => ?_⟩
  · have hc : 200 < l.sum := of_decide_eq_true hc
    cases l with
    | nil => exact absurd hc (by decide)
    | cons x l =>
      refine sv_drop (b := true) (ev_popAt (b := false) (i := 3) (k := 0) ev_int ⟨_, rfl⟩ rfl (by simp [ixN]) rfl (by decide)) ?_
      refine ⟨l.length, _, by simp, Wk.refl _, l, rfl, ?_, rfl⟩
      rw [← hl, light, if_pos hc]
  · have hc : ¬ 200 < l.sum := of_decide_eq_false hc
    have e : light 200 l = l := by
      cases l with
      | nil => rfl
      | cons x l => rw [light, if_neg hc]
    rw [e] at hl
    refine sv_ret (b := false) (ev_bor 3 rfl (ev_cb (ea_d (ev_var rfl) ea_nil) rc_tupL) (noLs_ints _)) ?_
    rw [← hl]
    exact ⟨rfl, rfl⟩
  all_goals rfl
def s_law_capacity : Stmt := topS 32
abbrev N__law_capacity : List Str := ["batch", "level", "value"]
theorem sc_law_capacity : FnScope N__law_capacity ["batch", "level"] (defScope s_law_capacity) := ⟨rfl, rfl, rfl, by decide +kernel, rfl, by decide +kernel, by decide +kernel⟩
def R__law_capacity (ds : List PyData) (r : Rv) : Prop := ∃ (l : List Int) (n : Int), ds = [eT .int l, .int n] ∧ (l.length ≤ 1000000) ∧ r = .d (.int (capOf l n))
theorem ok__law_capacity {f : Addr} {fd : FuncData} (F : Fun K "_law_capacity" "_law_capacity" s_law_capacity f fd) (m : mg "_law_capacity" = some (.ref f)) (T : Txt mg) : Cal P w K mg base [] "_law_capacity" 1 ["batch", "level"] (spD R__law_capacity) f fd := by
  refine ⟨m, F.kp, F.ok sc_law_capacity (lenD fun ds r h => by obtain ⟨l, n, rfl, h0, rfl⟩ := h; rfl) (fun cdv A outer s H vs Q E hr h => ?_), Binds.no (F.binds fun _ _ _ _ _ _ us hl => match us, hl with | [_, _], _ => rfl)⟩
  refine ⟨_, (pss_one (ps_ret (pe_callB (kr_sumI rfl) (by rfl) T.n_sum bt_sum (pa_cons (pe_lc (own := [("value", 2)]) (g := (gName 2)) rfl sc_law_capacity.nd (pi_tup (pv 0)) (blkOk_by (N := N__law_capacity) (sc := defScope s_law_capacity) (by decide +kernel)) (fun _ _ _ _ _ => (pg_name (i := 2) sc_law_capacity.nd rfl (Or.inl rfl) (Or.inr rfl))) (fun _ _ _ _ _ => (pts_one (pt_cmpR op_ge (pv 2) (pv 1) (nomark _)))) (fun _ _ _ _ _ => (pe_op op_add (pe_op op_sub (pv 2) (pv 1)) pe_int))) pa_nil)))), bodyD h fun ds r hR => ?_⟩
  obtain ⟨l, n, rfl, h0, rfl⟩ := hR
  show Sv _ [.dat _, .dat _, .un] _
  -- return
  refine sv_ret (b := false) (ev_cb (ea_d (ev_fz (ev_lcF .int (ei_tup (ev_var rfl)) (by decide) (by first | decide | omega | assumption | (have hm := mem_rgI.mp (by assumption); omega) | (unfold L2.CMul; omega) | (unfold L2.CPow; decide) | (unfold L2.CMulW; decide +kernel) | (unfold L2.CDiv; omega) | (rw [rgI_len]; omega) | (exact lot_of (by decide +kernel)) | (simp; done) | (simp only [List.length_map, List.length_cons, List.length_nil, List.length_append]; omega)) fun x hx => ⟨(et_t (ev_op (ev_var rfl) (ev_var rfl) o2_B)), fun hp => (ev_op (ev_op (ev_var rfl) (ev_var rfl) o2_I) ev_int o2_I)⟩)) ea_nil) rc_sumL) ?_
  all_goals rfl
def s_law_near : Stmt := topS 33
abbrev N__law_near : List Str := ["own", "batch", "some", "k", "way", "at", "one"]
theorem sc_law_near : FnScope N__law_near ["own", "batch"] (defScope s_law_near) := ⟨rfl, rfl, rfl, by decide +kernel, rfl, by decide +kernel, by decide +kernel⟩
/-! ### a lot near another one -/
theorem ix_ok {n : Nat} {j : Int} (h0 : 0 ≤ j) (h : j < n) : ixN n j = some j.toNat := by
  unfold ixN
  rw [if_pos h0, if_pos h]
theorem at_ok {l : List Int} {j : Int} (h0 : 0 ≤ j) (h : j < l.length) : atI l j = some ((l[j.toNat]?).getD 0) := by
  have e : l[j.toNat]? = some l[j.toNat] := List.getElem?_eq_getElem (by omega)
  unfold atI
  rw [ix_ok h0 h]
  show l[j.toNat]? = _
  rw [e]; rfl
def bump (l : List Int) (j d : Int) : List Int := l.set j.toNat ((l[j.toNat]?).getD 0 + d)
theorem bump_map (l : List Int) (j d : Int) : (l.map PyData.int).set j.toNat (.int ((l[j.toNat]?).getD 0 + d)) = (bump l j d).map .int := by
  unfold bump; rw [List.map_set]
theorem bump_len (l : List Int) (j d : Int) : (bump l j d).length = l.length := by unfold bump; rw [List.length_set]
def nearA (c : Int) (l : List Int) (way : Int) : Int × List Int := if l ≠ [] ∧ way < 2 then (c / l.length, bump l (c % l.length) (-1)) else (c, l)
def nearB (c : Int) (l : List Int) (way : Int) : Int × List Int := if 0 < way then (c / (l.length + 1), if c % (l.length + 1) < l.length then bump l (c % (l.length + 1)) 1 else l ++ [1]) else (c, l)
def nearStep (p : Int × List Int) : Int × List Int :=
  ((nearB (nearA (p.1 / 3) p.2 (p.1 % 3)).1 (nearA (p.1 / 3) p.2 (p.1 % 3)).2 (p.1 % 3)).1, (nearB (nearA (p.1 / 3) p.2 (p.1 % 3)).1 (nearA (p.1 / 3) p.2 (p.1 % 3)).2 (p.1 % 3)).2.filter fun v => decide (0 < v))
def nearN : Nat → Int × List Int → Int × List Int
  | 0, p => p
  | n + 1, p => nearStep (nearN n p)
def trimA : List Int → List Int
  | [] => []
  | x :: l => if 200 < (x :: l).sum ∨ 60 < (x :: l).length then trimA l else x :: l
def nearV (c : Int) (l : List Int) : List Int := (trimA (srt (nearN (1 + c % 4).toNat (c / 4, l)).2)).reverse
def nearC (c : Int) (l : List Int) : Int := (nearN (1 + c % 4).toNat (c / 4, l)).1
theorem nearA_len (c : Int) (l : List Int) (way : Int) : (nearA c l way).2.length = l.length := by
  unfold nearA; split
  · exact bump_len _ _ _
  · rfl
theorem nearB_len (c : Int) (l : List Int) (way : Int) : (nearB c l way).2.length ≤ l.length + 1 := by
  unfold nearB; split
  · show (if _ then _ else _ : List Int).length ≤ _
    split
    · rw [bump_len]; omega
    · simp
  · simp
theorem near_len (p : Int × List Int) : ∀ n, (nearN n p).2.length ≤ p.2.length + n
  | 0 => Nat.le_refl _
  | n + 1 => by
    have h := near_len p n
    show (nearStep (nearN n p)).2.length ≤ _
    unfold nearStep
    have h1 := List.length_filter_le (fun v : Int => decide (0 < v)) (nearB (nearA ((nearN n p).1 / 3) (nearN n p).2 ((nearN n p).1 % 3)).1 (nearA ((nearN n p).1 / 3) (nearN n p).2 ((nearN n p).1 % 3)).2 ((nearN n p).1 % 3)).2
    have h2 := nearB_len (nearA ((nearN n p).1 / 3) (nearN n p).2 ((nearN n p).1 % 3)).1 (nearA ((nearN n p).1 / 3) (nearN n p).2 ((nearN n p).1 % 3)).2 ((nearN n p).1 % 3)
    have h3 := nearA_len ((nearN n p).1 / 3) (nearN n p).2 ((nearN n p).1 % 3)
    show (List.filter _ _).length ≤ _
    omega
theorem near_pos (p : Int × List Int) (h : ∀ x ∈ p.2, 1 ≤ x) : ∀ n, ∀ x ∈ (nearN n p).2, 1 ≤ x
  | 0 => h
  | n + 1 => fun x hx => by
    have hx : x ∈ (nearStep (nearN n p)).2 := hx
    unfold nearStep at hx
    have := (List.mem_filter.mp hx).2
    simp at this
    omega
theorem trim_suf : ∀ l, (trimA l).Sublist l
  | [] => List.Sublist.refl _
  | x :: l => by
    unfold trimA
    split
    · exact (trim_suf l).trans (List.sublist_cons_self _ _)
    · exact List.Sublist.refl _
theorem trim_ok : ∀ l, (trimA l).sum ≤ 200 ∧ (trimA l).length ≤ 60
  | [] => by decide
  | x :: l => by
    unfold trimA
    split
    · exact trim_ok l
    · rename_i h
      constructor <;> omega
theorem sum_rev (l : List Int) : l.reverse.sum = l.sum := by
  induction l with
  | nil => rfl
  | cons x l ih => rw [List.reverse_cons, sum_app, ih, List.sum_cons, List.sum_cons]; simp; omega
theorem near_lot {c : Int} {l : List Int} (h : Lot l) : Lot (nearV c l) where
  pos := fun x hx => by
    unfold nearV at hx
    have hx := (trim_suf _).subset (List.mem_reverse.mp hx)
    exact near_pos (c / 4, l) h.pos _ x (srt_mem.mp hx)
  desc := by
    unfold nearV Desc
    rw [List.pairwise_reverse]
    exact (srt_sorted _).sublist (trim_suf _)
  len := by unfold nearV; rw [List.length_reverse]; exact (trim_ok _).2
  sum := by unfold nearV; rw [sum_rev]; exact (trim_ok _).1
def R__law_near (xs ds : List PyData) (r : Rv) (ys : List PyData) : Prop := ∃ (c : Int) (l : List Int), xs = [.int c] ∧ ds = [eT .int l] ∧ (Lot l) ∧ r = .d (eT .int (nearV c l)) ∧ ys = [.int (nearC c l)]
theorem ok__law_near {f : Addr} {fd : FuncData} (F : Fun K "_law_near" "_law_near" s_law_near f fd) (m : mg "_law_near" = some (.ref f)) (T : Txt mg) {f__law_take : Addr} {d__law_take : FuncData} (C__law_take : Cal P w K mg base [] "_law_take" 1 ["own", "size"] (spO R__law_take) f__law_take d__law_take) : Cal P w K mg base [] "_law_near" 2 ["own", "batch"] (spO R__law_near) f fd := by
  refine ⟨m, F.kp, F.ok sc_law_near (lenO fun xs ds r ys h => by obtain ⟨c, l, rfl, rfl, h0, rfl, rfl⟩ := h; rfl) (fun cdv A outer s H vs Q E hr h => ?_), Binds.no (F.binds fun _ _ _ _ _ _ us hl => match us, hl with | [_, _], _ => rfl)⟩
  refine ⟨_, (pss_cons (ps_set (i := 2) sc_law_near.nd rfl (Or.inl rfl) (pe_callTy kr_lst (by rfl) T.n_list bt_list (pa_cons (pv 1) pa_nil))) (pss_cons (ps_for PassesOwn.never rfl (pi_range1 (by rfl) T.n_range (pa_cons (pe_op op_add pe_int (pe_cal C__law_take hr (by decide) (by rfl) (pa_cons (pv 0) (pa_cons pe_int pa_nil)))) pa_nil)) (pg_name (i := 3) sc_law_near.nd rfl (Or.inl rfl)) (pss_cons (ps_set (i := 4) sc_law_near.nd rfl (Or.inl rfl) (pe_cal C__law_take hr (by decide) (by rfl) (pa_cons (pv 0) (pa_cons pe_int pa_nil)))) (pss_cons (ps_if (PW.pt (pw_and (pt_cmpR (op_neD hr.units) (pv 2) (pe_lst pa_nil) (nomark _)) (pw_and1 (pt_cmpR op_lt (pv 4) pe_int (nomark _))))) (pss_cons (ps_set (i := 5) sc_law_near.nd rfl (Or.inl rfl) (pe_cal C__law_take hr (by decide) (by rfl) (pa_cons (pv 0) (pa_cons (pe_callB kr_len (by rfl) T.n_len bt_len (pa_cons (pv 2) pa_nil)) pa_nil)))) (pss_one (ps_asg (pe_op op_sub (pe_ix ix_list (pv 2) (pv 5) (fun _ _ => rfl)) pe_int) (pg_subL (pv 2) (pv 5))))) pss_nil) (pss_cons (ps_if (pt_cmpR op_gt (pv 4) pe_int (nomark _)) (pss_cons (ps_set (i := 5) sc_law_near.nd rfl (Or.inl rfl) (pe_cal C__law_take hr (by decide) (by rfl) (pa_cons (pv 0) (pa_cons (pe_op op_add (pe_callB kr_len (by rfl) T.n_len bt_len (pa_cons (pv 2) pa_nil)) pe_int) pa_nil)))) (pss_one (ps_if (pt_cmpR op_lt (pv 5) (pe_callB kr_len (by rfl) T.n_len bt_len (pa_cons (pv 2) pa_nil)) (nomark _)) (pss_one (ps_asg (pe_op op_add (pe_ix ix_list (pv 2) (pv 5) (fun _ _ => rfl)) pe_int) (pg_subL (pv 2) (pv 5)))) (pss_one (ps_expr (pe_bm PySem.F.plainAttrs_list PySem.F.slot_list_append PySem.F.type_list_append mt_append (pv 2) (pa_cons pe_int pa_nil))))))) pss_nil) (pss_one (ps_setLc (i := 2) (own := [("one", 6)]) (g := (gName 6)) rfl sc_law_near.nd rfl rfl (sw_true rfl rfl rfl (by decide +kernel)) (pi_list (pv 2)) (blkOk_by (N := N__law_near) (sc := defScope s_law_near) (by decide +kernel)) (fun _ _ _ _ _ => (pg_name (i := 6) sc_law_near.nd rfl (Or.inl rfl) (Or.inr rfl))) (fun _ _ _ _ _ => (pts_one (pt_cmpR op_gt (pv 6) pe_int (nomark _)))) (fun _ _ _ _ _ => (pv 6)))))))) (pss_cons (ps_set (i := 2) sc_law_near.nd rfl (Or.inl rfl) (pe_revL (pe_callB cr_sortedI (by rfl) T.n_sorted bt_sorted (pa_cons (pv 2) pa_nil)))) (pss_cons (ps_while PassesOwn.never (PW.pt (pw_or (pt_cmpR op_gt (pe_callB (kr_sumI rfl) (by rfl) T.n_sum bt_sum (pa_cons (pv 2) pa_nil)) pe_int (nomark _)) (pw_or1 (pt_cmpR op_gt (pe_callB kr_len (by rfl) T.n_len bt_len (pa_cons (pv 2) pa_nil)) pe_int (nomark _))))) (pss_one (ps_expr (pe_bm0 PySem.F.plainAttrs_list PySem.F.slot_list_pop PySem.F.type_list_pop mt_pop (pv 2))))) (pss_one (ps_ret (pe_callTy kr_tup (by rfl) T.n_tuple bt_tuple (pa_cons (pv 2) pa_nil)))))))), bodyO h (fun xs ds r ys h => by obtain ⟨c, l, rfl, rfl, h0, rfl, rfl⟩ := h; intro l e; cases e) fun p_own xs ds r ys hR => ?_⟩
  obtain ⟨c, l, rfl, rfl, h0, rfl, rfl⟩ := hR
  show Sv _ [.mu _ _, .dat _, .un, .un, .un, .un, .un] _
  have hl := h0.len
  have hm := Int.emod_nonneg c (show (4 : Int) ≠ 0 by decide)
  have hm2 := Int.emod_lt_of_pos c (show (0 : Int) < 4 by decide)
  refine sv_seq (sv_asgL (b := false) (ev_cb (ea_d (ev_var rfl) ea_nil) rc_lstT) fun p_some hp_some => ?_)
  show Sv _ [.mu _ _, .dat _, .mu _ _, .un, .un, .un, .un] _
  refine sv_seq (sv_for (b := true) (ds := (rgI 0 (1 + c % 4).toNat).map .int) (ei_r1 (ea_d (ev_op ev_int (ev_callO0 (i := 0) (ds := [_]) (ea_o rfl (ea_d ev_int ea_nil)) rfl ⟨_, _, rfl, rfl, (by decide), rfl, rfl⟩) o2_I) ea_nil) (by omega)) (fun _ d => [(3, d)]) (fun _ _ _ => gv_name)
    (fun i ρ' => ∃ p, ρ' = [.mu p_own [.int (nearN i (c / 4, l)).1], .dat (eT .int l), .mu p ((nearN i (c / 4, l)).2.map .int), .un, .un, .un, .un]) ⟨_, Wk.refl _, p_some, rfl⟩ (fun i d ρ2 hd hI => ?_) fun ρ2 hI => ?_)
  · obtain ⟨p, rfl⟩ := hI
    have hi : i < (1 + c % 4).toNat := by
      have := (List.getElem?_eq_some_iff.mp hd).1
      rwa [List.length_map, rgI_len] at this
    have hlen := near_len (c / 4, l) i
    have hst : nearN (i + 1) (c / 4, l) = nearStep (nearN i (c / 4, l)) := rfl
    generalize nearN i (c / 4, l) = q at hlen hst
    obtain ⟨cc, lo⟩ := q
    have hlen : lo.length ≤ l.length + i := hlen
    show Sv _ [.mu p_own [.int cc], .dat _, .mu p (lo.map .int), .dat _, .un, .un, .un] _
    refine sv_seq (sv_asg (b := true) (ev_callO0 (i := 0) (ds := [_]) (ea_o rfl (ea_d ev_int ea_nil)) rfl ⟨_, _, rfl, rfl, (by decide), rfl, rfl⟩) ?_)
    show Sv _ [.mu _ _, .dat _, .mu _ _, .dat _, .dat _, .un, .un] _
    refine sv_join [.mu p_own [.int (nearA (cc / 3) lo (cc % 3)).1], .dat (eT .int l), .mu p ((nearA (cc / 3) lo (cc % 3)).2.map .int), .un, .dat (.int (cc % 3)), .un, .un] (sv_if (b := false) (et_and (et_t (ev_bor 2 rfl (ev_op (ev_var rfl) (ev_fz (ev_lstm .int [] ea_nil (by decide))) (o2_neDm (e := (eL .int)) (eq_L eq_int) (by decide))) rfl)) fun _ => (et_t (ev_op (ev_var rfl) ev_int o2_B))) (fun hc => ?_) (fun hc => ?_)) ?_
    · have hc : lo ≠ [] ∧ cc % 3 < 2 := by simpa using hc
      have hp := List.length_pos_iff.mpr hc.1
      have ea : nearA (cc / 3) lo (cc % 3) = (cc / 3 / lo.length, bump lo (cc / 3 % lo.length) (-1)) := by unfold nearA; rw [if_pos hc]
      rw [ea]
      have g1 := Int.emod_nonneg (cc / 3) (show (lo.length : Int) ≠ 0 by omega)
      have g2 := Int.emod_lt_of_pos (cc / 3) (show (0 : Int) < lo.length by omega)
      refine sv_seq (sv_asg (b := true) (ev_callO0 (i := 0) (ds := [_]) (ea_o rfl (ea_d (ev_bor 2 rfl (ev_cb (ea_d (ev_var rfl) ea_nil) rc_lenLm) rfl) ea_nil)) rfl ⟨_, _, rfl, rfl, (by omega), rfl, rfl⟩) ?_)
      show Sv _ [.mu _ _, .dat _, .mu _ _, .dat _, .dat _, .dat _, .un] _
      refine ev_setix (b := false) (i := 2) (ev_op (ev_bor 2 rfl (ev_op (ev_var rfl) (ev_var rfl) (o2_ixLm .int (at_ok g1 g2))) rfl) ev_int o2_I) (ev_var rfl) rfl (by rw [List.length_map]; exact ix_ok g1 g2) ?_
      show Wk [.mu _ _, .dat _, .mu _ (List.set _ _ (.int (_ + -1))), .dat _, .dat _, .dat _, .un] _
      rw [bump_map]
      exact ⟨.inr rfl, .inr rfl, .inr rfl, .inl rfl, .inr rfl, .inl rfl, .inr rfl, trivial⟩
    · have hc : ¬ (lo ≠ [] ∧ cc % 3 < 2) := by
        intro h
        simp [h.1, h.2] at hc
      have ea : nearA (cc / 3) lo (cc % 3) = (cc / 3, lo) := by unfold nearA; rw [if_neg hc]
      rw [ea]
      exact sv_nx ⟨.inr rfl, .inr rfl, .inr rfl, .inl rfl, .inr rfl, .inr rfl, .inr rfl, trivial⟩
    have hlenA := nearA_len (cc / 3) lo (cc % 3)
    have hst2 : nearStep (cc, lo) = ((nearB (nearA (cc / 3) lo (cc % 3)).1 (nearA (cc / 3) lo (cc % 3)).2 (cc % 3)).1, (nearB (nearA (cc / 3) lo (cc % 3)).1 (nearA (cc / 3) lo (cc % 3)).2 (cc % 3)).2.filter fun v => decide (0 < v)) := rfl
    generalize nearA (cc / 3) lo (cc % 3) = q at hlenA hst2
    obtain ⟨ca, la⟩ := q
    have hlenA : la.length = lo.length := hlenA
    refine sv_join [.mu p_own [.int (nearB ca la (cc % 3)).1], .dat (eT .int l), .mu p ((nearB ca la (cc % 3)).2.map .int), .un, .un, .un, .un] (sv_if (b := false) (et_t (ev_op (ev_var rfl) ev_int o2_B)) (fun hc => ?_) (fun hc => ?_)) ?_
    · have hc : 0 < cc % 3 := of_decide_eq_true hc
      have g1 := Int.emod_nonneg ca (show (la.length : Int) + 1 ≠ 0 by omega)
      have g2 := Int.emod_lt_of_pos ca (show (0 : Int) < (la.length : Int) + 1 by omega)
      refine sv_seq (sv_asg (b := true) (ev_callO0 (i := 0) (ds := [_]) (ea_o rfl (ea_d (ev_op (ev_bor 2 rfl (ev_cb (ea_d (ev_var rfl) ea_nil) rc_lenLm) rfl) ev_int o2_I) ea_nil)) rfl ⟨_, _, rfl, rfl, (by omega), rfl, rfl⟩) ?_)
      show Sv _ [.mu _ _, .dat _, .mu _ _, .un, .dat _, .dat _, .un] _
      refine sv_if (b := false) (et_t (ev_op (ev_var rfl) (ev_bor 2 rfl (ev_cb (ea_d (ev_var rfl) ea_nil) rc_lenLm) rfl) o2_B)) (fun hd => ?_) (fun hd => ?_)
      · have hd : ca % (la.length + 1) < la.length := of_decide_eq_true hd
        have eb : nearB ca la (cc % 3) = (ca / (la.length + 1), bump la (ca % (la.length + 1)) 1) := by unfold nearB; rw [if_pos hc, if_pos hd]
        rw [eb]
        refine ev_setix (b := false) (i := 2) (ev_op (ev_bor 2 rfl (ev_op (ev_var rfl) (ev_var rfl) (o2_ixLm .int (at_ok g1 hd))) rfl) ev_int o2_I) (ev_var rfl) rfl (by rw [List.length_map]; exact ix_ok g1 hd) ?_
        show Wk [.mu _ _, .dat _, .mu _ (List.set _ _ (.int (_ + 1))), .un, .dat _, .dat _, .un] _
        rw [bump_map]
        exact ⟨.inr rfl, .inr rfl, .inr rfl, .inl rfl, .inl rfl, .inl rfl, .inr rfl, trivial⟩
      · have hd : ¬ ca % (la.length + 1) < la.length := of_decide_eq_false hd
        have eb : nearB ca la (cc % 3) = (ca / (la.length + 1), la ++ [1]) := by unfold nearB; rw [if_pos hc, if_neg hd]
        rw [eb]
        refine sv_drop (b := true) (ev_append (b := false) (i := 2) ev_int ⟨_, rfl⟩ rfl (by rw [List.length_map]; omega)) ?_
        show Wk [.mu _ _, .dat _, .mu _ _, .un, .dat _, .dat _, .un] [.mu _ _, .dat _, .mu _ ((la ++ [1]).map _), .un, .un, .un, .un]
        rw [List.map_append]
        exact ⟨.inr rfl, .inr rfl, .inr rfl, .inl rfl, .inl rfl, .inl rfl, .inr rfl, trivial⟩
    · have hc : ¬ 0 < cc % 3 := of_decide_eq_false hc
      have eb : nearB ca la (cc % 3) = (ca, la) := by unfold nearB; rw [if_neg hc]
      rw [eb]
      exact sv_nx ⟨.inr rfl, .inr rfl, .inr rfl, .inl rfl, .inl rfl, .inr rfl, .inr rfl, trivial⟩
    have hlenB := nearB_len ca la (cc % 3)
    refine sv_asgL (b := false) (ev_bor 2 rfl (ev_lcF .int (ei_list (ev_var rfl)) (by decide) (by omega) fun x hx => ⟨(et_t (ev_op (ev_var rfl) ev_int o2_B)), fun hp => (ev_var rfl)⟩) (noLs_ints _)) fun p2 hp2 => ?_
    rw [List.map_id']
    refine ⟨_, Wk.refl _, p2, ?_⟩
    rw [hst, hst2]
    rfl
  · obtain ⟨p, rfl⟩ := hI
    rw [List.length_map, rgI_len]
    refine sv_seq (sv_asgL (b := false) (ev_revLm .int (ev_fz (ev_bor 2 rfl (ev_cb (ea_d (ev_var rfl) ea_nil) rc_sorted) (noLs_ints _)))) fun p_some hp_some => ?_)
    show Sv _ [.mu _ _, .dat _, .mu _ _, .un, .un, .un, .un] _
    refine sv_seq (sv_while (fun m ρ2 => ∃ r : List Int, m = r.length ∧ (trimA r).reverse = nearV c l ∧ ρ2 = [.mu p_own [.int (nearC c l)], .dat (eT .int l), .mu p_some (r.reverse.map .int), .un, .un, .un, .un]) _ ⟨_, Wk.refl _, _, rfl, rfl, rfl⟩ (fun m ρ2 hI => ?_))
    obtain ⟨r, rfl, hr, rfl⟩ := hI
    refine ⟨false, _, _, et_or (et_t (ev_op (ev_bor 2 rfl (ev_cb (ea_d (ev_var rfl) ea_nil) rc_sumL) rfl) ev_int o2_B)) (fun _ => et_t (ev_op (ev_bor 2 rfl (ev_cb (ea_d (ev_var rfl) ea_nil) rc_lenLm) rfl) ev_int o2_B)), fun hc => ?_, fun hc => ?_⟩
    · have hc : 200 < r.sum ∨ 60 < r.length := by
        rw [sum_rev, List.length_reverse] at hc
        simp at hc
        omega
      cases r with
      | nil => exact absurd hc (by decide)
      | cons x r =>
        refine sv_drop (b := true) (ev_pop (i := 2) (x := .int x) rfl (by rw [List.length_map, List.reverse_cons, List.length_append, List.map_append]; simp)) ?_
        refine ⟨r.length, _, by simp, Wk.refl _, r, rfl, ?_, ?_⟩
        · rw [← hr, trimA, if_pos hc]
        · show [Sl.mu _ _, _, Sl.mu _ _, _, _, _, _] = _
          rw [List.reverse_cons, List.map_append, List.dropLast_append_of_ne_nil (by simp)]
          simp
    · have hc : ¬ (200 < r.sum ∨ 60 < r.length) := by
        rw [sum_rev, List.length_reverse] at hc
        simp at hc
        omega
      have e : trimA r = r := by
        cases r with
        | nil => rfl
        | cons x r => rw [trimA, if_neg hc]
      rw [e] at hr
      refine sv_ret (b := false) (ev_bor 2 rfl (ev_cb (ea_d (ev_var rfl) ea_nil) rc_tupL) (noLs_ints _)) ?_
      rw [← hr]
      exact ⟨rfl, rfl⟩
  all_goals rfl
def s_law_good : Stmt := topS 34
abbrev N__law_good : List Str := ["one", "other", "high", "less", "found", "tops", "both", "tasks", "k"]
theorem sc_law_good : FnScope N__law_good ["one", "other"] (defScope s_law_good) := ⟨rfl, rfl, rfl, by decide +kernel, rfl, by decide +kernel, by decide +kernel⟩
theorem o2_inLD {K : PySem.W.Frag} {l : List Int} {i : Int} : Op2 (rIn K false) (.int i) (eL .int l) (.d (.bool (decide (i ∈ l)))) := o2_inL
def R__law_good (ds : List PyData) (r : Rv) : Prop := ∃ (a b : List Int), ds = [eT .int a, eT .int b] ∧ (Lot a) ∧ (Lot b) ∧ r = .d (.bool true)
theorem ok__law_good {f : Addr} {fd : FuncData} (F : Fun K "_law_good" "_law_good" s_law_good f fd) (m : mg "_law_good" = some (.ref f)) (T : Txt mg) {f_covers : Addr} {d_covers : FuncData} (C_covers : Cal P w K mg base [] "covers" 4 ["first", "second"] (spD R_covers) f_covers d_covers) {f_gap : Addr} {d_gap : FuncData} (C_gap : Cal P w K mg base [] "gap" 4 ["first", "second"] (spD R_gap) f_gap d_gap) {f_parting_row : Addr} {d_parting_row : FuncData} (C_parting_row : Cal P w K mg base [] "parting_row" 5 ["first", "second"] (spD R_parting_row) f_parting_row d_parting_row) {f_serve : Addr} {d_serve : FuncData} (C_serve : Cal P w K mg base [.str "dullest"] "serve" 4 ["lot", "row", "by"] (spD R_serve) f_serve d_serve) {f__law_capacity : Addr} {d__law_capacity : FuncData} (C__law_capacity : Cal P w K mg base [] "_law_capacity" 1 ["batch", "level"] (spD R__law_capacity) f__law_capacity d__law_capacity) (F_covers : Fun K "covers" "covers" s_covers f_covers d_covers) (F_gap : Fun K "gap" "gap" s_gap f_gap d_gap) (F_parting_row : Fun K "parting_row" "parting_row" s_parting_row f_parting_row d_parting_row) : Cal P w K mg base [] "_law_good" 6 ["one", "other"] (spD R__law_good) f fd := by
  have kb_covers_0_second_first := kb_fun (ks := [Str.ofString "second", Str.ofString "first"]) (n := 0) (m := 2) (π := [1, 0]) F_covers (ps := ["first", "second"]) (by decide) fun _ _ _ _ _ _ us ws h1 h2 => match us, ws, h1, h2 with | [], [_, _], _, _ => rfl
  have kb_gap_0_second_first := kb_fun (ks := [Str.ofString "second", Str.ofString "first"]) (n := 0) (m := 2) (π := [1, 0]) F_gap (ps := ["first", "second"]) (by decide) fun _ _ _ _ _ _ us ws h1 h2 => match us, ws, h1, h2 with | [], [_, _], _, _ => rfl
  have kb_parting_row_0_second_first := kb_fun (ks := [Str.ofString "second", Str.ofString "first"]) (n := 0) (m := 2) (π := [1, 0]) F_parting_row (ps := ["first", "second"]) (by decide) fun _ _ _ _ _ _ us ws h1 h2 => match us, ws, h1, h2 with | [], [_, _], _, _ => rfl
  refine ⟨m, F.kp, F.ok sc_law_good (lenD fun ds r h => by obtain ⟨a, b, rfl, h0, h1, rfl⟩ := h; rfl) (fun cdv A outer s H vs Q E hr h => ?_), Binds.no (F.binds fun _ _ _ _ _ _ us hl => match us, hl with | [_, _], _ => rfl)⟩
  refine ⟨_, (pss_cons (ps_set (i := 2) sc_law_good.nd rfl (Or.inl rfl) (pe_op op_add (pe_callB (kr_maxI rfl) (by rfl) T.n_max bt_max (pa_cons (pe_op op_catA (pe_op op_catA (pv 0) (pv 1)) (pe_tup (pa_cons pe_int pa_nil))) pa_nil)) pe_int)) (pss_cons (ps_setLc (i := 3) (own := [("k", 8)]) (g := (gName 8)) rfl sc_law_good.nd rfl rfl (sw_true rfl rfl rfl (by decide +kernel)) (pi_range2 (by rfl) T.n_range (pa_cons pe_int (pa_cons (pe_op op_add (pv 2) pe_int) pa_nil))) (blkOk_by (N := N__law_good) (sc := defScope s_law_good) (by decide +kernel)) (fun _ _ _ _ _ => (pg_name (i := 8) sc_law_good.nd rfl (Or.inl rfl) (Or.inr rfl))) (fun _ _ _ _ _ => (pts_one (pt_cmpR op_lt (pe_cal C__law_capacity hr (by decide) (by rfl) (pa_cons (pv 0) (pa_cons (pv 8) pa_nil))) (pe_cal C__law_capacity hr (by decide) (by rfl) (pa_cons (pv 1) (pa_cons (pv 8) pa_nil))) (nomark _)))) (fun _ _ _ _ _ => (pv 8))) (pss_cons (ps_set (i := 4) sc_law_good.nd rfl (Or.inl rfl) (pe_cal C_covers hr (by decide) (by rfl) (pa_cons (pv 0) (pa_cons (pv 1) pa_nil)))) (pss_cons (ps_setLc (i := 5) (own := [("k", 8)]) (g := (gName 8)) (tt := tYes) rfl sc_law_good.nd rfl rfl (sw_true rfl rfl rfl (by decide +kernel)) (pi_range1 (by rfl) T.n_range (pa_cons (pe_op op_add (pe_callB kr_len (by rfl) T.n_len bt_len (pa_cons (pe_op op_catA (pv 0) (pv 1)) pa_nil)) pe_int) pa_nil)) (blkOk_by (N := N__law_good) (sc := defScope s_law_good) (by decide +kernel)) (fun _ _ _ _ _ => (pg_name (i := 8) sc_law_good.nd rfl (Or.inl rfl) (Or.inr rfl))) (fun _ _ _ _ _ => pts_nil) (fun _ _ _ _ _ => (pe_cmpR op_ge (pe_callB (show CallR _ _ (rSumI K) from (kr_sumI rfl)) (by rfl) T.n_sum bt_sum (pa_cons (pe_slice (show SlR _ (rSlA K) from sl_tupA) (pv 0) po_none (po_some (pv 8))) pa_nil)) (pe_callB (show CallR _ _ (rSumI K) from (kr_sumI rfl)) (by rfl) T.n_sum bt_sum (pa_cons (pe_slice (show SlR _ (rSlA K) from sl_tupA) (pv 1) po_none (po_some (pv 8))) pa_nil)) (nomark _)))) (pss_cons (ps_if (PW.pt (pw_or (pt_not (pt_val (pe_callB call_isi (by rfl) T.n_isinstance bt_isinstance (pa_cons (pv 4) (pa_cons (pe_bltn (v := .ty "bool") (by rfl) T.n_bool bt_bool rfl) pa_nil))))) (pw_or (pt_cmpR op_ne (pv 4) (pe_cmpR (op_eqD hr.units) (pv 3) (pe_lst pa_nil) (nomark _)) (nomark _)) (pw_or1 (pt_cmpR op_ne (pv 4) (pe_cmpR op_notIn_seq pe_bl (pv 5) (by with_unfolding_all rfl)) (nomark _)))))) (pss_one (ps_ret pe_bl)) pss_nil) (pss_cons (ps_if (pt_cmpR (op_eqD hr.units) (pv 3) (pe_lst pa_nil) (nomark _)) (pss_cons (ps_set (i := 6) sc_law_good.nd rfl (Or.inl rfl) (pe_cal C_covers hr (by decide) (by rfl) (pa_cons (pv 1) (pa_cons (pv 0) pa_nil)))) (pss_one (ps_ret (pe_and (pe_cmpR op_isN (pe_cal C_gap hr (by decide) (by rfl) (pa_cons (pv 0) (pa_cons (pv 1) pa_nil))) pe_non (nomark _)) (pe_and (pe_cmpR op_isN (pe_cal C_parting_row hr (by decide) (by rfl) (pa_cons (pv 0) (pa_cons (pv 1) pa_nil))) pe_non (nomark _)) (pe_one (pe_cmpR op_eq (pv 6) (pe_cmpR (op_eqD hr.units) (pv 0) (pv 1) (nomark _)) (nomark _)))))))) pss_nil) (pss_cons (ps_if (PW.pt (pw_or (pt_cmpR op_ne (pe_cal C_gap hr (by decide) (by rfl) (pa_cons (pv 0) (pa_cons (pv 1) pa_nil))) (pe_ix ix_list (pv 3) pe_int (fun _ _ => rfl)) (nomark _)) (pw_or (pt_cmpR op_ne (pe_calK0 C_gap hr (by decide) kb_gap_0_second_first (by rfl) (pk_cons (pv 1) (pk_cons (pv 0) pk_nil))) (pe_ix ix_list (pv 3) pe_int (fun _ _ => rfl)) (nomark _)) (pw_or1 (pt_val (pe_callB call_isi (by rfl) T.n_isinstance bt_isinstance (pa_cons (pe_cal C_gap hr (by decide) (by rfl) (pa_cons (pv 0) (pa_cons (pv 1) pa_nil))) (pa_cons (pe_bltn (v := .ty "bool") (by rfl) T.n_bool bt_bool rfl) pa_nil)))))))) (pss_one (ps_ret pe_bl)) pss_nil) (pss_cons (ps_set (i := 7) sc_law_good.nd rfl (Or.inl rfl) (pe_cal C_parting_row hr (by decide) (by rfl) (pa_cons (pv 0) (pa_cons (pv 1) pa_nil)))) (pss_cons (ps_if (PW.pt (pw_or (pt_not (pt_val (pe_callB call_isi (by rfl) T.n_isinstance bt_isinstance (pa_cons (pv 7) (pa_cons (pe_bltn (v := .ty "list") (by rfl) T.n_list bt_list rfl) pa_nil))))) (pw_or1 (pt_cmpR (op_neD hr.units) (pv 7) (pe_op op_rep (pe_lst (pa_cons (pe_ix ix_list (pv 3) pe_int (fun _ _ => rfl)) pa_nil)) (pe_op op_add (pe_cal C__law_capacity hr (by decide) (by rfl) (pa_cons (pv 0) (pa_cons (pe_ix ix_list (pv 3) pe_int (fun _ _ => rfl)) pa_nil))) pe_int)) (nomark _))))) (pss_one (ps_ret pe_bl)) pss_nil) (pss_cons (ps_if (PW.pt (pw_or (pt_cmpR op_in_seq pe_int (pe_ix ix_tup (pe_cal C_serve hr (by decide) (by rfl) (pa_cons (pv 1) (pa_cons (pv 7) pa_nil))) pe_int (fun _ _ => rfl)) (by with_unfolding_all rfl)) (pw_or1 (pt_cmpR op_notIn_seq pe_int (pe_ix ix_tup (pe_cal C_serve hr (by decide) (by rfl) (pa_cons (pv 0) (pa_cons (pv 7) pa_nil))) pe_int (fun _ _ => rfl)) (by with_unfolding_all rfl))))) (pss_one (ps_ret pe_bl)) pss_nil) (pss_cons (ps_expr (pe_bm PySem.F.plainAttrs_list PySem.F.slot_list_append PySem.F.type_list_append mt_append (pv 7) (pa_cons pe_int pa_nil))) (pss_one (ps_ret (pe_and (pe_cmpR (op_eqD hr.units) (pe_calK0 C_parting_row hr (by decide) kb_parting_row_0_second_first (by rfl) (pk_cons (pv 1) (pk_cons (pv 0) pk_nil))) (pe_slice sl_list (pv 7) po_none (po_some (pe_un un_neg pe_int))) (nomark _)) (pe_one (pe_cmpR op_isBl (pe_calK0 C_covers hr (by decide) kb_covers_0_second_first (by rfl) (pk_cons (pv 1) (pk_cons (pv 0) pk_nil))) pe_bl (nomark _))))))))))))))))), bodyD h fun ds r hR => ?_⟩
  obtain ⟨a, b, rfl, h0, h1, rfl⟩ := hR
  show Sv _ [.dat _, .dat _, .un, .un, .un, .un, .un, .un, .un] _
  have hl0 := h0.len
  have hl1 := h1.len
  have hcl : ∀ x y : List Int, Lot x → Lot y → (∀ z ∈ y, z ≤ 1000000) := fun x y hx hy z hz => by have := hy.le hz; omega
  have hM : 0 ≤ maxD 0 (a ++ b ++ [0]) ∧ maxD 0 (a ++ b ++ [0]) ≤ 200 ∧ ∀ t ∈ b, t ≤ maxD 0 (a ++ b ++ [0]) := by
    obtain ⟨k1, k2⟩ := maxD_mem (d := 0) (l := a ++ b ++ [0]) (by simp)
    refine ⟨k2 0 (by simp), ?_, fun t ht => k2 t (by simp [ht])⟩
    rcases List.mem_append.mp k1 with h | h
    · rcases List.mem_append.mp h with h | h
      · exact (h0.le h).2
      · exact (h1.le h).2
    · rw [List.mem_singleton.mp h]; decide
  refine sv_seq (sv_asg (b := false) (ev_op (ev_cb (ea_d (ev_op (ev_op (ev_var rfl) (ev_var rfl) (o2_catTm .int (by omega))) (ev_tupm .int [_] (ea_d ev_int ea_nil) (Nat.le_of_ble_eq_true rfl)) (o2_catTm .int (by simp only [List.length_append, List.length_singleton]; omega))) ea_nil) (rc_maxT (by simp only [List.length_append, List.length_singleton]; omega))) ev_int o2_I) ?_)
  show Sv _ [.dat _, .dat _, .dat _, .un, .un, .un, .un, .un, .un] _
  generalize maxD 0 (a ++ b ++ [0]) = M at hM
  refine sv_seq (sv_asg (b := false) (ev_fz (ev_lcF .int (ei_r2 (ea_d ev_int (ea_d (ev_op (ev_var rfl) ev_int o2_I) ea_nil)) (by omega) (by decide)) (by decide) (by rw [rgI_len]; omega) fun x hx => ⟨(et_t (ev_op (ev_call0 (ds := [_, _]) (ea_d (ev_var rfl) (ea_d (ev_var rfl) ea_nil)) ⟨_, _, rfl, (by omega), rfl⟩) (ev_call0 (ds := [_, _]) (ea_d (ev_var rfl) (ea_d (ev_var rfl) ea_nil)) ⟨_, _, rfl, (by omega), rfl⟩) o2_B)), fun hp => (ev_var rfl)⟩)) ?_)
  show Sv _ [.dat _, .dat _, .dat _, .dat _, .un, .un, .un, .un, .un] _
  rw [List.map_id']
  have hless : (∃ n r, gapV a b = some n ∧ (rgI 1 (M + 1 + 1 - 1).toNat).filter (fun k => decide (capOf a k < capOf b k)) = n :: r) ∨ (gapV a b = none ∧ (rgI 1 (M + 1 + 1 - 1).toNat).filter (fun k => decide (capOf a k < capOf b k)) = []) := by
    cases hg : gapV a b with
    | none =>
      refine .inr ⟨rfl, List.filter_eq_nil_iff.mpr fun k hk => ?_⟩
      have := gap_none hg k (mem_rgI.mp hk).1
      simpa using this
    | some n =>
      obtain ⟨g1, g2, g3, g4⟩ := gap_some hg
      have hb : ∃ t ∈ b, n ≤ t := by
        apply Classical.byContradiction
        intro hno
        rw [cap_zero (a := b) fun t ht => by
          have : ¬ n ≤ t := fun h => hno ⟨t, ht, h⟩
          omega] at g3
        have := cap_pos a n
        omega
      obtain ⟨t, ht, htn⟩ := hb
      have := hM.2.2 t ht
      obtain ⟨r, hr⟩ := filter_first (p := fun k => decide (capOf a k < capOf b k)) (M + 1 + 1 - 1).toNat 1 n g1 (by omega) (by simpa using g3) fun k hk hk2 => by have := g4 k hk hk2; simpa using this
      exact .inl ⟨n, r, rfl, hr⟩
  generalize (rgI 1 (M + 1 + 1 - 1).toNat).filter (fun k => decide (capOf a k < capOf b k)) = less at hless
  refine sv_seq (sv_asg (b := false) (ev_call0 (ds := [_, _]) (ea_d (ev_var rfl) (ea_d (ev_var rfl) ea_nil)) ⟨_, _, rfl, h0, h1, rfl⟩) ?_)
  show Sv _ [.dat _, .dat _, .dat _, .dat _, .dat _, .un, .un, .un, .un] _
  refine sv_seq (sv_asg (b := false) (ev_fz (ev_lcM .bool (ei_r1 (ea_d (ev_op (ev_cb (ea_d (ev_op (ev_var rfl) (ev_var rfl) (o2_catTm .int (by omega))) ea_nil) rc_lenTm) ev_int o2_I) ea_nil) (by rw [List.length_append]; omega)) (by decide) (by rw [rgI_len, List.length_append]; omega) fun x hx => (ev_op (ev_cb (ea_d (ev_slTm .int (ev_var rfl) eo_n (eo_s (ev_var rfl))) ea_nil) rc_sumT) (ev_cb (ea_d (ev_slTm .int (ev_var rfl) eo_n (eo_s (ev_var rfl))) ea_nil) rc_sumT) o2_B))) ?_)
  show Sv _ [.dat _, .dat _, .dat _, .dat _, .dat _, .dat _, .un, .un, .un] _
  have htops : (!decide (false ∈ (rgI 0 (((a ++ b).length : Int) + 1).toNat).map fun x => decide ((cutA b none (some x)).sum ≤ (cutA a none (some x)).sum))) = (gapV a b).isNone := by
    have hiff : (false ∈ (rgI 0 (((a ++ b).length : Int) + 1).toNat).map fun x => decide ((cutA b none (some x)).sum ≤ (cutA a none (some x)).sum)) ↔ gapV a b ≠ none := by
      rw [List.mem_map]
      constructor
      · rintro ⟨x, hx, e⟩ hg
        have hx := mem_rgI.mp hx
        rw [cut_to hx.1, cut_to hx.1] at e
        have := tops_of_caps h0.desc h0.pos (gap_none hg) x.toNat
        exact absurd this (by simpa using e)
      · intro hg
        apply Classical.byContradiction
        intro hno
        apply hg
        rw [gap_iff]
        intro n hn
        refine caps_of_tops h1.desc (fun k hk => ?_) hn
        apply Classical.byContradiction
        intro hlt
        refine hno ⟨(k : Int), mem_rgI.mpr ⟨by omega, by rw [List.length_append]; omega⟩, ?_⟩
        rw [cut_to (by omega), cut_to (by omega)]
        simpa using hlt
    cases hg : gapV a b with
    | none => rw [decide_eq_false (by rw [hiff, hg]; simp)]; rfl
    | some n => rw [decide_eq_true (by rw [hiff, hg]; simp)]; rfl
  generalize htd : ((rgI 0 (((a ++ b).length : Int) + 1).toNat).map fun x => decide ((cutA b none (some x)).sum ≤ (cutA a none (some x)).sum)) = tops at htops
  have hle : decide (less = []) = (gapV a b).isNone := by
    rcases hless with ⟨n, r, e1, e2⟩ | ⟨e1, e2⟩ <;> rw [e1, e2] <;> simp
  refine sv_seq (sv_if (b := false) (et_or (et_not (et_B (ev_cb (ea_d (ev_var rfl) (ea_v ev_c ea_nil)) (rc_isi (kit_bool _))))) fun _ => (et_or (et_t (ev_op (ev_var rfl) (ev_op (ev_var rfl) (ev_fz (ev_lstm .int [] ea_nil (by decide))) (o2_eqDm (e := (eL .int)) (eq_L eq_int) (by decide))) o2_neB)) fun _ => (et_t (ev_op (ev_var rfl) (ev_op ev_bl (ev_var rfl) o2_niLb) o2_neB)))) (fun hc => ?_) (fun hc => ?_))
  · rw [hle, htops] at hc
    cases hg : gapV a b <;> rw [hg] at hc <;> exact absurd hc (by simp [isTy, isTyN, tyN])
  refine sv_nx ?_
  refine sv_seq (sv_if (b := false) (et_t (ev_op (ev_var rfl) (ev_fz (ev_lstm .int [] ea_nil (by decide))) (o2_eqDm (e := (eL .int)) (eq_L eq_int) (by decide)))) (fun hc => ?_) (fun hc => ?_))
  · rw [hle] at hc
    have hg : gapV a b = none := by cases hg : gapV a b <;> rw [hg] at hc <;> first | rfl | exact absurd hc (by simp)
    refine sv_seq (sv_asg (b := false) (ev_call0 (ds := [_, _]) (ea_d (ev_var rfl) (ea_d (ev_var rfl) ea_nil)) ⟨_, _, rfl, h1, h0, rfl⟩) ?_)
    show Sv _ [.dat _, .dat _, .dat _, .dat _, .dat _, .dat _, .dat _, .un, .un] _
    refine sv_ret (b := false) (ev_and (ev_op (ev_call0 (ds := [_, _]) (ea_d (ev_var rfl) (ea_d (ev_var rfl) ea_nil)) ⟨_, _, rfl, h0, h1, rfl⟩) ev_non o2_isN) fun _ => (ev_and (ev_op (Ev.is (ev_call0 (ds := [_, _]) (ea_d (ev_var rfl) (ea_d (ev_var rfl) ea_nil)) ⟨_, _, rfl, h0, h1, rfl⟩) (part_none hg)) ev_non o2_isN) fun _ => (ev_op (ev_var rfl) (ev_op (ev_var rfl) (ev_var rfl) (o2_eqDm (e := (eT .int)) (eq_T eq_int) (by decide))) o2_eqB))) ?_
    show Rv.d _ = Rv.d _
    rw [hg]
    have hb : (gapV b a).isNone = decide (a = b) := by
      by_cases e : a = b
      · subst e
        rw [hg]; simp
      · cases hg2 : gapV b a with
        | none =>
          exact absurd (caps_eq h0 h1 fun n hn => Int.le_antisymm (gap_none hg2 n hn) (gap_none hg n hn)) e
        | some n => simp [e]
    rw [hb]
    simp [eO, isN]
  rw [hle] at hc
  refine sv_nx ?_
  rcases hless with ⟨n, r, hg, e2⟩ | ⟨e1, e2⟩
  case inr => rw [e1] at hc; exact absurd hc (by decide)
  subst e2
  obtain ⟨g1, g2, g3, g4⟩ := gap_some hg
  have hca := h0.cap g1
  have hcb := h1.cap g1
  have hn200 : n ≤ 200 := Int.le_trans g2 (maxD_le (by decide) fun x hx => (h1.le hx).2)
  have eg : eO PyData.int (gapV a b) = .int n := by rw [hg]; rfl
  refine sv_seq (sv_if (b := false) (et_or (et_t (ev_op (Ev.is (ev_call0 (ds := [_, _]) (ea_d (ev_var rfl) (ea_d (ev_var rfl) ea_nil)) ⟨_, _, rfl, h0, h1, rfl⟩) (by rw [eg])) (ev_op (ev_var rfl) ev_int (o2_ixLm (xs := n :: r) (d := n) .int (atI_nat (j := 0) rfl))) o2_neI)) fun _ => (et_or (et_t (ev_op (Ev.is (ev_callK (ds := []) (es := [_, _]) ea_nil (ea_d (ev_var rfl) (ea_d (ev_var rfl) ea_nil)) rfl ⟨_, _, rfl, h0, h1, rfl⟩) (by rw [eg])) (ev_op (ev_var rfl) ev_int (o2_ixLm (xs := n :: r) (d := n) .int (atI_nat (j := 0) rfl))) o2_neI)) fun _ => (et_B (ev_cb (ea_d (Ev.is (ev_call0 (ds := [_, _]) (ea_d (ev_var rfl) (ea_d (ev_var rfl) ea_nil)) ⟨_, _, rfl, h0, h1, rfl⟩) (by rw [eg])) (ea_v ev_c ea_nil)) (rc_isi (kit_bool (.int n))))))) (fun hc => ?_) (fun hc => ?_))
  · exact absurd hc (by simp [isTy, isTyN, tyN])
  refine sv_nx ?_
  refine sv_seq (sv_asgL (b := false) (Ev.is (ev_call0 (ds := [_, _]) (ea_d (ev_var rfl) (ea_d (ev_var rfl) ea_nil)) ⟨_, _, rfl, h0, h1, rfl⟩) (part_some hg)) fun p_tasks hp_tasks => ?_)
  show Sv _ [.dat _, .dat _, .dat _, .dat _, .dat _, .dat _, .un, .mu _ _, .un] _
  have hrow : Row (partL a n) := ⟨by unfold partL; rw [List.length_replicate]; omega, fun x hx => by
    unfold partL at hx; rw [(List.mem_replicate.mp hx).2]; omega⟩
  refine sv_seq (sv_if (b := false) (c := false) (et_orF (et_bor 7 rfl (EvT.is (et_not (et_B (ev_cb (ea_d (ev_var rfl) (ea_v ev_c ea_nil)) (rc_isi (kit_list _))))) rfl)) (EvT.is (et_bor 7 rfl (et_t (ev_op (ev_var rfl) (ev_fz (ev_op (ev_fz (ev_lstm .int [n] (ea_d (ev_op (ev_var rfl) ev_int (o2_ixLm (xs := n :: r) (d := n) .int (atI_nat (j := 0) rfl))) ea_nil) (Nat.le_of_ble_eq_true rfl))) (ev_op (ev_call0 (ds := [_, _]) (ea_d (ev_var rfl) (ea_d (ev_op (ev_var rfl) ev_int (o2_ixLm (xs := n :: r) (d := n) .int (atI_nat (j := 0) rfl))) ea_nil)) ⟨_, _, rfl, (by omega), rfl⟩) ev_int o2_I) (o2_rep1 .int (by omega)))) (o2_neDm (e := (eL .int)) (eq_L eq_int) (by decide))))) (by unfold partL; simp))) (fun hc => absurd hc (by decide)) (fun hc => ?_))
  refine sv_nx ?_
  have hd1 : (0 : Int) ∉ (servedV false b (partL a n)).1 := by
    rw [served_eq]
    exact same_done g1 _ (by omega)
  have hd2 : (0 : Int) ∈ (servedV false a (partL a n)).1 := by
    rw [served_eq]
    exact same_not g1 _ (by omega)
  refine sv_seq (sv_if (b := false) (c := false) (et_orF (EvT.is (et_bor 7 rfl (et_t (ev_op ev_int (ev_op (ev_call (ds := [_, _]) (dds := [.str "dullest"]) (fun _ => (.cons (.str _) .nil)) (ea_d (ev_var rfl) (ea_d (ev_var rfl) ea_nil)) ⟨b, _, false, rfl, h1, hrow, rfl⟩) ev_int (o2_ixT rfl)) o2_inLD))) (by rw [decide_eq_false hd1])) (EvT.is (et_bor 7 rfl (et_t (ev_op ev_int (ev_op (ev_call (ds := [_, _]) (dds := [.str "dullest"]) (fun _ => (.cons (.str _) .nil)) (ea_d (ev_var rfl) (ea_d (ev_var rfl) ea_nil)) ⟨a, _, false, rfl, h0, hrow, rfl⟩) ev_int (o2_ixT rfl)) o2_niL))) (by rw [decide_eq_true hd2]; rfl))) (fun hc => absurd hc (by decide)) (fun hc => ?_))
  refine sv_nx ?_
  refine sv_seq (sv_drop (b := true) (ev_append (b := false) (i := 7) ev_int ⟨_, rfl⟩ rfl (by rw [List.length_map]; have := hrow.len; omega)) ?_)
  rw [show (partL a n).map PyData.int ++ [.int 1] = (partL a n ++ [1]).map PyData.int by rw [List.map_append]; rfl]
  show Sv _ [.dat _, .dat _, .dat _, .dat _, .dat _, .dat _, .un, .mu _ _, .un] _
  refine sv_ret (b := false) (ev_and (ev_bor 7 rfl (ev_op (ev_fz (Ev.is (ev_callK (ds := []) (es := [_, _]) ea_nil (ea_d (ev_var rfl) (ea_d (ev_var rfl) ea_nil)) rfl ⟨_, _, rfl, h0, h1, rfl⟩) (part_some hg))) (ev_fz (ev_slLm .int (ev_var rfl) eo_n (eo_s (ev_un ev_int o1_neg)))) (o2_eqDm (e := (eL .int)) (eq_L eq_int) (by decide))) rfl) fun _ => (ev_op (ev_callK (ds := []) (es := [_, _]) ea_nil (ea_d (ev_var rfl) (ea_d (ev_var rfl) ea_nil)) rfl ⟨_, _, rfl, h0, h1, rfl⟩) ev_bl o2_isBl)) ?_
  show Rv.d _ = Rv.d _
  rw [hg, cut_last]
  simp
  all_goals rfl
def s_law : Stmt := topS 35
abbrev N_law : List Str := ["script", "turn", "own", "k", "top", "one", "other", "pairs"]
theorem sclaw : FnScope N_law ["script"] (defScope s_law) := ⟨rfl, rfl, rfl, by decide +kernel, rfl, by decide +kernel, by decide +kernel⟩

theorem ok_law {f : Addr} {fd : FuncData} (F : Fun K "law" "law" s_law f fd) (m : mg "law" = some (.ref f)) (T : Txt mg) {f__law_cell : Addr} {d__law_cell : FuncData} (C__law_cell : Cal P w K mg base [] "_law_cell" 2 ["script", "k"] (spK K R__law_cell) f__law_cell d__law_cell) {f__law_take : Addr} {d__law_take : FuncData} (C__law_take : Cal P w K mg base [] "_law_take" 1 ["own", "size"] (spO R__law_take) f__law_take d__law_take) {f__law_lot : Addr} {d__law_lot : FuncData} (C__law_lot : Cal P w K mg base [] "_law_lot" 2 ["own", "most", "top"] (spO R__law_lot) f__law_lot d__law_lot) {f__law_near : Addr} {d__law_near : FuncData} (C__law_near : Cal P w K mg base [] "_law_near" 2 ["own", "batch"] (spO R__law_near) f__law_near d__law_near) {f__law_good : Addr} {d__law_good : FuncData} (C__law_good : Cal P w K mg base [] "_law_good" 6 ["one", "other"] (spD R__law_good) f__law_good d__law_good) : Cal P w K mg base [] "law" 7 ["script"] (spK K R_law) f fd := by
  refine ⟨m, F.kp, F.ok sclaw (lenK fun ns ds r h => by obtain ⟨rfl, h0, rfl⟩ := h; rfl) (fun cdv A outer s H vs Q E hr h => ?_), Binds.no (F.binds fun _ _ _ _ _ _ us hl => match us, hl with | [_], _ => rfl)⟩
  refine ⟨_, (pss_cons (ps_for PassesOwn.never rfl (pi_range1 (by rfl) T.n_range (pa_cons (pe_callB (kr_max2 rfl) (by rfl) T.n_max bt_max (pa_cons (pe_callB (kr_min2 rfl) (by rfl) T.n_min bt_min (pa_cons (pe_callB kr_len (by rfl) T.n_len bt_len (pa_cons (pv 0) pa_nil)) (pa_cons pe_int pa_nil))) (pa_cons pe_int pa_nil))) pa_nil)) (pg_name (i := 1) sclaw.nd rfl (Or.inl rfl)) (pss_cons (ps_set (i := 2) sclaw.nd rfl (Or.inl rfl) (pe_lst (pa_cons (pe_cal C__law_cell hr (by decide) (by rfl) (pa_cons (pv 0) (pa_cons (pv 1) pa_nil))) pa_nil))) (pss_one (ps_for PassesOwn.never rfl (pi_range1 (by rfl) T.n_range (pa_cons pe_int pa_nil)) (pg_name (i := 3) sclaw.nd rfl (Or.inl rfl)) (pss_cons (ps_set (i := 4) sclaw.nd rfl (Or.inl rfl) (pe_ix ix_list (pe_lst (pa_cons pe_int (pa_cons pe_int (pa_cons pe_int (pa_cons pe_int pa_nil))))) (pe_cal C__law_take hr (by decide) (by rfl) (pa_cons (pv 2) (pa_cons pe_int pa_nil))) (fun _ _ => rfl))) (pss_cons (ps_set (i := 5) sclaw.nd rfl (Or.inl rfl) (pe_cal C__law_lot hr (by decide) (by rfl) (pa_cons (pv 2) (pa_cons pe_int (pa_cons (pv 4) pa_nil))))) (pss_one (ps_for PassesOwn.never rfl (pi_list (pe_lst (pa_cons (pe_cal C__law_lot hr (by decide) (by rfl) (pa_cons (pv 2) (pa_cons pe_int (pa_cons (pv 4) pa_nil)))) (pa_cons (pe_cal C__law_near hr (by decide) (by rfl) (pa_cons (pv 2) (pa_cons (pv 5) pa_nil))) (pa_cons (pe_cal C__law_near hr (by decide) (by rfl) (pa_cons (pv 2) (pa_cons (pv 5) pa_nil))) (pa_cons (pv 5) pa_nil)))))) (pg_name (i := 6) sclaw.nd rfl (Or.inl rfl)) (pss_one (ps_if (PW.pt (pw_or (pt_not (pt_val (pe_cal C__law_good hr (by decide) (by rfl) (pa_cons (pv 5) (pa_cons (pv 6) pa_nil))))) (pw_or1 (pt_not (pt_val (pe_cal C__law_good hr (by decide) (by rfl) (pa_cons (pv 6) (pa_cons (pv 5) pa_nil)))))))) (pss_one (ps_ret pe_bl)) pss_nil)))))))))) (pss_cons (ps_set (i := 7) sclaw.nd rfl (Or.inl rfl) (pe_lst (pa_cons (pe_tup (pa_cons (pe_tup (pa_cons pe_int (pa_cons pe_int pa_nil))) (pa_cons (pe_tup (pa_cons pe_int pa_nil)) pa_nil))) (pa_cons (pe_tup (pa_cons (pe_tup (pa_cons pe_int (pa_cons pe_int pa_nil))) (pa_cons (pe_tup (pa_cons pe_int pa_nil)) pa_nil))) (pa_cons (pe_tup (pa_cons (pe_tup (pa_cons pe_int pa_nil)) (pa_cons (pe_op op_repT (pe_tup (pa_cons pe_int pa_nil)) pe_int) pa_nil))) (pa_cons (pe_tup (pa_cons (pe_tup (pa_cons pe_int pa_nil)) (pa_cons (pe_tup (pa_cons pe_int (pa_cons pe_int pa_nil))) pa_nil))) pa_nil)))))) (pss_cons (ps_for PassesOwn.never rfl (pi_list (pe_op op_cat (pv 7) (pe_lst (pa_cons (pe_tup (pa_cons (pe_tup (pa_cons pe_int (pa_cons pe_int pa_nil))) (pa_cons (pe_tup (pa_cons pe_int pa_nil)) pa_nil))) (pa_cons (pe_tup (pa_cons (pe_tup (pa_cons pe_int (pa_cons pe_int pa_nil))) (pa_cons (pe_tup (pa_cons pe_int pa_nil)) pa_nil))) (pa_cons (pe_tup (pa_cons (pe_tup (pa_cons pe_int (pa_cons pe_int pa_nil))) (pa_cons (pe_tup (pa_cons pe_int pa_nil)) pa_nil))) pa_nil)))))) (pg_tup rfl (pgs_cons (pg_name (i := 5) sclaw.nd rfl (Or.inl rfl)) (pgs_cons (pg_name (i := 6) sclaw.nd rfl (Or.inl rfl)) pgs_nil))) (pss_one (ps_if (PW.pt (pw_or (pt_not (pt_val (pe_cal C__law_good hr (by decide) (by rfl) (pa_cons (pv 5) (pa_cons (pv 6) pa_nil))))) (pw_or1 (pt_not (pt_val (pe_cal C__law_good hr (by decide) (by rfl) (pa_cons (pv 6) (pa_cons (pv 5) pa_nil)))))))) (pss_one (ps_ret pe_bl)) pss_nil))) (pss_one (ps_ret (pe_and (pe_cal C__law_good hr (by decide) (by rfl) (pa_cons (pe_tup pa_nil) (pa_cons (pe_tup pa_nil) pa_nil))) (pe_and (pe_cal C__law_good hr (by decide) (by rfl) (pa_cons (pe_tup (pa_cons pe_int pa_nil)) (pa_cons (pe_tup (pa_cons pe_int (pa_cons pe_int pa_nil))) pa_nil))) (pe_one (pe_cal C__law_good hr (by decide) (by rfl) (pa_cons (pe_tup (pa_cons pe_int pa_nil)) (pa_cons (pe_op op_repT (pe_tup (pa_cons pe_int pa_nil)) pe_int) pa_nil))))))))))), bodyK h fun ns ds r hR => ?_⟩
  obtain ⟨rfl, h0, rfl⟩ := hR
  show Sv _ [.kl _ _, .un, .un, .un, .un, .un, .un, .un] _
  have hdum := h0
  refine sv_seq (sv_each (S := Unit) (b := false) (enc := .int) (ei_r1 (ea_d (ev_cb (ea_d (ev_cb (ea_d (ev_cb (ea_k (ev_k rfl) ea_nil) rc_lenK) (ea_d ev_int ea_nil)) rc_min2) (ea_d ev_int ea_nil)) rc_max2) ea_nil) (by first | decide | omega | assumption | (have hm := mem_rgI.mp (by assumption); omega) | (unfold L2.CMul; omega) | (unfold L2.CPow; decide) | (unfold L2.CMulW; decide +kernel) | (unfold L2.CDiv; omega) | (rw [rgI_len]; omega) | (exact lot_of (by decide +kernel)) | (simp; done) | (simp only [List.length_map, List.length_cons, List.length_nil, List.length_append]; omega))) (fun _ => True) (fun _ => [.kl K ns, .un, .un, .un, .un, .un, .un, .un]) () trivial (Wk.refl _) (fun _ _ x hx => ?_) fun _ _ => ?_)
  · have hm := mem_rgI.mp hx
    refine sv_seq (sv_asgL (b := false) (ev_lstm .int [_] (ea_d (ev_callS (ds := [_]) (ea_k (ev_k rfl) (ea_d (ev_var rfl) ea_nil)) ⟨_, rfl, (by first | decide | omega | assumption | (have hm := mem_rgI.mp (by assumption); omega) | (unfold L2.CMul; omega) | (unfold L2.CPow; decide) | (unfold L2.CMulW; decide +kernel) | (unfold L2.CDiv; omega) | (rw [rgI_len]; omega) | (exact lot_of (by decide +kernel)) | (simp; done) | (simp only [List.length_map, List.length_cons, List.length_nil, List.length_append]; omega)), rfl⟩) ea_nil) (Nat.le_of_ble_eq_true rfl)) fun p_own hp_own => ?_)
    show Sv _ [.kl _ _, .dat _, .mu _ _, .un, .un, .un, .un, .un] _
    refine sv_each (b := false) (enc := .int) (ei_r1 (ea_d ev_int ea_nil) (by decide)) (fun _ => True) (fun c : Int => [.kl K ns, .dat (.int x), .mu p_own [.int c], .un, .un, .un, .un, .un]) _ trivial (Wk.refl _) (fun c _ y hy => ?_) fun _ _ => ?_
    · have h4 : ∃ v, atI [(3 : Int), 9, 40, 130] (c % 4) = some v ∧ 0 < v ∧ v < 1000000000 := by
        have h1 := Int.emod_nonneg c (show (4 : Int) ≠ 0 by decide)
        have h2 := Int.emod_lt_of_pos c (show (0 : Int) < 4 by decide)
        generalize c % 4 = d at *
        have : d = 0 ∨ d = 1 ∨ d = 2 ∨ d = 3 := by omega
        rcases this with rfl | rfl | rfl | rfl
        · exact ⟨3, rfl, by decide⟩
        · exact ⟨9, rfl, by decide⟩
        · exact ⟨40, rfl, by decide⟩
        · exact ⟨130, rfl, by decide⟩
      obtain ⟨v, hv, hv2⟩ := h4
      refine sv_seq (sv_asg (b := true) (ev_op (ev_fz (ev_lstm .int [_, _, _, _] (ea_d ev_int (ea_d ev_int (ea_d ev_int (ea_d ev_int ea_nil)))) (Nat.le_of_ble_eq_true rfl))) (ev_callO0 (i := 2) (ds := [_]) (ea_o rfl (ea_d ev_int ea_nil)) rfl ⟨_, _, rfl, rfl, (by decide), rfl, rfl⟩) (o2_ixLm .int hv)) ?_)
      show Sv _ [.kl _ _, .dat _, .mu _ _, .dat _, .dat _, .un, .un, .un] _
      refine sv_seq (sv_asg (b := true) (ev_callO0 (i := 2) (ds := [_, _]) (ea_o rfl (ea_d ev_int (ea_d (ev_var rfl) ea_nil))) rfl ⟨_, _, _, rfl, rfl, (by decide), hv2, rfl, rfl⟩) ?_)
      show Sv _ [.kl _ _, .dat _, .mu _ _, .dat _, .dat _, .dat _, .un, .un] _
      have hone := lotV_lot (c := c / 4) (most := 15) (top := v) hv2.1 (by decide) (by decide)
      generalize lotV (c / 4) 15 v = one at hone
      refine sv_each (S := Unit) (b := true) (enc := eT .int) (ei_list (ev_fz (ev_lstm (eT .int) [_, _, _, _] (ea_d (ev_callO0 (i := 2) (ds := [_, _]) (ea_o rfl (ea_d ev_int (ea_d (ev_var rfl) ea_nil))) rfl ⟨_, _, _, rfl, rfl, (by decide), hv2, rfl, rfl⟩) (ea_d (ev_callO0 (i := 2) (ds := [_]) (ea_o rfl (ea_d (ev_var rfl) ea_nil)) rfl ⟨_, one, rfl, rfl, hone, rfl, rfl⟩) (ea_d (ev_callO0 (i := 2) (ds := [_]) (ea_o rfl (ea_d (ev_var rfl) ea_nil)) rfl ⟨_, one, rfl, rfl, hone, rfl, rfl⟩) (ea_d (ev_var rfl) ea_nil)))) (Nat.le_of_ble_eq_true rfl)))) (fun _ => True) (fun _ => [.kl K ns, .dat (.int x), .mu p_own [.int _], .un, .un, .dat (eT .int one), .un, .un]) () trivial ⟨.inr rfl, .inr rfl, .inr rfl, .inl rfl, .inl rfl, .inr rfl, .inr rfl, .inr rfl, trivial⟩ (fun _ _ z hz => ?_) fun _ _ => ?_
      · have hlz : Lot z := by
          simp only [List.mem_cons, List.not_mem_nil, or_false] at hz
          rcases hz with rfl | rfl | rfl | rfl
          · exact lotV_lot hv2.1 (by decide) (by decide)
          · exact near_lot hone
          · exact near_lot hone
          · exact hone
        refine sv_if (b := false) (et_or (et_not (et_B (ev_call0 (ds := [_, _]) (ea_d (ev_var rfl) (ea_d (ev_var rfl) ea_nil)) ⟨one, z, rfl, hone, hlz, rfl⟩))) fun _ => (et_not (et_B (ev_call0 (ds := [_, _]) (ea_d (ev_var rfl) (ea_d (ev_var rfl) ea_nil)) ⟨z, one, rfl, hlz, hone, rfl⟩)))) (fun hc => absurd hc (by decide)) (fun hc => ?_)
        exact sv_nx ⟨(), trivial, .inr rfl, .inr rfl, .inr rfl, .inl rfl, .inl rfl, .inr rfl, .inl rfl, .inr rfl, trivial⟩
      · exact ⟨_, trivial, .inr rfl, .inr rfl, .inr rfl, .inl rfl, .inl rfl, .inl rfl, .inl rfl, .inr rfl, trivial⟩
    · exact ⟨(), trivial, .inr rfl, .inl rfl, .inl rfl, .inl rfl, .inr rfl, .inr rfl, .inr rfl, .inr rfl, trivial⟩
  refine sv_seq (sv_asg (b := false) (ev_fz (ev_lstm (eP (eT .int) (eT .int)) [(_, _), (_, _), (_, _), (_, _)] (ea_d (ev_tup (ds := [_, _]) (ea_d (ev_tupm .int [_, _] (ea_d ev_int (ea_d ev_int ea_nil)) (Nat.le_of_ble_eq_true rfl)) (ea_d (ev_tupm .int [_] (ea_d ev_int ea_nil) (Nat.le_of_ble_eq_true rfl)) ea_nil)) (Nat.le_of_ble_eq_true rfl)) (ea_d (ev_tup (ds := [_, _]) (ea_d (ev_tupm .int [_, _] (ea_d ev_int (ea_d ev_int ea_nil)) (Nat.le_of_ble_eq_true rfl)) (ea_d (ev_tupm .int [_] (ea_d ev_int ea_nil) (Nat.le_of_ble_eq_true rfl)) ea_nil)) (Nat.le_of_ble_eq_true rfl)) (ea_d (ev_tup (ds := [_, _]) (ea_d (ev_tupm .int [_] (ea_d ev_int ea_nil) (Nat.le_of_ble_eq_true rfl)) (ea_d (ev_op (ev_tupm .int [_] (ea_d ev_int ea_nil) (Nat.le_of_ble_eq_true rfl)) ev_int (o2_repTm .int (by first | decide | omega | assumption | (have hm := mem_rgI.mp (by assumption); omega) | (unfold L2.CMul; omega) | (unfold L2.CPow; decide) | (unfold L2.CMulW; decide +kernel) | (unfold L2.CDiv; omega) | (rw [rgI_len]; omega) | (exact lot_of (by decide +kernel)) | (simp; done) | (simp only [List.length_map, List.length_cons, List.length_nil, List.length_append]; omega)) (by first | decide | omega | assumption | (have hm := mem_rgI.mp (by assumption); omega) | (unfold L2.CMul; omega) | (unfold L2.CPow; decide) | (unfold L2.CMulW; decide +kernel) | (unfold L2.CDiv; omega) | (rw [rgI_len]; omega) | (exact lot_of (by decide +kernel)) | (simp; done) | (simp only [List.length_map, List.length_cons, List.length_nil, List.length_append]; omega)))) ea_nil)) (Nat.le_of_ble_eq_true rfl)) (ea_d (ev_tup (ds := [_, _]) (ea_d (ev_tupm .int [_] (ea_d ev_int ea_nil) (Nat.le_of_ble_eq_true rfl)) (ea_d (ev_tupm .int [_, _] (ea_d ev_int (ea_d ev_int ea_nil)) (Nat.le_of_ble_eq_true rfl)) ea_nil)) (Nat.le_of_ble_eq_true rfl)) ea_nil)))) (Nat.le_of_ble_eq_true rfl))) ?_)
  show Sv _ [.kl _ _, .un, .un, .un, .un, .un, .un, .dat _] _
  refine sv_seq (sv_each2 (S := Unit) (b := false) (e1 := eT .int) (e2 := eT .int) (ei_list (ev_fz (ev_op (ev_var rfl) (ev_fz (ev_lstm (eP (eT .int) (eT .int)) [(_, _), (_, _), (_, _)] (ea_d (ev_tup (ds := [_, _]) (ea_d (ev_tupm .int [_, _] (ea_d ev_int (ea_d ev_int ea_nil)) (Nat.le_of_ble_eq_true rfl)) (ea_d (ev_tupm .int [_] (ea_d ev_int ea_nil) (Nat.le_of_ble_eq_true rfl)) ea_nil)) (Nat.le_of_ble_eq_true rfl)) (ea_d (ev_tup (ds := [_, _]) (ea_d (ev_tupm .int [_, _] (ea_d ev_int (ea_d ev_int ea_nil)) (Nat.le_of_ble_eq_true rfl)) (ea_d (ev_tupm .int [_] (ea_d ev_int ea_nil) (Nat.le_of_ble_eq_true rfl)) ea_nil)) (Nat.le_of_ble_eq_true rfl)) (ea_d (ev_tup (ds := [_, _]) (ea_d (ev_tupm .int [_, _] (ea_d ev_int (ea_d ev_int ea_nil)) (Nat.le_of_ble_eq_true rfl)) (ea_d (ev_tupm .int [_] (ea_d ev_int ea_nil) (Nat.le_of_ble_eq_true rfl)) ea_nil)) (Nat.le_of_ble_eq_true rfl)) ea_nil))) (Nat.le_of_ble_eq_true rfl))) (o2_catm (eP (eT .int) (eT .int)) (by first | decide | omega | assumption | (have hm := mem_rgI.mp (by assumption); omega) | (unfold L2.CMul; omega) | (unfold L2.CPow; decide) | (unfold L2.CMulW; decide +kernel) | (unfold L2.CDiv; omega) | (rw [rgI_len]; omega) | (exact lot_of (by decide +kernel)) | (simp; done) | (simp only [List.length_map, List.length_cons, List.length_nil, List.length_append]; omega)))))) (fun _ => True) (fun _ => [.kl K ns, .un, .un, .un, .un, .un, .un, .dat _]) () trivial (Wk.refl _) (fun _ _ z hz => ?_) fun _ _ => ?_)
  · obtain ⟨hz1, hz2⟩ := lots_all (by decide +kernel) z hz
    refine sv_if (b := false) (et_or (et_not (et_B (ev_call0 (ds := [_, _]) (ea_d (ev_var rfl) (ea_d (ev_var rfl) ea_nil)) ⟨_, _, rfl, hz1, hz2, rfl⟩))) fun _ => (et_not (et_B (ev_call0 (ds := [_, _]) (ea_d (ev_var rfl) (ea_d (ev_var rfl) ea_nil)) ⟨_, _, rfl, hz2, hz1, rfl⟩)))) (fun hc => absurd hc (by decide)) (fun hc => ?_)
    exact sv_nx ⟨(), trivial, .inr rfl, .inr rfl, .inr rfl, .inr rfl, .inr rfl, .inl rfl, .inl rfl, .inr rfl, trivial⟩
  refine sv_ret (b := false) (ev_and (ev_call0 (ds := [_, _]) (ea_d (ev_tupm .int [] ea_nil (by decide)) (ea_d (ev_tupm .int [] ea_nil (by decide)) ea_nil)) ⟨_, _, rfl, (by first | decide | omega | assumption | (have hm := mem_rgI.mp (by assumption); omega) | (unfold L2.CMul; omega) | (unfold L2.CPow; decide) | (unfold L2.CMulW; decide +kernel) | (unfold L2.CDiv; omega) | (rw [rgI_len]; omega) | (exact lot_of (by decide +kernel)) | (simp; done) | (simp only [List.length_map, List.length_cons, List.length_nil, List.length_append]; omega)), (by first | decide | omega | assumption | (have hm := mem_rgI.mp (by assumption); omega) | (unfold L2.CMul; omega) | (unfold L2.CPow; decide) | (unfold L2.CMulW; decide +kernel) | (unfold L2.CDiv; omega) | (rw [rgI_len]; omega) | (exact lot_of (by decide +kernel)) | (simp; done) | (simp only [List.length_map, List.length_cons, List.length_nil, List.length_append]; omega)), rfl⟩) fun _ => (ev_and (ev_call0 (ds := [_, _]) (ea_d (ev_tupm .int [_] (ea_d ev_int ea_nil) (Nat.le_of_ble_eq_true rfl)) (ea_d (ev_tupm .int [_, _] (ea_d ev_int (ea_d ev_int ea_nil)) (Nat.le_of_ble_eq_true rfl)) ea_nil)) ⟨_, _, rfl, (by first | decide | omega | assumption | (have hm := mem_rgI.mp (by assumption); omega) | (unfold L2.CMul; omega) | (unfold L2.CPow; decide) | (unfold L2.CMulW; decide +kernel) | (unfold L2.CDiv; omega) | (rw [rgI_len]; omega) | (exact lot_of (by decide +kernel)) | (simp; done) | (simp only [List.length_map, List.length_cons, List.length_nil, List.length_append]; omega)), (by first | decide | omega | assumption | (have hm := mem_rgI.mp (by assumption); omega) | (unfold L2.CMul; omega) | (unfold L2.CPow; decide) | (unfold L2.CMulW; decide +kernel) | (unfold L2.CDiv; omega) | (rw [rgI_len]; omega) | (exact lot_of (by decide +kernel)) | (simp; done) | (simp only [List.length_map, List.length_cons, List.length_nil, List.length_append]; omega)), rfl⟩) fun _ => (ev_call0 (ds := [_, _]) (ea_d (ev_tupm .int [_] (ea_d ev_int ea_nil) (Nat.le_of_ble_eq_true rfl)) (ea_d (ev_op (ev_tupm .int [_] (ea_d ev_int ea_nil) (Nat.le_of_ble_eq_true rfl)) ev_int (o2_repTm .int (by first | decide | omega | assumption | (have hm := mem_rgI.mp (by assumption); omega) | (unfold L2.CMul; omega) | (unfold L2.CPow; decide) | (unfold L2.CMulW; decide +kernel) | (unfold L2.CDiv; omega) | (rw [rgI_len]; omega) | (exact lot_of (by decide +kernel)) | (simp; done) | (simp only [List.length_map, List.length_cons, List.length_nil, List.length_append]; omega)) (by first | decide | omega | assumption | (have hm := mem_rgI.mp (by assumption); omega) | (unfold L2.CMul; omega) | (unfold L2.CPow; decide) | (unfold L2.CMulW; decide +kernel) | (unfold L2.CDiv; omega) | (rw [rgI_len]; omega) | (exact lot_of (by decide +kernel)) | (simp; done) | (simp only [List.length_map, List.length_cons, List.length_nil, List.length_append]; omega)))) ea_nil)) ⟨_, _, rfl, (by first | decide | omega | assumption | (have hm := mem_rgI.mp (by assumption); omega) | (unfold L2.CMul; omega) | (unfold L2.CPow; decide) | (unfold L2.CMulW; decide +kernel) | (unfold L2.CDiv; omega) | (rw [rgI_len]; omega) | (exact lot_of (by decide +kernel)) | (simp; done) | (simp only [List.length_map, List.length_cons, List.length_nil, List.length_append]; omega)), (by first | decide | omega | assumption | (have hm := mem_rgI.mp (by assumption); omega) | (unfold L2.CMul; omega) | (unfold L2.CPow; decide) | (unfold L2.CMulW; decide +kernel) | (unfold L2.CDiv; omega) | (rw [rgI_len]; omega) | (exact lot_of (by decide +kernel)) | (simp; done) | (simp only [List.length_map, List.length_cons, List.length_nil, List.length_append]; omega)), rfl⟩))) ?_
  all_goals rfl
end
set_option maxHeartbeats 0 in
theorem all_mk {l : PySem.W.OpenLaw} {w : World} {K : PySem.W.Frag} {h : Heap} {mg : Str → Option Value} {fa : Addr} (X : K.In h) (G : h.Ns mainGlobals mg) (hfa : mg "law" = some (.ref fa))
    {f0 : Addr} {od0 an0 : Option Addr} {sl0 : Array (Option Value)} {oc0 kV0 dc0 pm0 cd0 ct0 : Value} {f1 : Addr} {od1 an1 : Option Addr} {sl1 : Array (Option Value)} {oc1 kV1 dc1 pm1 cd1 ct1 : Value} {f2 : Addr} {od2 an2 : Option Addr} {sl2 : Array (Option Value)} {oc2 kV2 dc2 pm2 cd2 ct2 : Value} {f3 : Addr} {od3 an3 : Option Addr} {sl3 : Array (Option Value)} {oc3 kV3 dc3 pm3 cd3 ct3 : Value} {f4 : Addr} {od4 an4 : Option Addr} {sl4 : Array (Option Value)} {oc4 kV4 dc4 pm4 cd4 ct4 : Value} {f5 : Addr} {od5 an5 : Option Addr} {sl5 : Array (Option Value)} {oc5 kV5 dc5 pm5 cd5 ct5 : Value} {f6 : Addr} {od6 an6 : Option Addr} {sl6 : Array (Option Value)} {oc6 kV6 dc6 pm6 cd6 ct6 : Value} {f7 : Addr} {od7 an7 : Option Addr} {sl7 : Array (Option Value)} {oc7 kV7 dc7 pm7 cd7 ct7 : Value} {f8 : Addr} {od8 an8 : Option Addr} {sl8 : Array (Option Value)} {oc8 kV8 dc8 pm8 cd8 ct8 : Value} {f9 : Addr} {od9 an9 : Option Addr} {sl9 : Array (Option Value)} {oc9 kV9 dc9 pm9 cd9 ct9 : Value} {f10 : Addr} {od10 an10 : Option Addr} {sl10 : Array (Option Value)} {oc10 kV10 dc10 pm10 cd10 ct10 : Value} {f11 : Addr} {od11 an11 : Option Addr} {sl11 : Array (Option Value)} {oc11 kV11 dc11 pm11 cd11 ct11 : Value} {f12 : Addr} {od12 an12 : Option Addr} {sl12 : Array (Option Value)} {oc12 kV12 dc12 pm12 cd12 ct12 : Value} {f13 : Addr} {od13 an13 : Option Addr} {sl13 : Array (Option Value)} {oc13 kV13 dc13 pm13 cd13 ct13 : Value} {f14 : Addr} {od14 an14 : Option Addr} {sl14 : Array (Option Value)} {oc14 kV14 dc14 pm14 cd14 ct14 : Value} {f15 : Addr} {od15 an15 : Option Addr} {sl15 : Array (Option Value)} {oc15 kV15 dc15 pm15 cd15 ct15 : Value} {f16 : Addr} {od16 an16 : Option Addr} {sl16 : Array (Option Value)} {oc16 dc16 pm16 cd16 ct16 : Value} {f17 : Addr} {od17 an17 : Option Addr} {sl17 : Array (Option Value)} {oc17 kV17 dc17 pm17 cd17 ct17 : Value} {f18 : Addr} {od18 an18 : Option Addr} {sl18 : Array (Option Value)} {oc18 kV18 dc18 pm18 cd18 ct18 : Value} {f19 : Addr} {od19 an19 : Option Addr} {sl19 : Array (Option Value)} {oc19 kV19 dc19 pm19 cd19 ct19 : Value} {f20 : Addr} {od20 an20 : Option Addr} {sl20 : Array (Option Value)} {oc20 kV20 dc20 pm20 cd20 ct20 : Value} {f21 : Addr} {od21 an21 : Option Addr} {sl21 : Array (Option Value)} {oc21 kV21 dc21 pm21 cd21 ct21 : Value} {f22 : Addr} {od22 an22 : Option Addr} {sl22 : Array (Option Value)} {oc22 kV22 dc22 pm22 cd22 ct22 : Value} {f23 : Addr} {od23 an23 : Option Addr} {sl23 : Array (Option Value)} {oc23 kV23 dc23 pm23 cd23 ct23 : Value} {f24 : Addr} {od24 an24 : Option Addr} {sl24 : Array (Option Value)} {oc24 kV24 dc24 pm24 cd24 ct24 : Value}
    {t0 : Tok} {t1 : Tok}
    {D16 : Addr} {u16_0 : Tok}
    (a0 : PySem.W.nsIn K mainGlobals "is_integer" = some (some (.ref f0))) (l0 : K.lookup f0 = some ⟨oc0, od0, .func (PySem.W.fnOf "is_integer" "is_integer" (defArgs s_is_integer) (defBody s_is_integer) (defScope s_is_integer) .none kV0 dc0 pm0 an0 cd0 ct0), sl0⟩) (c0 : PySem.W.codeIn K cd0 "is_integer" = true) (k0 : PySem.W.keepIn K (.ref f0) = true)
    (a1 : PySem.W.nsIn K mainGlobals "fits" = some (some (.ref f1))) (l1 : K.lookup f1 = some ⟨oc1, od1, .func (PySem.W.fnOf "fits" "fits" (defArgs s_fits) (defBody s_fits) (defScope s_fits) .none kV1 dc1 pm1 an1 cd1 ct1), sl1⟩) (c1 : PySem.W.codeIn K cd1 "fits" = true) (k1 : PySem.W.keepIn K (.ref f1) = true)
    (a2 : PySem.W.nsIn K mainGlobals "is_lot" = some (some (.ref f2))) (l2 : K.lookup f2 = some ⟨oc2, od2, .func (PySem.W.fnOf "is_lot" "is_lot" (defArgs s_is_lot) (defBody s_is_lot) (defScope s_is_lot) .none kV2 dc2 pm2 an2 cd2 ct2), sl2⟩) (c2 : PySem.W.codeIn K cd2 "is_lot" = true) (k2 : PySem.W.keepIn K (.ref f2) = true)
    (a3 : PySem.W.nsIn K mainGlobals "check_lot" = some (some (.ref f3))) (l3 : K.lookup f3 = some ⟨oc3, od3, .func (PySem.W.fnOf "check_lot" "check_lot" (defArgs s_check_lot) (defBody s_check_lot) (defScope s_check_lot) .none kV3 dc3 pm3 an3 cd3 ct3), sl3⟩) (c3 : PySem.W.codeIn K cd3 "check_lot" = true) (k3 : PySem.W.keepIn K (.ref f3) = true)
    (a4 : PySem.W.nsIn K mainGlobals "sorted_lot" = some (some (.ref f4))) (l4 : K.lookup f4 = some ⟨oc4, od4, .func (PySem.W.fnOf "sorted_lot" "sorted_lot" (defArgs s_sorted_lot) (defBody s_sorted_lot) (defScope s_sorted_lot) .none kV4 dc4 pm4 an4 cd4 ct4), sl4⟩) (c4 : PySem.W.codeIn K cd4 "sorted_lot" = true) (k4 : PySem.W.keepIn K (.ref f4) = true)
    (a5 : PySem.W.nsIn K mainGlobals "capacity_of" = some (some (.ref f5))) (l5 : K.lookup f5 = some ⟨oc5, od5, .func (PySem.W.fnOf "capacity_of" "capacity_of" (defArgs s_capacity_of) (defBody s_capacity_of) (defScope s_capacity_of) .none kV5 dc5 pm5 an5 cd5 ct5), sl5⟩) (c5 : PySem.W.codeIn K cd5 "capacity_of" = true) (k5 : PySem.W.keepIn K (.ref f5) = true)
    (a6 : PySem.W.nsIn K mainGlobals "gap_of" = some (some (.ref f6))) (l6 : K.lookup f6 = some ⟨oc6, od6, .func (PySem.W.fnOf "gap_of" "gap_of" (defArgs s_gap_of) (defBody s_gap_of) (defScope s_gap_of) .none kV6 dc6 pm6 an6 cd6 ct6), sl6⟩) (c6 : PySem.W.codeIn K cd6 "gap_of" = true) (k6 : PySem.W.keepIn K (.ref f6) = true)
    (a7 : PySem.W.nsIn K mainGlobals "covers" = some (some (.ref f7))) (l7 : K.lookup f7 = some ⟨oc7, od7, .func (PySem.W.fnOf "covers" "covers" (defArgs s_covers) (defBody s_covers) (defScope s_covers) .none kV7 dc7 pm7 an7 cd7 ct7), sl7⟩) (c7 : PySem.W.codeIn K cd7 "covers" = true) (k7 : PySem.W.keepIn K (.ref f7) = true)
    (a8 : PySem.W.nsIn K mainGlobals "gap" = some (some (.ref f8))) (l8 : K.lookup f8 = some ⟨oc8, od8, .func (PySem.W.fnOf "gap" "gap" (defArgs s_gap) (defBody s_gap) (defScope s_gap) .none kV8 dc8 pm8 an8 cd8 ct8), sl8⟩) (c8 : PySem.W.codeIn K cd8 "gap" = true) (k8 : PySem.W.keepIn K (.ref f8) = true)
    (a9 : PySem.W.nsIn K mainGlobals "parting_row" = some (some (.ref f9))) (l9 : K.lookup f9 = some ⟨oc9, od9, .func (PySem.W.fnOf "parting_row" "parting_row" (defArgs s_parting_row) (defBody s_parting_row) (defScope s_parting_row) .none kV9 dc9 pm9 an9 cd9 ct9), sl9⟩) (c9 : PySem.W.codeIn K cd9 "parting_row" = true) (k9 : PySem.W.keepIn K (.ref f9) = true)
    (a10 : PySem.W.nsIn K mainGlobals "is_row" = some (some (.ref f10))) (l10 : K.lookup f10 = some ⟨oc10, od10, .func (PySem.W.fnOf "is_row" "is_row" (defArgs s_is_row) (defBody s_is_row) (defScope s_is_row) .none kV10 dc10 pm10 an10 cd10 ct10), sl10⟩) (c10 : PySem.W.codeIn K cd10 "is_row" = true) (k10 : PySem.W.keepIn K (.ref f10) = true)
    (a11 : PySem.W.nsIn K mainGlobals "check_row" = some (some (.ref f11))) (l11 : K.lookup f11 = some ⟨oc11, od11, .func (PySem.W.fnOf "check_row" "check_row" (defArgs s_check_row) (defBody s_check_row) (defScope s_check_row) .none kV11 dc11 pm11 an11 cd11 ct11), sl11⟩) (c11 : PySem.W.codeIn K cd11 "check_row" = true) (k11 : PySem.W.keepIn K (.ref f11) = true)
    (a12 : PySem.W.nsIn K mainGlobals "worn" = some (some (.ref f12))) (l12 : K.lookup f12 = some ⟨oc12, od12, .func (PySem.W.fnOf "worn" "worn" (defArgs s_worn) (defBody s_worn) (defScope s_worn) .none kV12 dc12 pm12 an12 cd12 ct12), sl12⟩) (c12 : PySem.W.codeIn K cd12 "worn" = true) (k12 : PySem.W.keepIn K (.ref f12) = true)
    (a13 : PySem.W.nsIn K mainGlobals "suitable" = some (some (.ref f13))) (l13 : K.lookup f13 = some ⟨oc13, od13, .func (PySem.W.fnOf "suitable" "suitable" (defArgs s_suitable) (defBody s_suitable) (defScope s_suitable) .none kV13 dc13 pm13 an13 cd13 ct13), sl13⟩) (c13 : PySem.W.codeIn K cd13 "suitable" = true) (k13 : PySem.W.keepIn K (.ref f13) = true)
    (a14 : PySem.W.nsIn K mainGlobals "check_by" = some (some (.ref f14))) (l14 : K.lookup f14 = some ⟨oc14, od14, .func (PySem.W.fnOf "check_by" "check_by" (defArgs s_check_by) (defBody s_check_by) (defScope s_check_by) .none kV14 dc14 pm14 an14 cd14 ct14), sl14⟩) (c14 : PySem.W.codeIn K cd14 "check_by" = true) (k14 : PySem.W.keepIn K (.ref f14) = true)
    (a15 : PySem.W.nsIn K mainGlobals "served" = some (some (.ref f15))) (l15 : K.lookup f15 = some ⟨oc15, od15, .func (PySem.W.fnOf "served" "served" (defArgs s_served) (defBody s_served) (defScope s_served) .none kV15 dc15 pm15 an15 cd15 ct15), sl15⟩) (c15 : PySem.W.codeIn K cd15 "served" = true) (k15 : PySem.W.keepIn K (.ref f15) = true)
    (a16 : PySem.W.nsIn K mainGlobals "serve" = some (some (.ref f16))) (l16 : K.lookup f16 = some ⟨oc16, od16, .func (PySem.W.fnOf "serve" "serve" (defArgs s_serve) (defBody s_serve) (defScope s_serve) .none (.ref D16) dc16 pm16 an16 cd16 ct16), sl16⟩) (c16 : PySem.W.codeIn K cd16 "serve" = true) (k16 : PySem.W.keepIn K (.ref f16) = true)
    (q16_0 : PySem.W.nsIn K D16 "by" = some (some (.str "dullest" u16_0)))
    (a17 : PySem.W.nsIn K mainGlobals "_law_mixed" = some (some (.ref f17))) (l17 : K.lookup f17 = some ⟨oc17, od17, .func (PySem.W.fnOf "_law_mixed" "_law_mixed" (defArgs s_law_mixed) (defBody s_law_mixed) (defScope s_law_mixed) .none kV17 dc17 pm17 an17 cd17 ct17), sl17⟩) (c17 : PySem.W.codeIn K cd17 "_law_mixed" = true) (k17 : PySem.W.keepIn K (.ref f17) = true)
    (a18 : PySem.W.nsIn K mainGlobals "_law_cell" = some (some (.ref f18))) (l18 : K.lookup f18 = some ⟨oc18, od18, .func (PySem.W.fnOf "_law_cell" "_law_cell" (defArgs s_law_cell) (defBody s_law_cell) (defScope s_law_cell) .none kV18 dc18 pm18 an18 cd18 ct18), sl18⟩) (c18 : PySem.W.codeIn K cd18 "_law_cell" = true) (k18 : PySem.W.keepIn K (.ref f18) = true)
    (a19 : PySem.W.nsIn K mainGlobals "_law_take" = some (some (.ref f19))) (l19 : K.lookup f19 = some ⟨oc19, od19, .func (PySem.W.fnOf "_law_take" "_law_take" (defArgs s_law_take) (defBody s_law_take) (defScope s_law_take) .none kV19 dc19 pm19 an19 cd19 ct19), sl19⟩) (c19 : PySem.W.codeIn K cd19 "_law_take" = true) (k19 : PySem.W.keepIn K (.ref f19) = true)
    (a20 : PySem.W.nsIn K mainGlobals "_law_lot" = some (some (.ref f20))) (l20 : K.lookup f20 = some ⟨oc20, od20, .func (PySem.W.fnOf "_law_lot" "_law_lot" (defArgs s_law_lot) (defBody s_law_lot) (defScope s_law_lot) .none kV20 dc20 pm20 an20 cd20 ct20), sl20⟩) (c20 : PySem.W.codeIn K cd20 "_law_lot" = true) (k20 : PySem.W.keepIn K (.ref f20) = true)
    (a21 : PySem.W.nsIn K mainGlobals "_law_capacity" = some (some (.ref f21))) (l21 : K.lookup f21 = some ⟨oc21, od21, .func (PySem.W.fnOf "_law_capacity" "_law_capacity" (defArgs s_law_capacity) (defBody s_law_capacity) (defScope s_law_capacity) .none kV21 dc21 pm21 an21 cd21 ct21), sl21⟩) (c21 : PySem.W.codeIn K cd21 "_law_capacity" = true) (k21 : PySem.W.keepIn K (.ref f21) = true)
    (a22 : PySem.W.nsIn K mainGlobals "_law_near" = some (some (.ref f22))) (l22 : K.lookup f22 = some ⟨oc22, od22, .func (PySem.W.fnOf "_law_near" "_law_near" (defArgs s_law_near) (defBody s_law_near) (defScope s_law_near) .none kV22 dc22 pm22 an22 cd22 ct22), sl22⟩) (c22 : PySem.W.codeIn K cd22 "_law_near" = true) (k22 : PySem.W.keepIn K (.ref f22) = true)
    (a23 : PySem.W.nsIn K mainGlobals "_law_good" = some (some (.ref f23))) (l23 : K.lookup f23 = some ⟨oc23, od23, .func (PySem.W.fnOf "_law_good" "_law_good" (defArgs s_law_good) (defBody s_law_good) (defScope s_law_good) .none kV23 dc23 pm23 an23 cd23 ct23), sl23⟩) (c23 : PySem.W.codeIn K cd23 "_law_good" = true) (k23 : PySem.W.keepIn K (.ref f23) = true)
    (a24 : PySem.W.nsIn K mainGlobals "law" = some (some (.ref f24))) (l24 : K.lookup f24 = some ⟨oc24, od24, .func (PySem.W.fnOf "law" "law" (defArgs s_law) (defBody s_law) (defScope s_law) .none kV24 dc24 pm24 an24 cd24 ct24), sl24⟩) (c24 : PySem.W.codeIn K cd24 "law" = true) (k24 : PySem.W.keepIn K (.ref f24) = true)
    (z0 : PySem.W.nsIn K mainGlobals "all" = some none)
    (z1 : PySem.W.nsIn K mainGlobals "bool" = some none)
    (z2 : PySem.W.nsIn K mainGlobals "int" = some none)
    (z3 : PySem.W.nsIn K mainGlobals "isinstance" = some none)
    (z4 : PySem.W.nsIn K mainGlobals "len" = some none)
    (z5 : PySem.W.nsIn K mainGlobals "list" = some none)
    (z6 : PySem.W.nsIn K mainGlobals "max" = some none)
    (z7 : PySem.W.nsIn K mainGlobals "min" = some none)
    (z8 : PySem.W.nsIn K mainGlobals "range" = some none)
    (z9 : PySem.W.nsIn K mainGlobals "sorted" = some none)
    (z10 : PySem.W.nsIn K mainGlobals "sum" = some none)
    (z11 : PySem.W.nsIn K mainGlobals "tuple" = some none)
    (z12 : PySem.W.nsIn K mainGlobals "zip" = some none)
    (v0 : PySem.W.nsIn K mainGlobals "LIMIT" = some (some (.int 200 t0)))
    (v1 : PySem.W.nsIn K mainGlobals "MOST_TOOLS" = some (some (.int 60 t1))) :
    ∃ fd : FuncData, (∀ (s : Shared) (v : Value), BindsTo s fd ⟨[v], []⟩ [("script", v)]) ∧ ∀ base : Heap, K.In base → base.Ns mainGlobals mg → FnOk l.prog w K mg base CX0 7 fa fd ["script"] (spK K R_law) := by
  have e := hfa.symm.trans (PySem.W.mg_of X G a24)
  cases e
  have F0 := fun_mk (st := s_is_integer) l0 c0 k0
  have F1 := fun_mk (st := s_fits) l1 c1 k1
  have F2 := fun_mk (st := s_is_lot) l2 c2 k2
  have F3 := fun_mk (st := s_check_lot) l3 c3 k3
  have F4 := fun_mk (st := s_sorted_lot) l4 c4 k4
  have F5 := fun_mk (st := s_capacity_of) l5 c5 k5
  have F6 := fun_mk (st := s_gap_of) l6 c6 k6
  have F7 := fun_mk (st := s_covers) l7 c7 k7
  have F8 := fun_mk (st := s_gap) l8 c8 k8
  have F9 := fun_mk (st := s_parting_row) l9 c9 k9
  have F10 := fun_mk (st := s_is_row) l10 c10 k10
  have F11 := fun_mk (st := s_check_row) l11 c11 k11
  have F12 := fun_mk (st := s_worn) l12 c12 k12
  have F13 := fun_mk (st := s_suitable) l13 c13 k13
  have F14 := fun_mk (st := s_check_by) l14 c14 k14
  have F15 := fun_mk (st := s_served) l15 c15 k15
  have F16 := fun_mk (st := s_serve) l16 c16 k16
  have F17 := fun_mk (st := s_law_mixed) l17 c17 k17
  have F18 := fun_mk (st := s_law_cell) l18 c18 k18
  have F19 := fun_mk (st := s_law_take) l19 c19 k19
  have F20 := fun_mk (st := s_law_lot) l20 c20 k20
  have F21 := fun_mk (st := s_law_capacity) l21 c21 k21
  have F22 := fun_mk (st := s_law_near) l22 c22 k22
  have F23 := fun_mk (st := s_law_good) l23 c23 k23
  have F24 := fun_mk (st := s_law) l24 c24 k24
  have T : Txt mg := ⟨PySem.W.mg_none_of X G z0, PySem.W.mg_none_of X G z1, PySem.W.mg_none_of X G z2, PySem.W.mg_none_of X G z3, PySem.W.mg_none_of X G z4, PySem.W.mg_none_of X G z5, PySem.W.mg_none_of X G z6, PySem.W.mg_none_of X G z7, PySem.W.mg_none_of X G z8, PySem.W.mg_none_of X G z9, PySem.W.mg_none_of X G z10, PySem.W.mg_none_of X G z11, PySem.W.mg_none_of X G z12, ⟨_, PySem.W.mg_of X G v0, ⟨_, rfl⟩⟩, ⟨_, PySem.W.mg_of X G v1, ⟨_, rfl⟩⟩⟩
  refine ⟨PySem.W.fnOf "law" "law" (defArgs s_law) (defBody s_law) (defScope s_law) .none kV24 dc24 pm24 an24 cd24 ct24, fun s v => .of_eq rfl, fun base _ _ => ?_⟩
  have C0 := ok_is_integer (P := l.prog) (w := w) (base := base) F0 (PySem.W.mg_of X G a0) T
  have C1 := ok_fits (P := l.prog) (w := w) (base := base) F1 (PySem.W.mg_of X G a1) T
  have C2 := ok_is_lot (P := l.prog) (w := w) (base := base) F2 (PySem.W.mg_of X G a2) T C0 C1
  have C3 := ok_check_lot (P := l.prog) (w := w) (base := base) F3 (PySem.W.mg_of X G a3) T C2
  have C4 := ok_sorted_lot (P := l.prog) (w := w) (base := base) F4 (PySem.W.mg_of X G a4) T
  have C5 := ok_capacity_of (P := l.prog) (w := w) (base := base) F5 (PySem.W.mg_of X G a5) T
  have C6 := ok_gap_of (P := l.prog) (w := w) (base := base) F6 (PySem.W.mg_of X G a6) T C5
  have C7 := ok_covers (P := l.prog) (w := w) (base := base) F7 (PySem.W.mg_of X G a7) T C3 C6
  have C8 := ok_gap (P := l.prog) (w := w) (base := base) F8 (PySem.W.mg_of X G a8) T C3 C6
  have C9 := ok_parting_row (P := l.prog) (w := w) (base := base) F9 (PySem.W.mg_of X G a9) T C5 C8
  have C10 := ok_is_row (P := l.prog) (w := w) (base := base) F10 (PySem.W.mg_of X G a10) T C0
  have C11 := ok_check_row (P := l.prog) (w := w) (base := base) F11 (PySem.W.mg_of X G a11) T C10
  have C12 := ok_worn (P := l.prog) (w := w) (base := base) F12 (PySem.W.mg_of X G a12) T C4
  have C13 := ok_suitable (P := l.prog) (w := w) (base := base) F13 (PySem.W.mg_of X G a13) T
  have C14 := ok_check_by (P := l.prog) (w := w) (base := base) F14 (PySem.W.mg_of X G a14) T
  have C15 := ok_served (P := l.prog) (w := w) (base := base) F15 (PySem.W.mg_of X G a15) T C12 C13
  have D_16 : FunD K "serve" "serve" (defArgs s_serve) (defBody s_serve) (defScope s_serve) [] [("by", .str "dullest")] f16 _ := ⟨⟨_, _, _, _, _, _, _, _, _, _, rfl, l16, c16, .inl ⟨rfl, rfl⟩, .inr ⟨D16, rfl, fun q hq => by
    rw [List.mem_singleton.mp hq]; exact ⟨_, q16_0, ⟨_, rfl⟩⟩⟩⟩, k16⟩
  have hb16 := D_16.binds0 (ps := ["lot", "row", "by"]) 2 (by simp) (by simp) fun _ _ _ _ _ _ us ks h1 h2 => match us, ks, h1, h2 with | [_, _], [_], _, _ => ⟨_, _, _, _, _, _, rfl, rfl, rfl⟩
  have C16 := ok_serve (P := l.prog) (w := w) (base := base) F16 (PySem.W.mg_of X G a16) T hb16 C3 C11 C14 C15
  have C17 := ok__law_mixed (P := l.prog) (w := w) (base := base) F17 (PySem.W.mg_of X G a17) T
  have C18 := ok__law_cell (P := l.prog) (w := w) (base := base) F18 (PySem.W.mg_of X G a18) T C17
  have C19 := ok__law_take (P := l.prog) (w := w) (base := base) F19 (PySem.W.mg_of X G a19) T
  have C20 := ok__law_lot (P := l.prog) (w := w) (base := base) F20 (PySem.W.mg_of X G a20) T C19
  have C21 := ok__law_capacity (P := l.prog) (w := w) (base := base) F21 (PySem.W.mg_of X G a21) T
  have C22 := ok__law_near (P := l.prog) (w := w) (base := base) F22 (PySem.W.mg_of X G a22) T C19
  have C23 := ok__law_good (P := l.prog) (w := w) (base := base) F23 (PySem.W.mg_of X G a23) T C7 C8 C9 C16 C21 F7 F8 F9
  have C24 := ok_law (P := l.prog) (w := w) (base := base) F24 (PySem.W.mg_of X G a24) T C18 C19 C20 C22 C23
  exact C24.g
end Kn
open PySem PySem.W PyProof.Rows
set_option maxRecDepth 100000 in
set_option maxHeartbeats 0 in
theorem PySem.Challenge.cw_keenlot_k20_covers_gap_and_parting_row_holds : PySem.Challenge.rw_keenlot_k20_covers_gap_and_parting_row.Holds := by
  w_on; o_law; k_head; (case hw => w_witness2)
  k_fill
  refine L2.walk_ofK (l := PySem.Challenge.rw_keenlot_k20_covers_gap_and_parting_row) (n := 63) (k := 7) (x := "script") (CX := L2.CX0) (sp := fun K => Kn.spK K Kn.R_law) rfl (by decide) rfl ⟨rfl, by decide, by decide⟩ (fun w h Y => PySem.W.kIn_of Y) ?F (fun K H a ns hl _ hS => Kn.law_start K H a ns hl hS) (fun _ _ _ _ h => h)
  case F =>
    intro w mg fa h KX G hmg
    refine' Kn.all_mk KX G hmg ?a0 ?l0 ?c0 ?k0 ?a1 ?l1 ?c1 ?k1 ?a2 ?l2 ?c2 ?k2 ?a3 ?l3 ?c3 ?k3 ?a4 ?l4 ?c4 ?k4 ?a5 ?l5 ?c5 ?k5 ?a6 ?l6 ?c6 ?k6 ?a7 ?l7 ?c7 ?k7 ?a8 ?l8 ?c8 ?k8 ?a9 ?l9 ?c9 ?k9 ?a10 ?l10 ?c10 ?k10 ?a11 ?l11 ?c11 ?k11 ?a12 ?l12 ?c12 ?k12 ?a13 ?l13 ?c13 ?k13 ?a14 ?l14 ?c14 ?k14 ?a15 ?l15 ?c15 ?k15 ?a16 ?l16 ?c16 ?k16 ?q16_0 ?a17 ?l17 ?c17 ?k17 ?a18 ?l18 ?c18 ?k18 ?a19 ?l19 ?c19 ?k19 ?a20 ?l20 ?c20 ?k20 ?a21 ?l21 ?c21 ?k21 ?a22 ?l22 ?c22 ?k22 ?a23 ?l23 ?c23 ?k23 ?a24 ?l24 ?c24 ?k24 ?z0 ?z1 ?z2 ?z3 ?z4 ?z5 ?z6 ?z7 ?z8 ?z9 ?z10 ?z11 ?z12 ?v0 ?v1
    (case a0 => k_is); (case l0 => k_is); (case c0 => k_is); (case k0 => k_is); (case a1 => k_is); (case l1 => k_is); (case c1 => k_is); (case k1 => k_is); (case a2 => k_is); (case l2 => k_is); (case c2 => k_is); (case k2 => k_is); (case a3 => k_is); (case l3 => k_is); (case c3 => k_is); (case k3 => k_is); (case a4 => k_is); (case l4 => k_is); (case c4 => k_is); (case k4 => k_is); (case a5 => k_is); (case l5 => k_is); (case c5 => k_is); (case k5 => k_is); (case a6 => k_is); (case l6 => k_is); (case c6 => k_is); (case k6 => k_is); (case a7 => k_is); (case l7 => k_is); (case c7 => k_is); (case k7 => k_is); (case a8 => k_is); (case l8 => k_is); (case c8 => k_is); (case k8 => k_is); (case a9 => k_is); (case l9 => k_is); (case c9 => k_is); (case k9 => k_is); (case a10 => k_is); (case l10 => k_is); (case c10 => k_is); (case k10 => k_is); (case a11 => k_is); (case l11 => k_is); (case c11 => k_is); (case k11 => k_is); (case a12 => k_is); (case l12 => k_is); (case c12 => k_is); (case k12 => k_is); (case a13 => k_is); (case l13 => k_is); (case c13 => k_is); (case k13 => k_is); (case a14 => k_is); (case l14 => k_is); (case c14 => k_is); (case k14 => k_is); (case a15 => k_is); (case l15 => k_is); (case c15 => k_is); (case k15 => k_is); (case a16 => k_is); (case l16 => k_is); (case c16 => k_is); (case k16 => k_is); (case q16_0 => k_is); (case a17 => k_is); (case l17 => k_is); (case c17 => k_is); (case k17 => k_is); (case a18 => k_is); (case l18 => k_is); (case c18 => k_is); (case k18 => k_is); (case a19 => k_is); (case l19 => k_is); (case c19 => k_is); (case k19 => k_is); (case a20 => k_is); (case l20 => k_is); (case c20 => k_is); (case k20 => k_is); (case a21 => k_is); (case l21 => k_is); (case c21 => k_is); (case k21 => k_is); (case a22 => k_is); (case l22 => k_is); (case c22 => k_is); (case k22 => k_is); (case a23 => k_is); (case l23 => k_is); (case c23 => k_is); (case k23 => k_is); (case a24 => k_is); (case l24 => k_is); (case c24 => k_is); (case k24 => k_is); (case z0 => k_is); (case z1 => k_is); (case z2 => k_is); (case z3 => k_is); (case z4 => k_is); (case z5 => k_is); (case z6 => k_is); (case z7 => k_is); (case z8 => k_is); (case z9 => k_is); (case z10 => k_is); (case z11 => k_is); (case z12 => k_is); (case v0 => k_is); (case v1 => k_is)

