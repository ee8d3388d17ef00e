import PyProof.Rows.All
import HandS.ForMost
import HandS.Exc
import HandS.ExcIs
import HandS.ExcField
import HandS.ExcInit
import HandS.ExcOwn
import HandS.CallSlots
import HandS.TryMany
import HandS.TryOnly
import HandS.SuiteRaise
import HandS.WordsExc
import HandS.Style
import HandS.TupAny
import HandS.Zip
import HandS.Wide
import HandS.More
import HandS.SetFor
import HandS.SortInts
import HandS.SortKw
import HandS.IsInst
import HandS.Conv
import HandS.Defaults
import HandS.TupMul
import HandS.Deep
import HandS.DictComp
import PyProof.Rows.SortShellAny
import HandS.Strs
import HandS.Flow
import KE.KExcIs
import HandS.MakeKwOnly
import KE.SortData
import KE.KDictWalk
import KE.KDictDisplayH
import KE.KDictSum
import PySem.Challenge.RW_keenlot_k61_covered_lots_counted
set_option Elab.async false
set_option linter.all false
set_option maxRecDepth 100000
set_option maxHeartbeats 4000000
namespace Kn
open PySem L2

/-! heaps -/
def Ex (H H' : Hp) : Prop := ∀ a o, H a = some o → H' a = some o
theorem Ex.refl (H : Hp) : Ex H H := fun _ _ h => h
theorem Ex.trans {H H1 H2 : Hp} (a : Ex H H1) (b : Ex H1 H2) : Ex H H2 := fun x o h => b x o (a x o h)
theorem Ex.new {H : Hp} {p : Addr} {o : HO} (h : H p = none) : Ex H (upd H p o) := fun a u e => by
  rw [upd_ne (ne_of_none e h)]; exact e
theorem Ex.rd {H H' : Hp} {a : Addr} {u : HO} (e : Ex H H') (h : Rd H a u) : Rd H' a u := by
  rcases h with h | ⟨o, h⟩
  · exact Or.inl (e a _ h)
  · exact Or.inr ⟨o, e a _ h⟩
theorem Ex.sl {K : PySem.W.Frag} {H H' : Hp} {a : Addr} {xs : List V} (e : Ex H H') (h : SqL K H a xs) : SqL K H' a xs := by
  rcases h with h | h
  · exact Or.inl (e.rd h)
  · exact Or.inr h
theorem Ex.st {K : PySem.W.Frag} {H H' : Hp} {a : Addr} {xs : List V} (e : Ex H H') (h : SqT K H a xs) : SqT K H' a xs := by
  rcases h with h | h
  · exact Or.inl (e.rd h)
  · exact Or.inr h
theorem Ex.none {H H' : Hp} {p : Addr} (e : Ex H H') (h : H' p = Option.none) : H p = Option.none := by
  cases h1 : H p with
  | none => rfl
  | some o => rw [e p o h1] at h; cases h


/-- an exception that was caught, of the class at C, its dict at d -/
def ExcO (a C : Addr) (d : Option Addr) : HO := .ext fun h => ∃ (oe : Obj) (vs : Array Value), h.get? a = some oe ∧ Zc (.ref C) d oe ∧ oe.data = .fields vs
/-! v stands for the data d in the world G -/
mutual
inductive Dq (G : Hp) : V → PyData → Prop
  | non : Dq G .non .none
  | bl (b : Bool) : Dq G (.bl b) (.bool b)
  | int (i : Int) : Dq G (.int i) (.int i)
  | str (x : Str) : Dq G (.str x) (.str x)
  | lst {a : Addr} {xs : List V} {ds : List PyData} : G a = some (.lst xs) → DqA G xs ds → Dq G (.ref a) (.list ds)
  | tup {a : Addr} {xs : List V} {ds : List PyData} : G a = some (.tup xs) → DqA G xs ds → Dq G (.ref a) (.tuple ds)
  | exc {a C : Addr} {n : Str} : G a = some (ExcO a C none) → Dq G (.ref a) (.dict [(.str n, .int C)])
  | excF {a C d : Addr} {ws : List (Str × V)} {n : Str} {fs : List (PyData × PyData)} : G a = some (ExcO a C (some d)) → G d = some (.xd ws) → DqF G ws fs → Dq G (.ref a) (.dict ((.str n, .int C) :: fs))
inductive DqA (G : Hp) : List V → List PyData → Prop
  | nil : DqA G [] []
  | cons {v : V} {vs : List V} {d : PyData} {ds : List PyData} : Dq G v d → DqA G vs ds → DqA G (v :: vs) (d :: ds)
inductive DqF (G : Hp) : List (Str × V) → List (PyData × PyData) → Prop
  | nil : DqF G [] []
  | cons {f : Str} {v : V} {d : PyData} {ws : List (Str × V)} {fs : List (PyData × PyData)} : Dq G v d → DqF G ws fs → DqF G ((f, v) :: ws) ((.str f, d) :: fs)
end
mutual
theorem dq_mono {H H' : Hp} (e : Ex H H') : ∀ {v : V} {d : PyData}, Dq H v d → Dq H' v d
  | _, _, .non => .non
  | _, _, .bl b => .bl b
  | _, _, .int i => .int i
  | _, _, .str x => .str x
  | _, _, .lst h hs => .lst (e _ _ h) (dqs_mono e hs)
  | _, _, .tup h hs => .tup (e _ _ h) (dqs_mono e hs)
  | _, _, .exc h => .exc (e _ _ h)
  | _, _, .excF h k hs => .excF (e _ _ h) (e _ _ k) (dqf_mono e hs)
theorem dqs_mono {H H' : Hp} (e : Ex H H') : ∀ {vs : List V} {ds : List PyData}, DqA H vs ds → DqA H' vs ds
  | _, _, .nil => .nil
  | _, _, .cons h t => .cons (dq_mono e h) (dqs_mono e t)
theorem dqf_mono {H H' : Hp} (e : Ex H H') : ∀ {ws : List (Str × V)} {fs : List (PyData × PyData)}, DqF H ws fs → DqF H' ws fs
  | _, _, .nil => .nil
  | _, _, .cons h t => .cons (dq_mono e h) (dqf_mono e t)
end
mutual
theorem dq_dp {K : PySem.W.Frag} {H : Hp} : ∀ {v : V} {d : PyData}, Dq H v d → d.canLay0 = true → Dp K H v d
  | _, _, .non, _ => .non
  | _, _, .bl b, _ => .bl b
  | _, _, .int i, _ => .int i
  | _, _, .str x, _ => .str x
  | _, _, .lst h hs, z => .lst (.inl (.inl h)) (dqs_dp hs (by simpa [PyData.canLay0] using z))
  | _, _, .tup h hs, z => .tup (.inl (.inl h)) (dqs_dp hs (by simpa [PyData.canLay0] using z))
  | _, _, .exc h, z => by simp [PyData.canLay0] at z
  | _, _, .excF h _ _, z => by simp [PyData.canLay0] at z
theorem dqs_dp {K : PySem.W.Frag} {H : Hp} : ∀ {vs : List V} {ds : List PyData}, DqA H vs ds → PyData.canLayAll0 ds = true → DpAll K H vs ds
  | _, _, .nil, _ => .nil
  | _, _, .cons (d := d) (ds := ds) h t, z => by
    have z' : d.canLay0 = true ∧ PyData.canLayAll0 ds = true := by simpa [PyData.canLayAll0] using z
    exact .cons (dq_dp h z'.1) (dqs_dp t z'.2)
end
theorem DqA.len {H : Hp} : ∀ {vs : List V} {ds : List PyData}, DqA H vs ds → vs.length = ds.length
  | _, _, .nil => rfl
  | _, _, .cons _ t => by simp [DqA.len t]
theorem DqA.get {H : Hp} : ∀ {vs : List V} {ds : List PyData} {i : Nat} {v : V}, DqA H vs ds → vs[i]? = some v → ∃ d, ds[i]? = some d ∧ Dq H v d
  | _, _, _, _, .nil, e => by simp at e
  | _, _, 0, _, .cons h _, e => by simp at e; subst e; exact ⟨_, rfl, h⟩
  | _, _, i + 1, v, .cons _ t, e => by
    obtain ⟨d, h1, h2⟩ := DqA.get (i := i) (v := v) t (by simpa using e)
    exact ⟨d, by simpa using h1, h2⟩
theorem DqA.get' {H : Hp} : ∀ {vs : List V} {ds : List PyData} {i : Nat} {d : PyData}, DqA H vs ds → ds[i]? = some d → ∃ v, vs[i]? = some v ∧ Dq H v d
  | _, _, _, _, .nil, e => by simp at e
  | _, _, 0, _, .cons h _, e => by simp at e; subst e; exact ⟨_, rfl, h⟩
  | _, _, i + 1, d, .cons _ t, e => by
    obtain ⟨v, h1, h2⟩ := DqA.get' (i := i) (d := d) t (by simpa using e)
    exact ⟨v, by simpa using h1, h2⟩
theorem DqA.app {H : Hp} : ∀ {vs ws : List V} {ds es : List PyData}, DqA H vs ds → DqA H ws es → DqA H (vs ++ ws) (ds ++ es)
  | _, _, _, _, .nil, h => h
  | _, _, _, _, .cons a t, h => .cons a (DqA.app t h)
theorem DqA.take {H : Hp} : ∀ (n : Nat) {vs : List V} {ds : List PyData}, DqA H vs ds → DqA H (vs.take n) (ds.take n)
  | 0, _, _, _ => by simp; exact .nil
  | n + 1, _, _, .nil => .nil
  | n + 1, _, _, .cons a t => .cons a (DqA.take n t)
theorem DqA.drop {H : Hp} : ∀ (n : Nat) {vs : List V} {ds : List PyData}, DqA H vs ds → DqA H (vs.drop n) (ds.drop n)
  | 0, _, _, h => h
  | n + 1, _, _, .nil => .nil
  | n + 1, _, _, .cons _ t => DqA.drop n t
theorem DqA.set {H : Hp} {v : V} {d : PyData} (h : Dq H v d) : ∀ (n : Nat) {vs : List V} {ds : List PyData}, DqA H vs ds → DqA H (vs.set n v) (ds.set n d)
  | _, _, _, .nil => .nil
  | 0, _, _, .cons _ t => .cons h t
  | n + 1, _, _, .cons a t => .cons a (DqA.set h n t)
theorem DqA.eraseIdx {H : Hp} : ∀ (n : Nat) {vs : List V} {ds : List PyData}, DqA H vs ds → DqA H (vs.eraseIdx n) (ds.eraseIdx n)
  | _, _, _, .nil => .nil
  | 0, _, _, .cons _ t => t
  | n + 1, _, _, .cons a t => .cons a (DqA.eraseIdx n t)
theorem DqA.rev {H : Hp} : ∀ {vs : List V} {ds : List PyData}, DqA H vs ds → DqA H vs.reverse ds.reverse
  | _, _, .nil => .nil
  | _, _, .cons a t => by
    rw [List.reverse_cons, List.reverse_cons]
    exact DqA.app (DqA.rev t) (.cons a .nil)
theorem dqs_ints {H : Hp} : ∀ (l : List Int), DqA H (l.map V.int) (l.map PyData.int)
  | [] => .nil
  | x :: l => .cons (.int x) (dqs_ints l)
theorem of_dqs_ints {H : Hp} : ∀ {l : List Int} {vs : List V}, DqA H vs (l.map PyData.int) → vs = l.map V.int
  | [], _, .nil => rfl
  | _ :: l, _, .cons (.int _) t => by rw [of_dqs_ints (l := l) t]; rfl
theorem dqs_bools {H : Hp} : ∀ (l : List Bool), DqA H (l.map V.bl) (l.map PyData.bool)
  | [] => .nil
  | x :: l => .cons (.bl x) (dqs_bools l)
theorem of_dqs_bools {H : Hp} : ∀ {l : List Bool} {vs : List V}, DqA H vs (l.map PyData.bool) → vs = l.map V.bl
  | [], _, .nil => rfl
  | _ :: l, _, .cons (.bl _) t => by rw [of_dqs_bools (l := l) t]; rfl

/-- a dict whose keys are tuples of ints: the keys' places, the keys, the values -/
abbrev Zs := List (Addr × List Int × V)
def kyI (l : List Int) : List Key := l.map Sum.inl
def zR (z : Addr × List Int × V) (x : List Key × Addr × Value) : Prop := x.1 = kyI z.2.1 ∧ x.2.1 = z.1 ∧ RelV z.2.2 x.2.2
/-- such a dict that does not change any more -/
def DfO (o : Obj) (D : Addr) (zs : Zs) : HO := .ext fun h => h.get? D = some o ∧ (D == sysModules) = false ∧ ∃ (P : Program) (w : World) (xs : List (List Key × Addr × Value)), Paired zR zs xs ∧
  ∃ es ep, o.ExactDict ∧ o.data = .dict es ep ∧ es.toList = xs.map (entryOfKey (tupleKind (mixKind P w))) ∧ (xs.map (·.1)).Nodup
inductive DqZ (G : Hp) : Zs → List PyData → Prop
  | nil : DqZ G [] []
  | cons {b : Addr} {k : List Int} {v : V} {d : PyData} {zs : Zs} {es : List PyData} : G b = some (.tup (k.map V.int)) → Dq G v d → DqZ G zs es → DqZ G ((b, k, v) :: zs) (.tuple [.tuple (k.map .int), d] :: es)
theorem dqz_mono {G H : Hp} (e : Ex G H) {zs : Zs} {es : List PyData} (h : DqZ G zs es) : DqZ H zs es := by
  induction h with
  | nil => exact .nil
  | cons h1 h2 _ ih => exact .cons (e _ _ h1) (dq_mono e h2) ih
def DcOk (G : Hp) (v : V) (es : List PyData) : Prop := ∃ (o : Obj) (p : Addr) (zs : Zs), v = .ref p ∧ G p = some (DfO o p zs) ∧ DqZ G zs es
theorem dc_mono {G H : Hp} (e : Ex G H) {v : V} {es : List PyData} : DcOk G v es → DcOk H v es := fun ⟨o, p, zs, h1, h2, h3⟩ => ⟨o, p, zs, h1, e _ _ h2, dqz_mono e h3⟩

/-! slots -/
/-- objects of one's own: the value, their places, what they are (as the world tells) -/
structure Rg where
  v : V
  A : List Addr
  ok : Hp → Hp → Prop
  mono : ∀ G H G' H' : Hp, Ex G G' → (∀ a ∈ A, H' a = H a) → ok G H → ok G' H'
inductive Sl where
  | un
  | dat (d : PyData)
  | mu (p : Addr) (xs : List PyData)
  | va (v : V)
  | kl (K : PySem.W.Frag) (ns : List Int)
  | rg (r : Rg)
  | dc (es : List PyData)
def adr1 : Sl → List Addr
  | .mu p _ => [p]
  | .rg r => r.A
  | _ => []
abbrev En := List Sl
def adr (ρ : En) : List Addr := ρ.flatMap adr1
def VOk (G H : Hp) (v : V) : Sl → Prop
  | .un => True
  | .dat d => Dq G v d
  | .mu p xs => v = .ref p ∧ G p = none ∧ ∃ vs, H p = some (.lst vs) ∧ DqA G vs xs
  | .va u => v = u
  | .kl K ns => ∃ a, v = .ref a ∧ SqL K G a (ns.map V.int)
  | .dc es => DcOk G v es
  | .rg r => v = r.v ∧ (∀ a ∈ r.A, G a = none ∧ ∃ o, H a = some o) ∧ r.ok G H
theorem rg_keep {G H G' H' : Hp} {v : V} {r : Rg} (h : VOk G H v (.rg r)) (gg : Ex G G') (hH : ∀ a ∈ r.A, H' a = H a) (hG : ∀ a ∈ r.A, G' a = none) : VOk G' H' v (.rg r) :=
  ⟨h.1, fun a ha => ⟨hG a ha, by rw [hH a ha]; exact (h.2.1 a ha).2⟩, r.mono _ _ _ _ gg hH h.2.2⟩
def SOk (G H : Hp) (o : Option V) (s : Sl) : Prop := s = .un ∨ ∃ v, o = some v ∧ VOk G H v s
inductive StOk (G H : Hp) : List (Option V) → En → Prop
  | nil : StOk G H [] []
  | cons {o s σ ρ} : SOk G H o s → StOk G H σ ρ → StOk G H (o :: σ) (s :: ρ)

/-- from (G, H) to (G', H'): what stood outside M stands -/
structure Ext (M : List Addr) (G H G' H' : Hp) : Prop where
  gg : Ex G G'
  gh : Ex G' H'
  fr : ∀ p o, p ∉ M → H p = some o → H' p = some o
  th : ∀ p, H p ≠ none → H' p ≠ none
  nw : ∀ p, p ∉ M → G p = none → H p ≠ none → G' p = none
theorem Ext.refl {M : List Addr} {G H : Hp} (e : Ex G H) : Ext M G H G H := ⟨Ex.refl G, e, fun _ _ _ h => h, fun _ h => h, fun _ _ h _ => h⟩
theorem Ext.trans {M M1 : List Addr} {G H G1 H1 G2 H2 : Hp} (a : Ext M G H G1 H1) (b : Ext M1 G1 H1 G2 H2) (hm : ∀ q ∈ M1, q ∈ M ∨ H q = none) : Ext M G H G2 H2 where
  gg := a.gg.trans b.gg
  gh := b.gh
  fr := fun p o hp h => b.fr p o (fun hq => by
    rcases hm p hq with h1 | h1
    · exact hp h1
    · rw [h1] at h; cases h) (a.fr p o hp h)
  th := fun p h => b.th p (a.th p h)
  nw := fun p hp h1 h2 => b.nw p (fun hq => by
    rcases hm p hq with h | h
    · exact hp h
    · exact h2 h) (a.nw p hp h1 h2) (a.th p h2)
theorem Ext.tr {M : List Addr} {G H G1 H1 G2 H2 : Hp} (a : Ext M G H G1 H1) (b : Ext M G1 H1 G2 H2) : Ext M G H G2 H2 := a.trans b fun _ h => .inl h
theorem Ext.up {M : List Addr} {G H G1 H1 : Hp} (a : Ext [] G H G1 H1) : Ext M G H G1 H1 := ⟨a.gg, a.gh, fun p o _ h => a.fr p o (by simp) h, a.th, fun p _ => a.nw p (by simp)⟩
theorem Ext.hh {G H G1 H1 : Hp} (a : Ext [] G H G1 H1) : Ex H H1 := fun p o h => a.fr p o (by simp) h
/-- a new object that is known to the world -/
theorem Ext.new {M : List Addr} {G H : Hp} {p : Addr} {o : HO} (e : Ex G H) (h : H p = none) : Ext M G H (upd G p o) (upd H p o) where
  gg := Ex.new (e.none h)
  gh := fun a u q => by
    by_cases hb : a = p
    · subst hb; rw [upd_same] at q ⊢; exact q
    · rw [upd_ne hb] at q ⊢; exact e a u q
  fr := fun q u _ hq => Ex.new h q u hq
  th := fun q hq => by
    by_cases hb : q = p
    · subst hb; rw [upd_same]; simp
    · rw [upd_ne hb]; exact hq
  nw := fun q _ h1 h2 => by
    rw [upd_ne (fun z => by subst z; exact h2 h)]; exact h1
/-- a new object, owned -/
theorem Ext.own {M : List Addr} {G H : Hp} {p : Addr} {o : HO} (e : Ex G H) (h : H p = none) : Ext M G H G (upd H p o) where
  gg := Ex.refl G
  gh := e.trans (Ex.new h)
  fr := fun q u _ hq => Ex.new h q u hq
  th := fun q hq => by
    by_cases hb : q = p
    · subst hb; rw [upd_same]; simp
    · rw [upd_ne hb]; exact hq
  nw := fun q _ h1 _ => h1
/-- an owned object is changed -/
theorem Ext.set {M : List Addr} {G H : Hp} {p : Addr} {o : HO} (e : Ex G H) (hp : p ∈ M) (hg : G p = none) : Ext M G H G (upd H p o) where
  gg := Ex.refl G
  gh := fun a u q => by rw [upd_ne (ne_of_none q hg)]; exact e a u q
  fr := fun q u hq h => by
    rw [upd_ne (fun z => hq (by rw [z]; exact hp))]; exact h
  th := fun q hq => by
    by_cases hb : q = p
    · subst hb; rw [upd_same]; simp
    · rw [upd_ne hb]; exact hq
  nw := fun q _ h1 _ => h1

theorem VOk.out {M : List Addr} {G H G' H' : Hp} {v : V} {r : Rg} (h : VOk G H v (.rg r)) (e : Ext M G H G' H') (hm : ∀ q ∈ M, q ∉ r.A) : VOk G' H' v (.rg r) :=
  rg_keep h e.gg (fun a ha => by obtain ⟨o, ho⟩ := (h.2.1 a ha).2; rw [ho]; exact e.fr a o (fun z => hm a z ha) ho) fun a ha => e.nw a (fun z => hm a z ha) (h.2.1 a ha).1 (by obtain ⟨o, ho⟩ := (h.2.1 a ha).2; rw [ho]; simp)
theorem VOk.mono {G H G' H' : Hp} {v : V} {s : Sl} (h : VOk G H v s) (e : Ext [] G H G' H') : VOk G' H' v s := by
  cases s with
  | un => trivial
  | dat d => exact dq_mono e.gg h
  | dc es => exact dc_mono e.gg h
  | mu p xs =>
    obtain ⟨h1, h2, vs, h3, h4⟩ := h
    exact ⟨h1, e.nw p (by simp) h2 (by rw [h3]; simp), vs, e.hh p _ h3, dqs_mono e.gg h4⟩
  | va u => exact h
  | kl K ns => obtain ⟨a0, e1, e2⟩ := h; exact ⟨a0, e1, Ex.sl e.gg e2⟩
  | rg r => exact h.out e fun _ h => by simp at h
theorem SOk.mono {G H G' H' : Hp} {o : Option V} {s : Sl} (h : SOk G H o s) (e : Ext [] G H G' H') : SOk G' H' o s := by
  rcases h with h | ⟨v, h1, h2⟩
  · exact .inl h
  · exact .inr ⟨v, h1, h2.mono e⟩
theorem StOk.mono {G H G' H' : Hp} (e : Ext [] G H G' H') : ∀ {σ : List (Option V)} {ρ : En}, StOk G H σ ρ → StOk G' H' σ ρ
  | _, _, .nil => .nil
  | _, _, .cons h t => .cons (h.mono e) (StOk.mono e t)
theorem StOk.len {G H : Hp} : ∀ {σ : List (Option V)} {ρ : En}, StOk G H σ ρ → σ.length = ρ.length
  | _, _, .nil => rfl
  | _, _, .cons _ t => by simp [StOk.len t]
theorem StOk.get {G H : Hp} : ∀ {σ : List (Option V)} {ρ : En} {i : Nat} {s : Sl}, StOk G H σ ρ → ρ[i]? = some s → s ≠ .un → ∃ v, σ[i]? = some (some v) ∧ VOk G H v s
  | _, _, _, _, .nil, e, _ => by simp at e
  | _, _, 0, _, .cons h _, e, n => by
    simp at e; subst e
    rcases h with h | ⟨v, h1, h2⟩
    · exact absurd h n
    · exact ⟨v, by simp [h1], h2⟩
  | _, _, i + 1, s, .cons _ t, e, n => by
    obtain ⟨v, h1, h2⟩ := StOk.get (i := i) (s := s) t (by simpa using e) n
    exact ⟨v, by simpa using h1, h2⟩
theorem StOk.set {G H : Hp} {v : V} {s : Sl} (h : VOk G H v s) : ∀ (i : Nat) {σ : List (Option V)} {ρ : En}, StOk G H σ ρ → StOk G H (σ.set i (some v)) (ρ.set i s)
  | _, _, _, .nil => .nil
  | 0, _, _, .cons _ t => .cons (.inr ⟨v, rfl, h⟩) t
  | i + 1, _, _, .cons a t => .cons a (StOk.set h i t)
theorem StOk.un {G H : Hp} {o : Option V} : ∀ (i : Nat) {σ : List (Option V)} {ρ : En}, StOk G H σ ρ → StOk G H (σ.set i o) (ρ.set i .un)
  | _, _, _, .nil => .nil
  | 0, _, _, .cons _ t => .cons (.inl rfl) t
  | i + 1, _, _, .cons a t => .cons a (StOk.un i t)
theorem StOk.un' {G H : Hp} : ∀ (i : Nat) {σ : List (Option V)} {ρ : En}, StOk G H σ ρ → StOk G H σ (ρ.set i .un)
  | _, _, _, .nil => .nil
  | 0, _, _, .cons _ t => .cons (.inl rfl) t
  | i + 1, _, _, .cons a t => .cons a (StOk.un' i t)

/-! ### judgements. Rv: what an expression gives: data, or a new list that is one's own -/
inductive Rv where
  | d (d : PyData)
  | l (xs : List PyData)
  | va (v : V)
  | o (d : PyData)
  | e (es : List PyData)
/-- a tuple whose first item is a list of one's own, or a list of one's own whose first item is such a list -/
def FrT (G : Hp) (P : Addr → Prop) (v : V) : Prop := ∃ (a p : Addr) (ws us : List V), v = .ref a ∧ (G a = some (.tup (.ref p :: ws)) ∨ G a = some (.lst (.ref p :: ws)) ∧ P a) ∧ G p = some (.lst us) ∧ P p
def ROk (G H0 G' H' : Hp) (v : V) : Rv → Prop
  | .d d => Dq G' v d
  | .l xs => ∃ p vs, v = .ref p ∧ H0 p = none ∧ G' p = none ∧ H' p = some (.lst vs) ∧ DqA G' vs xs
  | .va u => v = u
  | .o d => Dq G' v d ∧ FrT G' (fun p => H0 p = none) v
  | .e es => DcOk G' v es
/-- what the write set is: nothing, or what the slots own -/
def ws : Bool → En → List Addr
  | false, _ => []
  | true, ρ => adr ρ
def Ev (b : Bool) (te : TE) (ρ : En) (r : Rv) (ρ' : En) : Prop :=
  ∀ (G H : Hp) (σ : L2.St), Ex G H → StOk G H σ ρ → (adr ρ).Nodup → ∀ Q : VK,
    (∀ v G' H', Ext (ws b ρ) G H G' H' → StOk G' H' σ ρ' → adr ρ' = adr ρ → ROk G H G' H' v r → Q v H') → te σ H Q
def EvT (b : Bool) (tt : TT) (ρ : En) (c : Bool) (ρ' : En) : Prop :=
  ∀ (G H : Hp) (σ : L2.St), Ex G H → StOk G H σ ρ → (adr ρ).Nodup → ∀ Q : Bool → Hp → Prop,
    (∀ G' H', Ext (ws b ρ) G H G' H' → StOk G' H' σ ρ' → adr ρ' = adr ρ → Q c H') → tt σ H Q
/-- arguments: data, or what a slot holds -/
inductive Ar where
  | d (d : PyData)
  | o (i : Nat)
  | va (v : V)
  | kl (K : PySem.W.Frag) (ns : List Int)
def AOk (G' : Hp) (σ : L2.St) (v : V) : Ar → Prop
  | .d d => Dq G' v d
  | .o i => σ[i]? = some (some v)
  | .va u => v = u
  | .kl K ns => ∃ a, v = .ref a ∧ SqL K G' a (ns.map V.int)
inductive AsOk (G' : Hp) (σ : L2.St) : List V → List Ar → Prop
  | nil : AsOk G' σ [] []
  | cons {v vs a as} : AOk G' σ v a → AsOk G' σ vs as → AsOk G' σ (v :: vs) (a :: as)
def EvA (b : Bool) (ta : TA) (ρ : En) (as : List Ar) (ρ' : En) : Prop :=
  ∀ (G H : Hp) (σ : L2.St), Ex G H → StOk G H σ ρ → (adr ρ).Nodup → ∀ Q : List V → Hp → Prop,
    (∀ vs G' H', Ext (ws b ρ) G H G' H' → StOk G' H' σ ρ' → adr ρ' = adr ρ → AsOk G' σ vs as → Q vs H') → ta σ H Q

section
variable {b : Bool} {ρ ρ1 ρ2 ρ3 : En} {ta tb te : TE} {t u : TT} {x y z : PyData}
theorem ws_of {M : List Addr} (e : adr ρ1 = adr ρ) : ws b ρ1 = ws b ρ := by
  cases b with
  | false => rfl
  | true => exact e
theorem Ext.then {G H G1 H1 G2 H2 : Hp} (a : Ext (ws b ρ) G H G1 H1) (c : Ext (ws b ρ1) G1 H1 G2 H2) (e : adr ρ1 = adr ρ) : Ext (ws b ρ) G H G2 H2 := by
  rw [ws_of (M := []) e] at c
  exact a.tr c
/-- what owns no object of M is kept -/
theorem dq_ext {M : List Addr} {G H G' H' : Hp} {v : V} {d : PyData} (e : Ext M G H G' H') (h : Dq G v d) : Dq G' v d := dq_mono e.gg h
theorem AOk.mono {G G' : Hp} {σ : L2.St} {v : V} {a : Ar} (h : AOk G σ v a) (e : Ex G G') : AOk G' σ v a := by
  cases a with
  | d d => exact dq_mono e h
  | o i => exact h
  | va u => exact h
  | kl K ns => obtain ⟨a0, e1, e2⟩ := h; exact ⟨a0, e1, Ex.sl e e2⟩
theorem AsOk.mono {G G' : Hp} {σ : L2.St} (e : Ex G G') : ∀ {vs : List V} {as : List Ar}, AsOk G σ vs as → AsOk G' σ vs as
  | _, _, .nil => .nil
  | _, _, .cons h t => .cons (h.mono e) (AsOk.mono e t)

theorem ev_var {i : Nat} {d : PyData} (h : ρ[i]? = some (.dat d)) : Ev b (tVar i) ρ (.d d) ρ := fun G H σ e st _ Q q => by
  obtain ⟨v, h1, h2⟩ := st.get h (by simp)
  exact ⟨v, h1, q v G H (Ext.refl e) st rfl h2⟩
theorem ev_varV {i : Nat} {v : V} (h : ρ[i]? = some (.va v)) : Ev b (tVar i) ρ (.va v) ρ := fun G H σ e st _ Q q => by
  obtain ⟨v, h1, h2⟩ := st.get h (by simp)
  exact ⟨v, h1, q v G H (Ext.refl e) st rfl h2⟩
theorem ev_int {n : Int} : Ev b (tC (.int n)) ρ (.d (.int n)) ρ := fun G H σ e st _ Q q => q _ G H (Ext.refl e) st rfl (.int n)
theorem ev_bl {n : Bool} : Ev b (tC (.bl n)) ρ (.d (.bool n)) ρ := fun G H σ e st _ Q q => q _ G H (Ext.refl e) st rfl (.bl n)
theorem ev_non : Ev b (tC .non) ρ (.d .none) ρ := fun G H σ e st _ Q q => q _ G H (Ext.refl e) st rfl .non
theorem ev_str {n : Str} : Ev b (tC (.str n)) ρ (.d (.str n)) ρ := fun G H σ e st _ Q q => q _ G H (Ext.refl e) st rfl (.str n)
theorem ev_c {v : V} : Ev b (tC v) ρ (.va v) ρ := fun G H σ e st _ Q q => q _ G H (Ext.refl e) st rfl rfl
theorem Ev.up {r : Rv} (h : Ev false te ρ r ρ1) : Ev b te ρ r ρ1 := by
  cases b with
  | false => exact h
  | true => exact fun G H σ e st nd Q q => h G H σ e st nd Q fun v G' H' x s' a r => q v G' H' x.up s' a r
theorem Ev.is {r r' : Rv} (h : Ev b te ρ r ρ1) (e : r = r') : Ev b te ρ r' ρ1 := by rw [← e]; exact h
theorem EvT.up {c : Bool} (h : EvT false t ρ c ρ1) : EvT b t ρ c ρ1 := by
  cases b with
  | false => exact h
  | true => exact fun G H σ e st nd Q q => h G H σ e st nd Q fun G' H' x s' a => q G' H' x.up s' a
theorem EvT.is {r r' : Bool} (h : EvT b t ρ r ρ1) (e : r = r') : EvT b t ρ r' ρ1 := by rw [← e]; exact h
end
end Kn

namespace Kn
open PySem L2

/-! ### facts of slots -/
theorem adr_cons (s : Sl) (ρ : En) : adr (s :: ρ) = adr1 s ++ adr ρ := by simp [adr]
theorem mem_adr {p : Addr} {xs : List PyData} : ∀ {ρ : En} {i : Nat}, ρ[i]? = some (.mu p xs) → p ∈ adr ρ
  | [], _, h => by simp at h
  | s :: ρ, 0, h => by simp at h; subst h; rw [adr_cons]; simp [adr1]
  | s :: ρ, i + 1, h => by
    rw [adr_cons]; exact List.mem_append_right _ (mem_adr (i := i) (by simpa using h))
theorem adr_set {p : Addr} : ∀ {ρ : En} {i : Nat} {s : Sl}, p ∈ adr (ρ.set i s) → p ∈ adr1 s ∨ p ∈ adr ρ
  | [], _, _, h => by simp [adr] at h
  | s :: ρ, 0, s', h => by
    rw [List.set_cons_zero, adr_cons] at h
    rcases List.mem_append.mp h with h | h
    · exact .inl h
    · right; rw [adr_cons]; exact List.mem_append_right _ h
  | s :: ρ, i + 1, s', h => by
    rw [List.set_cons_succ, adr_cons] at h
    rcases List.mem_append.mp h with h | h
    · right; rw [adr_cons]; exact List.mem_append_left _ h
    · rcases adr_set h with h | h
      · exact .inl h
      · right; rw [adr_cons]; exact List.mem_append_right _ h
theorem nd_set0 {s : Sl} (hs : adr1 s = []) : ∀ {ρ : En} {i : Nat}, (adr ρ).Nodup → (adr (ρ.set i s)).Nodup
  | [], _, h => h
  | s' :: ρ, 0, h => by
    rw [List.set_cons_zero, adr_cons, hs]; rw [adr_cons] at h
    exact (List.nodup_append.mp h).2.1
  | s' :: ρ, i + 1, h => by
    rw [List.set_cons_succ, adr_cons]; rw [adr_cons] at h
    obtain ⟨h1, h2, h3⟩ := List.nodup_append.mp h
    refine List.nodup_append.mpr ⟨h1, nd_set0 hs h2, fun a ha b hb => ?_⟩
    rcases adr_set hb with hb | hb
    · rw [hs] at hb; simp at hb
    · exact h3 a ha b hb
theorem nd_setN {p : Addr} {xs : List PyData} : ∀ {ρ : En} {i : Nat}, (adr ρ).Nodup → p ∉ adr ρ → (adr (ρ.set i (.mu p xs))).Nodup
  | [], _, h, _ => h
  | s' :: ρ, 0, h, hp => by
    rw [List.set_cons_zero, adr_cons]; rw [adr_cons] at h hp
    refine List.nodup_append.mpr ⟨by simp [adr1], (List.nodup_append.mp h).2.1, fun a ha b hb => ?_⟩
    have ha' : a = p := by simpa [adr1] using ha
    rintro rfl; subst ha'; exact hp (List.mem_append_right _ hb)
  | s' :: ρ, i + 1, h, hp => by
    rw [List.set_cons_succ, adr_cons]; rw [adr_cons] at h hp
    obtain ⟨h1, h2, h3⟩ := List.nodup_append.mp h
    refine List.nodup_append.mpr ⟨h1, nd_setN h2 (fun z => hp (List.mem_append_right _ z)), fun a ha b hb => ?_⟩
    rcases adr_set hb with hb | hb
    · have hb' : b = p := by simpa [adr1] using hb
      rintro rfl; subst hb'; exact hp (List.mem_append_left _ ha)
    · exact h3 a ha b hb
/-- the content of an own object is changed -/
theorem adr_upd {p : Addr} {xs ys : List PyData} : ∀ {ρ : En} {i : Nat}, ρ[i]? = some (.mu p xs) → adr (ρ.set i (.mu p ys)) = adr ρ
  | [], _, h => by simp at h
  | s :: ρ, 0, h => by simp at h; subst h; rfl
  | s :: ρ, i + 1, h => by
    rw [List.set_cons_succ, adr_cons, adr_cons, adr_upd (i := i) (by simpa using h)]
theorem mem_adr1 {q : Addr} {s : Sl} : ∀ {ρ : En} {i : Nat}, ρ[i]? = some s → q ∈ adr1 s → q ∈ adr ρ
  | [], i, h, _ => by simp at h
  | x :: ρ, 0, h, hq => by simp at h; subst h; rw [adr_cons]; exact List.mem_append_left _ hq
  | x :: ρ, i + 1, h, hq => by rw [adr_cons]; exact List.mem_append_right _ (mem_adr1 (i := i) (by simpa using h) hq)
theorem adr_apart {q : Addr} : ∀ {ρ : En} {a c : Nat} {s s' : Sl}, (adr ρ).Nodup → ρ[a]? = some s → ρ[c]? = some s' → q ∈ adr1 s → q ∈ adr1 s' → a = c
  | [], a, c, s, s', _, h, _, _, _ => by simp at h
  | x :: r, a, c, s, s', n, h1, h2, q1, q2 => by
    rw [adr_cons] at n
    obtain ⟨n1, n2, n3⟩ := List.nodup_append.mp n
    cases a with
    | zero =>
      cases c with
      | zero => rfl
      | succ c => simp at h1; subst h1; exact absurd rfl (n3 q q1 q (mem_adr1 (i := c) (by simpa using h2) q2))
    | succ a =>
      cases c with
      | zero => simp at h2; subst h2; exact absurd rfl (n3 q q2 q (mem_adr1 (i := a) (by simpa using h1) q1))
      | succ c => exact congrArg (· + 1) (adr_apart (a := a) (c := c) n2 (by simpa using h1) (by simpa using h2) q1 q2)
theorem StOk.own {G H : Hp} {p : Addr} : ∀ {σ : List (Option V)} {ρ : En}, StOk G H σ ρ → p ∈ adr ρ → G p = none ∧ ∃ o, H p = some o
  | _, _, .nil, h => by simp [adr] at h
  | _, _, .cons (s := s) h t, hp => by
    rw [adr_cons] at hp
    rcases List.mem_append.mp hp with hp | hp
    · cases s with
      | mu q xs =>
        have : p = q := by simpa [adr1] using hp
        subst this
        rcases h with h | ⟨v, _, h1, h2, vs, h3, _⟩
        · cases h
        · exact ⟨h2, _, h3⟩
      | un => simp [adr1] at hp
      | dat d => simp [adr1] at hp
      | dc es => simp [adr1] at hp
      | va v => simp [adr1] at hp
      | kl K ns => simp [adr1] at hp
      | rg r =>
        rcases h with h | ⟨v, _, h1, h2, h3⟩
        · cases h
        · exact h2 p hp
    · exact StOk.own t hp
/-- the object at p, owned by slot i alone, is changed -/
theorem StOk.chg {G H : Hp} {p : Addr} {xs ys : List PyData} {us : List V} (hd : DqA G us ys) : ∀ {σ : List (Option V)} {ρ : En} {i : Nat}, StOk G H σ ρ → (adr ρ).Nodup → ρ[i]? = some (.mu p xs) →
    StOk G (upd H p (.lst us)) σ (ρ.set i (.mu p ys)) := by
  have keep : ∀ {σ : List (Option V)} {ρ : En}, StOk G H σ ρ → p ∉ adr ρ → StOk G (upd H p (.lst us)) σ ρ := by
    intro σ ρ h
    induction h with
    | nil => intro _; exact .nil
    | @cons o s σ ρ h t ih =>
      intro hp
      rw [adr_cons] at hp
      refine .cons ?_ (ih fun z => hp (List.mem_append_right _ z))
      rcases h with h | ⟨v, h1, h2⟩
      · exact .inl h
      · refine .inr ⟨v, h1, ?_⟩
        cases s with
        | un => trivial
        | dat d => exact h2
        | dc es => exact h2
        | va u => exact h2
        | kl K ns => exact h2
        | mu q zs =>
          obtain ⟨k1, k2, vs, k3, k4⟩ := h2
          refine ⟨k1, k2, vs, ?_, k4⟩
          rw [upd_ne (fun z => hp (List.mem_append_left _ (by simp [adr1, z])))]; exact k3
        | rg r => exact rg_keep h2 (Ex.refl G) (fun a ha => upd_ne fun z => hp (List.mem_append_left _ (by subst z; exact ha))) fun a ha => (h2.2.1 a ha).1
  intro σ ρ i h
  induction h generalizing i with
  | nil => intro _ hi; simp at hi
  | @cons o s σ ρ h t ih =>
    intro nd hi
    rw [adr_cons] at nd
    obtain ⟨n1, n2, n3⟩ := List.nodup_append.mp nd
    cases i with
    | zero =>
      simp at hi; subst hi
      rcases h with h | ⟨v, h1, h2, h3, vs, h4, h5⟩
      · cases h
      · exact .cons (.inr ⟨v, h1, h2, h3, us, upd_same, hd⟩) (keep t fun z => n3 p (by simp [adr1]) p z rfl)
    | succ i =>
      have hi' : ρ[i]? = some (.mu p xs) := by simpa using hi
      refine .cons ?_ (ih n2 hi')
      rcases h with h | ⟨v, h1, h2⟩
      · exact .inl h
      · refine .inr ⟨v, h1, ?_⟩
        cases s with
        | un => trivial
        | dat d => exact h2
        | dc es => exact h2
        | va u => exact h2
        | kl K ns => exact h2
        | mu q zs =>
          obtain ⟨k1, k2, vs, k3, k4⟩ := h2
          refine ⟨k1, k2, vs, ?_, k4⟩
          rw [upd_ne (fun z => n3 q (by simp [adr1]) p (mem_adr hi') z)]; exact k3
        | rg r => exact rg_keep h2 (Ex.refl G) (fun a ha => upd_ne fun z => n3 a ha p (mem_adr hi') z) fun a ha => (h2.2.1 a ha).1
/-- an own object becomes a part of the world -/
theorem StOk.fz {G H : Hp} {p : Addr} {o : HO} (hg : G p = none) : ∀ {σ : List (Option V)} {ρ : En}, StOk G H σ ρ → p ∉ adr ρ → StOk (upd G p o) H σ ρ
  | _, _, .nil, _ => .nil
  | _, _, .cons (s := s) h t, hp => by
    rw [adr_cons] at hp
    refine .cons ?_ (StOk.fz hg t fun z => hp (List.mem_append_right _ z))
    rcases h with h | ⟨v, h1, h2⟩
    · exact .inl h
    · refine .inr ⟨v, h1, ?_⟩
      cases s with
      | un => trivial
      | dat d => exact dq_mono (Ex.new hg) h2
      | dc es => exact dc_mono (Ex.new hg) h2
      | va u => exact h2
      | kl K ns => obtain ⟨a0, e1, e2⟩ := h2; exact ⟨a0, e1, Ex.sl (Ex.new hg) e2⟩
      | mu q zs =>
        obtain ⟨k1, k2, vs, k3, k4⟩ := h2
        refine ⟨k1, ?_, vs, k3, dqs_mono (Ex.new hg) k4⟩
        rw [upd_ne (fun z => hp (List.mem_append_left _ (by simp [adr1, z])))]; exact k2
      | rg r => exact rg_keep h2 (Ex.new hg) (fun a ha => rfl) fun a ha => by rw [upd_ne (fun z => hp (List.mem_append_left _ (by subst z; exact ha)))]; exact (h2.2.1 a ha).1
theorem StOk.muget {G H : Hp} {σ : List (Option V)} {ρ : En} {i : Nat} {p : Addr} {xs : List PyData} (h : StOk G H σ ρ) (hi : ρ[i]? = some (.mu p xs)) :
    σ[i]? = some (some (.ref p)) ∧ G p = none ∧ ∃ vs, H p = some (.lst vs) ∧ DqA G vs xs := by
  obtain ⟨v, h1, h2, h3, vs, h4, h5⟩ := h.get hi (by simp)
  subst h2
  exact ⟨h1, h3, vs, h4, h5⟩

theorem ROk.back {M : List Addr} {G0 H0 G H G' H' : Hp} {v : V} {r : Rv} (h : ROk G H G' H' v r) (e : Ext M G0 H0 G H) : ROk G0 H0 G' H' v r := by
  cases r with
  | d d => exact h
  | va u => exact h
  | l xs =>
    obtain ⟨p, vs, h1, h2, h3⟩ := h
    refine ⟨p, vs, h1, ?_, h3⟩
    cases q : H0 p with
    | none => rfl
    | some o => exact absurd h2 (e.th p (by rw [q]; simp))
  | e es => exact h
  | o d =>
    obtain ⟨hd, a, p, ws, us, h1, h2, h3, h4⟩ := h
    have key := fun p (h4 : _ = none) => show H0 p = none from by
      cases q : H0 p with
      | none => rfl
      | some o => exact absurd h4 (e.th p (by rw [q]; simp))
    exact ⟨hd, a, p, ws, us, h1, h2.imp id fun z => ⟨z.1, key a z.2⟩, h3, key p h4⟩

section
variable {b : Bool} {ρ ρ1 ρ2 ρ3 : En} {ta tb tc te : TE} {t u : TT} {x y z : PyData} {r : Rv}

/-- an own new list becomes data -/
theorem ev_fz {xs : List PyData} (h : Ev b te ρ (.l xs) ρ1) : Ev b te ρ (.d (.list xs)) ρ1 := fun G H σ e st nd Q q =>
  h G H σ e st nd Q fun v G' H' x s' a ⟨p, vs, hv, h0, hg, hh, hd⟩ => by
    have hm : p ∉ adr ρ := fun hm => by
      obtain ⟨_, us, hu⟩ := st.own hm
      rw [h0] at hu; cases hu
    have x2 : Ext (ws b ρ) G H (upd G' p (.lst vs)) H' := ⟨x.gg.trans (Ex.new hg), fun c o hc => by
        by_cases hb : c = p
        · subst hb; rw [upd_same] at hc; rw [← hc]; exact hh
        · rw [upd_ne hb] at hc; exact x.gh c o hc, x.fr, x.th, fun c h1 h2 h3 => by
        rw [upd_ne (fun z => by subst z; exact h3 h0)]; exact x.nw c h1 h2 h3⟩
    refine q v _ H' x2 (s'.fz hg (by rw [a]; exact hm)) a ?_
    rw [hv]
    exact Dq.lst upd_same (dqs_mono (Ex.new hg) hd)

/-! ### operators -/
def Op2 (r : R2) (x y : PyData) (z : Rv) : Prop := ∀ (G H : Hp) (v w : V), Ex G H → Dq G v x → Dq G w y → ∀ Q : VK, (∀ u G' H', Ext [] G H G' H' → ROk G H G' H' u z → Q u H') → r v w H Q
theorem ev_op {r : R2} {z : Rv} (ha : Ev b ta ρ (.d x) ρ1) (hb : Ev b tb ρ1 (.d y) ρ2) (hr : Op2 r x y z) : Ev b (tOp r ta tb) ρ z ρ2 := fun G H σ e st nd Q q =>
  ha G H σ e st nd _ fun v G1 H1 x1 s1 a1 r1 => hb G1 H1 σ x1.gh s1 (by rw [a1]; exact nd) _ fun w G2 H2 x2 s2 a2 r2 =>
    hr G2 H2 v w x2.gh (dq_mono x2.gg r1) r2 Q fun u G3 H3 x3 r3 => by
      have y2 := x1.then x2 a1
      exact q u G3 H3 (y2.tr x3.up) (s2.mono x3) (a2.trans a1) (r3.back y2)
def Op1 (r : V → Hp → VK → Prop) (x : PyData) (z : Rv) : Prop := ∀ (G H : Hp) (v : V), Ex G H → Dq G v x → ∀ Q : VK, (∀ u G' H', Ext [] G H G' H' → ROk G H G' H' u z → Q u H') → r v H Q
theorem ev_un {r : V → Hp → VK → Prop} {z : Rv} (ha : Ev b ta ρ (.d x) ρ1) (hr : Op1 r x z) : Ev b (tUn r ta) ρ z ρ1 := fun G H σ e st nd Q q =>
  ha G H σ e st nd _ fun v G1 H1 x1 s1 a1 r1 => hr G1 H1 v x1.gh r1 Q fun u G3 H3 x3 r3 => q u G3 H3 (x1.tr x3.up) (s1.mono x3) a1 (r3.back x1)
theorem o2_val {r : R2} {z : PyData} (h : ∀ (G H : Hp) (v w : V), Ex G H → Dq G v x → Dq G w y → ∀ Q : VK, (∀ u, Dq G u z → Q u H) → r v w H Q) : Op2 r x y (.d z) := fun G H v w e hv hw Q q =>
  h G H v w e hv hw Q fun u hu => q u G H (Ext.refl e) hu
/-- ints -/
theorem o2_I {f : Int → Int → Int} {i j : Int} : Op2 (rI0 fun i j => .int (f i j)) (.int i) (.int j) (.d (.int (f i j))) := o2_val fun G H v w e hv hw Q q => by
  cases hv; cases hw; exact ⟨i, j, rfl, rfl, q _ (.int _)⟩
theorem o2_B {f : Int → Int → Bool} {i j : Int} : Op2 (rI0 fun i j => .bl (f i j)) (.int i) (.int j) (.d (.bool (f i j))) := o2_val fun G H v w e hv hw Q q => by
  cases hv; cases hw; exact ⟨i, j, rfl, rfl, q _ (.bl _)⟩
theorem o2_C {C : Int → Int → Prop} {f : Int → Int → Int} {i j : Int} (hc : C i j) : Op2 (rI C fun i j => .int (f i j)) (.int i) (.int j) (.d (.int (f i j))) := o2_val fun G H v w e hv hw Q q => by
  cases hv; cases hw; exact ⟨i, j, rfl, rfl, hc, q _ (.int _)⟩
theorem o1_neg {i : Int} : Op1 (rU fun i => .int (-i)) (.int i) (.d (.int (-i))) := fun G H v e hv Q q => by
  cases hv; exact ⟨i, rfl, q _ G H (Ext.refl e) (.int _)⟩
/-- == of scalars -/
theorem o2_eqI {i j : Int} : Op2 rEq (.int i) (.int j) (.d (.bool (decide (i = j)))) := o2_val fun G H v w e hv hw Q q => by
  cases hv; cases hw
  have : decide (V.int i = V.int j) = decide (i = j) := by simp
  exact ⟨rfl, by rw [this]; exact q _ (.bl _)⟩
theorem o2_neI {i j : Int} : Op2 rNe (.int i) (.int j) (.d (.bool (!decide (i = j)))) := o2_val fun G H v w e hv hw Q q => by
  cases hv; cases hw
  have : decide (V.int i = V.int j) = decide (i = j) := by simp
  exact ⟨rfl, by rw [this]; exact q _ (.bl _)⟩
theorem o2_eqB {i j : Bool} : Op2 rEq (.bool i) (.bool j) (.d (.bool (decide (i = j)))) := o2_val fun G H v w e hv hw Q q => by
  cases hv; cases hw
  have : decide (V.bl i = V.bl j) = decide (i = j) := by simp
  exact ⟨rfl, by rw [this]; exact q _ (.bl _)⟩
theorem o2_neB {i j : Bool} : Op2 rNe (.bool i) (.bool j) (.d (.bool (!decide (i = j)))) := o2_val fun G H v w e hv hw Q q => by
  cases hv; cases hw
  have : decide (V.bl i = V.bl j) = decide (i = j) := by simp
  exact ⟨rfl, by rw [this]; exact q _ (.bl _)⟩
theorem o2_eqS {i j : Str} : Op2 rEq (.str i) (.str j) (.d (.bool (decide (i = j)))) := o2_val fun G H v w e hv hw Q q => by
  cases hv; cases hw
  have : decide (V.str i = V.str j) = decide (i = j) := by simp
  exact ⟨rfl, by rw [this]; exact q _ (.bl _)⟩
theorem o2_neS {i j : Str} : Op2 rNe (.str i) (.str j) (.d (.bool (!decide (i = j)))) := o2_val fun G H v w e hv hw Q q => by
  cases hv; cases hw
  have : decide (V.str i = V.str j) = decide (i = j) := by simp
  exact ⟨rfl, by rw [this]; exact q _ (.bl _)⟩
/-- == at any depth -/
theorem sh_lay {d : PyData} (h : SeqAt.shaped d = true) : d.canLay0 = true := by
  unfold SeqAt.shaped at h
  rw [Bool.and_eq_true] at h; exact h.1
theorem o2_eqD {K : PySem.W.Frag} (hx : SeqAt.shaped x = true) (hy : SeqAt.shaped y = true) : Op2 (rEqD K) x y (.d (.bool (PyData.eqv x y))) := o2_val fun G H v w e hv hw Q q =>
  ⟨x, y, dq_dp (dq_mono e hv) (sh_lay hx), dq_dp (dq_mono e hw) (sh_lay hy), hx, hy, q _ (.bl _)⟩
theorem o2_neD {K : PySem.W.Frag} (hx : SeqAt.shaped x = true) (hy : SeqAt.shaped y = true) : Op2 (rNeD K) x y (.d (.bool (!PyData.eqv x y))) := o2_val fun G H v w e hv hw Q q =>
  ⟨x, y, dq_dp (dq_mono e hv) (sh_lay hx), dq_dp (dq_mono e hw) (sh_lay hy), hx, hy, q _ (.bl _)⟩
/-- is None -/
def isN : PyData → Bool
  | .none => true
  | _ => false
theorem dec_non {G : Hp} {v : V} {x : PyData} (h : Dq G v x) : decide (v = V.non) = isN x := by cases h <;> simp [isN]
def rIsNn : R2 := fun x y H Q => y = .non ∧ Q (.bl (decide (x = .non))) H
def rNoNn : R2 := fun x y H Q => y = .non ∧ Q (.bl (!decide (x = .non))) H
theorem o2_isN : Op2 rIsNn x .none (.d (.bool (isN x))) := o2_val fun G H v w e hv hw Q q => by
  cases hw; exact ⟨rfl, by rw [dec_non hv]; exact q _ (.bl _)⟩
theorem o2_noN : Op2 rNoNn x .none (.d (.bool (!isN x))) := o2_val fun G H v w e hv hw Q q => by
  cases hw; exact ⟨rfl, by rw [dec_non hv]; exact q _ (.bl _)⟩
/-- x in xs -/
theorem ints_flat : ∀ l : List Int, (l.map V.int).all flatV = true
  | [] => rfl
  | x :: l => by rw [List.map_cons, List.all_cons, ints_flat l]; rfl
theorem inV_ints (x : Int) : ∀ l : List Int, inV (V.int x) (l.map V.int) = decide (x ∈ l)
  | [] => rfl
  | y :: l => by
    have ih := inV_ints x l
    unfold inV at ih ⊢
    rw [List.map_cons, List.any_cons, ih]
    show (eqV (V.int y) (V.int x) || _) = _
    have : eqV (V.int y) (V.int x) = decide (x = y) := by
      show (y == x) = _
      by_cases h : x = y
      · subst h; simp
      · have h' : ¬ y = x := fun z => h z.symm
        simp [h, h']
    rw [this]; simp
theorem o2_inT {K : PySem.W.Frag} {l : List Int} {i : Int} : Op2 (rIn K false) (.int i) (.tuple (l.map .int)) (.d (.bool (decide (i ∈ l)))) := o2_val fun G H v w e hv hw Q q => by
  cases hv; cases hw with
  | tup ha hs =>
    rw [of_dqs_ints hs] at ha
    exact ⟨_, _, rfl, .inr (.inl (.inl (e _ _ ha))), rfl, ints_flat l, by rw [inV_ints]; exact q _ (.bl _)⟩
theorem o2_inL {K : PySem.W.Frag} {l : List Int} {i : Int} : Op2 (rIn K false) (.int i) (.list (l.map .int)) (.d (.bool (decide (i ∈ l)))) := o2_val fun G H v w e hv hw Q q => by
  cases hv; cases hw with
  | lst ha hs =>
    rw [of_dqs_ints hs] at ha
    exact ⟨_, _, rfl, .inl (.inl (.inl (e _ _ ha))), rfl, ints_flat l, by rw [inV_ints]; exact q _ (.bl _)⟩
theorem o2_niT {K : PySem.W.Frag} {l : List Int} {i : Int} : Op2 (rIn K true) (.int i) (.tuple (l.map .int)) (.d (.bool (!decide (i ∈ l)))) := o2_val fun G H v w e hv hw Q q => by
  cases hv; cases hw with
  | tup ha hs =>
    rw [of_dqs_ints hs] at ha
    exact ⟨_, _, rfl, .inr (.inl (.inl (e _ _ ha))), rfl, ints_flat l, by
      show Q (.bl (!inV (V.int i) (l.map V.int))) H
      rw [inV_ints]; exact q _ (.bl _)⟩
theorem o2_niL {K : PySem.W.Frag} {l : List Int} {i : Int} : Op2 (rIn K true) (.int i) (.list (l.map .int)) (.d (.bool (!decide (i ∈ l)))) := o2_val fun G H v w e hv hw Q q => by
  cases hv; cases hw with
  | lst ha hs =>
    rw [of_dqs_ints hs] at ha
    exact ⟨_, _, rfl, .inl (.inl (.inl (e _ _ ha))), rfl, ints_flat l, by
      show Q (.bl (!inV (V.int i) (l.map V.int))) H
      rw [inV_ints]; exact q _ (.bl _)⟩
/-- sequences -/
theorem o2_cat {xs ys : List PyData} (hz : xs.length + ys.length ≤ sizeLine) : Op2 rCat (.list xs) (.list ys) (.l (xs ++ ys)) := fun G H v w e hv hw Q q => by
  cases hv with
  | lst h1 k1 => cases hw with
    | lst h2 k2 =>
      refine ⟨_, _, _, _, rfl, rfl, e _ _ h1, e _ _ h2, by rw [k1.len, k2.len]; exact hz, fun p hp => ?_⟩
      exact q _ G _ (Ext.own e hp) ⟨p, _, rfl, hp, e.none hp, upd_same, k1.app k2⟩
theorem o2_rep {xs : List PyData} {k : Int} (hk : k < 2 ^ 62 ∧ -(2 ^ 62) ≤ k) (hz : xs.length * k.toNat ≤ sizeLine) : Op2 rRep (.list xs) (.int k) (.l (List.replicate k.toNat xs).flatten) := fun G H v w e hv hw Q q => by
  cases hw; cases hv with
  | lst h1 k1 =>
    refine ⟨_, _, _, rfl, rfl, e _ _ h1, by omega, by omega, by rw [k1.len]; exact hz, fun p hp => ?_⟩
    refine q _ G _ (Ext.own e hp) ⟨p, _, rfl, hp, e.none hp, upd_same, ?_⟩
    generalize k.toNat = n
    induction n with
    | zero => exact .nil
    | succ n ih => rw [List.replicate_succ, List.replicate_succ, List.flatten_cons, List.flatten_cons]; exact k1.app ih

theorem o2_catT {K : PySem.W.Frag} {xs ys : List PyData} (hz : xs.length + ys.length ≤ sizeLine) : Op2 (rCatA K) (.tuple xs) (.tuple ys) (.d (.tuple (xs ++ ys))) := fun G H v w e hv hw Q q => by
  cases hv with
  | @tup a vs _ h1 k1 => cases hw with
    | @tup c us _ h2 k2 =>
      refine ⟨_, _, _, _, rfl, rfl, .inl (.inl (e _ _ h1)), .inl (.inl (e _ _ h2)), by rw [k1.len, k2.len]; exact hz, fun z => ?_, fun _ z => ?_, fun _ _ p hp => ?_⟩
      · subst z; cases k1
        exact q _ G H (Ext.refl e) (.tup h2 k2)
      · subst z; cases k2
        refine q _ G H (Ext.refl e) ?_
        rw [List.append_nil]
        exact .tup h1 k1
      · refine q _ _ _ (Ext.new e hp) (.tup upd_same (dqs_mono (Ex.new (e.none hp)) (k1.app k2)))
end
end Kn

namespace Kn
open PySem L2

section
variable {b : Bool} {ρ ρ1 ρ2 ρ3 : En} {ta tb tc te : TE} {t u : TT} {x y z : PyData} {r : Rv}

/-! ### tests -/
theorem et_B {c : Bool} (h : Ev b te ρ (.d (.bool c)) ρ1) : EvT b (tB te) ρ c ρ1 := fun G H σ e st nd Q q =>
  h G H σ e st nd _ fun v G' H' x s a r => by cases r; exact ⟨c, rfl, q G' H' x s a⟩
theorem et_t {c : Bool} (h : Ev b te ρ (.d (.bool c)) ρ1) : EvT b (tTest te) ρ c ρ1 := fun G H σ e st nd Q q =>
  h G H σ e st nd _ fun v G' H' x s a r => by cases r; exact ⟨c, rfl, q G' H' x s a⟩
theorem et_not {c : Bool} (h : EvT b t ρ c ρ1) : EvT b (tNot t) ρ (!c) ρ1 := fun G H σ e st nd Q q =>
  h G H σ e st nd _ fun G' H' x s a => q G' H' x s a
theorem et_and {c d : Bool} (h : EvT b t ρ c ρ) (h2 : c = true → EvT b u ρ d ρ) : EvT b (tAnd t u) ρ (c && d) ρ := fun G H σ e st nd Q q =>
  h G H σ e st nd _ fun G' H' x s a => by
    cases c with
    | true => exact h2 rfl G' H' σ x.gh s nd Q fun G2 H2 x2 s2 a2 => q G2 H2 (x.tr x2) s2 a2
    | false => exact q G' H' x s a
theorem et_or {c d : Bool} (h : EvT b t ρ c ρ) (h2 : c = false → EvT b u ρ d ρ) : EvT b (tOr t u) ρ (c || d) ρ := fun G H σ e st nd Q q =>
  h G H σ e st nd _ fun G' H' x s a => by
    cases c with
    | false => exact h2 rfl G' H' σ x.gh s nd Q fun G2 H2 x2 s2 a2 => q G2 H2 (x.tr x2) s2 a2
    | true => exact q G' H' x s a
/-- with the first one's answer known -/
theorem et_andT {d : Bool} (h : EvT b t ρ true ρ1) (h2 : EvT b u ρ1 d ρ2) : EvT b (tAnd t u) ρ d ρ2 := fun G H σ e st nd Q q =>
  h G H σ e st nd _ fun G' H' x s a => h2 G' H' σ x.gh s (by rw [a]; exact nd) Q fun G2 H2 x2 s2 a2 => q G2 H2 (x.then x2 a) s2 (a2.trans a)
theorem et_andF (h : EvT b t ρ false ρ1) : EvT b (tAnd t u) ρ false ρ1 := fun G H σ e st nd Q q => h G H σ e st nd _ fun G' H' x s a => q G' H' x s a
theorem et_orF {d : Bool} (h : EvT b t ρ false ρ1) (h2 : EvT b u ρ1 d ρ2) : EvT b (tOr t u) ρ d ρ2 := fun G H σ e st nd Q q =>
  h G H σ e st nd _ fun G' H' x s a => h2 G' H' σ x.gh s (by rw [a]; exact nd) Q fun G2 H2 x2 s2 a2 => q G2 H2 (x.then x2 a) s2 (a2.trans a)
theorem et_orT (h : EvT b t ρ true ρ1) : EvT b (tOr t u) ρ true ρ1 := fun G H σ e st nd Q q => h G H σ e st nd _ fun G' H' x s a => q G' H' x s a
/-- bools as values -/
theorem ev_and {c d : Bool} (h : Ev b ta ρ (.d (.bool c)) ρ) (h2 : c = true → Ev b tb ρ (.d (.bool d)) ρ) : Ev b (tAndV ta tb) ρ (.d (.bool (c && d))) ρ := fun G H σ e st nd Q q =>
  h G H σ e st nd _ fun v G' H' x s a r => by
    cases r
    refine ⟨c, rfl, ?_⟩
    cases c with
    | true => exact h2 rfl G' H' σ x.gh s nd Q fun v2 G2 H2 x2 s2 a2 r2 => q v2 G2 H2 (x.tr x2) s2 a2 r2
    | false => exact q _ G' H' x s a (.bl _)
theorem ev_or {c d : Bool} (h : Ev b ta ρ (.d (.bool c)) ρ) (h2 : c = false → Ev b tb ρ (.d (.bool d)) ρ) : Ev b (tOrV ta tb) ρ (.d (.bool (c || d))) ρ := fun G H σ e st nd Q q =>
  h G H σ e st nd _ fun v G' H' x s a r => by
    cases r
    refine ⟨c, rfl, ?_⟩
    cases c with
    | false => exact h2 rfl G' H' σ x.gh s nd Q fun v2 G2 H2 x2 s2 a2 r2 => q v2 G2 H2 (x.tr x2) s2 a2 r2
    | true => exact q _ G' H' x s a (.bl _)
theorem ev_not {c : Bool} (h : Ev b ta ρ (.d (.bool c)) ρ1) : Ev b (tNotV ta) ρ (.d (.bool (!c))) ρ1 := fun G H σ e st nd Q q =>
  h G H σ e st nd _ fun v G' H' x s a r => by cases r; exact ⟨c, rfl, q _ G' H' x s a (.bl _)⟩
/-- a if c else b -/
theorem ev_if {c : Bool} (h : EvT b t ρ c ρ1) (h1 : c = true → Ev b ta ρ1 r ρ2) (h2 : c = false → Ev b tb ρ1 r ρ2) : Ev b (tIf t ta tb) ρ r ρ2 := fun G H σ e st nd Q q =>
  h G H σ e st nd _ fun G' H' x s a => by
    have nd' : (adr ρ1).Nodup := by rw [a]; exact nd
    cases c with
    | true => exact h1 rfl G' H' σ x.gh s nd' Q fun v2 G2 H2 x2 s2 a2 r2 => q v2 G2 H2 (x.then x2 a) s2 (a2.trans a) (r2.back x)
    | false => exact h2 rfl G' H' σ x.gh s nd' Q fun v2 G2 H2 x2 s2 a2 r2 => q v2 G2 H2 (x.then x2 a) s2 (a2.trans a) (r2.back x)
/-- both ways the same kind of data -/
theorem ev_ifD {α : Type} {enc : α → PyData} {c : Bool} {p q : α} (h : EvT b t ρ c ρ1) (h1 : c = true → Ev b ta ρ1 (.d (enc p)) ρ2) (h2 : c = false → Ev b tb ρ1 (.d (enc q)) ρ2) : Ev b (tIf t ta tb) ρ (.d (enc (if c = true then p else q))) ρ2 :=
  ev_if h (fun e => by rw [if_pos e]; exact h1 e) (fun e => by rw [if_neg (by rw [e]; decide)]; exact h2 e)
/-- lo <= x <= hi -/
theorem ev_chain {f g : R2} {c d : Bool} (ha : Ev b ta ρ (.d x) ρ1) (hb : Ev b tb ρ1 (.d y) ρ2) (h1 : Op2 f x y (.d (.bool c))) (hc : Ev b tc ρ2 (.d z) ρ2) (h2 : Op2 g y z (.d (.bool d))) : Ev b (tChain f g ta tb tc) ρ (.d (.bool (c && d))) ρ2 := by
  intro G H σ e st nd Q q
  refine ha G H σ e st nd _ fun v G1 H1 x1 s1 a1 k1 => ?_
  refine hb G1 H1 σ x1.gh s1 (by rw [a1]; exact nd) _ fun w G2 H2 x2 s2 a2 k2 => ?_
  refine h1 G2 H2 v w x2.gh (dq_mono x2.gg k1) k2 _ fun uu G3 H3 x3 k3 => ?_
  have y2 := (x1.then x2 a1).tr x3.up
  have ad : adr ρ2 = adr ρ := a2.trans a1
  cases k3
  refine ⟨c, rfl, ?_⟩
  cases c with
  | true =>
    refine hc G3 H3 σ x3.gh (s2.mono x3) (by rw [ad]; exact nd) _ fun w2 G4 H4 x4 s4 a4 k4 => ?_
    refine h2 G4 H4 w w2 x4.gh (dq_mono x4.gg (dq_mono x3.gg k2)) k4 Q fun u5 G5 H5 x5 k5 => ?_
    have y4 := y2.then x4 ad
    exact q u5 G5 H5 (y4.tr x5.up) (s4.mono x5) ad (k5.back y4)
  | false => exact q _ G3 H3 y2 (s2.mono x3) ad (.bl _)

/-! ### arguments, displays -/
theorem ea_nil : EvA b tNil ρ [] ρ := fun G H σ e st nd Q q => q [] G H (Ext.refl e) st rfl .nil
theorem ea_d {tr : TA} {as : List Ar} (h : Ev b ta ρ (.d x) ρ1) (hr : EvA b tr ρ1 as ρ2) : EvA b (tCons ta tr) ρ (.d x :: as) ρ2 := fun G H σ e st nd Q q =>
  h G H σ e st nd _ fun v G1 H1 x1 s1 a1 k1 => hr G1 H1 σ x1.gh s1 (by rw [a1]; exact nd) _ fun vs G2 H2 x2 s2 a2 k2 =>
    q _ G2 H2 (x1.then x2 a1) s2 (a2.trans a1) (.cons (show AOk G2 σ v (.d x) from dq_mono x2.gg k1) k2)
theorem ea_v {tr : TA} {as : List Ar} {v0 : V} (h : Ev b ta ρ (.va v0) ρ1) (hr : EvA b tr ρ1 as ρ2) : EvA b (tCons ta tr) ρ (.va v0 :: as) ρ2 := fun G H σ e st nd Q q =>
  h G H σ e st nd _ fun v G1 H1 x1 s1 a1 k1 => hr G1 H1 σ x1.gh s1 (by rw [a1]; exact nd) _ fun vs G2 H2 x2 s2 a2 k2 =>
    q _ G2 H2 (x1.then x2 a1) s2 (a2.trans a1) (.cons (show AOk G2 σ v (.va v0) from k1) k2)
theorem ea_o {tr : TA} {as : List Ar} {i : Nat} {p : Addr} {xs : List PyData} (h : ρ[i]? = some (.mu p xs)) (hr : EvA b tr ρ as ρ2) : EvA b (tCons (tVar i) tr) ρ (.o i :: as) ρ2 := fun G H σ e st nd Q q => by
  obtain ⟨k, _⟩ := st.muget h
  exact ⟨.ref p, k, hr G H σ e st nd _ fun vs G2 H2 x2 s2 a2 k2 => q _ G2 H2 x2 s2 a2 (.cons (show AOk G2 σ _ (.o i) from k) k2)⟩
/-- all arguments are data -/
theorem as_data {G : Hp} {σ : L2.St} : ∀ {vs : List V} {ds : List PyData}, AsOk G σ vs (ds.map Ar.d) → DqA G vs ds
  | _, [], .nil => .nil
  | _, d :: ds, .cons h t => .cons h (as_data t)
theorem ev_tup {ds : List PyData} {ta : TA} (h : EvA b ta ρ (ds.map Ar.d) ρ1) (hl : ds.length ≤ 1000) : Ev b (tTup ta) ρ (.d (.tuple ds)) ρ1 := fun G H σ e st nd Q q =>
  h G H σ e st nd _ fun vs G1 H1 x1 s1 a1 k1 => by
    have k2 := as_data k1
    refine ⟨by rw [k2.len, sizeLine_eq]; omega, fun p hp => ?_⟩
    have x2 : Ext [] G1 H1 (upd G1 p (.tup vs)) (upd H1 p (.tup vs)) := Ext.new x1.gh hp
    exact q _ _ _ (x1.tr x2.up) (s1.mono x2) a1 (.tup upd_same (dqs_mono x2.gg k2))
theorem ev_lst {ds : List PyData} {ta : TA} (h : EvA b ta ρ (ds.map Ar.d) ρ1) (hl : ds.length ≤ 1000) : Ev b (tLst ta) ρ (.l ds) ρ1 := fun G H σ e st nd Q q =>
  h G H σ e st nd _ fun vs G1 H1 x1 s1 a1 k1 => by
    have k2 := as_data k1
    refine ⟨by rw [k2.len, sizeLine_eq]; omega, fun p hp => ?_⟩
    have x2 : Ext [] G1 H1 G1 (upd H1 p (.lst vs)) := Ext.own x1.gh hp
    refine q _ _ _ (x1.tr x2.up) (s1.mono x2) a1 ⟨p, vs, rfl, ?_, x1.gh.none hp, upd_same, k2⟩
    cases z : H p with
    | none => rfl
    | some o => exact absurd hp (x1.th p (by rw [z]; simp))

/-! ### calls of built-ins -/
def RcD (r : List V → Hp → VK → Prop) (as : List Ar) (z : Rv) : Prop := ∀ (G H : Hp) (σ : L2.St) (vs : List V), Ex G H → AsOk G σ vs as → ∀ Q : VK, (∀ u G' H', Ext [] G H G' H' → ROk G H G' H' u z → Q u H') → r vs H Q
theorem ev_cb {r : List V → Hp → VK → Prop} {ta : TA} {as : List Ar} {z : Rv} (h : EvA b ta ρ as ρ1) (hr : RcD r as z) : Ev b (tCB r ta) ρ z ρ1 := fun G H σ e st nd Q q =>
  h G H σ e st nd _ fun vs G1 H1 x1 s1 a1 k1 => hr G1 H1 σ vs x1.gh k1 Q fun u G2 H2 x2 k2 => q u G2 H2 (x1.tr x2.up) (s1.mono x2) a1 (k2.back x1)
theorem rc_val {r : List V → Hp → VK → Prop} {as : List Ar} {z : PyData} (h : ∀ (G H : Hp) (σ : L2.St) (vs : List V), Ex G H → AsOk G σ vs as → ∀ Q : VK, (∀ u, Dq G u z → Q u H) → r vs H Q) : RcD r as (.d z) := fun G H σ vs e hv Q q =>
  h G H σ vs e hv Q fun u hu => q u G H (Ext.refl e) hu

/-! ### what a def promises: over data; over data behind one own list -/
def spD (R : List PyData → Rv → Prop) : Sp := fun vs H Q _ => ∃ G ds r, Ex G H ∧ DqA G vs ds ∧ R ds r ∧ ∀ v G' H', Ext [] G H G' H' → ROk G H G' H' v r → Q v H'
def spO (R : List PyData → List PyData → Rv → List PyData → Prop) : Sp := fun vs H Q _ => ∃ (G : Hp) (p : Addr) (us ws : List V) (xs ds : List PyData) (r : Rv) (ys : List PyData), Ex G H ∧ vs = .ref p :: ws ∧ H p = some (.lst us) ∧ G p = none ∧ DqA G us xs ∧ DqA G ws ds ∧
  R xs ds r ys ∧ ∀ v G' H' us', Ext [p] G H G' H' → H' p = some (.lst us') → G' p = none → DqA G' us' ys → ROk G H G' H' v r → Q v H'
theorem ev_call {R : List PyData → Rv → Prop} {E : XK} {ta : TA} {ds dds : List PyData} {dvs : List V} (hdv : ∀ G, DqA G dvs dds) (h : EvA b ta ρ (ds.map Ar.d) ρ1) (hr : R (ds ++ dds) r) : Ev b (tCall (spD R) dvs E ta) ρ r ρ1 := fun G H σ e st nd Q q =>
  h G H σ e st nd _ fun vs G1 H1 x1 s1 a1 k1 => ⟨G1, ds ++ dds, r, x1.gh, (as_data k1).app (hdv G1), hr, fun v G2 H2 x2 k2 => q v G2 H2 (x1.tr x2.up) (s1.mono x2) a1 (k2.back x1)⟩
theorem ev_call0 {R : List PyData → Rv → Prop} {E : XK} {ta : TA} {ds : List PyData} (h : EvA b ta ρ (ds.map Ar.d) ρ1) (hr : R ds r) : Ev b (tCall (spD R) [] E ta) ρ r ρ1 :=
  ev_call (dds := []) (fun _ => .nil) h (by rw [List.append_nil]; exact hr)
theorem ext_own {M : List Addr} {p : Addr} {G H G' H' : Hp} (x : Ext [p] G H G' H') (hp : p ∈ M) (hg : G' p = none) : Ext M G H G' H' := ⟨x.gg, x.gh, fun c o hc h => x.fr c o (fun z => hc (by rw [List.mem_singleton.mp z]; exact hp)) h, x.th, fun c hc h1 h2 => x.nw c (fun z => hc (by rw [List.mem_singleton.mp z]; exact hp)) h1 h2⟩
/-- behind a change of p alone -/
theorem StOk.ext1 {G H G' H' : Hp} {p : Addr} {us' : List V} {xs ys : List PyData} (x : Ext [p] G H G' H') (h' : H' p = some (.lst us')) (hg : G' p = none) (hd : DqA G' us' ys) : ∀ {σ : List (Option V)} {ρ : En} {i : Nat}, StOk G H σ ρ → (adr ρ).Nodup → ρ[i]? = some (.mu p xs) → StOk G' H' σ (ρ.set i (.mu p ys)) := by
  have keep : ∀ {σ : List (Option V)} {ρ : En}, StOk G H σ ρ → p ∉ adr ρ → StOk G' H' σ ρ := by
    intro σ ρ h
    induction h with
    | nil => intro _; exact .nil
    | @cons o s σ ρ h t ih =>
      intro hp
      rw [adr_cons] at hp
      refine .cons ?_ (ih fun z => hp (List.mem_append_right _ z))
      rcases h with h | ⟨v, h1, h2⟩
      · exact .inl h
      · refine .inr ⟨v, h1, ?_⟩
        cases s with
        | un => trivial
        | dat d => exact dq_mono x.gg h2
        | dc es => exact dc_mono x.gg h2
        | va u => exact h2
        | kl K ns => obtain ⟨a0, e1, e2⟩ := h2; exact ⟨a0, e1, Ex.sl x.gg e2⟩
        | mu q zs =>
          obtain ⟨k1, k2, vs, k3, k4⟩ := h2
          have hq : q ∉ [p] := fun z => hp (List.mem_append_left _ (by rw [← List.mem_singleton.mp z]; simp [adr1]))
          exact ⟨k1, x.nw q hq k2 (by rw [k3]; simp), vs, x.fr q _ hq k3, dqs_mono x.gg k4⟩
        | rg r => exact VOk.out h2 x fun q hq ha => hp (List.mem_append_left _ (by rw [← List.mem_singleton.mp hq]; exact ha))
  intro σ ρ i h
  induction h generalizing i with
  | nil => intro _ hi; simp at hi
  | @cons o s σ ρ h t ih =>
    intro nd hi
    rw [adr_cons] at nd
    obtain ⟨n1, n2, n3⟩ := List.nodup_append.mp nd
    cases i with
    | zero =>
      simp at hi; subst hi
      rcases h with h | ⟨v, h1, h2, h3, vs, h4, h5⟩
      · cases h
      · exact .cons (.inr ⟨v, h1, h2, hg, us', h', hd⟩) (keep t fun z => n3 p (by simp [adr1]) p z rfl)
    | succ i =>
      have hi' : ρ[i]? = some (.mu p xs) := by simpa using hi
      refine .cons ?_ (ih n2 hi')
      rcases h with h | ⟨v, h1, h2⟩
      · exact .inl h
      · refine .inr ⟨v, h1, ?_⟩
        cases s with
        | un => trivial
        | dat d => exact dq_mono x.gg h2
        | dc es => exact dc_mono x.gg h2
        | va u => exact h2
        | kl K ns => obtain ⟨a0, e1, e2⟩ := h2; exact ⟨a0, e1, Ex.sl x.gg e2⟩
        | mu q zs =>
          obtain ⟨k1, k2, vs, k3, k4⟩ := h2
          have hq : q ∉ [p] := fun z => n3 q (by simp [adr1]) p (mem_adr hi') (List.mem_singleton.mp z)
          exact ⟨k1, x.nw q hq k2 (by rw [k3]; simp), vs, x.fr q _ hq k3, dqs_mono x.gg k4⟩
        | rg r => exact VOk.out h2 x fun q hq ha => n3 q ha p (mem_adr hi') (List.mem_singleton.mp hq)
theorem ev_callO {R : List PyData → List PyData → Rv → List PyData → Prop} {E : XK} {ta : TA} {i : Nat} {p : Addr} {xs ys ds dds : List PyData} {dvs : List V} (hdv : ∀ G, DqA G dvs dds) (h : EvA true ta ρ (Ar.o i :: ds.map Ar.d) ρ1) (hi : ρ1[i]? = some (.mu p xs)) (hr : R xs (ds ++ dds) r ys) :
    Ev true (tCall (spO R) dvs E ta) ρ r (ρ1.set i (.mu p ys)) := fun G H σ e st nd Q q =>
  h G H σ e st nd _ fun vs G1 H1 x1 s1 a1 k1 => by
    cases k1 with
    | @cons v vs _ _ h1 h2 =>
      obtain ⟨m1, m2, us, m3, m4⟩ := s1.muget hi
      have e1 : v = .ref p := by
        have h1 : σ[i]? = some (some v) := h1
        rw [m1] at h1; exact (Option.some.inj (Option.some.inj h1)).symm
      subst e1
      have nd1 : (adr ρ1).Nodup := by rw [a1]; exact nd
      refine ⟨G1, p, us, vs ++ dvs, xs, ds ++ dds, r, ys, x1.gh, rfl, m3, m2, m4, (as_data h2).app (hdv G1), hr, fun v G2 H2 us' x2 k2 k3 k4 k5 => ?_⟩
      refine q v G2 H2 (x1.tr (ext_own x2 (by show p ∈ adr ρ; rw [← a1]; exact mem_adr hi) k3)) (s1.ext1 x2 k2 k3 k4 nd1 hi) ((adr_upd hi).trans a1) (k5.back x1)
theorem ev_callO0 {R : List PyData → List PyData → Rv → List PyData → Prop} {E : XK} {ta : TA} {i : Nat} {p : Addr} {xs ys ds : List PyData} (h : EvA true ta ρ (Ar.o i :: ds.map Ar.d) ρ1) (hi : ρ1[i]? = some (.mu p xs)) (hr : R xs ds r ys) :
    Ev true (tCall (spO R) [] E ta) ρ r (ρ1.set i (.mu p ys)) := ev_callO (dds := []) (fun _ => .nil) h hi (by rw [List.append_nil]; exact hr)
end
end Kn

namespace Kn
open PySem L2

/-! ### pointwise -/
theorem StOk.iff {G H : Hp} : ∀ {σ : List (Option V)} {ρ : En}, StOk G H σ ρ ↔ σ.length = ρ.length ∧ ∀ (i : Nat) (o : Option V) (s : Sl), σ[i]? = some o → ρ[i]? = some s → SOk G H o s := by
  intro σ
  induction σ with
  | nil =>
    intro ρ
    constructor
    · intro h; cases h; exact ⟨rfl, fun i o s h => by simp at h⟩
    · rintro ⟨h, _⟩
      cases ρ with
      | nil => exact .nil
      | cons a r => simp at h
  | cons a σ ih =>
    intro ρ
    constructor
    · intro h
      cases h with
      | cons h t =>
        obtain ⟨l, k⟩ := ih.mp t
        refine ⟨by simp [l], fun i o s h1 h2 => ?_⟩
        cases i with
        | zero => simp at h1 h2; subst h1; subst h2; exact h
        | succ i => exact k i o s (by simpa using h1) (by simpa using h2)
    · rintro ⟨l, k⟩
      cases ρ with
      | nil => simp at l
      | cons s ρ => exact .cons (k 0 a s (by simp) (by simp)) (ih.mpr ⟨by simpa using l, fun i o s' h1 h2 => k (i + 1) o s' (by simpa using h1) (by simpa using h2)⟩)
def wipeE (ρ : En) : List Nat → En
  | [] => ρ
  | v :: vs => (wipeE ρ vs).set v .un
theorem wipeE_len (ρ : En) : ∀ vs, (wipeE ρ vs).length = ρ.length
  | [] => rfl
  | v :: vs => by unfold wipeE; rw [List.length_set, wipeE_len ρ vs]
theorem StOk.wipe {G H : Hp} {σ : List (Option V)} {ρ : En} (h : StOk G H σ ρ) : ∀ vs, StOk G H (wipe σ vs) (wipeE ρ vs)
  | [] => h
  | v :: vs => by
    unfold L2.wipe wipeE
    exact (StOk.wipe h vs).un v
theorem nd_wipe {ρ : En} (h : (adr ρ).Nodup) : ∀ vs, (adr (wipeE ρ vs)).Nodup
  | [] => h
  | v :: vs => nd_set0 rfl (nd_wipe h vs)
theorem wipe_in {σ : L2.St} {i : Nat} : ∀ {vs : List Nat}, i ∈ vs → i < σ.length → (wipe σ vs)[i]? = some none
  | [], h, _ => by simp at h
  | v :: vs, h, hl => by
    unfold wipe
    by_cases e : v = i
    · subst e; rw [List.getElem?_set_self (by rw [wipe_length]; exact hl)]
    · rw [List.getElem?_set_ne e]
      exact wipe_in ((List.mem_cons.mp h).resolve_left fun z => e z.symm) hl
theorem wipe_ext {σ τ : L2.St} {vs : List Nat} (hl : τ.length = σ.length) (h : ∀ i, i ∉ vs → τ[i]? = (wipe σ vs)[i]?) : wipe τ vs = wipe σ vs := by
  apply List.ext_getElem?
  intro i
  by_cases hi : i ∈ vs
  · by_cases hb : i < σ.length
    · rw [wipe_in hi hb, wipe_in hi (by rw [hl]; exact hb)]
    · rw [List.getElem?_eq_none (by rw [wipe_length, hl]; omega), List.getElem?_eq_none (by rw [wipe_length]; omega)]
  · rw [wipe_out hi, h i hi]

/-! ### an own list that is read -/
mutual
def noL : PyData → Bool
  | .none => true
  | .bool _ => true
  | .int _ => true
  | .str _ => true
  | .tuple xs => noLs xs
  | .list _ => false
  | .dict _ => false
def noLs : List PyData → Bool
  | [] => true
  | x :: r => noL x && noLs r
end
theorem noLs_ints : ∀ l : List Int, noLs (l.map .int) = true
  | [] => rfl
  | _ :: l => by simp [noLs, noL, noLs_ints l]
theorem noLs_bools : ∀ l : List Bool, noLs (l.map .bool) = true
  | [] => rfl
  | _ :: l => by simp [noLs, noL, noLs_bools l]
mutual
theorem dq_noL {G G' : Hp} (h : ∀ a xs, G a = some (.tup xs) → G' a = some (.tup xs)) : ∀ {v : V} {d : PyData}, Dq G v d → noL d = true → Dq G' v d
  | _, _, .non, _ => .non
  | _, _, .bl b, _ => .bl b
  | _, _, .int i, _ => .int i
  | _, _, .str x, _ => .str x
  | _, _, .lst _ _, z => by simp [noL] at z
  | _, _, .tup h1 h2, z => .tup (h _ _ h1) (dqs_noL h h2 (by simpa [noL] using z))
  | _, _, .exc _, z => by simp [noL] at z
  | _, _, .excF _ _ _, z => by simp [noL] at z
theorem dqs_noL {G G' : Hp} (h : ∀ a xs, G a = some (.tup xs) → G' a = some (.tup xs)) : ∀ {vs : List V} {ds : List PyData}, DqA G vs ds → noLs ds = true → DqA G' vs ds
  | _, _, .nil, _ => .nil
  | _, _, .cons h1 h2, z => by
    rw [noLs, Bool.and_eq_true] at z
    have z' := z
    exact .cons (dq_noL h h1 z'.1) (dqs_noL h h2 z'.2)
end
def rvNoL : Rv → Bool
  | .d d => noL d
  | .l xs => noLs xs
  | .va _ => true
  | .o _ => false
  | .e _ => false
/-- the list of slot i is read as data -/
theorem bor_core {G H : Hp} {σ : L2.St} {ρ : En} {i : Nat} {p : Addr} {xs : List PyData} (hi : ρ[i]? = some (.mu p xs)) (e : Ex G H) (st : StOk G H σ ρ) (nd : (adr ρ).Nodup) :
    ∃ G1, Ex G1 H ∧ StOk G1 H σ (ρ.set i (.dat (.list xs))) ∧ (adr (ρ.set i (.dat (.list xs)))).Nodup ∧
      ∀ G2 H2, Ext [] G1 H G2 H2 → ∃ G3, Ext [] G H G3 H2 ∧ StOk G3 H2 σ ρ ∧ (∀ a o, a ≠ p → G2 a = some o → G3 a = some o) ∧ G3 p = none ∧ (∀ a, G2 a = none → G3 a = none) ∧ ∃ vs, G2 p = some (.lst vs) := by
  obtain ⟨m1, m2, vs, m3, m4⟩ := st.muget hi
  have e1 : Ex (upd G p (.lst vs)) H := fun c o hc => by
    by_cases hb : c = p
    · subst hb; rw [upd_same] at hc; rw [← hc]; exact m3
    · rw [upd_ne hb] at hc; exact e c o hc
  refine ⟨upd G p (.lst vs), e1, ?_, nd_set0 rfl nd, fun G2 H2 x => ?_⟩
  · rw [StOk.iff]
    obtain ⟨l, k⟩ := StOk.iff.mp st
    refine ⟨by rw [List.length_set]; exact l, fun j o s h1 h2 => ?_⟩
    by_cases hj : i = j
    · subst hj
      have hlt : i < ρ.length := (List.getElem?_eq_some_iff.mp hi).1
      rw [List.getElem?_set_self hlt] at h2
      rw [m1] at h1
      have h1 := Option.some.inj h1
      have h2 := Option.some.inj h2
      subst h1; subst h2
      exact .inr ⟨_, rfl, .lst upd_same (dqs_mono (Ex.new m2) m4)⟩
    · rw [List.getElem?_set_ne hj] at h2
      rcases k j o s h1 h2 with k | ⟨v, k1, k2⟩
      · exact .inl k
      · refine .inr ⟨v, k1, ?_⟩
        cases s with
        | un => trivial
        | dat d => exact dq_mono (Ex.new m2) k2
        | dc es => exact dc_mono (Ex.new m2) k2
        | va u => exact k2
        | kl K ns => obtain ⟨a0, e1, e2⟩ := k2; exact ⟨a0, e1, Ex.sl (Ex.new m2) e2⟩
        | mu q zs =>
          obtain ⟨g1, g2, ws, g3, g4⟩ := k2
          refine ⟨g1, ?_, ws, g3, dqs_mono (Ex.new m2) g4⟩
          have hq : q ≠ p := fun z => by
            subst z
            -- the same address in two slots
            have key : ∀ {ρ : En} {a c : Nat} {u w : List PyData}, (adr ρ).Nodup → ρ[a]? = some (.mu q u) → ρ[c]? = some (.mu q w) → a = c := by
              intro ρ
              induction ρ with
              | nil => intro a c u w _ h; simp at h
              | cons s r ih =>
                intro a c u w n h1 h2
                rw [adr_cons] at n
                obtain ⟨n1, n2, n3⟩ := List.nodup_append.mp n
                cases a with
                | zero =>
                  cases c with
                  | zero => rfl
                  | succ c => simp at h1; subst h1; exact absurd rfl (n3 q (by simp [adr1]) q (mem_adr (i := c) (by simpa using h2)))
                | succ a =>
                  cases c with
                  | zero => simp at h2; subst h2; exact absurd rfl (n3 q (by simp [adr1]) q (mem_adr (i := a) (by simpa using h1)))
                  | succ c => exact congrArg (· + 1) (ih (a := a) (c := c) n2 (by simpa using h1) (by simpa using h2))
            exact hj (key nd hi h2)
          rw [upd_ne hq]; exact g2
        | rg r =>
          exact rg_keep k2 (Ex.new m2) (fun a ha => rfl) fun a ha => by
            have hq : a ≠ p := fun z => by subst z; exact hj (adr_apart nd hi h2 (List.mem_singleton.mpr rfl) ha)
            rw [upd_ne hq]; exact (k2.2.1 a ha).1
  · refine ⟨fun a => if a = p then none else G2 a, ?_⟩
    have gp : ∀ a, a ≠ p → (if a = p then none else G2 a) = G2 a := fun a h => if_neg h
    have x3 : Ext [] G H (fun a => if a = p then none else G2 a) H2 := by
      refine ⟨fun a o h => ?_, fun a o h => ?_, x.fr, x.th, fun a ha h1 h2 => ?_⟩
      · have hb : a ≠ p := fun z => by subst z; rw [m2] at h; cases h
        show (if a = p then none else G2 a) = some o
        rw [gp a hb]; exact x.gg a o (by rw [upd_ne hb]; exact h)
      · have h : (if a = p then none else G2 a) = some o := h
        by_cases hb : a = p
        · rw [if_pos hb] at h; cases h
        · rw [gp a hb] at h; exact x.gh a o h
      · show (if a = p then none else G2 a) = none
        by_cases hb : a = p
        · rw [if_pos hb]
        · rw [gp a hb]; exact x.nw a ha (by rw [upd_ne hb]; exact h1) h2
    refine ⟨x3, st.mono x3, fun a o hb h => ?_, if_pos rfl, fun a h => ?_, vs, x.gg p _ upd_same⟩
    · show (if a = p then none else G2 a) = some o
      rw [gp a hb]; exact h
    · show (if a = p then none else G2 a) = none
      by_cases hb : a = p
      · rw [if_pos hb]
      · rw [gp a hb]; exact h
theorem ev_bor {b : Bool} {te : TE} {ρ : En} {r : Rv} (i : Nat) {p : Addr} {xs : List PyData} (hi : ρ[i]? = some (.mu p xs)) (h : Ev false te (ρ.set i (.dat (.list xs))) r (ρ.set i (.dat (.list xs)))) (hr : rvNoL r = true) : Ev b te ρ r ρ := by
  refine Ev.up ?_
  intro G H σ e st nd Q q
  obtain ⟨G1, e1, s1, n1, k⟩ := bor_core hi e st nd
  refine h G1 H σ e1 s1 n1 Q fun v G2 H2 x s2 a2 r2 => ?_
  obtain ⟨G3, x3, s3, k1, k2, k3, vs, k4⟩ := k G2 H2 x
  refine q v G3 H2 x3 s3 rfl ?_
  have ht : ∀ a xs, G2 a = some (.tup xs) → G3 a = some (.tup xs) := fun a xs h => k1 a _ (fun z => by subst z; rw [k4] at h; cases h) h
  cases r with
  | d d => exact dq_noL ht r2 hr
  | va u => exact r2
  | l ys =>
    obtain ⟨q', us, g1, g2, g3, g4, g5⟩ := r2
    exact ⟨q', us, g1, g2, k3 q' g3, g4, dqs_noL ht g5 hr⟩
  | o d => cases hr
  | e es => cases hr
theorem et_bor {b c : Bool} {t : TT} {ρ : En} (i : Nat) {p : Addr} {xs : List PyData} (hi : ρ[i]? = some (.mu p xs)) (h : EvT false t (ρ.set i (.dat (.list xs))) c (ρ.set i (.dat (.list xs)))) : EvT b t ρ c ρ := by
  refine EvT.up ?_
  intro G H σ e st nd Q q
  obtain ⟨G1, e1, s1, n1, k⟩ := bor_core hi e st nd
  refine h G1 H σ e1 s1 n1 Q fun G2 H2 x s2 a2 => ?_
  obtain ⟨G3, x3, s3, _⟩ := k G2 H2 x
  exact q G3 H2 x3 s3 rfl

/-! ### subscripts, slices -/
section
variable {b : Bool} {ρ ρ1 ρ2 ρ3 : En} {ta tb tc te : TE} {t u : TT} {x y z : PyData} {r : Rv} {K : PySem.W.Frag}
theorem atI_dq {G : Hp} {vs : List V} {ds : List PyData} {i : Int} {d : PyData} (h : DqA G vs ds) (hi : atI ds i = some d) : ∃ v, atI vs i = some v ∧ Dq G v d := by
  unfold atI at hi ⊢
  rw [h.len]
  cases e : ixN ds.length i with
  | none => rw [e] at hi; cases hi
  | some j => rw [e] at hi; exact h.get' hi
theorem o2_ixL {ds : List PyData} {i : Int} {d : PyData} (hi : atI ds i = some d) : Op2 (rIxL K) (.list ds) (.int i) (.d d) := o2_val fun G H v w e hv hw Q q => by
  cases hw; cases hv with
  | lst ha hs =>
    obtain ⟨v, h1, h2⟩ := atI_dq hs hi
    exact ⟨_, _, i, v, rfl, rfl, .inl (.inl (e _ _ ha)), h1, q v h2⟩
theorem o2_ixT {ds : List PyData} {i : Int} {d : PyData} (hi : atI ds i = some d) : Op2 (rIxT K) (.tuple ds) (.int i) (.d d) := o2_val fun G H v w e hv hw Q q => by
  cases hw; cases hv with
  | tup ha hs =>
    obtain ⟨v, h1, h2⟩ := atI_dq hs hi
    exact ⟨_, _, i, v, rfl, rfl, .inl (.inl (e _ _ ha)), h1, q v h2⟩
def cutD (xs : List PyData) (lo hi : Option Int) : List PyData := (xs.drop (HT.sIx xs.length 0 lo)).take (HT.sIx xs.length xs.length hi - HT.sIx xs.length 0 lo)
theorem cut_dq {G : Hp} {vs : List V} {ds : List PyData} (h : DqA G vs ds) (lo hi : Option Int) : DqA G (cutV vs lo hi) (cutD ds lo hi) := by
  unfold cutV cutD
  rw [h.len]
  exact DqA.take _ (DqA.drop _ h)
/-- a part of a slice -/
def EvO (b : Bool) (to : TO) (ρ : En) (o : Option Int) (ρ' : En) : Prop :=
  ∀ (G H : Hp) (σ : L2.St), Ex G H → StOk G H σ ρ → (adr ρ).Nodup → ∀ Q : Option Int → Hp → Prop,
    (∀ G' H', Ext (ws b ρ) G H G' H' → StOk G' H' σ ρ' → adr ρ' = adr ρ → Q o H') → to σ H Q
theorem eo_n : EvO b tNoPart ρ none ρ := fun G H σ e st _ Q q => q G H (Ext.refl e) st rfl
theorem eo_s {i : Int} (h : Ev b te ρ (.d (.int i)) ρ1) : EvO b (tPart te) ρ (some i) ρ1 := fun G H σ e st nd Q q =>
  h G H σ e st nd _ fun v G1 H1 x1 s1 a1 k1 => by cases k1; exact ⟨i, rfl, q G1 H1 x1 s1 a1⟩
theorem ev_slL {tl th : TO} {xs : List PyData} {lo hi : Option Int} (h : Ev b te ρ (.d (.list xs)) ρ1) (h1 : EvO b tl ρ1 lo ρ2) (h2 : EvO b th ρ2 hi ρ3) : Ev b (tSl (rSlL K) te tl th) ρ (.l (cutD xs lo hi)) ρ3 := fun G H σ e st nd Q q =>
  h G H σ e st nd _ fun v G1 H1 x1 s1 a1 k1 => h1 G1 H1 σ x1.gh s1 (by rw [a1]; exact nd) _ fun G2 H2 x2 s2 a2 => h2 G2 H2 σ x2.gh s2 (by rw [a2, a1]; exact nd) _ fun G3 H3 x3 s3 a3 => by
    have k1' := dq_mono x3.gg (dq_mono x2.gg k1)
    have y3 := (x1.then x2 a1).then x3 (a2.trans a1)
    cases k1' with
    | lst ha hs =>
      refine ⟨_, _, rfl, .inl (.inl (x3.gh _ _ ha)), fun p hp => ?_⟩
      rename_i a0 vs0
      have x4 : Ext [] G3 H3 G3 (upd H3 p (.lst (cutV vs0 lo hi))) := Ext.own x3.gh hp
      refine q _ _ _ (y3.tr x4.up) (s3.mono x4) (a3.trans (a2.trans a1)) ⟨p, _, rfl, ?_, x3.gh.none hp, upd_same, cut_dq hs lo hi⟩
      cases z : H p with
      | none => rfl
      | some o => exact absurd hp (y3.th p (by rw [z]; simp))
theorem ev_slT {tl th : TO} {xs : List PyData} {lo hi : Option Int} (h : Ev b te ρ (.d (.tuple xs)) ρ1) (h1 : EvO b tl ρ1 lo ρ2) (h2 : EvO b th ρ2 hi ρ3) : Ev b (tSl (rSlA K) te tl th) ρ (.d (.tuple (cutD xs lo hi))) ρ3 := fun G H σ e st nd Q q =>
  h G H σ e st nd _ fun v G1 H1 x1 s1 a1 k1 => h1 G1 H1 σ x1.gh s1 (by rw [a1]; exact nd) _ fun G2 H2 x2 s2 a2 => h2 G2 H2 σ x2.gh s2 (by rw [a2, a1]; exact nd) _ fun G3 H3 x3 s3 a3 => by
    have k1' := dq_mono x3.gg (dq_mono x2.gg k1)
    have y3 := (x1.then x2 a1).then x3 (a2.trans a1)
    cases k1' with
    | tup ha hs =>
      refine ⟨_, _, rfl, .inl (.inl (x3.gh _ _ ha)), fun z => ?_, fun _ p hp => ?_⟩
      · have ec : cutD xs lo hi = xs := by
          unfold cutD
          rw [← hs.len, z.1, z.2, List.drop_zero]
          exact List.take_of_length_le (by rw [hs.len]; omega)
        rw [ec] at q
        exact q _ G3 H3 y3 s3 (a3.trans (a2.trans a1)) (.tup ha hs)
      · rename_i a0 vs0 _
        have x4 : Ext [] G3 H3 (upd G3 p (.tup (cutV vs0 lo hi))) (upd H3 p (.tup (cutV vs0 lo hi))) := Ext.new x3.gh hp
        exact q _ _ _ (y3.tr x4.up) (s3.mono x4) (a3.trans (a2.trans a1)) (.tup upd_same (dqs_mono x4.gg (cut_dq hs lo hi)))
end
end Kn

namespace Kn
open PySem L2

/-! ### what a loop walks -/
def ItOk (J : It) (G : Hp) (ds : List PyData) : Prop := ∀ G1 H1, Ex G G1 → Ex G1 H1 → J.stop ds.length H1 ∧
  ∀ (i : Nat) (d : PyData), ds[i]? = some d → J.go i H1 ∧ ∀ x H2, J.yld i H1 x H2 → ∃ G2, Ext [] G1 H1 G2 H2 ∧ Dq G2 x d
def EvI (b : Bool) (wi : TI) (ρ : En) (ds : List PyData) (ρ' : En) : Prop :=
  ∀ (G H : Hp) (σ : L2.St), Ex G H → StOk G H σ ρ → (adr ρ).Nodup → ∀ R : It → Hp → Prop,
    (∀ J G' H', Ext (ws b ρ) G H G' H' → StOk G' H' σ ρ' → adr ρ' = adr ρ → ItOk J G' ds → R J H') → wi σ H R
section
variable {b : Bool} {ρ ρ1 ρ2 ρ3 : En} {ta tb tc te : TE} {t u : TT} {x y z : PyData} {r : Rv} {K : PySem.W.Frag}
theorem ei_list {xs : List PyData} (h : Ev b te ρ (.d (.list xs)) ρ1) : EvI b (iList K te) ρ xs ρ1 := fun G H σ e st nd R q =>
  h G H σ e st nd _ fun v G1 H1 x1 s1 a1 k1 => by
    cases k1 with
    | lst ha hs =>
      rename_i a vs
      refine ⟨a, rfl, ⟨vs, .inl (.inl (x1.gh _ _ ha))⟩, q _ G1 H1 x1 s1 a1 fun G2 H2 e1 e2 => ?_⟩
      have hq : SqL K H2 a vs := .inl (.inl (e2 _ _ (e1 _ _ ha)))
      refine ⟨⟨vs, hq, by rw [hs.len]; exact Nat.le_refl _⟩, fun i d hd => ?_⟩
      obtain ⟨v, h1, h2⟩ := hs.get' hd
      refine ⟨⟨vs, v, hq, h1⟩, fun x H3 hy => ?_⟩
      obtain ⟨rfl, hy⟩ := hy
      have hx := hy vs hq
      rw [h1] at hx
      have hx := Option.some.inj hx
      subst hx
      exact ⟨G2, Ext.refl e2, dq_mono e1 h2⟩
theorem ei_tup {xs : List PyData} (h : Ev b te ρ (.d (.tuple xs)) ρ1) : EvI b (iTup K te) ρ xs ρ1 := fun G H σ e st nd R q =>
  h G H σ e st nd _ fun v G1 H1 x1 s1 a1 k1 => by
    cases k1 with
    | tup ha hs =>
      rename_i a vs
      refine ⟨a, rfl, ⟨vs, .inl (.inl (x1.gh _ _ ha))⟩, q _ G1 H1 x1 s1 a1 fun G2 H2 e1 e2 => ?_⟩
      have hq : SqT K H2 a vs := .inl (.inl (e2 _ _ (e1 _ _ ha)))
      refine ⟨⟨vs, hq, by rw [hs.len]; exact Nat.le_refl _⟩, fun i d hd => ?_⟩
      obtain ⟨v, h1, h2⟩ := hs.get' hd
      refine ⟨⟨vs, v, hq, h1⟩, fun x H3 hy => ?_⟩
      obtain ⟨rfl, hy⟩ := hy
      have hx := hy vs hq
      rw [h1] at hx
      have hx := Option.some.inj hx
      subst hx
      exact ⟨G2, Ext.refl e2, dq_mono e1 h2⟩
/-- lo, lo + 1, .. -/
def rgI (lo : Int) : Nat → List Int
  | 0 => []
  | n + 1 => lo :: rgI (lo + 1) n
theorem rgI_len : ∀ (n : Nat) (lo : Int), (rgI lo n).length = n
  | 0, _ => rfl
  | n + 1, lo => by show (rgI (lo + 1) n).length + 1 = n + 1; rw [rgI_len n]
theorem rgI_get : ∀ (n : Nat) (lo : Int) (i : Nat), i < n → (rgI lo n)[i]? = some (lo + i)
  | 0, _, _, h => by omega
  | n + 1, lo, 0, _ => by simp [rgI]
  | n + 1, lo, i + 1, h => by
    show (rgI (lo + 1) n)[i]? = _
    rw [rgI_get n (lo + 1) i (by omega)]
    congr 1; omega
theorem mem_rgI : ∀ {n : Nat} {lo x : Int}, x ∈ rgI lo n ↔ lo ≤ x ∧ x < lo + n
  | 0, lo, x => by
    constructor
    · intro h; simp [rgI] at h
    · intro h; omega
  | n + 1, lo, x => by
    show x ∈ lo :: rgI (lo + 1) n ↔ _
    rw [List.mem_cons, mem_rgI (n := n)]
    omega
theorem itr_ok {lo : Int} {n : Nat} {G : Hp} : ItOk (Itr lo n) G ((rgI lo n).map .int) := fun G1 H1 e1 e2 => by
  refine ⟨by show n ≤ _; rw [List.length_map, rgI_len]; exact Nat.le_refl _, fun i d hd => ?_⟩
  have hi : i < n := by
    have := (List.getElem?_eq_some_iff.mp hd).1
    rwa [List.length_map, rgI_len] at this
  refine ⟨hi, fun x H2 hy => ?_⟩
  obtain ⟨rfl, rfl⟩ := hy
  rw [List.getElem?_map, rgI_get n lo i hi] at hd
  have hd : PyData.int (lo + i) = d := Option.some.inj hd
  subst hd
  exact ⟨G1, Ext.refl e2, .int _⟩
theorem ei_r1 {ta : TA} {n : Int} (h : EvA b ta ρ [.d (.int n)] ρ1) (hn : n < 1000000000000 ∧ -1000000000000 < n) : EvI b (iRng1 ta) ρ ((rgI 0 n.toNat).map .int) ρ1 := fun G H σ e st nd R q =>
  h G H σ e st nd _ fun vs G1 H1 x1 s1 a1 k1 => by
    have k2 := as_data (ds := [.int n]) k1
    cases k2 with
    | cons k3 k4 =>
      cases k3; cases k4
      exact ⟨n, rfl, by omega, by omega, q _ G1 H1 x1 s1 a1 itr_ok⟩
theorem ei_r2 {ta : TA} {m n : Int} (h : EvA b ta ρ [.d (.int m), .d (.int n)] ρ1) (hn : n < 1000000000000 ∧ -1000000000000 < n) (hm : m < 1000000000000 ∧ -1000000000000 < m) : EvI b (iRng2 ta) ρ ((rgI m (n - m).toNat).map .int) ρ1 := fun G H σ e st nd R q =>
  h G H σ e st nd _ fun vs G1 H1 x1 s1 a1 k1 => by
    have k2 := as_data (ds := [.int m, .int n]) k1
    cases k2 with
    | cons k3 k4 =>
      cases k3
      cases k4 with
      | cons k5 k6 =>
        cases k5; cases k6
        exact ⟨m, n, rfl, by omega, q _ G1 H1 x1 s1 a1 itr_ok⟩
/-- pairs -/
theorem pair_ok {G1 H1 H2 : Hp} {T : Addr} {v w : V} {x y : PyData} (e : Ex G1 H1) (hT : H1 T = none) (hv : Dq G1 v x) (hw : Dq G1 w y) (h2 : H2 = upd H1 T (.tup [v, w])) : ∃ G2, Ext [] G1 H1 G2 H2 ∧ Dq G2 (.ref T) (.tuple [x, y]) := by
  subst h2
  have x2 : Ext [] G1 H1 (upd G1 T (.tup [v, w])) (upd H1 T (.tup [v, w])) := Ext.new e hT
  exact ⟨_, x2, .tup upd_same (.cons (dq_mono x2.gg hv) (.cons (dq_mono x2.gg hw) .nil))⟩
def zipD : List PyData → List PyData → List PyData
  | x :: xs, y :: ys => .tuple [x, y] :: zipD xs ys
  | _, _ => []
theorem zipD_len : ∀ xs ys : List PyData, (zipD xs ys).length = min xs.length ys.length
  | [], ys => by cases ys <;> simp [zipD]
  | x :: xs, [] => by simp [zipD]
  | x :: xs, y :: ys => by simp [zipD, zipD_len xs ys]
theorem zipD_get : ∀ {xs ys : List PyData} {i : Nat} {d : PyData}, (zipD xs ys)[i]? = some d → ∃ x y, xs[i]? = some x ∧ ys[i]? = some y ∧ d = .tuple [x, y]
  | [], ys, i, d, h => by cases ys <;> simp [zipD] at h
  | x :: xs, [], i, d, h => by simp [zipD] at h
  | x :: xs, y :: ys, 0, d, h => by simp [zipD] at h; exact ⟨x, y, rfl, rfl, h.symm⟩
  | x :: xs, y :: ys, i + 1, d, h => zipD_get (i := i) (xs := xs) (ys := ys) (by simpa [zipD] using h)
theorem ei_zipL {ta : TA} {xs ys : List PyData} (h : EvA b ta ρ [.d (.list xs), .d (.list ys)] ρ1) : EvI b (RZ.iZipA K ta) ρ (zipD xs ys) ρ1 := fun G H σ e st nd R q =>
  h G H σ e st nd _ fun vs G1 H1 x1 s1 a1 k1 => by
    have k2 := as_data (ds := [.list xs, .list ys]) k1
    cases k2 with
    | cons k3 k4 =>
      cases k4 with
      | cons k5 k6 =>
        cases k6
        cases k3 with
        | @lst a us _ ha hs => cases k5 with
          | @lst c ws _ hb ht =>
            refine ⟨a, c, us, ws, rfl, .inl ⟨.inl (.inl (x1.gh _ _ ha)), .inl (.inl (x1.gh _ _ hb)), q _ G1 H1 x1 s1 a1 fun G2 H2 e1 e2 => ?_⟩⟩
            have h1 : SqL K H2 a us := .inl (.inl (e2 _ _ (e1 _ _ ha)))
            have h2 : SqL K H2 c ws := .inl (.inl (e2 _ _ (e1 _ _ hb)))
            refine ⟨⟨us, ws, h1, h2, by rw [zipD_len, hs.len, ht.len]; omega⟩, fun i d hd => ?_⟩
            obtain ⟨x, y, hx, hy, rfl⟩ := zipD_get hd
            obtain ⟨v, v1, v2⟩ := hs.get' hx
            obtain ⟨w, w1, w2⟩ := ht.get' hy
            refine ⟨⟨us, ws, v, w, h1, h2, v1, w1⟩, fun z H3 hz => ?_⟩
            obtain ⟨T, v', w', rfl, hT, hH, f1, f2⟩ := hz
            have g1 := f1 us h1; rw [v1] at g1
            have g2 := f2 ws h2; rw [w1] at g2
            have g1 := Option.some.inj g1; have g2 := Option.some.inj g2
            subst g1; subst g2
            exact pair_ok e2 hT (dq_mono e1 v2) (dq_mono e1 w2) hH
theorem ei_zipT {ta : TA} {xs ys : List PyData} (h : EvA b ta ρ [.d (.tuple xs), .d (.tuple ys)] ρ1) : EvI b (RZ.iZipA K ta) ρ (zipD xs ys) ρ1 := fun G H σ e st nd R q =>
  h G H σ e st nd _ fun vs G1 H1 x1 s1 a1 k1 => by
    have k2 := as_data (ds := [.tuple xs, .tuple ys]) k1
    cases k2 with
    | cons k3 k4 =>
      cases k4 with
      | cons k5 k6 =>
        cases k6
        cases k3 with
        | @tup a us _ ha hs => cases k5 with
          | @tup c ws _ hb ht =>
            refine ⟨a, c, us, ws, rfl, .inr ⟨.inl (.inl (x1.gh _ _ ha)), .inl (.inl (x1.gh _ _ hb)), q _ G1 H1 x1 s1 a1 fun G2 H2 e1 e2 => ?_⟩⟩
            have h1 : SqT K H2 a us := .inl (.inl (e2 _ _ (e1 _ _ ha)))
            have h2 : SqT K H2 c ws := .inl (.inl (e2 _ _ (e1 _ _ hb)))
            refine ⟨⟨us, ws, h1, h2, by rw [zipD_len, hs.len, ht.len]; omega⟩, fun i d hd => ?_⟩
            obtain ⟨x, y, hx, hy, rfl⟩ := zipD_get hd
            obtain ⟨v, v1, v2⟩ := hs.get' hx
            obtain ⟨w, w1, w2⟩ := ht.get' hy
            refine ⟨⟨us, ws, v, w, h1, h2, v1, w1⟩, fun z H3 hz => ?_⟩
            obtain ⟨T, v', w', rfl, hT, hH, f1, f2⟩ := hz
            have g1 := f1 us h1; rw [v1] at g1
            have g2 := f2 ws h2; rw [w1] at g2
            have g1 := Option.some.inj g1; have g2 := Option.some.inj g2
            subst g1; subst g2
            exact pair_ok e2 hT (dq_mono e1 v2) (dq_mono e1 w2) hH
def enumD : Int → List PyData → List PyData
  | _, [] => []
  | k, x :: xs => .tuple [.int k, x] :: enumD (k + 1) xs
theorem enumD_len : ∀ (xs : List PyData) (k : Int), (enumD k xs).length = xs.length
  | [], _ => rfl
  | x :: xs, k => by simp [enumD, enumD_len xs]
theorem enumD_get : ∀ {xs : List PyData} {k : Int} {i : Nat} {d : PyData}, (enumD k xs)[i]? = some d → ∃ x, xs[i]? = some x ∧ d = .tuple [.int (k + i), x]
  | [], k, i, d, h => by simp [enumD] at h
  | x :: xs, k, 0, d, h => by simp [enumD] at h; exact ⟨x, rfl, by rw [← h]; simp⟩
  | x :: xs, k, i + 1, d, h => by
    obtain ⟨y, h1, h2⟩ := enumD_get (xs := xs) (k := k + 1) (i := i) (d := d) (by simpa [enumD] using h)
    refine ⟨y, by simpa using h1, ?_⟩
    rw [h2]; congr 3; omega
theorem ei_enum {ta : TA} {xs : List PyData} (h : EvA b ta ρ [.d (.list xs)] ρ1) : EvI b (iEnum K ta) ρ (enumD 0 xs) ρ1 := fun G H σ e st nd R q =>
  h G H σ e st nd _ fun vs G1 H1 x1 s1 a1 k1 => by
    have k2 := as_data (ds := [.list xs]) k1
    cases k2 with
    | cons k3 k4 =>
      cases k4
      cases k3 with
      | @lst a us _ ha hs =>
        refine ⟨a, us, rfl, .inl (.inl (x1.gh _ _ ha)), q _ G1 H1 x1 s1 a1 fun G2 H2 e1 e2 => ?_⟩
        have h1 : SqL K H2 a us := .inl (.inl (e2 _ _ (e1 _ _ ha)))
        refine ⟨⟨us, h1, by rw [enumD_len, hs.len]; exact Nat.le_refl _⟩, fun i d hd => ?_⟩
        obtain ⟨x, hx, rfl⟩ := enumD_get hd
        obtain ⟨v, v1, v2⟩ := hs.get' hx
        refine ⟨⟨us, v, h1, v1⟩, fun z H3 hz => ?_⟩
        obtain ⟨T, v', rfl, hT, hH, f1⟩ := hz
        have g1 := f1 us h1; rw [v1] at g1
        have g1 := Option.some.inj g1
        subst g1
        rw [Int.zero_add]
        exact pair_ok e2 hT (.int _) (dq_mono e1 v2) hH
end

/-! ### targets -/
def sets (ρ : En) : List (Nat × PyData) → En
  | [] => ρ
  | (j, d) :: r => sets (ρ.set j (.dat d)) r
theorem adr_sets {p : Addr} : ∀ {bs : List (Nat × PyData)} {ρ : En}, p ∈ adr (sets ρ bs) → p ∈ adr ρ
  | [], _, h => h
  | (j, d) :: r, ρ, h => by
    rcases adr_set (adr_sets (bs := r) h) with h | h
    · simp [adr1] at h
    · exact h
theorem nd_sets : ∀ {bs : List (Nat × PyData)} {ρ : En}, (adr ρ).Nodup → (adr (sets ρ bs)).Nodup
  | [], _, h => h
  | (j, d) :: r, ρ, h => nd_sets (bs := r) (nd_set0 rfl h)
def Gv (g : TG) (d : PyData) (bs : List (Nat × PyData)) : Prop := ∀ (G H : Hp) (σ : L2.St) (ρ : En) (v : V), Ex G H → StOk G H σ ρ → Dq G v d → ∀ Q : L2.St → Hp → Prop,
  (∀ σ2, StOk G H σ2 (sets ρ bs) → σ2.length = σ.length → (∀ (i : Nat), i ∉ bs.map (·.1) → σ2[i]? = σ[i]?) → Q σ2 H) → g v σ H Q
theorem gv_name {j : Nat} {d : PyData} : Gv (gName j) d [(j, d)] := fun G H σ ρ v e st hv Q q =>
  q _ (st.set (s := .dat d) hv j) (List.length_set ..) fun i hi => List.getElem?_set_ne (by simp at hi; exact fun z => hi z.symm)
theorem gv_tup2 {K : PySem.W.Frag} {i j : Nat} {x y : PyData} : Gv (gTup K 2 (gCons (gName i) (gCons (gName j) gNil))) (.tuple [x, y]) [(i, x), (j, y)] := fun G H σ ρ v e st hv Q q => by
  cases hv with
  | tup ha hs =>
    cases hs with
    | cons h1 h2 => cases h2 with
      | cons h3 h4 =>
        cases h4
        refine ⟨_, _, rfl, .inl (.inl (e _ _ ha)), rfl, _, _, rfl, _, _, rfl, rfl, ?_⟩
        refine q _ ((st.set (s := .dat x) h1 i).set (s := .dat y) h3 j) (by rw [List.length_set, List.length_set]) fun k hk => ?_
        have hk : k ∉ [i, j] := hk
        simp only [List.mem_cons, List.not_mem_nil, or_false, not_or] at hk
        rw [List.getElem?_set_ne (fun z => hk.2 z.symm), List.getElem?_set_ne (fun z => hk.1 z.symm)]
/-- i, (j, k) -/
theorem gv_tup12 {K : PySem.W.Frag} {i j k : Nat} {x y z : PyData} : Gv (gTup K 2 (gCons (gName i) (gCons (gTup K 2 (gCons (gName j) (gCons (gName k) gNil))) gNil))) (.tuple [x, .tuple [y, z]]) [(i, x), (j, y), (k, z)] := fun G H σ ρ v e st hv Q q => by
  cases hv with
  | tup ha hs =>
    cases hs with
    | cons h1 h2 => cases h2 with
      | cons h3 h4 =>
        cases h4
        cases h3 with
        | tup hb ht =>
          cases ht with
          | cons h5 h6 => cases h6 with
            | cons h7 h8 =>
              cases h8
              refine ⟨_, _, rfl, .inl (.inl (e _ _ ha)), rfl, _, _, rfl, _, _, rfl, ⟨_, _, rfl, .inl (.inl (e _ _ hb)), rfl, _, _, rfl, _, _, rfl, rfl, rfl, ?_⟩⟩
              refine q _ (((st.set (s := .dat x) h1 i).set (s := .dat y) h5 j).set (s := .dat z) h7 k) (by rw [List.length_set, List.length_set, List.length_set]) fun m hm => ?_
              have hm : m ∉ [i, j, k] := hm
              simp only [List.mem_cons, List.not_mem_nil, or_false, not_or] at hm
              rw [List.getElem?_set_ne (fun z => hm.2.2 z.symm), List.getElem?_set_ne (fun z => hm.2.1 z.symm), List.getElem?_set_ne (fun z => hm.1 z.symm)]

/-! ### list comprehensions -/
theorem ev_lc {α : Type} {b : Bool} {ρ ρ1 : En} {wi : TI} {g : TG} {tt : TT} {te : TE} {vs : List Nat} (xs : List α) (enc : α → PyData) (bs : α → List (Nat × PyData)) (p : α → Bool) (f : α → PyData) (hi : EvI b wi ρ (xs.map enc) ρ1) (hg : ∀ x ∈ xs, Gv g (enc x) (bs x) ∧ ∀ q ∈ bs x, q.1 ∈ vs)
    (hs : ∀ x ∈ xs, EvT false tt (sets (wipeE ρ1 vs) (bs x)) (p x) (sets (wipeE ρ1 vs) (bs x)) ∧ (p x = true → Ev false te (sets (wipeE ρ1 vs) (bs x)) (.d (f x)) (sets (wipeE ρ1 vs) (bs x)))) (hl : xs.length ≤ 1000000) :
    Ev b (tLc wi g tt te vs) ρ (.l ((xs.filter p).map f)) ρ1 := fun G H σ e st nd Q q =>
  hi G H σ e st nd _ fun J G1 H1 x1 s1 a1 hJ Dl hD => by
    have nd1 : (adr ρ1).Nodup := by rw [a1]; exact nd
    refine ⟨fun i m H' => i + m = xs.length ∧ ∃ G' acc, Ext [] G1 H1 G' H' ∧ G' Dl = none ∧ H' Dl = some (.lst acc) ∧ DqA G' acc (((xs.take i).filter p).map f), ⟨xs.length, by simp, G1, [], Ext.own x1.gh hD, x1.gh.none hD, upd_same, .nil⟩, fun i m H' hW => ?_⟩
    obtain ⟨hm, G', acc, x2, gD, hDl, hacc⟩ := hW
    obtain ⟨hstop, hgo⟩ := hJ G' H' x2.gg x2.gh
    by_cases hlt : i < xs.length
    · obtain ⟨x, hx⟩ : ∃ x, xs[i]? = some x := ⟨xs[i], by simp [hlt]⟩
      have hmem : x ∈ xs := List.mem_of_getElem? hx
      obtain ⟨hgo1, hy⟩ := hgo i (enc x) (by rw [List.getElem?_map, hx]; rfl)
      refine .inr ⟨hgo1, fun H3 => ∃ G' acc, Ext [] G1 H1 G' H3 ∧ G' Dl = none ∧ H3 Dl = some (.lst acc) ∧ DqA G' acc (((xs.take (i + 1)).filter p).map f), fun H3 h3 => ⟨m - 1, by omega, by omega, h3⟩, fun v H3 hv => ?_⟩
      obtain ⟨G3, x3, hd3⟩ := hy v H3 hv
      have y3 := x2.tr x3
      have sw : StOk G3 H3 (wipe σ vs) (wipeE ρ1 vs) := (s1.mono y3).wipe vs
      obtain ⟨hg1, hg2⟩ := hg x hmem
      refine hg1 G3 H3 _ _ v x3.gh sw hd3 _ fun σ2 s2 l2 o2 => ?_
      have D3 : H3 Dl = some (.lst acc) := x3.hh _ _ hDl
      have gD3 : G3 Dl = none := x3.nw Dl (by simp) gD (by rw [hDl]; simp)
      have etake : xs.take (i + 1) = xs.take i ++ [x] := by rw [List.take_add_one, hx]; rfl
      refine ⟨wipe_ext (by rw [l2, wipe_length]) fun k hk => o2 k fun hmm => ?_, ?_⟩
      · obtain ⟨w, hw1, hw2⟩ := List.mem_map.mp hmm
        rw [← hw2] at hk
        exact hk (hg2 w hw1)
      · obtain ⟨ht, he⟩ := hs x hmem
        have nd2 : (adr (sets (wipeE ρ1 vs) (bs x))).Nodup := nd_sets (nd_wipe nd1 vs)
        refine ht G3 H3 σ2 x3.gh s2 nd2 _ fun G4 H4 x4 s4 a4 => ?_
        have D4 : H4 Dl = some (.lst acc) := x4.hh _ _ D3
        have gD4 : G4 Dl = none := x4.nw Dl (show Dl ∉ ([] : List Addr) by simp) gD3 (by rw [D3]; simp)
        have y4 : Ext [] G1 H1 G4 H4 := y3.tr x4
        cases hp : p x with
        | false =>
          show ∃ G' acc, _
          refine ⟨G4, acc, y4, gD4, D4, ?_⟩
          rw [etake, List.filter_append, List.filter_cons, if_neg (by rw [hp]; decide)]
          simp
          exact dqs_mono x4.gg (dqs_mono x3.gg hacc)
        | true =>
          refine he hp G4 H4 σ2 x4.gh s4 nd2 _ fun w G5 H5 x5 s5 a5 k5 => ?_
          have D5 : H5 Dl = some (.lst acc) := x5.hh _ _ D4
          have gD5 : G5 Dl = none := x5.nw Dl (show Dl ∉ ([] : List Addr) by simp) gD4 (by rw [D4]; simp)
          have y5 : Ext [] G1 H1 G5 H5 := y4.tr x5
          refine ⟨acc, D5, ?_, G5, acc ++ [w], ?_, gD5, upd_same, ?_⟩
          · rw [hacc.len, List.length_map, sizeLine_eq]
            have h1 := List.length_filter_le p (xs.take i)
            have h2 : (xs.take i).length ≤ xs.length := by rw [List.length_take]; omega
            omega
          · have x6 : Ext [Dl] G5 H5 G5 (upd H5 Dl (.lst (acc ++ [w]))) := Ext.set x5.gh (by simp) gD5
            exact y5.trans x6 fun c hc => .inr (by rw [List.mem_singleton.mp hc]; exact hD)
          · rw [etake, List.filter_append, List.filter_cons, if_pos hp, List.map_append]
            exact (dqs_mono x5.gg (dqs_mono x4.gg (dqs_mono x3.gg hacc))).app (.cons k5 .nil)
    · have ei : i = xs.length := by omega
      refine .inl ⟨by rw [List.length_map] at hstop; rw [ei]; exact hstop, ?_⟩
      rw [ei, List.take_length] at hacc
      refine q _ G' H' (x1.tr x2.up) (s1.mono x2) a1 ⟨Dl, acc, rfl, ?_, gD, hDl, hacc⟩
      cases z : H Dl with
      | none => rfl
      | some o => exact absurd hD (x1.th Dl (by rw [z]; simp))
end Kn

namespace Kn
open PySem L2

/-! ### statements -/
structure Ens where
  nx : En → Prop := fun _ => False
  rt : Rv → En → Prop := fun _ _ => False
  bk : En → Prop := fun _ => False
  ct : En → Prop := fun _ => False
/-- from where one stands to where one goes on -/
structure Stp (ρ : En) (G H : Hp) (ρ' : En) (G' H' : Hp) (σ' : L2.St) : Prop where
  x : Ext (adr ρ) G H G' H'
  a : ∀ q ∈ adr ρ', q ∈ adr ρ ∨ H q = none
  s : StOk G' H' σ' ρ'
  n : (adr ρ').Nodup
def RtOk (ρ : En) (H0 G' H' : Hp) (v : V) : Rv → Prop
  | .d d => Dq G' v d
  | .va u => v = u
  | .l xs => ∃ p vs, v = .ref p ∧ (p ∈ adr ρ ∨ H0 p = none) ∧ G' p = none ∧ H' p = some (.lst vs) ∧ DqA G' vs xs
  | .o d => Dq G' v d ∧ FrT G' (fun p => p ∈ adr ρ ∨ H0 p = none) v
  | .e es => DcOk G' v es
def Sv (t : TS) (ρ : En) (E : Ens) : Prop := ∀ (G H : Hp) (σ : L2.St), Ex G H → StOk G H σ ρ → (adr ρ).Nodup → ∀ D : Ends,
  (∀ ρ' G' H' σ', Stp ρ G H ρ' G' H' σ' → E.nx ρ' → D.nx σ' H') →
  (∀ r v ρ' G' H' σ', Stp ρ G H ρ' G' H' σ' → RtOk ρ H G' H' v r → E.rt r ρ' → D.rt v H') →
  (∀ ρ' G' H' σ', Stp ρ G H ρ' G' H' σ' → E.bk ρ' → D.bk σ' H') →
  (∀ ρ' G' H' σ', Stp ρ G H ρ' G' H' σ' → E.ct ρ' → D.ct σ' H') → t D σ H
theorem Stp.refl {ρ : En} {G H : Hp} {σ : L2.St} (e : Ex G H) (st : StOk G H σ ρ) (nd : (adr ρ).Nodup) : Stp ρ G H ρ G H σ := ⟨Ext.refl e, fun _ h => .inl h, st, nd⟩
theorem Stp.trans {ρ ρ1 ρ2 : En} {G H G1 H1 G2 H2 : Hp} {σ1 σ2 : L2.St} (a : Stp ρ G H ρ1 G1 H1 σ1) (b : Stp ρ1 G1 H1 ρ2 G2 H2 σ2) : Stp ρ G H ρ2 G2 H2 σ2 where
  x := a.x.trans b.x a.a
  a := fun q hq => by
    rcases b.a q hq with h | h
    · exact a.a q h
    · right
      cases z : H q with
      | none => rfl
      | some o => exact absurd h (a.x.th q (by rw [z]; simp))
  s := b.s
  n := b.n
theorem RtOk.via {ρ ρ1 : En} {G H G1 H1 G' H' : Hp} {σ1 : L2.St} {v : V} {r : Rv} (w : RtOk ρ1 H1 G' H' v r) (s : Stp ρ G H ρ1 G1 H1 σ1) : RtOk ρ H G' H' v r := by
  cases r with
  | d d => exact w
  | va u => exact w
  | l xs =>
    obtain ⟨p, vs, e1, e2, e3⟩ := w
    refine ⟨p, vs, e1, ?_, e3⟩
    rcases e2 with h | h
    · exact s.a p h
    · right
      cases z : H p with
      | none => rfl
      | some o => exact absurd h (s.x.th p (by rw [z]; simp))
  | e es => exact w
  | o d =>
    obtain ⟨hd, a, p, ws, us, h1, h2, h3, h4⟩ := w
    have key := fun p (h4 : p ∈ adr _ ∨ _ = none) => show p ∈ adr ρ ∨ H p = none from by
      rcases h4 with h | h
      · exact s.a p h
      · right
        cases z : H p with
        | none => rfl
        | some o => exact absurd h (s.x.th p (by rw [z]; simp))
    exact ⟨hd, a, p, ws, us, h1, h2.imp id fun z => ⟨z.1, key a z.2⟩, h3, key p h4⟩
theorem RtOk.sub {ρ ρ1 : En} {H G' H' : Hp} {v : V} {r : Rv} (w : RtOk ρ1 H G' H' v r) (h : ∀ q ∈ adr ρ1, q ∈ adr ρ) : RtOk ρ H G' H' v r := by
  cases r with
  | d d => exact w
  | va u => exact w
  | l xs =>
    obtain ⟨p, vs, e1, e2, e3⟩ := w
    exact ⟨p, vs, e1, e2.imp (h p) id, e3⟩
  | e es => exact w
  | o d =>
    obtain ⟨hd, a, p, ws, us, h1, h2, h3, h4⟩ := w
    exact ⟨hd, a, p, ws, us, h1, h2.imp id fun z => ⟨z.1, z.2.imp (h a) id⟩, h3, h4.imp (h p) id⟩
theorem stp_ev {b : Bool} {ρ ρ1 ρ2 : En} {G H G1 H1 : Hp} {σ1 : L2.St} (x : Ext (ws b ρ) G H G1 H1) (a : adr ρ1 = adr ρ) (ha : ∀ q ∈ adr ρ2, q ∈ adr ρ1 ∨ H q = none) (s : StOk G1 H1 σ1 ρ2) (n : (adr ρ2).Nodup) : Stp ρ G H ρ2 G1 H1 σ1 := by
  refine ⟨?_, fun q hq => ?_, s, n⟩
  · cases b with
    | true => exact x
    | false => exact Ext.up x
  · rcases ha q hq with h | h
    · left; rw [← a]; exact h
    · exact .inr h
section
variable {b : Bool} {ρ ρ1 ρ2 ρ3 : En} {ta tb tc te : TE} {t u : TS} {tt : TT} {x y z : PyData} {r : Rv} {K : PySem.W.Frag} {E E' : Ens}

theorem Sv.imp (h : Sv t ρ E) (h1 : ∀ ρ', E.nx ρ' → E'.nx ρ') (h2 : ∀ r ρ', E.rt r ρ' → E'.rt r ρ') (h3 : ∀ ρ', E.bk ρ' → E'.bk ρ') (h4 : ∀ ρ', E.ct ρ' → E'.ct ρ') : Sv t ρ E' := fun G H σ e st nd D d1 d2 d3 d4 =>
  h G H σ e st nd D (fun ρ' G' H' σ' s k => d1 ρ' G' H' σ' s (h1 _ k)) (fun r v ρ' G' H' σ' s w k => d2 r v ρ' G' H' σ' s w (h2 _ _ k)) (fun ρ' G' H' σ' s k => d3 ρ' G' H' σ' s (h3 _ k)) (fun ρ' G' H' σ' s k => d4 ρ' G' H' σ' s (h4 _ k))
theorem sv_nx (h : E.nx ρ) : Sv tNext ρ E := fun G H σ e st nd D d1 _ _ _ => d1 ρ G H σ (Stp.refl e st nd) h
theorem sv_seq (h : Sv t ρ { E with nx := fun ρ1 => Sv u ρ1 E }) : Sv (tSeq t u) ρ E := fun G H σ e st nd D d1 d2 d3 d4 =>
  h G H σ e st nd { D with nx := u D } (fun ρ1 G1 H1 σ1 s1 k => k G1 H1 σ1 s1.x.gh s1.s s1.n D (fun ρ' G' H' σ' s w => d1 ρ' G' H' σ' (s1.trans s) w) (fun r v ρ' G' H' σ' s w => d2 r v ρ' G' H' σ' (s1.trans s) (w.via s1)) (fun ρ' G' H' σ' s w => d3 ρ' G' H' σ' (s1.trans s) w) (fun ρ' G' H' σ' s w => d4 ρ' G' H' σ' (s1.trans s) w)) d2 d3 d4
theorem sv_asg {i : Nat} (h : Ev b te ρ (.d x) ρ1) (k : E.nx (ρ1.set i (.dat x))) : Sv (tAsg te (gName i)) ρ E := fun G H σ e st nd D d1 _ _ _ =>
  h G H σ e st nd _ fun v G1 H1 x1 s1 a1 r1 => d1 _ G1 H1 _ (stp_ev x1 a1 (fun q hq => by
    rcases adr_set hq with hq | hq
    · simp [adr1] at hq
    · exact .inl hq) (s1.set (s := .dat x) r1 i) (nd_set0 rfl (by rw [a1]; exact nd))) k
theorem sv_asgV {i : Nat} {w : V} (h : Ev b te ρ (.va w) ρ1) (k : E.nx (ρ1.set i (.va w))) : Sv (tAsg te (gName i)) ρ E := fun G H σ e st nd D d1 _ _ _ =>
  h G H σ e st nd _ fun v G1 H1 x1 s1 a1 r1 => d1 _ G1 H1 _ (stp_ev x1 a1 (fun q hq => by
    rcases adr_set hq with hq | hq
    · simp [adr1] at hq
    · exact .inl hq) (s1.set (s := .va w) r1 i) (nd_set0 rfl (by rw [a1]; exact nd))) k
/-- an own new list -/
theorem sv_asgL {i : Nat} {xs : List PyData} (h : Ev b te ρ (.l xs) ρ1) (k : ∀ p, p ∉ adr ρ1 → E.nx (ρ1.set i (.mu p xs))) : Sv (tAsg te (gName i)) ρ E := fun G H σ e st nd D d1 _ _ _ =>
  h G H σ e st nd _ fun v G1 H1 x1 s1 a1 ⟨p, vs, hv, h0, hg, hh, hd⟩ => by
    have hp : p ∉ adr ρ1 := fun hm => by
      rw [a1] at hm
      obtain ⟨_, us, hu⟩ := st.own hm
      rw [h0] at hu; cases hu
    exact d1 _ G1 H1 _ (stp_ev x1 a1 (fun q hq => by
      rcases adr_set hq with hq | hq
      · have hq : q = p := by simpa [adr1] using hq
        right; rw [hq]; exact h0
      · exact .inl hq) (s1.set (s := .mu p xs) ⟨hv, hg, vs, hh, hd⟩ i) (nd_setN (by rw [a1]; exact nd) hp)) (k p hp)
theorem sv_ret (h : Ev b te ρ (.d x) ρ1) (k : E.rt (.d x) ρ1) : Sv (tRet te) ρ E := fun G H σ e st nd D _ d2 _ _ =>
  h G H σ e st nd _ fun v G1 H1 x1 s1 a1 r1 => d2 (.d x) v ρ1 G1 H1 σ (stp_ev x1 a1 (fun q hq => .inl hq) s1 (by rw [a1]; exact nd)) r1 k
theorem sv_retV {w : V} (h : Ev b te ρ (.va w) ρ1) (k : E.rt (.va w) ρ1) : Sv (tRet te) ρ E := fun G H σ e st nd D _ d2 _ _ =>
  h G H σ e st nd _ fun v G1 H1 x1 s1 a1 r1 => d2 (.va w) v ρ1 G1 H1 σ (stp_ev x1 a1 (fun q hq => .inl hq) s1 (by rw [a1]; exact nd)) r1 k
/-- a new list, or one's own, is handed over -/
theorem sv_retL {xs : List PyData} (h : Ev b te ρ (.l xs) ρ1) (k : E.rt (.l xs) ρ1) : Sv (tRet te) ρ E := fun G H σ e st nd D _ d2 _ _ =>
  h G H σ e st nd _ fun v G1 H1 x1 s1 a1 ⟨p, vs, hv, h0, hg, hh, hd⟩ => d2 (.l xs) v ρ1 G1 H1 σ (stp_ev x1 a1 (fun q hq => .inl hq) s1 (by rw [a1]; exact nd)) ⟨p, vs, hv, .inr h0, hg, hh, hd⟩ k
theorem sv_retO {i : Nat} {p : Addr} {xs : List PyData} (hi : ρ[i]? = some (.mu p xs)) (k : E.rt (.l xs) ρ) : Sv (tRet (tVar i)) ρ E := fun G H σ e st nd D _ d2 _ _ => by
  obtain ⟨m1, m2, vs, m3, m4⟩ := st.muget hi
  exact ⟨.ref p, m1, d2 (.l xs) (.ref p) ρ G H σ (Stp.refl e st nd) ⟨p, vs, rfl, .inl (mem_adr hi), m2, m3, m4⟩ k⟩
theorem sv_retN (k : E.rt (.d .none) ρ) : Sv tRetN ρ E := fun G H σ e st nd D _ d2 _ _ => d2 (.d .none) _ ρ G H σ (Stp.refl e st nd) .non k
theorem sv_if {c : Bool} (h : EvT b tt ρ c ρ1) (h1 : c = true → Sv t ρ1 E) (h2 : c = false → Sv u ρ1 E) : Sv (tIfS tt t u) ρ E := fun G H σ e st nd D d1 d2 d3 d4 =>
  h G H σ e st nd _ fun G1 H1 x1 s1 a1 => by
    have nd1 : (adr ρ1).Nodup := by rw [a1]; exact nd
    have s0 : Stp ρ G H ρ1 G1 H1 σ := stp_ev x1 a1 (fun q hq => .inl hq) s1 nd1
    cases c with
    | true => exact h1 rfl G1 H1 σ x1.gh s1 nd1 D (fun ρ' G' H' σ' s w => d1 ρ' G' H' σ' (s0.trans s) w) (fun r v ρ' G' H' σ' s w => d2 r v ρ' G' H' σ' (s0.trans s) (w.via s0)) (fun ρ' G' H' σ' s w => d3 ρ' G' H' σ' (s0.trans s) w) (fun ρ' G' H' σ' s w => d4 ρ' G' H' σ' (s0.trans s) w)
    | false => exact h2 rfl G1 H1 σ x1.gh s1 nd1 D (fun ρ' G' H' σ' s w => d1 ρ' G' H' σ' (s0.trans s) w) (fun r v ρ' G' H' σ' s w => d2 r v ρ' G' H' σ' (s0.trans s) (w.via s0)) (fun ρ' G' H' σ' s w => d3 ρ' G' H' σ' (s0.trans s) w) (fun ρ' G' H' σ' s w => d4 ρ' G' H' σ' (s0.trans s) w)
theorem sv_drop (h : Ev b te ρ r ρ1) (k : E.nx ρ1) : Sv (tDrop te) ρ E := fun G H σ e st nd D d1 _ _ _ =>
  h G H σ e st nd _ fun v G1 H1 x1 s1 a1 r1 => d1 _ G1 H1 _ (stp_ev x1 a1 (fun q hq => .inl hq) s1 (by rw [a1]; exact nd)) k
theorem sv_brk (k : E.bk ρ) : Sv tBreak ρ E := fun G H σ e st nd D _ _ d3 _ => d3 ρ G H σ (Stp.refl e st nd) k
theorem sv_cont (k : E.ct ρ) : Sv tCont ρ E := fun G H σ e st nd D _ _ _ d4 => d4 ρ G H σ (Stp.refl e st nd) k
/-- the list of slot i is handed to the world -/
theorem sv_fz (i : Nat) {p : Addr} {xs : List PyData} (hi : ρ[i]? = some (.mu p xs)) (h : Sv t (ρ.set i (.dat (.list xs))) E) : Sv t ρ E := fun G H σ e st nd D d1 d2 d3 d4 => by
  obtain ⟨m1, m2, vs, m3, m4⟩ := st.muget hi
  obtain ⟨G1, e1, s1, n1, k⟩ := bor_core hi e st nd
  -- the world with p
  have e2 : Ex (upd G p (.lst vs)) H := fun c o hc => by
    by_cases hb : c = p
    · subst hb; rw [upd_same] at hc; rw [← hc]; exact m3
    · rw [upd_ne hb] at hc; exact e c o hc
  have hsub : ∀ q ∈ adr (ρ.set i (.dat (.list xs))), q ∈ adr ρ := fun q hq => by
    rcases adr_set hq with hq | hq
    · simp [adr1] at hq
    · exact hq
  have hnp : p ∉ adr (ρ.set i (.dat (.list xs))) := fun hq => by
    have key : ∀ {ρ : En} {i : Nat}, (adr ρ).Nodup → ρ[i]? = some (.mu p xs) → p ∉ adr (ρ.set i (.dat (.list xs))) := by
      intro ρ
      induction ρ with
      | nil => intro i _ h; simp at h
      | cons s r ih =>
        intro i n h1 h2
        rw [adr_cons] at n
        obtain ⟨n1, n2, n3⟩ := List.nodup_append.mp n
        cases i with
        | zero =>
          simp at h1; subst h1
          rw [List.set_cons_zero, adr_cons] at h2
          exact n3 p (by simp [adr1]) p (by simpa [adr1] using h2) rfl
        | succ i =>
          have h1' : r[i]? = some (.mu p xs) := by simpa using h1
          rw [List.set_cons_succ, adr_cons] at h2
          rcases List.mem_append.mp h2 with h2 | h2
          · exact n3 p h2 p (mem_adr h1') rfl
          · exact ih n2 h1' h2
    exact key nd hi hq
  have st2 : StOk (upd G p (.lst vs)) H σ (ρ.set i (.dat (.list xs))) := by
    have q1 := (st.un' i).fz (o := .lst vs) m2 (by
      intro hq
      have h2 : adr (ρ.set i .un) = adr (ρ.set i (.dat (.list xs))) := by
        have : ∀ (ρ : En) (i : Nat), adr (ρ.set i .un) = adr (ρ.set i (.dat (.list xs))) := by
          intro ρ
          induction ρ with
          | nil => intro i; rfl
          | cons s r ih =>
            intro i
            cases i with
            | zero => rw [List.set_cons_zero, List.set_cons_zero, adr_cons, adr_cons]; rfl
            | succ i => rw [List.set_cons_succ, List.set_cons_succ, adr_cons, adr_cons, ih]
        exact this ρ i
      rw [h2] at hq; exact hnp hq)
    rw [StOk.iff] at q1 ⊢
    obtain ⟨l, k⟩ := q1
    refine ⟨by rw [List.length_set] at l ⊢; exact l, fun j o s h1 h2 => ?_⟩
    by_cases hj : i = j
    · subst hj
      have hlt : i < ρ.length := (List.getElem?_eq_some_iff.mp hi).1
      rw [List.getElem?_set_self hlt] at h2
      rw [m1] at h1
      have h1 := Option.some.inj h1
      have h2 := Option.some.inj h2
      subst h1; subst h2
      exact .inr ⟨_, rfl, .lst upd_same (dqs_mono (Ex.new m2) m4)⟩
    · exact k j o s h1 (by rw [List.getElem?_set_ne hj] at h2 ⊢; exact h2)
  have back : ∀ {ρ' G' H' σ'}, Stp (ρ.set i (.dat (.list xs))) (upd G p (.lst vs)) H ρ' G' H' σ' → Stp ρ G H ρ' G' H' σ' := fun s =>
    ⟨⟨(Ex.new m2).trans s.x.gg, s.x.gh, fun c o hc h => s.x.fr c o (fun z => hc (hsub c z)) h, s.x.th, fun c hc h1 h2 => by
      have hcp : c ≠ p := fun z => hc (by rw [z]; exact mem_adr hi)
      exact s.x.nw c (fun z => hc (hsub c z)) (by rw [upd_ne hcp]; exact h1) h2⟩, fun q hq => (s.a q hq).imp (hsub q) id, s.s, s.n⟩
  exact h _ H σ e2 st2 (nd_set0 rfl nd) D (fun ρ' G' H' σ' s w => d1 ρ' G' H' σ' (back s) w) (fun r v ρ' G' H' σ' s w => d2 r v ρ' G' H' σ' (back s) (w.sub hsub)) (fun ρ' G' H' σ' s w => d3 ρ' G' H' σ' (back s) w) (fun ρ' G' H' σ' s w => d4 ρ' G' H' σ' (back s) w)
/-- less is known -/
def Wk : En → En → Prop
  | [], [] => True
  | s :: ρ, s' :: ρ' => (s' = .un ∨ s' = s) ∧ Wk ρ ρ'
  | _, _ => False
theorem Wk.refl : ∀ ρ, Wk ρ ρ
  | [] => trivial
  | s :: ρ => ⟨.inr rfl, Wk.refl ρ⟩
theorem Wk.st {G H : Hp} : ∀ {σ : L2.St} {ρ ρ' : En}, Wk ρ ρ' → StOk G H σ ρ → StOk G H σ ρ'
  | _, [], [], _, h => h
  | _, s :: ρ, s' :: ρ', w, .cons h t => by
    obtain ⟨w1, w2⟩ := w
    refine .cons ?_ (Wk.st w2 t)
    rcases w1 with w1 | w1
    · exact .inl w1
    · rw [w1]; exact h
  | _, [], _ :: _, w, _ => w.elim
  | _, _ :: _, [], w, _ => w.elim
theorem Wk.sub : ∀ {ρ ρ' : En}, Wk ρ ρ' → (adr ρ').Sublist (adr ρ)
  | [], [], _ => List.Sublist.refl _
  | s :: ρ, s' :: ρ', w => by
    rw [adr_cons, adr_cons]
    rcases w.1 with h | h
    · rw [h]; exact (Wk.sub w.2).trans (List.sublist_append_right _ _)
    · rw [h]; exact (List.Sublist.refl _).append (Wk.sub w.2)
  | [], _ :: _, w => w.elim
  | _ :: _, [], w => w.elim
theorem Stp.wk {G H G' H' : Hp} {σ' : L2.St} (s : Stp ρ G H ρ1 G' H' σ') (w : Wk ρ1 ρ2) : Stp ρ G H ρ2 G' H' σ' :=
  ⟨s.x, fun q hq => s.a q (w.sub.subset hq), w.st s.s, s.n.sublist w.sub⟩
/-- for -/
theorem sv_for {wi : TI} {g : TG} {ds : List PyData} (hi : EvI b wi ρ ds ρ1) (bs : Nat → PyData → List (Nat × PyData)) (hg : ∀ (i : Nat) d, ds[i]? = some d → Gv g d (bs i d)) (Iv : Nat → En → Prop) (h0 : ∃ ρ', Wk ρ1 ρ' ∧ Iv 0 ρ')
    (hs : ∀ (i : Nat) d ρ2, ds[i]? = some d → Iv i ρ2 → Sv t (sets ρ2 (bs i d)) { E with nx := fun ρ' => ∃ ρ'', Wk ρ' ρ'' ∧ Iv (i + 1) ρ'', ct := fun ρ' => ∃ ρ'', Wk ρ' ρ'' ∧ Iv (i + 1) ρ'', bk := E.nx }) (hd : ∀ ρ2, Iv ds.length ρ2 → E.nx ρ2) : Sv (tFor wi g t) ρ E := fun G H σ e st nd D d1 d2 d3 d4 =>
  hi G H σ e st nd _ fun J G1 H1 x1 s1 a1 hJ => by
    have nd1 : (adr ρ1).Nodup := by rw [a1]; exact nd
    have s0 : Stp ρ G H ρ1 G1 H1 σ := stp_ev x1 a1 (fun q hq => .inl hq) s1 nd1
    obtain ⟨ρ0, w0, i0⟩ := h0
    refine ⟨fun i m σ' H' => i + m = ds.length ∧ ∃ ρ' G', Stp ρ G H ρ' G' H' σ' ∧ Ex G1 G' ∧ Iv i ρ', ⟨ds.length, by simp, ρ0, G1, s0.wk w0, Ex.refl _, i0⟩, fun i m σ' H' hW => ?_⟩
    obtain ⟨hm, ρ', G', s, eg, hI⟩ := hW
    obtain ⟨hstop, hgo⟩ := hJ G' H' eg s.x.gh
    by_cases hlt : i < ds.length
    · obtain ⟨d, hdd⟩ : ∃ d, ds[i]? = some d := ⟨ds[i], by simp [hlt]⟩
      obtain ⟨hgo1, hy⟩ := hgo i d hdd
      refine .inr ⟨hgo1, fun σ3 H3 => ∃ ρ3 G3, Stp ρ G H ρ3 G3 H3 σ3 ∧ Ex G1 G3 ∧ Iv (i + 1) ρ3, fun σ3 H3 h3 => ⟨m - 1, by omega, by omega, h3⟩, fun v H2 hv => ?_⟩
      obtain ⟨G2, x2, hd2⟩ := hy v H2 hv
      refine hg i d hdd G2 H2 σ' ρ' v x2.gh (s.s.mono x2) hd2 _ fun σ2 s2 _ _ => ?_
      have st2 : Stp ρ G H (sets ρ' (bs i d)) G2 H2 σ2 := ⟨s.x.trans (x2.up (M := adr ρ')) s.a, fun q hq => s.a q (adr_sets hq), s2, nd_sets s.n⟩
      have eg2 : Ex G1 G2 := eg.trans x2.gg
      exact hs i d ρ' hdd hI G2 H2 σ2 x2.gh s2 (nd_sets s.n) _
        (fun ρ3 G3 H3 σ3 s3 ⟨ρ4, w4, k⟩ => ⟨ρ4, G3, (st2.trans s3).wk w4, eg2.trans s3.x.gg, k⟩)
        (fun r v ρ3 G3 H3 σ3 s3 w k => d2 r v ρ3 G3 H3 σ3 (st2.trans s3) (w.via st2) k)
        (fun ρ3 G3 H3 σ3 s3 k => d1 ρ3 G3 H3 σ3 (st2.trans s3) k)
        (fun ρ3 G3 H3 σ3 s3 ⟨ρ4, w4, k⟩ => ⟨ρ4, G3, (st2.trans s3).wk w4, eg2.trans s3.x.gg, k⟩)
    · have ei : i = ds.length := by omega
      subst ei
      exact .inl ⟨hstop, d1 ρ' G' H' σ' s (hd ρ' hI)⟩
/-- while, by a word and a measure -/
theorem sv_while (Iv : Nat → En → Prop) (m0 : Nat) (h0 : ∃ ρ', Wk ρ ρ' ∧ Iv m0 ρ')
    (hs : ∀ m ρ2, Iv m ρ2 → ∃ b c ρ3, EvT b tt ρ2 c ρ3 ∧ (c = true → Sv t ρ3 { E with nx := fun ρ' => ∃ m' ρ'', m' < m ∧ Wk ρ' ρ'' ∧ Iv m' ρ'', ct := fun ρ' => ∃ m' ρ'', m' < m ∧ Wk ρ' ρ'' ∧ Iv m' ρ'', bk := E.nx }) ∧ (c = false → E.nx ρ3)) : Sv (tWhile tt t) ρ E := fun G H σ e st nd D d1 d2 d3 d4 => by
  obtain ⟨ρ0, w0, i0⟩ := h0
  refine ⟨fun m σ' H' => ∃ ρ' G', Stp ρ G H ρ' G' H' σ' ∧ Iv m ρ', ⟨m0, ρ0, G, (Stp.refl e st nd).wk w0, i0⟩, fun m σ' H' hW => ?_⟩
  obtain ⟨ρ', G', s, hI⟩ := hW
  obtain ⟨bb, c, ρ3, ht, k1, k2⟩ := hs m ρ' hI
  refine ht G' H' σ' s.x.gh s.s s.n _ fun G3 H3 x3 s3 a3 => ?_
  have n3 : (adr ρ3).Nodup := by rw [a3]; exact s.n
  have st3 : Stp ρ G H ρ3 G3 H3 σ' := s.trans (stp_ev x3 a3 (fun q hq => .inl hq) s3 n3)
  cases c with
  | false => exact d1 ρ3 G3 H3 σ' st3 (k2 rfl)
  | true =>
    refine ⟨fun σ4 H4 => ∃ m', m' < m ∧ ∃ ρ' G', Stp ρ G H ρ' G' H4 σ4 ∧ Iv m' ρ', fun σ4 H4 ⟨m', hm, h⟩ => ⟨m', hm, h⟩, ?_⟩
    exact k1 rfl G3 H3 σ' x3.gh s3 n3 _
      (fun ρ4 G4 H4 σ4 s4 ⟨m', ρ5, hm, w5, k⟩ => ⟨m', hm, ρ5, G4, (st3.trans s4).wk w5, k⟩)
      (fun r v ρ4 G4 H4 σ4 s4 w k => d2 r v ρ4 G4 H4 σ4 (st3.trans s4) (w.via st3) k)
      (fun ρ4 G4 H4 σ4 s4 k => d1 ρ4 G4 H4 σ4 (st3.trans s4) k)
      (fun ρ4 G4 H4 σ4 s4 ⟨m', ρ5, hm, w5, k⟩ => ⟨m', hm, ρ5, G4, (st3.trans s4).wk w5, k⟩)
end
end Kn

namespace Kn
open PySem L2

section
variable {b : Bool} {ρ ρ1 ρ2 ρ3 : En} {ta tb tc te : TE} {t u : TS} {tt : TT} {x y z : PyData} {r : Rv} {K : PySem.W.Frag} {E E' : Ens}
/-! ### own lists changed -/
theorem own_step {G H G1 H1 : Hp} {σ : L2.St} {i : Nat} {p : Addr} {xs ys : List PyData} {us : List V} (st : StOk G H σ ρ) (x1 : Ext (ws b ρ) G H G1 H1) (s1 : StOk G1 H1 σ ρ1) (a1 : adr ρ1 = adr ρ) (nd : (adr ρ).Nodup) (hi : ρ1[i]? = some (.mu p xs)) (hd : DqA G1 us ys) :
    Ext (ws true ρ) G H G1 (upd H1 p (.lst us)) ∧ StOk G1 (upd H1 p (.lst us)) σ (ρ1.set i (.mu p ys)) ∧ adr (ρ1.set i (.mu p ys)) = adr ρ := by
  obtain ⟨m1, m2, vs, m3, m4⟩ := s1.muget hi
  have hm : p ∈ adr ρ := by rw [← a1]; exact mem_adr hi
  have x0 : Ext (adr ρ) G H G1 H1 := by
    cases b with
    | true => exact x1
    | false => exact Ext.up x1
  exact ⟨x0.tr (Ext.set x1.gh hm m2), s1.chg hd (by rw [a1]; exact nd) hi, (adr_upd hi).trans a1⟩
theorem ev_append {i : Nat} {p : Addr} {xs : List PyData} (h : Ev b te ρ (.d x) ρ1) (hi0 : ∃ ys, ρ[i]? = some (.mu p ys)) (hi : ρ1[i]? = some (.mu p xs)) (hl : xs.length ≤ 1000000) : Ev true (tBM K "list" rAppend (tVar i) (tCons te tNil)) ρ (.d .none) (ρ1.set i (.mu p (xs ++ [x]))) := fun G H σ e st nd Q q => by
  obtain ⟨ys, hy⟩ := hi0
  obtain ⟨m1, m2, vs, m3, m4⟩ := st.muget hy
  refine ⟨.ref p, m1, .inl ⟨rfl, vs, .inl (.inl m3)⟩, ?_⟩
  refine h G H σ e st nd _ fun v G1 H1 x1 s1 a1 k1 => ?_
  obtain ⟨n1, n2, us, n3, n4⟩ := s1.muget hi
  refine ⟨p, us, v, rfl, rfl, n3, by rw [n4.len, sizeLine_eq]; omega, ?_⟩
  obtain ⟨y1, y2, y3⟩ := own_step st x1 s1 a1 nd hi (n4.app (.cons k1 .nil))
  exact q _ _ _ y1 y2 y3 .non
theorem ev_setix {i : Nat} {p : Addr} {xs : List PyData} {j : Int} {k : Nat} (h : Ev b te ρ (.d x) ρ1) (hj : Ev false tb ρ1 (.d (.int j)) ρ1) (hi : ρ1[i]? = some (.mu p xs)) (hk : ixN xs.length j = some k) (hn : E.nx (ρ1.set i (.mu p (xs.set k x)))) : Sv (tAsg te (gSub (tVar i) tb rSetL)) ρ E := fun G H σ e st nd D d1 _ _ _ =>
  h G H σ e st nd _ fun v G1 H1 x1 s1 a1 k1 => by
    obtain ⟨n1, n2, us, n3, n4⟩ := s1.muget hi
    refine ⟨.ref p, n1, ?_⟩
    refine hj G1 H1 σ x1.gh s1 (by rw [a1]; exact nd) _ fun w G2 H2 x2 s2 a2 k2 => ?_
    cases k2
    obtain ⟨n1, n2, us, n3, n4⟩ := s2.muget hi
    refine ⟨p, us, j, k, rfl, rfl, n3, by rw [n4.len]; exact hk, ?_⟩
    have y0 : Ext (ws b ρ) G H G2 H2 := x1.then x2.up a1
    obtain ⟨y1, y2, y3⟩ := own_step st y0 s2 a1 nd hi (DqA.set (dq_mono x2.gg k1) k n4)
    exact d1 _ G2 _ σ (stp_ev (b := true) y1 a1 (fun q hq => .inl (by rw [y3, ← a1] at hq; exact hq)) y2 (by rw [y3]; exact nd)) hn
theorem ev_insert {i : Nat} {p : Addr} {xs : List PyData} {j : Int} {r0 : V → List V → Hp → VK → Prop} (hr0 : r0 = fun x vs H Q => ∃ (l : Addr) (zs : List V) (i : Int) (y : V), x = .ref l ∧ vs = [.int i, y] ∧ H l = some (.lst zs) ∧ zs.length < sizeLine ∧ 0 ≤ i ∧ i < 2 ^ 63 ∧ Q .non (upd H l (.lst (zs.take i.toNat ++ [y] ++ zs.drop i.toNat))))
    (ha : Ev b ta ρ (.d (.int j)) ρ1) (h : Ev b te ρ1 (.d x) ρ2) (hi0 : ∃ ys, ρ[i]? = some (.mu p ys)) (hi : ρ2[i]? = some (.mu p xs)) (hl : xs.length ≤ 1000000) (h0 : 0 ≤ j ∧ j < 1000000000000) :
    Ev true (tBM K "list" r0 (tVar i) (tCons ta (tCons te tNil))) ρ (.d .none) (ρ2.set i (.mu p (xs.take j.toNat ++ [x] ++ xs.drop j.toNat))) := fun G H σ e st nd Q q => by
  subst hr0
  obtain ⟨ys, hy⟩ := hi0
  obtain ⟨m1, m2, vs, m3, m4⟩ := st.muget hy
  refine ⟨.ref p, m1, .inl ⟨rfl, vs, .inl (.inl m3)⟩, ?_⟩
  refine ha G H σ e st nd _ fun v0 G1 H1 x1 s1 a1 k1 => ?_
  refine h G1 H1 σ x1.gh s1 (by rw [a1]; exact nd) _ fun v G2 H2 x2 s2 a2 k2 => ?_
  cases k1
  obtain ⟨n1, n2, us, n3, n4⟩ := s2.muget hi
  refine ⟨p, us, j, v, rfl, rfl, n3, by rw [n4.len, sizeLine_eq]; omega, h0.1, by omega, ?_⟩
  obtain ⟨y1, y2, y3⟩ := own_step st (x1.then x2 a1) s2 (a2.trans a1) nd hi (((DqA.take j.toNat n4).app (.cons k2 .nil)).app (DqA.drop j.toNat n4))
  exact q _ _ _ y1 y2 y3 .non
theorem sq_ix {j : Int} {n k : Nat} (h : ixN n j = some k) : seqIndex? j n = some k ∧ k < n ∧ -(n : Int) ≤ j ∧ j < n := ixN_seq h
theorem ev_popAt {i : Nat} {p : Addr} {xs : List PyData} {j : Int} {k : Nat} (ha : Ev b ta ρ (.d (.int j)) ρ1) (hi0 : ∃ ys, ρ[i]? = some (.mu p ys)) (hi : ρ1[i]? = some (.mu p xs)) (hk : ixN xs.length j = some k) (hx : xs[k]? = some x) (hj : -1000000000000 < j ∧ j < 1000000000000) :
    Ev true (tBM K "list" rPopAt (tVar i) (tCons ta tNil)) ρ (.d x) (ρ1.set i (.mu p (xs.eraseIdx k))) := fun G H σ e st nd Q q => by
  obtain ⟨ys, hy⟩ := hi0
  obtain ⟨m1, m2, vs, m3, m4⟩ := st.muget hy
  refine ⟨.ref p, m1, .inl ⟨rfl, vs, .inl (.inl m3)⟩, ?_⟩
  refine ha G H σ e st nd _ fun v0 G1 H1 x1 s1 a1 k1 => ?_
  cases k1
  obtain ⟨n1, n2, us, n3, n4⟩ := s1.muget hi
  obtain ⟨v, v1, v2⟩ := n4.get' hx
  refine ⟨p, us, j, k, v, rfl, rfl, n3, by omega, by omega, by rw [n4.len]; exact (sq_ix hk).1, v1, ?_⟩
  obtain ⟨y1, y2, y3⟩ := own_step st x1 s1 a1 nd hi (DqA.eraseIdx k n4)
  exact q _ _ _ y1 y2 y3 v2
theorem DqA.dropLast {G : Hp} : ∀ {vs : List V} {ds : List PyData}, DqA G vs ds → DqA G vs.dropLast ds.dropLast
  | _, _, .nil => .nil
  | _, _, .cons _ .nil => .nil
  | _, _, .cons a (.cons b t) => .cons a (DqA.dropLast (.cons b t))
theorem ev_pop {i : Nat} {p : Addr} {xs : List PyData} (hi : ρ[i]? = some (.mu p xs)) (hx : xs[xs.length - 1]? = some x) :
    Ev true (tBM0 K "list" rPop (tVar i)) ρ (.d x) (ρ.set i (.mu p xs.dropLast)) := fun G H σ e st nd Q q => by
  obtain ⟨m1, m2, vs, m3, m4⟩ := st.muget hi
  refine ⟨.ref p, m1, .inl ⟨rfl, vs, .inl (.inl m3)⟩, ?_⟩
  obtain ⟨v, v1, v2⟩ := m4.get' hx
  refine ⟨p, vs, v, rfl, rfl, m3, by rw [m4.len]; exact v1, ?_⟩
  obtain ⟨y1, y2, y3⟩ := own_step (b := true) st (Ext.refl e) st rfl nd hi (DqA.dropLast m4)
  exact q _ _ _ y1 y2 y3 v2
/-- left.remove(k): the first k goes -/
theorem ev_remove {i : Nat} {p : Addr} {l : List Int} {k : Int} {j : Nat} (ha : Ev b ta ρ (.d (.int k)) ρ1) (hi0 : ∃ ys, ρ[i]? = some (.mu p ys)) (hi : ρ1[i]? = some (.mu p (l.map .int))) (hj : l[j]? = some k) (hno : ∀ m : Nat, m < j → l[m]? ≠ some k) :
    Ev true (tBM K "list" rRemI (tVar i) (tCons ta tNil)) ρ (.d .none) (ρ1.set i (.mu p ((l.eraseIdx j).map .int))) := fun G H σ e st nd Q q => by
  obtain ⟨ys, hy⟩ := hi0
  obtain ⟨m1, m2, vs, m3, m4⟩ := st.muget hy
  refine ⟨.ref p, m1, .inl ⟨rfl, vs, .inl (.inl m3)⟩, ?_⟩
  refine ha G H σ e st nd _ fun v0 G1 H1 x1 s1 a1 k1 => ?_
  cases k1
  obtain ⟨n1, n2, us, n3, n4⟩ := s1.muget hi
  have eu := of_dqs_ints n4
  subst eu
  refine ⟨p, l, k, j, rfl, rfl, n3, hj, hno, ?_⟩
  obtain ⟨y1, y2, y3⟩ := own_step st x1 s1 a1 nd hi (dqs_ints (H := G1) (l.eraseIdx j))
  exact q _ _ _ y1 y2 y3 .non
/-- n += e -/
theorem sv_aug {i : Nat} {f : Int → Int → Int} {m n : Int} (hi : ρ[i]? = some (.dat (.int m))) (h : Ev b te ρ (.d (.int n)) ρ1) (k : E.nx (ρ1.set i (.dat (.int (f m n))))) : Sv (tAug i te (ipI f)) ρ E := fun G H σ e st nd D d1 _ _ _ => by
  obtain ⟨v, v1, v2⟩ := st.get hi (by simp)
  cases v2
  refine ⟨_, v1, ?_⟩
  refine h G H σ e st nd _ fun w G1 H1 x1 s1 a1 r1 => ?_
  cases r1
  refine ⟨m, n, rfl, rfl, ?_⟩
  exact d1 _ G1 H1 _ (stp_ev x1 a1 (fun q hq => by
    rcases adr_set hq with hq | hq
    · simp [adr1] at hq
    · exact .inl hq) (s1.set (s := .dat (.int (f m n))) (Dq.int _) i) (nd_set0 rfl (by rw [a1]; exact nd))) k
/-- xs += ys, xs an own list -/
theorem sv_augL {i : Nat} {p : Addr} {xs ys zs : List PyData} (hi0 : ρ[i]? = some (.mu p xs)) (h : Ev b te ρ (.d (.list ys)) ρ1) (hi : ρ1[i]? = some (.mu p zs)) (hz : zs.length + ys.length ≤ 1000000) (k : E.nx (ρ1.set i (.mu p (zs ++ ys)))) : Sv (tAug i te rExt2) ρ E := fun G H σ e st nd D d1 _ _ _ => by
  obtain ⟨m1, m2, vs, m3, m4⟩ := st.muget hi0
  refine ⟨_, m1, ?_⟩
  refine h G H σ e st nd _ fun w G1 H1 x1 s1 a1 r1 => ?_
  obtain ⟨n1, n2, us, n3, n4⟩ := s1.muget hi
  cases r1 with
  | lst ha hs =>
    refine ⟨p, _, us, _, rfl, rfl, n3, x1.gh _ _ ha, by rw [n4.len, hs.len, sizeLine_eq]; omega, ?_⟩
    obtain ⟨y1, y2, y3⟩ := own_step st x1 s1 a1 nd hi (n4.app hs)
    have y2' := y2.set (s := .mu p (zs ++ ys)) (v := .ref p) ⟨rfl, n2, _, upd_same, n4.app hs⟩ i
    rw [List.set_set] at y2'
    exact d1 _ G1 _ _ (stp_ev (b := true) y1 a1 (fun q hq => .inl (by rw [y3, ← a1] at hq; exact hq)) y2' (by rw [y3]; exact nd)) k
/-- a, b = x, y -/
theorem sv_par {i j : Nat} {ta : TA} (h : EvA b ta ρ [.d x, .d y] ρ1) (k : E.nx ((ρ1.set i (.dat x)).set j (.dat y))) : Sv (tPar i j ta) ρ E := fun G H σ e st nd D d1 _ _ _ =>
  h G H σ e st nd _ fun vs G1 H1 x1 s1 a1 r1 => by
    have r2 := as_data (ds := [x, y]) r1
    cases r2 with
    | cons r3 r4 => cases r4 with
      | cons r5 r6 =>
        cases r6
        refine ⟨_, _, rfl, ?_⟩
        exact d1 _ G1 H1 _ (stp_ev x1 a1 (fun q hq => by
          rcases adr_set hq with hq | hq
          · simp [adr1] at hq
          · rcases adr_set hq with hq | hq
            · simp [adr1] at hq
            · exact .inl hq) ((s1.set (s := .dat x) r3 i).set (s := .dat y) r5 j) (nd_set0 rfl (nd_set0 rfl (by rw [a1]; exact nd)))) k
/-- a, b = e where e is a tuple of two -/
theorem sv_unp {i j : Nat} (h : Ev b te ρ (.d (.tuple [x, y])) ρ1) (k : E.nx ((ρ1.set i (.dat x)).set j (.dat y))) : Sv (tAsg te (gTup K 2 (gCons (gName i) (gCons (gName j) gNil)))) ρ E := fun G H σ e st nd D d1 _ _ _ =>
  h G H σ e st nd _ fun v G1 H1 x1 s1 a1 r1 => by
    have hg := gv_tup2 (K := K) (i := i) (j := j) (x := x) (y := y)
    refine hg G1 H1 σ ρ1 v x1.gh s1 r1 _ fun σ2 s2 _ _ => ?_
    exact d1 _ G1 H1 _ (stp_ev x1 a1 (fun q hq => .inl (adr_sets (bs := [(i, x), (j, y)]) hq)) s2 (nd_sets (bs := [(i, x), (j, y)]) (by rw [a1]; exact nd))) k

/-! ### a def's body -/
def slots0 (n : Nat) (ds : List PyData) : En := ds.map Sl.dat ++ List.replicate (n - ds.length) .un
theorem st_dats {G H : Hp} : ∀ {vs : List V} {ds : List PyData}, DqA G vs ds → StOk G H (vs.map some) (ds.map Sl.dat)
  | _, _, .nil => .nil
  | _, _, .cons h t => .cons (.inr ⟨_, rfl, h⟩) (st_dats t)
theorem st_app {G H : Hp} {σ' : List (Option V)} {ρ' : En} (h' : StOk G H σ' ρ') : ∀ {σ : List (Option V)} {ρ : En}, StOk G H σ ρ → StOk G H (σ ++ σ') (ρ ++ ρ')
  | _, _, .nil => h'
  | _, _, .cons h t => .cons h (st_app h' t)
theorem st_uns {G H : Hp} : ∀ n, StOk G H (List.replicate n none) (List.replicate n .un)
  | 0 => .nil
  | n + 1 => .cons (.inl rfl) (st_uns n)
theorem adr_app : ∀ (ρ ρ' : En), adr (ρ ++ ρ') = adr ρ ++ adr ρ'
  | [], _ => rfl
  | s :: ρ, ρ' => by rw [List.cons_append, adr_cons, adr_cons, adr_app, List.append_assoc]
theorem adr_uns : ∀ n, adr (List.replicate n .un) = []
  | 0 => rfl
  | n + 1 => by rw [List.replicate_succ, adr_cons, adr_uns n]; rfl
theorem adr_dats : ∀ ds : List PyData, adr (ds.map Sl.dat) = []
  | [] => rfl
  | d :: ds => by rw [List.map_cons, adr_cons, adr_dats ds]; rfl
theorem bodyD {N : List Str} {R : List PyData → Rv → Prop} {vs : List V} {H : Hp} {Q : VK} {E : XK} (h : spD R vs H Q E)
    (k : ∀ ds r, R ds r → Sv t (slots0 N.length ds) { nx := fun _ => r = .d .none, rt := fun r' _ => r' = r }) : t { nx := fun _ H' => Q .non H', rt := Q } (L2.start N vs) H := by
  obtain ⟨G, ds, r, e, hd, hR, q⟩ := h
  have hst : StOk G H (L2.start N vs) (slots0 N.length ds) := by
    unfold L2.start slots0
    rw [hd.len]
    exact st_app (st_uns _) (st_dats hd)
  have ha : adr (slots0 N.length ds) = [] := by unfold slots0; rw [adr_app, adr_dats, adr_uns]; rfl
  refine k ds r hR G H _ e hst (by rw [ha]; exact List.nodup_nil) _ (fun ρ' G' H' σ' s w => ?_) (fun r' v ρ' G' H' σ' s w z => ?_) (fun ρ' G' H' σ' s w => w.elim) (fun ρ' G' H' σ' s w => w.elim)
  · have x := s.x
    rw [ha] at x
    refine q _ G' H' x ?_
    rw [w]; exact .non
  · have x := s.x
    rw [ha] at x
    subst z
    refine q v G' H' x ?_
    cases r' with
    | d d => exact w
    | va u => exact w
    | l xs =>
      obtain ⟨p, vs, e1, e2, e3⟩ := w
      exact ⟨p, vs, e1, e2.resolve_left (by rw [ha]; simp), e3⟩
    | e es => exact w
    | o d =>
      obtain ⟨hd, a, p, ws, us, h1, h2, h3, h4⟩ := w
      exact ⟨hd, a, p, ws, us, h1, h2.imp id fun z => ⟨z.1, z.2.resolve_left (by rw [ha]; simp)⟩, h3, h4.resolve_left (by rw [ha]; simp)⟩
theorem lenD {R : List PyData → Rv → Prop} {n : Nat} (h : ∀ ds r, R ds r → ds.length = n) : ∀ vs H Q E, spD R vs H Q E → vs.length = n := fun vs H Q E q => by
  obtain ⟨G, ds, r, e, hd, hR, _⟩ := q
  rw [hd.len]; exact h ds r hR
def slotsO (n : Nat) (p : Addr) (xs ds : List PyData) : En := .mu p xs :: (ds.map Sl.dat ++ List.replicate (n - 1 - ds.length) .un)
theorem bodyO {N : List Str} {R : List PyData → List PyData → Rv → List PyData → Prop} {vs : List V} {H : Hp} {Q : VK} {E : XK} (h : spO R vs H Q E) (hnl : ∀ xs ds r ys, R xs ds r ys → (∀ l, r ≠ .l l) ∧ ∀ l, r ≠ .o l)
    (k : ∀ p xs ds r ys, R xs ds r ys → Sv t (slotsO N.length p xs ds) { nx := fun ρ' => r = .d .none ∧ ρ'[0]? = some (.mu p ys), rt := fun r' ρ' => r' = r ∧ ρ'[0]? = some (.mu p ys) }) : t { nx := fun _ H' => Q .non H', rt := Q } (L2.start N vs) H := by
  obtain ⟨G, p, us, ws, xs, ds, r, ys, e, rfl, hp, hg, hus, hd, hR, q⟩ := h
  have hst : StOk G H (L2.start N (.ref p :: ws)) (slotsO N.length p xs ds) := by
    unfold L2.start slotsO
    refine .cons (.inr ⟨_, rfl, rfl, hg, us, hp, hus⟩) ?_
    have e1 : N.length - (V.ref p :: ws).length = N.length - 1 - ds.length := by rw [List.length_cons, hd.len]; omega
    rw [e1]
    exact st_app (st_uns _) (st_dats hd)
  have ha : adr (slotsO N.length p xs ds) = [p] := by unfold slotsO; rw [adr_cons, adr_app, adr_dats, adr_uns]; rfl
  have fin : ∀ {r' v ρ' G' H' σ'}, Stp (slotsO N.length p xs ds) G H ρ' G' H' σ' → RtOk (slotsO N.length p xs ds) H G' H' v r' → r' = r → ρ'[0]? = some (.mu p ys) → Q v H' := by
    intro r' v ρ' G' H' σ' s w z hi
    have x := s.x
    rw [ha] at x
    obtain ⟨_, n2, us', n3, n4⟩ := s.s.muget hi
    subst z
    refine q v G' H' us' x n3 n2 n4 ?_
    cases r' with
    | d d => exact w
    | va u => exact w
    | l l => exact absurd rfl ((hnl _ _ _ _ hR).1 l)
    | o l => exact absurd rfl ((hnl _ _ _ _ hR).2 l)
    | e es => exact w
  refine k p xs ds r ys hR G H _ e hst (by rw [ha]; simp) _ (fun ρ' G' H' σ' s w => ?_) (fun r' v ρ' G' H' σ' s w z => fin s w z.1 z.2) (fun ρ' G' H' σ' s w => w.elim) (fun ρ' G' H' σ' s w => w.elim)
  exact fin (r' := .d .none) (v := .non) s .non w.1.symm w.2
theorem lenO {R : List PyData → List PyData → Rv → List PyData → Prop} {n : Nat} (h : ∀ xs ds r ys, R xs ds r ys → ds.length + 1 = n) : ∀ vs H Q E, spO R vs H Q E → vs.length = n := fun vs H Q E q => by
  obtain ⟨G, p, us, ws, xs, ds, r, ys, e, rfl, hp, hg, hus, hd, hR, _⟩ := q
  rw [List.length_cons, hd.len]; exact h xs ds r ys hR
end
end Kn

/-! rules of the machine that the hand layer lacks -/
namespace Kn
open PySem L2 PyProof.Rows
section
variable {prog : Program} {w : World} {A : Around} {E : Value → Shared → Prop} {s : Shared}
theorem call_fnK {id : String} {f : Builtin} {args : List Value} {kws : List (Str × Value)} {Q : Value → Shared → Prop} (hk : builtinKind id = none) (hp : plainId id = true) (hb : entryFor table id = some f) (ha : argsOk id ⟨args, kws⟩)
    (hc : wpAny (model prog w) A.in1 (f ⟨args, kws⟩) (fun fin s1 => match fin with
      | .done z => (match (Except.ok z : Result) with | .ok (.ret v) => Q v s1 | .ok _ => False | .error e => E e s1)
      | .again c => c.quiet = true ∧ codeAny (model prog w) A c (fun r s2 => match r with | .ok (.ret v) => Q v s2 | .ok _ => False | .error e => E e s2) s1) E s) : wpAny (model prog w) A (call (.builtin id) args kws) Q E s := by
  refine wpAny_call (codeAny_call_builtin hp hb ?_)
  simp only [checkBuiltinCall, hk]
  cases q : Manifest.signature? id with
  | none => exact wpAny_pure hc
  | some sig =>
    simp only [argsOk, q] at ha
    have e : Bind.checkArgs id sig ⟨args, kws⟩ = pure () := ha
    show wpAny _ A.in1 (Bind.checkArgs id sig ⟨args, kws⟩) _ _ s
    rw [e]; exact wpAny_pure hc
end

section
variable {prog : Program} {w : World} {A : Around} {R : Result → Shared → Prop} {I : Addr} {fp wr : List Addr} {n : Nat} {P : Nat → Value → Prop} {St : Nat → Heap → Prop}
/-- the loop of max, with any keywords -/
theorem max_loopK (W : Walks prog w A.in1 I fp wr n P St) (kws : List (Str × Value)) (bt : Nat → Nat → Bool) (cmp : CmpOf prog w A.in1 .Gt P bt) (S : Addr) (hSf : S ∉ fp) :
    ∀ (k j : Nat) (s : Shared) (vb : Value) (c : Nat), n - (j + 1) = k → j + 1 ≤ n → St (j + 1) s.heap → P (argBest bt j) vb → s.heap.get? S = some { cls := .type "list", dict := none, data := .seq #[vb, vb] c, slots := #[] } →
      (∀ v g tk, P (argBest bt (n - 1)) v → (∀ b o, b ∉ wr → b ≠ S → s.heap.get? b = some o → g.get? b = some o) → R (.ok (.ret v)) { s with heap := g, toks := tk }) → codeAny (model prog w) A (.builtin "max.loop" ⟨[.ref I, .none, .ref S], kws⟩) R s := by
  have outw : S ∉ wr := fun h => hSf (W.sub _ h)
  have nm : (toString "max" ++ toString ".loop" : String) = "max.loop" := by decide
  intro k
  induction k with
  | zero =>
    intro j s vb c hk hj st pb hS hR
    have ej : j + 1 = n := by omega
    refine codeAny_builtin F.entry_max_loop ?_; rw [Around.under_plainId F.plain_max_loop _]
    show wpAny _ A.in1 (Sem.bind (seqItems? (.ref S)) _) _ _ s
    refine wpAny_bind (wpAny_seqItems hS rfl ?_); show wpAny _ A.in1 (Sem.bind (tryCatch (pyNext (.ref I)) _) _) _ _ s
    refine wpAny_bind (wpAny_tryCatch (W.done s _ _ (ej ▸ st) fun g tk hk' => ?_))
    have hS2 := hk' S _ outw hS
    show wpAny _ A.in1 (Sem.bind (updateSeq S (fun _ => #[])) _) _ _ _
    refine wpAny_bind (wpAny_updateSeq hS2 rfl (wpAny_bind (wpAny_letGo (wpAny_pure ?_))))
    exact hR vb _ tk (by rw [← ej]; exact pb) fun b o h1 h2 e => (Heap.get?_update_other _ _ (Ne.symm h2)).trans (hk' b o h1 e)
  | succ k ih =>
    intro j s vb c hk hj st pb hS hR
    have lt : j + 1 < n := by omega
    refine codeAny_builtin F.entry_max_loop ?_; rw [Around.under_plainId F.plain_max_loop _]
    show wpAny _ A.in1 (Sem.bind (seqItems? (.ref S)) _) _ _ s
    refine wpAny_bind (wpAny_seqItems hS rfl ?_); show wpAny _ A.in1 (Sem.bind (tryCatch (pyNext (.ref I)) _) _) _ _ s
    refine wpAny_bind (wpAny_tryCatch (W.item (j + 1) s _ _ lt st fun v g tk hP st2 hk' => ?_))
    have hS2 := hk' S _ outw hS
    show wpAny _ A.in1 (Sem.bind (tryCatch (holding [v, v] (Sem.bind (richCompare .Gt v vb) _)) _) _) _ _ _
    refine wpAny_bind (wpAny_tryCatch (wpAny_holding (wpAny_bind (cmp (j + 1) (argBest bt j) v vb _ _ _ hP pb ?_))))
    refine wpAny_bind (wpAny_holding (wpAny_truthy_bool (wpAny_bind (wpAny_letGo (wpAny_pure ?_)))))
    cases hb : bt (j + 1) (argBest bt j) with
    | true =>
      simp only [if_true]
      refine wpAny_bind (wpAny_updateSeq hS2 rfl (wpAny_bind (wpAny_letGo ?_)))
      rw [nm]
      refine wpAny_pure ⟨plainId_quiet F.plain_max_loop _, ih (j + 1) _ v _ (by omega) lt (W.frame _ _ _ st2 fun b h1 o e => (Heap.get?_update_other _ _ (fun h : S = b => hSf (by rw [h]; exact h1))).trans e) (by simp only [argBest, hb, if_true]; exact hP) (Heap.get?_update_self _ hS2 rfl) fun v' g2 tk2 hP' hk2 => ?_⟩
      exact hR v' g2 tk2 hP' fun b o h1 h2 e => hk2 b o h1 h2 ((Heap.get?_update_other _ _ (Ne.symm h2)).trans (hk' b o h1 e))
    | false =>
      simp only [Bool.false_eq_true, if_false]
      refine wpAny_bind (wpAny_letGo ?_); rw [nm]
      refine wpAny_pure ⟨plainId_quiet F.plain_max_loop _, ih (j + 1) _ vb c (by omega) lt st2 (by simp only [argBest, hb, Bool.false_eq_true, if_false]; exact pb) hS2 fun v' g2 tk2 hP' hk2 => ?_⟩
      exact hR v' g2 tk2 hP' fun b o h1 h2 e => hk2 b o h1 h2 (hk' b o h1 e)
/-- max(x, default=d) -/
theorem max_default {E : Value → Shared → Prop} {s : Shared} {x d : Value} {Q : Value → Shared → Prop}
    (h : wpAny (model prog w) A.in1 (pyIter x) (fun it s₂ => ∃ I fp wr n P St bt, it = .ref I ∧ Walks prog w A.in1 I fp wr n P St ∧ St 0 s₂.heap ∧ (∀ b ∈ fp, b < s₂.heap.objs.size) ∧ CmpOf prog w A.in1 .Gt P bt ∧
      (0 < n → ∀ v g tk, P (argBest bt (n - 1)) v → (∀ b o, b ∉ wr → s₂.heap.get? b = some o → g.get? b = some o) → Q v { s₂ with heap := g, toks := tk }) ∧
      (n = 0 → ∀ g tk, (∀ b o, b ∉ wr → s₂.heap.get? b = some o → g.get? b = some o) → Q d { s₂ with heap := g, toks := tk })) E s) :
    wpAny (model prog w) A (call (.builtin "max") [x] [(Str.ofString "default", d)]) Q E s := by
  have nm : (toString "max" ++ toString ".loop" : String) = "max.loop" := by decide
  refine call_fnK F.kind_max F.plain_max F.entry_max (by unfold argsOk; kernel_rfl) ?_
  refine wpAny_bind (wpAny_of_eq (show Builtin.Builtins.bindParams "max" ["key", "default"] 0 ⟨[], [(Str.ofString "default", d)]⟩ = pure [none, some d] from rfl) ?_)
  refine wpAny_bind (wpAny_pure ?_)
  refine wpAny_bind (wpAny_mono h (fun it s₂ h₂ => ?_) fun _ _ e => e)
  obtain ⟨I, fp, wr, n, P, St, bt, rfl, W, st, hfp, cmp, h1, h2⟩ := h₂
  refine wpAny_bind (wpAny_newObj_type ?_)
  have hSf : s₂.heap.objs.size ∉ fp := fun hm => Nat.lt_irrefl _ (hfp _ hm)
  have outw : s₂.heap.objs.size ∉ wr := fun h => hSf (W.sub _ h)
  rw [nm]
  have st0 := W.frame _ _ _ st fun b _ o e => Heap.get?_push_of_some { cls := .type "list", dict := none, data := .seq #[] 0, slots := #[] } e
  have hS : (s₂.heap.push { cls := .type "list", dict := none, data := .seq #[] 0, slots := #[] }).get? s₂.heap.objs.size = some { cls := .type "list", dict := none, data := .seq #[] 0, slots := #[] } := Heap.get?_push_size _ rfl
  have nS : ∀ b o, s₂.heap.get? b = some o → b ≠ s₂.heap.objs.size := fun b o e => Nat.ne_of_lt (Heap.lt_size e)
  refine wpAny_pure ⟨plainId_quiet F.plain_max_loop _, ?_⟩
  refine codeAny_builtin F.entry_max_loop ?_; rw [Around.under_plainId F.plain_max_loop _]
  show wpAny _ A.in1 (Sem.bind (seqItems? (.ref s₂.heap.objs.size)) _) _ _ _
  refine wpAny_bind (wpAny_seqItems hS rfl ?_); show wpAny _ A.in1 (Sem.bind (tryCatch (pyNext (.ref I)) _) _) _ _ _
  by_cases hn : 0 < n
  · refine wpAny_bind (wpAny_tryCatch (W.item 0 _ _ _ hn st0 fun v g tk hP st2 hk' => ?_))
    have hS2 := hk' _ _ outw hS
    show wpAny _ A.in1 (Sem.bind (updateSeq s₂.heap.objs.size (fun _ => #[v, v])) _) _ _ _
    refine wpAny_bind (wpAny_updateSeq hS2 rfl ?_)
    rw [nm]
    refine wpAny_pure ⟨plainId_quiet F.plain_max_loop _, max_loopK W _ bt cmp _ hSf _ 0 _ v _ rfl hn (W.frame _ _ _ st2 fun b hbf o e => (Heap.get?_update_other _ _ (fun h : s₂.heap.objs.size = b => hSf (by rw [h]; exact hbf))).trans e) hP (Heap.get?_update_self _ hS2 rfl) fun v' g2 tk2 hP' hk2 => ?_⟩
    exact h1 hn v' g2 tk2 hP' fun b o hb e => hk2 b o hb (nS b o e) ((Heap.get?_update_other _ _ (Ne.symm (nS b o e))).trans (hk' b o hb (Heap.get?_push_of_some _ e)))
  · have e0 : n = 0 := by omega
    subst e0
    refine wpAny_bind (wpAny_tryCatch (W.done _ _ _ st0 fun g tk hk' => ?_))
    refine wpAny_bind (wpAny_rule ?_)
    exact wpAny_pure (h2 rfl g tk fun b o hb e => hk' b o hb (Heap.get?_push_of_some _ e))
end


section
variable {prog : Program} {w : World} {A : Around} {R : Result → Shared → Prop} {I : Addr} {fp wr : List Addr} {n : Nat} {P : Nat → Value → Prop} {St : Nat → Heap → Prop}
/-- the loop of min, with any keywords -/
theorem min_loopK (W : Walks prog w A.in1 I fp wr n P St) (kws : List (Str × Value)) (bt : Nat → Nat → Bool) (cmp : CmpOf prog w A.in1 .Lt P bt) (S : Addr) (hSf : S ∉ fp) :
    ∀ (k j : Nat) (s : Shared) (vb : Value) (c : Nat), n - (j + 1) = k → j + 1 ≤ n → St (j + 1) s.heap → P (argBest bt j) vb → s.heap.get? S = some { cls := .type "list", dict := none, data := .seq #[vb, vb] c, slots := #[] } →
      (∀ v g tk, P (argBest bt (n - 1)) v → (∀ b o, b ∉ wr → b ≠ S → s.heap.get? b = some o → g.get? b = some o) → R (.ok (.ret v)) { s with heap := g, toks := tk }) → codeAny (model prog w) A (.builtin "min.loop" ⟨[.ref I, .none, .ref S], kws⟩) R s := by
  have outw : S ∉ wr := fun h => hSf (W.sub _ h)
  have nm : (toString "min" ++ toString ".loop" : String) = "min.loop" := by decide
  intro k
  induction k with
  | zero =>
    intro j s vb c hk hj st pb hS hR
    have ej : j + 1 = n := by omega
    refine codeAny_builtin F.entry_min_loop ?_; rw [Around.under_plainId F.plain_min_loop _]
    show wpAny _ A.in1 (Sem.bind (seqItems? (.ref S)) _) _ _ s
    refine wpAny_bind (wpAny_seqItems hS rfl ?_); show wpAny _ A.in1 (Sem.bind (tryCatch (pyNext (.ref I)) _) _) _ _ s
    refine wpAny_bind (wpAny_tryCatch (W.done s _ _ (ej ▸ st) fun g tk hk' => ?_))
    have hS2 := hk' S _ outw hS
    show wpAny _ A.in1 (Sem.bind (updateSeq S (fun _ => #[])) _) _ _ _
    refine wpAny_bind (wpAny_updateSeq hS2 rfl (wpAny_bind (wpAny_letGo (wpAny_pure ?_))))
    exact hR vb _ tk (by rw [← ej]; exact pb) fun b o h1 h2 e => (Heap.get?_update_other _ _ (Ne.symm h2)).trans (hk' b o h1 e)
  | succ k ih =>
    intro j s vb c hk hj st pb hS hR
    have lt : j + 1 < n := by omega
    refine codeAny_builtin F.entry_min_loop ?_; rw [Around.under_plainId F.plain_min_loop _]
    show wpAny _ A.in1 (Sem.bind (seqItems? (.ref S)) _) _ _ s
    refine wpAny_bind (wpAny_seqItems hS rfl ?_); show wpAny _ A.in1 (Sem.bind (tryCatch (pyNext (.ref I)) _) _) _ _ s
    refine wpAny_bind (wpAny_tryCatch (W.item (j + 1) s _ _ lt st fun v g tk hP st2 hk' => ?_))
    have hS2 := hk' S _ outw hS
    show wpAny _ A.in1 (Sem.bind (tryCatch (holding [v, v] (Sem.bind (richCompare .Lt v vb) _)) _) _) _ _ _
    refine wpAny_bind (wpAny_tryCatch (wpAny_holding (wpAny_bind (cmp (j + 1) (argBest bt j) v vb _ _ _ hP pb ?_))))
    refine wpAny_bind (wpAny_holding (wpAny_truthy_bool (wpAny_bind (wpAny_letGo (wpAny_pure ?_)))))
    cases hb : bt (j + 1) (argBest bt j) with
    | true =>
      simp only [if_true]
      refine wpAny_bind (wpAny_updateSeq hS2 rfl (wpAny_bind (wpAny_letGo ?_)))
      rw [nm]
      refine wpAny_pure ⟨plainId_quiet F.plain_min_loop _, ih (j + 1) _ v _ (by omega) lt (W.frame _ _ _ st2 fun b h1 o e => (Heap.get?_update_other _ _ (fun h : S = b => hSf (by rw [h]; exact h1))).trans e) (by simp only [argBest, hb, if_true]; exact hP) (Heap.get?_update_self _ hS2 rfl) fun v' g2 tk2 hP' hk2 => ?_⟩
      exact hR v' g2 tk2 hP' fun b o h1 h2 e => hk2 b o h1 h2 ((Heap.get?_update_other _ _ (Ne.symm h2)).trans (hk' b o h1 e))
    | false =>
      simp only [Bool.false_eq_true, if_false]
      refine wpAny_bind (wpAny_letGo ?_); rw [nm]
      refine wpAny_pure ⟨plainId_quiet F.plain_min_loop _, ih (j + 1) _ vb c (by omega) lt st2 (by simp only [argBest, hb, Bool.false_eq_true, if_false]; exact pb) hS2 fun v' g2 tk2 hP' hk2 => ?_⟩
      exact hR v' g2 tk2 hP' fun b o h1 h2 e => hk2 b o h1 h2 (hk' b o h1 e)
/-- min(x, default=d) -/
theorem min_default {E : Value → Shared → Prop} {s : Shared} {x d : Value} {Q : Value → Shared → Prop}
    (h : wpAny (model prog w) A.in1 (pyIter x) (fun it s₂ => ∃ I fp wr n P St bt, it = .ref I ∧ Walks prog w A.in1 I fp wr n P St ∧ St 0 s₂.heap ∧ (∀ b ∈ fp, b < s₂.heap.objs.size) ∧ CmpOf prog w A.in1 .Lt P bt ∧
      (0 < n → ∀ v g tk, P (argBest bt (n - 1)) v → (∀ b o, b ∉ wr → s₂.heap.get? b = some o → g.get? b = some o) → Q v { s₂ with heap := g, toks := tk }) ∧
      (n = 0 → ∀ g tk, (∀ b o, b ∉ wr → s₂.heap.get? b = some o → g.get? b = some o) → Q d { s₂ with heap := g, toks := tk })) E s) :
    wpAny (model prog w) A (call (.builtin "min") [x] [(Str.ofString "default", d)]) Q E s := by
  have nm : (toString "min" ++ toString ".loop" : String) = "min.loop" := by decide
  refine call_fnK F.kind_min F.plain_min F.entry_min (by unfold argsOk; kernel_rfl) ?_
  refine wpAny_bind (wpAny_of_eq (show Builtin.Builtins.bindParams "min" ["key", "default"] 0 ⟨[], [(Str.ofString "default", d)]⟩ = pure [none, some d] from rfl) ?_)
  refine wpAny_bind (wpAny_pure ?_)
  refine wpAny_bind (wpAny_mono h (fun it s₂ h₂ => ?_) fun _ _ e => e)
  obtain ⟨I, fp, wr, n, P, St, bt, rfl, W, st, hfp, cmp, h1, h2⟩ := h₂
  refine wpAny_bind (wpAny_newObj_type ?_)
  have hSf : s₂.heap.objs.size ∉ fp := fun hm => Nat.lt_irrefl _ (hfp _ hm)
  have outw : s₂.heap.objs.size ∉ wr := fun h => hSf (W.sub _ h)
  rw [nm]
  have st0 := W.frame _ _ _ st fun b _ o e => Heap.get?_push_of_some { cls := .type "list", dict := none, data := .seq #[] 0, slots := #[] } e
  have hS : (s₂.heap.push { cls := .type "list", dict := none, data := .seq #[] 0, slots := #[] }).get? s₂.heap.objs.size = some { cls := .type "list", dict := none, data := .seq #[] 0, slots := #[] } := Heap.get?_push_size _ rfl
  have nS : ∀ b o, s₂.heap.get? b = some o → b ≠ s₂.heap.objs.size := fun b o e => Nat.ne_of_lt (Heap.lt_size e)
  refine wpAny_pure ⟨plainId_quiet F.plain_min_loop _, ?_⟩
  refine codeAny_builtin F.entry_min_loop ?_; rw [Around.under_plainId F.plain_min_loop _]
  show wpAny _ A.in1 (Sem.bind (seqItems? (.ref s₂.heap.objs.size)) _) _ _ _
  refine wpAny_bind (wpAny_seqItems hS rfl ?_); show wpAny _ A.in1 (Sem.bind (tryCatch (pyNext (.ref I)) _) _) _ _ _
  by_cases hn : 0 < n
  · refine wpAny_bind (wpAny_tryCatch (W.item 0 _ _ _ hn st0 fun v g tk hP st2 hk' => ?_))
    have hS2 := hk' _ _ outw hS
    show wpAny _ A.in1 (Sem.bind (updateSeq s₂.heap.objs.size (fun _ => #[v, v])) _) _ _ _
    refine wpAny_bind (wpAny_updateSeq hS2 rfl ?_)
    rw [nm]
    refine wpAny_pure ⟨plainId_quiet F.plain_min_loop _, min_loopK W _ bt cmp _ hSf _ 0 _ v _ rfl hn (W.frame _ _ _ st2 fun b hbf o e => (Heap.get?_update_other _ _ (fun h : s₂.heap.objs.size = b => hSf (by rw [h]; exact hbf))).trans e) hP (Heap.get?_update_self _ hS2 rfl) fun v' g2 tk2 hP' hk2 => ?_⟩
    exact h1 hn v' g2 tk2 hP' fun b o hb e => hk2 b o hb (nS b o e) ((Heap.get?_update_other _ _ (Ne.symm (nS b o e))).trans (hk' b o hb (Heap.get?_push_of_some _ e)))
  · have e0 : n = 0 := by omega
    subst e0
    refine wpAny_bind (wpAny_tryCatch (W.done _ _ _ st0 fun g tk hk' => ?_))
    refine wpAny_bind (wpAny_rule ?_)
    exact wpAny_pure (h2 rfl g tk fun b o hb e => hk' b o hb (Heap.get?_push_of_some _ e))
end

section
variable {prog : Program} {w : World} {A : Around} {R : Result → Shared → Prop} {I : Addr} {fp wr : List Addr} {n : Nat} {P : Nat → Value → Prop} {St : Nat → Heap → Prop}
/-- the loop of sum over truth values -/
theorem sumB_loop (W : Walks prog w A.in1 I fp wr n P St) (vb : Nat → Bool) (hval : ∀ i v, P i v → v = .bool (vb i)) (hn : n < 1000000000000) (S : Addr) (hSf : S ∉ fp) :
    ∀ (k i : Nat) (s : Shared) (tA : Tok) (c : Nat), n - i = k → i ≤ n → St i s.heap → s.heap.get? S = some { cls := .type "list", dict := none, data := .seq #[.int (preSum (fun j => if vb j then 1 else 0) i) tA] c, slots := #[] } →
      (∀ g tk t', (∀ b o, b ∉ wr → b ≠ S → s.heap.get? b = some o → g.get? b = some o) → R (.ok (.ret (.int (preSum (fun j => if vb j then 1 else 0) n) t'))) { s with heap := g, toks := tk }) → codeAny (model prog w) A (.builtin "sum.loop" ⟨[.ref I, .ref S, rawInt 0, rawInt 0], []⟩) R s := by
  have outw : S ∉ wr := fun h => hSf (W.sub _ h)
  have bnd : ∀ i, 0 ≤ preSum (fun j => if vb j then 1 else 0) i ∧ preSum (fun j => if vb j then (1 : Int) else 0) i ≤ i := by
    intro i
    induction i with
    | zero => exact ⟨Int.le_refl _, Int.le_refl _⟩
    | succ i ih =>
      simp only [preSum]
      cases vb i <;> simp <;> omega
  intro k
  induction k with
  | zero =>
    intro i s tA c hk hi st hS hR
    have ei : i = n := by omega
    subst ei
    refine codeAny_builtin F.entry_sum_loop ?_; rw [Around.under_plainId F.plain_sum_loop _]
    show wpAny _ A.in1 (Sem.bind (seqItems? (.ref S)) _) _ _ s
    refine wpAny_bind (wpAny_seqItems hS rfl ?_); show wpAny _ A.in1 (Sem.bind (tryCatch (pyNext (.ref I)) _) _) _ _ s
    refine wpAny_bind (wpAny_tryCatch (W.done s _ _ st fun g tk hk' => ?_))
    exact wpAny_pure (hR g tk tA fun b o h1 _ e => hk' b o h1 e)
  | succ k ih =>
    intro i s tA c hk hi st hS hR
    have lt : i < n := by omega
    refine codeAny_builtin F.entry_sum_loop ?_; rw [Around.under_plainId F.plain_sum_loop _]
    show wpAny _ A.in1 (Sem.bind (seqItems? (.ref S)) _) _ _ s
    refine wpAny_bind (wpAny_seqItems hS rfl ?_); show wpAny _ A.in1 (Sem.bind (tryCatch (pyNext (.ref I)) _) _) _ _ s
    refine wpAny_bind (wpAny_tryCatch (W.item i s _ _ lt st fun v g tk hP st2 hk' => ?_))
    have ev := hval i v hP
    subst ev
    have hS2 := hk' S _ outw hS
    have bi := bnd i
    cases hvb : vb i
    all_goals
      have ps : preSum (fun j => if vb j then (1 : Int) else 0) (i + 1) = preSum (fun j => if vb j then 1 else 0) i + (if vb i then 1 else 0) := rfl
      rw [hvb] at ps
      simp only [if_true, Bool.false_eq_true, if_false] at ps
      have key : ∀ (c : Bool) (x y : Sem Fin) {Q1 : Fin → Shared → Prop} {E1 : Value → Shared → Prop} {s1 : Shared}, c = true → wpAny (model prog w) A.in1 x Q1 E1 s1 → wpAny (model prog w) A.in1 (if c = true then x else y) Q1 E1 s1 := fun c x y _ _ _ h k => by rw [if_pos h]; exact k
      refine key _ (Sem.bind (mkInt _) _) _ ?_ ?_
      · show ((decide (-(2 ^ 63) ≤ _) && decide (_ < 2 ^ 63)) && (decide (-(2 ^ 63) ≤ _) && decide (_ < 2 ^ 63))) = true
        simp only [Bool.and_eq_true, decide_eq_true_eq]
        simp
        omega
      · refine wpAny_bind (wpAny_mkInt ?_)
        show wpAny _ A.in1 (Sem.bind (updateSeq S (fun _ => #[.int _ tk])) _) _ _ _
        refine wpAny_bind (wpAny_updateSeq hS2 rfl (wpAny_pure ⟨plainId_quiet F.plain_sum_loop _, ih (i + 1) _ tk _ (by omega) lt (W.frame _ _ _ st2 fun b hb o e => ?_) (by rw [ps]; exact Heap.get?_update_self _ hS2 rfl) fun g2 tk2 t2 hk2 => ?_⟩))
        · exact (Heap.get?_update_other _ _ (fun h : S = b => hSf (by rw [h]; exact hb))).trans e
        · exact hR g2 tk2 t2 fun b o h1 h2 e => hk2 b o h1 h2 ((Heap.get?_update_other _ _ (Ne.symm h2)).trans (hk' b o h1 e))
theorem sumB_call {E : Value → Shared → Prop} {s : Shared} {x : Value} {Q : Value → Shared → Prop}
    (h : wpAny (model prog w) A.in1 (pyIter x) (fun it s₂ => ∃ (I : Addr) (fp wr : List Addr) (n : Nat) (P : Nat → Value → Prop) (St : Nat → Heap → Prop) (vb : Nat → Bool), it = .ref I ∧ Walks prog w A.in1 I fp wr n P St ∧ St 0 s₂.heap ∧ (∀ b ∈ fp, b < s₂.heap.objs.size) ∧ n < 1000000000000 ∧
      (∀ i v, P i v → v = .bool (vb i)) ∧ ∀ g tk t', (∀ b o, b ∉ wr → s₂.heap.get? b = some o → g.get? b = some o) → Q (.int (preSum (fun j => if vb j then 1 else 0) n) t') { s₂ with heap := g, toks := tk }) E s) :
    wpAny (model prog w) A (call (.builtin "sum") [x]) Q E s := by
  refine call_fnK F.kind_sum F.plain_sum F.entry_sum (F.args_sum1 _) ?_
  unfold Builtin.«sum»
  simp only [List.length_cons, List.length_nil]; rw [if_neg (by decide)]
  refine wpAny_bind (wpAny_of_eq (show Builtin.Builtins.bindParams "sum" ["start"] 0 { } = pure [none] from rfl) (wpAny_bind (wpAny_mono h (fun it s₂ h₂ => ?_) fun _ _ e => e)))
  obtain ⟨I, fp, wr, n, P, St, vb, rfl, W, st, hfp, hn, hval, hQ⟩ := h₂
  refine wpAny_bind (wpAny_mkInt (wpAny_bind (wpAny_pure ?_))); simp only [List.forIn_cons, List.forIn_nil]
  refine wpAny_bind (wpAny_bind (wpAny_bind (wpAny_isInstance (T := "int") (b := false) (typeIs_int _ _ _) PySem.sub_int_str ?_))); simp only [Bool.false_eq_true, if_false]
  refine wpAny_pure (wpAny_bind (wpAny_bind (wpAny_isInstance (T := "int") (b := false) (typeIs_int _ _ _) PySem.sub_int_bytes ?_))); simp only [Bool.false_eq_true, if_false]
  refine wpAny_pure (wpAny_bind (wpAny_bind (wpAny_isInstance (T := "int") (b := false) (typeIs_int _ _ _) PySem.sub_int_bytearray ?_))); simp only [Bool.false_eq_true, if_false]
  refine wpAny_pure (wpAny_pure (wpAny_bind (wpAny_newObj_type ?_)))
  have hSf : s₂.heap.objs.size ∉ fp := fun hm => Nat.lt_irrefl _ (hfp _ hm)
  refine wpAny_pure ⟨plainId_quiet F.plain_sum_loop _, sumB_loop W vb hval hn s₂.heap.objs.size hSf n 0 _ s₂.toks 0 rfl (Nat.zero_le _) (W.frame _ _ _ st fun b _ o e => Heap.get?_push_of_some _ e) (Heap.get?_push_size _ rfl) fun g tk t' hk => ?_⟩
  exact hQ g tk t' fun b o h1 e => hk b o h1 (Nat.ne_of_lt (Heap.lt_size e)) (Heap.get?_push_of_some _ e)
end
/-! ### over the layer -/
section
variable {X : Cx}
/-- the items of a list or a tuple are walked -/
theorem iter_sq {pins : List (Addr × Obj)} {σ : L2.St} {H : Hp} {s : Shared} {E : Value → Shared → Prop} {Q : Value → Shared → Prop} {a : Addr} {xs : List V} (I : Inv X pins σ H s) (hc : X.calm = true) (h : SqL X.K H a xs ∨ SqT X.K H a xs)
    (q : ∀ (its : List Value) (s₂ : Shared) (St : Nat → Heap → Prop), Vals xs its → xs.length ≤ sizeLine → (∃ o, s₂ = { s with heap := s.heap.push o }) → Walks X.prog X.w X.A.in1 s.heap.objs.size [s.heap.objs.size, a] [s.heap.objs.size] its.length (fun i v => its[i]? = some v) St → St 0 s₂.heap → (∀ b ∈ [s.heap.objs.size, a], b < s₂.heap.objs.size) → Q (.ref s.heap.objs.size) s₂) :
    wpAny (model X.prog X.w) X.A.in1 (pyIter (.ref a)) Q E s := by
  have hh : X.A.in1.handled = none := I.ok.hd hc
  rcases h with h | h
  · obtain ⟨its, rv, hl, hz⟩ := I.list h
    have hlt : a < s.heap.objs.size := by obtain ⟨o, n, e, _⟩ := hl; exact Heap.lt_size e
    refine wpAny_pyIter_list hl.isList (q its _ (fun i h => h.IsListIter s.heap.objs.size a i ∧ h.IsList a its.toArray) rv hz ⟨_, rfl⟩ ?_ ⟨⟨_, Heap.get?_push_size _ rfl, rfl, rfl⟩, hl.isList.push _⟩ ?_)
    · have W := Walks.list (prog := X.prog) (w := X.w) hh s.heap.objs.size a (Nat.ne_of_lt hlt) its.toArray
      simpa using W
    · intro b hb
      rw [Heap.size_push]
      simp at hb
      rcases hb with rfl | rfl
      · exact Nat.lt_succ_self _
      · exact Nat.lt_succ_of_lt hlt
  · obtain ⟨its, rv, hl, hz⟩ := I.tuple h
    have hlt : a < s.heap.objs.size := by obtain ⟨o, e, _⟩ := hl; exact Heap.lt_size e
    refine wpAny_pyIter_tuple hl (q its _ (fun i h => h.IsTupleIter s.heap.objs.size a i ∧ h.IsTuple a its.toArray) rv hz ⟨_, rfl⟩ ?_ ⟨⟨_, Heap.get?_push_size _ rfl, rfl, rfl⟩, ?_⟩ ?_)
    · have W := Walks.tuple (prog := X.prog) (w := X.w) hh s.heap.objs.size a (Nat.ne_of_lt hlt) its.toArray
      simpa using W
    · obtain ⟨o, e, c, n, d⟩ := hl
      exact ⟨o, Heap.get?_push_of_some _ e, c, n, d⟩
    · intro b hb
      rw [Heap.size_push]
      simp at hb
      rcases hb with rfl | rfl
      · exact Nat.lt_succ_self _
      · exact Nat.lt_succ_of_lt hlt
/-- behind a walk all is kept -/
theorem walked {pins : List (Addr × Obj)} {σ : L2.St} {H : Hp} {s s₂ : Shared} {Q : VK} {v : V} {u : Value} {g : Heap} {tk : Nat} (I : Inv X pins σ H s) (e2 : ∃ o, s₂ = { s with heap := s.heap.push o }) (hk : ∀ b o, b ∉ [s.heap.objs.size] → s₂.heap.get? b = some o → g.get? b = some o)
    (r : RelV v u) (q : Q v H) : EP X pins σ Q u { s₂ with heap := g, toks := tk } := by
  obtain ⟨o, rfl⟩ := e2
  refine ⟨v, H, I.kept fun b u e => hk b u (fun hm => ?_) (Heap.get?_push_of_some _ e), r, q⟩
  rw [List.mem_singleton.mp hm] at e
  exact absurd (Heap.lt_size e) (Nat.lt_irrefl _)
theorem ints_get {ns : List Int} {its : List Value} {i : Nat} {v : Value} (r : Vals (ns.map V.int) its) (h : its[i]? = some v) : ∃ t, v = .int (ns.getD i 0) t := by
  have hi : i < its.length := (List.getElem?_eq_some_iff.mp h).1
  have hl := r.length
  rw [List.length_map] at hl
  have h1 : (ns.map V.int)[i]? = some (.int (ns.getD i 0)) := by
    rw [List.getElem?_map, List.getElem?_eq_getElem (by omega), List.getD_eq_getElem?_getD, List.getElem?_eq_getElem (by omega)]; rfl
  obtain ⟨u, h2, t, h3⟩ := r.get h1
  rw [h] at h2
  exact ⟨t, (Option.some.inj h2).trans h3⟩
theorem bools_get {bs : List Bool} {its : List Value} {i : Nat} {v : Value} (r : Vals (bs.map V.bl) its) (h : its[i]? = some v) : v = .bool (bs.getD i false) := by
  have hi : i < its.length := (List.getElem?_eq_some_iff.mp h).1
  have hl := r.length
  rw [List.length_map] at hl
  have h1 : (bs.map V.bl)[i]? = some (.bl (bs.getD i false)) := by
    rw [List.getElem?_map, List.getElem?_eq_getElem (by omega), List.getD_eq_getElem?_getD, List.getElem?_eq_getElem (by omega)]; rfl
  obtain ⟨u, h2, h3⟩ := r.get h1
  rw [h] at h2
  exact (Option.some.inj h2).trans h3
theorem preSum_ext {f g : Nat → Int} : ∀ n, (∀ i, i < n → f i = g i) → preSum f n = preSum g n
  | 0, _ => rfl
  | n + 1, h => by rw [preSum, preSum, preSum_ext n fun i hi => h i (by omega), h n (by omega)]
theorem preSum_all (l : List Int) : preSum (fun i => l.getD i 0) l.length = l.sum := by
  rw [preSum_getD, List.take_length]
/-- sum of a list or tuple of ints -/
def rSumI (K : PySem.W.Frag) : List V → Hp → VK → Prop := fun vs H Q => ∃ (a : Addr) (ns : List Int), vs = [V.ref a] ∧ (SqL K H a (ns.map V.int) ∨ SqT K H a (ns.map V.int)) ∧ Q (.int ns.sum) H
theorem kr_sumI (hc : X.calm = true) : CallR X (.builtin "sum") (rSumI X.K) := by
  intro pins s σ H vs us Q I r h
  obtain ⟨a, ns, rfl, hs, q⟩ := h
  rw [Vals.ref1 r]
  refine call_sum_walkG (iter_sq I hc hs fun its s₂ St rv hz e2 W st hf => ?_)
  have hl := rv.length
  rw [List.length_map] at hl
  refine ⟨_, _, _, _, _, St, fun i => ns.getD i 0, rfl, W, st, hf, fun i v hv => ints_get rv hv, fun g tk t hk => ?_⟩
  rw [← hl, preSum_all]
  exact walked (v := .int _) I e2 hk ⟨_, rfl⟩ q
/-- sum of a list of truth values -/
def rSumB (K : PySem.W.Frag) : List V → Hp → VK → Prop := fun vs H Q => ∃ (a : Addr) (bs : List Bool), vs = [V.ref a] ∧ (SqL K H a (bs.map V.bl) ∨ SqT K H a (bs.map V.bl)) ∧ Q (.int (bs.map fun b => if b then (1 : Int) else 0).sum) H
theorem kr_sumB (hc : X.calm = true) : CallR X (.builtin "sum") (rSumB X.K) := by
  intro pins s σ H vs us Q I r h
  obtain ⟨a, bs, rfl, hs, q⟩ := h
  rw [Vals.ref1 r]
  refine sumB_call (iter_sq I hc hs fun its s₂ St rv hz e2 W st hf => ?_)
  have hl := rv.length
  rw [List.length_map] at hl hz
  have hn : its.length < 1000000000000 := by rw [sizeLine_eq] at hz; omega
  refine ⟨_, _, _, _, _, St, fun i => bs.getD i false, rfl, W, st, hf, hn, fun i v hv => bools_get rv hv, fun g tk t hk => ?_⟩
  have e : preSum (fun j => if bs.getD j false = true then 1 else 0) its.length = (bs.map fun b => if b then (1 : Int) else 0).sum := by
    rw [← preSum_all, List.length_map, hl]
    refine preSum_ext _ fun i hi => ?_
    rw [List.getD_eq_getElem?_getD, List.getD_eq_getElem?_getD, List.getElem?_map, List.getElem?_eq_getElem (by omega)]
    rfl
  rw [e]
  exact walked (v := .int _) I e2 hk ⟨_, rfl⟩ q
/-- max, min of a list or tuple of ints, and with a default -/
def maxD (d : Int) : List Int → Int
  | [] => d
  | x :: l => l.foldl max x
def minD (d : Int) : List Int → Int
  | [] => d
  | x :: l => l.foldl min x
theorem foldl_max_le : ∀ (l : List Int) (x : Int), x ≤ l.foldl max x ∧ (∀ y ∈ l, y ≤ l.foldl max x) ∧ (l.foldl max x = x ∨ l.foldl max x ∈ l)
  | [], x => ⟨Int.le_refl _, fun y h => by simp at h, .inl rfl⟩
  | z :: l, x => by
    obtain ⟨h1, h2, h3⟩ := foldl_max_le l (max x z)
    refine ⟨by simp only [List.foldl_cons]; omega, fun y hy => ?_, ?_⟩
    · simp only [List.foldl_cons]
      rcases List.mem_cons.mp hy with rfl | hy
      · omega
      · exact h2 y hy
    · simp only [List.foldl_cons]
      rcases h3 with h3 | h3
      · rw [h3]
        rcases Int.le_total x z with h | h
        · right; rw [Int.max_eq_right h]; exact List.mem_cons_self
        · left; exact Int.max_eq_left h
      · exact .inr (List.mem_cons_of_mem _ h3)
theorem foldl_min_le : ∀ (l : List Int) (x : Int), l.foldl min x ≤ x ∧ (∀ y ∈ l, l.foldl min x ≤ y) ∧ (l.foldl min x = x ∨ l.foldl min x ∈ l)
  | [], x => ⟨Int.le_refl _, fun y h => by simp at h, .inl rfl⟩
  | z :: l, x => by
    obtain ⟨h1, h2, h3⟩ := foldl_min_le l (min x z)
    refine ⟨by simp only [List.foldl_cons]; omega, fun y hy => ?_, ?_⟩
    · simp only [List.foldl_cons]
      rcases List.mem_cons.mp hy with rfl | hy
      · omega
      · exact h2 y hy
    · simp only [List.foldl_cons]
      rcases h3 with h3 | h3
      · rw [h3]
        rcases Int.le_total x z with h | h
        · left; exact Int.min_eq_left h
        · right; rw [Int.min_eq_right h]; exact List.mem_cons_self
      · exact .inr (List.mem_cons_of_mem _ h3)
theorem maxD_mem {d : Int} {l : List Int} (h : l ≠ []) : maxD d l ∈ l ∧ ∀ y ∈ l, y ≤ maxD d l := by
  cases l with
  | nil => exact absurd rfl h
  | cons x l =>
    obtain ⟨h1, h2, h3⟩ := foldl_max_le l x
    refine ⟨?_, fun y hy => ?_⟩
    · show l.foldl max x ∈ _
      rcases h3 with h3 | h3
      · rw [h3]; exact List.mem_cons_self
      · exact List.mem_cons_of_mem _ h3
    · show y ≤ l.foldl max x
      rcases List.mem_cons.mp hy with rfl | hy
      · exact h1
      · exact h2 y hy
theorem minD_mem {d : Int} {l : List Int} (h : l ≠ []) : minD d l ∈ l ∧ ∀ y ∈ l, minD d l ≤ y := by
  cases l with
  | nil => exact absurd rfl h
  | cons x l =>
    obtain ⟨h1, h2, h3⟩ := foldl_min_le l x
    refine ⟨?_, fun y hy => ?_⟩
    · show l.foldl min x ∈ _
      rcases h3 with h3 | h3
      · rw [h3]; exact List.mem_cons_self
      · exact List.mem_cons_of_mem _ h3
    · show l.foldl min x ≤ y
      rcases List.mem_cons.mp hy with rfl | hy
      · exact h1
      · exact h2 y hy
theorem getD_mem' {l : List Int} {i : Nat} (h : i < l.length) : l.getD i 0 ∈ l := by
  rw [List.getD_eq_getElem?_getD, List.getElem?_eq_getElem h]
  exact List.getElem_mem h
theorem mem_getD' {l : List Int} {x : Int} (h : x ∈ l) : ∃ i, i < l.length ∧ l.getD i 0 = x := by
  obtain ⟨i, hi, e⟩ := List.getElem_of_mem h
  exact ⟨i, hi, by rw [List.getD_eq_getElem?_getD, List.getElem?_eq_getElem hi]; exact e⟩
theorem argGt_max {d : Int} {l : List Int} (h : 0 < l.length) : l.getD (argBest (fun i j => decide (l.getD i 0 > l.getD j 0)) (l.length - 1)) 0 = maxD d l := by
  obtain ⟨h1, h2⟩ := argBest_gt (fun i => l.getD i 0) (l.length - 1)
  obtain ⟨h3, h4⟩ := maxD_mem (d := d) (l := l) (by intro z; rw [z] at h; simp at h)
  obtain ⟨j, hj, e⟩ := mem_getD' h3
  have q1 := h2 j (by omega)
  have q2 := h4 _ (getD_mem' (l := l) (i := argBest (fun i j => decide (l.getD i 0 > l.getD j 0)) (l.length - 1)) (by omega))
  rw [e] at q1
  omega
theorem argLt_min {d : Int} {l : List Int} (h : 0 < l.length) : l.getD (argBest (fun i j => decide (l.getD i 0 < l.getD j 0)) (l.length - 1)) 0 = minD d l := by
  obtain ⟨h1, h2⟩ := argBest_lt (fun i => l.getD i 0) (l.length - 1)
  obtain ⟨h3, h4⟩ := minD_mem (d := d) (l := l) (by intro z; rw [z] at h; simp at h)
  obtain ⟨j, hj, e⟩ := mem_getD' h3
  have q1 := h2 j (by omega)
  have q2 := h4 _ (getD_mem' (l := l) (i := argBest (fun i j => decide (l.getD i 0 < l.getD j 0)) (l.length - 1)) (by omega))
  rw [e] at q1
  omega
def rMaxI (K : PySem.W.Frag) : List V → Hp → VK → Prop := fun vs H Q => ∃ (a : Addr) (ns : List Int), vs = [V.ref a] ∧ (SqL K H a (ns.map V.int) ∨ SqT K H a (ns.map V.int)) ∧ 0 < ns.length ∧ Q (.int (maxD 0 ns)) H
def rMinI (K : PySem.W.Frag) : List V → Hp → VK → Prop := fun vs H Q => ∃ (a : Addr) (ns : List Int), vs = [V.ref a] ∧ (SqL K H a (ns.map V.int) ∨ SqT K H a (ns.map V.int)) ∧ 0 < ns.length ∧ Q (.int (minD 0 ns)) H
theorem kr_maxI (hc : X.calm = true) : CallR X (.builtin "max") (rMaxI X.K) := by
  intro pins s σ H vs us Q I r h
  obtain ⟨a, ns, rfl, hs, h0, q⟩ := h
  rw [Vals.ref1 r]
  refine call_max_walk (iter_sq I hc hs fun its s₂ St rv hz e2 W st hf => ?_)
  have hl := rv.length
  rw [List.length_map] at hl
  refine ⟨_, _, _, _, _, St, _, rfl, W, st, hf, by omega, CmpOf.ints_gt (fun i => ns.getD i 0) fun i v hv => ints_get rv hv, fun v g tk hv hk => ?_⟩
  obtain ⟨t, rfl⟩ := ints_get rv hv
  rw [← hl]
  rw [argGt_max (d := 0) h0]
  exact walked (v := .int _) I e2 hk ⟨_, rfl⟩ q
theorem kr_minI (hc : X.calm = true) : CallR X (.builtin "min") (rMinI X.K) := by
  intro pins s σ H vs us Q I r h
  obtain ⟨a, ns, rfl, hs, h0, q⟩ := h
  rw [Vals.ref1 r]
  refine call_min_walk (iter_sq I hc hs fun its s₂ St rv hz e2 W st hf => ?_)
  have hl := rv.length
  rw [List.length_map] at hl
  refine ⟨_, _, _, _, _, St, _, rfl, W, st, hf, by omega, CmpOf.ints_lt (fun i => ns.getD i 0) fun i v hv => ints_get rv hv, fun v g tk hv hk => ?_⟩
  obtain ⟨t, rfl⟩ := ints_get rv hv
  rw [← hl]
  rw [argLt_min (d := 0) h0]
  exact walked (v := .int _) I e2 hk ⟨_, rfl⟩ q
def rMaxK (K : PySem.W.Frag) : List V → List V → Hp → VK → Prop := fun vs zs H Q => ∃ (a : Addr) (ns : List Int) (d : Int), vs = [V.ref a] ∧ zs = [.int d] ∧ (SqL K H a (ns.map V.int) ∨ SqT K H a (ns.map V.int)) ∧ Q (.int (maxD d ns)) H
theorem kr_maxK (hc : X.calm = true) : CallRK X (.builtin "max") [Str.ofString "default"] (rMaxK X.K) := by
  intro pins s σ H vs zs us ws Q I r rz h
  obtain ⟨a, ns, d, rfl, rfl, hs, q⟩ := h
  rw [Vals.ref1 r]
  obtain ⟨w1, rfl, td, rfl⟩ := vals1 rz
  refine max_default (iter_sq I hc hs fun its s₂ St rv hz e2 W st hf => ?_)
  have hl := rv.length
  rw [List.length_map] at hl
  refine ⟨_, _, _, _, _, St, _, rfl, W, st, hf, CmpOf.ints_gt (fun i => ns.getD i 0) fun i v hv => ints_get rv hv, fun h0 v g tk hv hk => ?_, fun h0 g tk hk => ?_⟩
  · obtain ⟨t, rfl⟩ := ints_get rv hv
    rw [← hl]
    rw [argGt_max (d := d) (by omega)]
    exact walked (v := .int _) I e2 hk ⟨_, rfl⟩ q
  · have : ns = [] := List.length_eq_zero_iff.mp (by omega)
    subst this
    exact walked (v := .int _) I e2 hk ⟨td, rfl⟩ q
end
end Kn

namespace Kn
open PySem L2 PyProof.Rows

/-! ### insertion sort: the one sorted arrangement -/
def ins (x : Int) : List Int → List Int
  | [] => [x]
  | y :: l => if x ≤ y then x :: y :: l else y :: ins x l
def srt : List Int → List Int
  | [] => []
  | x :: l => ins x (srt l)
theorem ins_perm (x : Int) : ∀ l, (ins x l).Perm (x :: l)
  | [] => List.Perm.refl _
  | y :: l => by
    unfold ins
    split
    · exact List.Perm.refl _
    · exact ((ins_perm x l).cons y).trans (List.Perm.swap x y l)
theorem srt_perm : ∀ l, (srt l).Perm l
  | [] => List.Perm.refl _
  | x :: l => (ins_perm x (srt l)).trans ((srt_perm l).cons x)
theorem ins_sorted (x : Int) : ∀ {l}, List.Pairwise (· ≤ ·) l → List.Pairwise (· ≤ ·) (ins x l)
  | [], _ => by simp [ins]
  | y :: l, h => by
    obtain ⟨h1, h2⟩ := List.pairwise_cons.mp h
    unfold ins
    split
    · rename_i hxy
      refine List.pairwise_cons.mpr ⟨fun z hz => ?_, h⟩
      rcases List.mem_cons.mp hz with rfl | hz
      · exact hxy
      · exact Int.le_trans hxy (h1 z hz)
    · rename_i hxy
      refine List.pairwise_cons.mpr ⟨fun z hz => ?_, ins_sorted x h2⟩
      rcases List.mem_cons.mp ((ins_perm x l).mem_iff.mp hz) with rfl | hz
      · omega
      · exact h1 z hz
theorem srt_sorted : ∀ l, List.Pairwise (· ≤ ·) (srt l)
  | [] => List.Pairwise.nil
  | x :: l => ins_sorted x (srt_sorted l)
theorem sorted_one : ∀ {l l' : List Int}, l.Perm l' → List.Pairwise (· ≤ ·) l → List.Pairwise (· ≤ ·) l' → l = l'
  | [], l', p, _, _ => (List.Perm.nil_eq p)
  | x :: l, [], p, _, _ => by have := p.length_eq; simp at this
  | x :: l, y :: l', p, h, h' => by
    obtain ⟨h1, h2⟩ := List.pairwise_cons.mp h
    obtain ⟨h1', h2'⟩ := List.pairwise_cons.mp h'
    have e : x = y := by
      have hx : x ∈ y :: l' := p.mem_iff.mp List.mem_cons_self
      have hy : y ∈ x :: l := p.mem_iff.mpr List.mem_cons_self
      rcases List.mem_cons.mp hx with e | hx
      · exact e
      · rcases List.mem_cons.mp hy with e | hy
        · exact e.symm
        · have a := h1 y hy; have b := h1' x hx; omega
    subst e
    rw [sorted_one (List.Perm.cons_inv p) h2 h2']
theorem srt_of {l l' : List Int} (p : l'.Perm l) (h : List.Pairwise (· ≤ ·) l') : l' = srt l := sorted_one (p.trans (srt_perm l).symm) h (srt_sorted l)
theorem srt_len (l : List Int) : (srt l).length = l.length := (srt_perm l).length_eq
theorem srt_mem {x : Int} {l : List Int} : x ∈ srt l ↔ x ∈ l := (srt_perm l).mem_iff
/-- the falling arrangement -/
def srtD (l : List Int) : List Int := (srt l).reverse
theorem srtD_of {l l' : List Int} (p : l'.Perm l) (h : List.Pairwise (· ≥ ·) l') : l' = srtD l := by
  have e : l'.reverse = srt l := srt_of ((List.reverse_perm l').trans p) (by rw [List.pairwise_reverse]; exact h)
  unfold srtD
  rw [← e, List.reverse_reverse]
theorem srtD_perm (l : List Int) : (srtD l).Perm l := (List.reverse_perm _).trans (srt_perm l)
theorem srtD_sorted (l : List Int) : List.Pairwise (· ≥ ·) (srtD l) := by
  unfold srtD
  rw [List.pairwise_reverse]
  exact srt_sorted l
theorem srtD_len (l : List Int) : (srtD l).length = l.length := (srtD_perm l).length_eq
theorem srtD_mem {x : Int} {l : List Int} : x ∈ srtD l ↔ x ∈ l := (srtD_perm l).mem_iff

abbrev iL (l : List Int) : PyData := .list (l.map .int)
abbrev iT (l : List Int) : PyData := .tuple (l.map .int)

section
variable {X : Cx} {K : PySem.W.Frag} {b : Bool} {ρ ρ1 ρ2 ρ3 : En} {ta tk tb tc te : TE} {x y z : PyData} {r : Rv}
theorem as1 {G : Hp} {σ : L2.St} {vs : List V} {d : PyData} (h : AsOk G σ vs [.d d]) : ∃ v, vs = [v] ∧ Dq G v d := by
  cases h with
  | cons h t => cases t; exact ⟨_, rfl, h⟩
theorem as2 {G : Hp} {σ : L2.St} {vs : List V} {d e : PyData} (h : AsOk G σ vs [.d d, .d e]) : ∃ v w, vs = [v, w] ∧ Dq G v d ∧ Dq G w e := by
  cases h with
  | cons h t => cases t with
    | cons h2 t => cases t; exact ⟨_, _, rfl, h, h2⟩
/-- len -/
def rLen (K : PySem.W.Frag) : List V → Hp → VK → Prop := fun vs H Q => ∃ p ys, vs = [.ref p] ∧ (SqL K H p ys ∨ SqT K H p ys) ∧ Q (.int ys.length) H
theorem kr_len : CallR X (.builtin "len") (rLen X.K) := call_len_seq
theorem rc_lenL {l : List PyData} : RcD (rLen K) [.d (.list l)] (.d (.int l.length)) := rc_val fun G H σ vs e hv Q q => by
  obtain ⟨v, rfl, h⟩ := as1 hv
  cases h with
  | lst ha hs => exact ⟨_, _, rfl, .inl (.inl (.inl (e _ _ ha))), by rw [hs.len]; exact q _ (.int _)⟩
theorem rc_lenT {l : List PyData} : RcD (rLen K) [.d (.tuple l)] (.d (.int l.length)) := rc_val fun G H σ vs e hv Q q => by
  obtain ⟨v, rfl, h⟩ := as1 hv
  cases h with
  | tup ha hs => exact ⟨_, _, rfl, .inr (.inl (.inl (e _ _ ha))), by rw [hs.len]; exact q _ (.int _)⟩
theorem rc_lenLi {l : List Int} : RcD (rLen K) [.d (iL l)] (.d (.int l.length)) := by
  have h := rc_lenL (K := K) (l := l.map .int)
  rw [List.length_map] at h; exact h
theorem rc_lenTi {l : List Int} : RcD (rLen K) [.d (iT l)] (.d (.int l.length)) := by
  have h := rc_lenT (K := K) (l := l.map .int)
  rw [List.length_map] at h; exact h
/-- sum -/
theorem rc_sumL {l : List Int} : RcD (rSumI K) [.d (iL l)] (.d (.int l.sum)) := rc_val fun G H σ vs e hv Q q => by
  obtain ⟨v, rfl, h⟩ := as1 hv
  cases h with
  | lst ha hs => rw [of_dqs_ints hs] at ha; exact ⟨_, l, rfl, .inl (.inl (.inl (e _ _ ha))), q _ (.int _)⟩
theorem rc_sumT {l : List Int} : RcD (rSumI K) [.d (iT l)] (.d (.int l.sum)) := rc_val fun G H σ vs e hv Q q => by
  obtain ⟨v, rfl, h⟩ := as1 hv
  cases h with
  | tup ha hs => rw [of_dqs_ints hs] at ha; exact ⟨_, l, rfl, .inr (.inl (.inl (e _ _ ha))), q _ (.int _)⟩
theorem rc_sumB {l : List Bool} : RcD (rSumB K) [.d (.list (l.map .bool))] (.d (.int (l.map fun b => if b then (1 : Int) else 0).sum)) := rc_val fun G H σ vs e hv Q q => by
  obtain ⟨v, rfl, h⟩ := as1 hv
  cases h with
  | lst ha hs => rw [of_dqs_bools hs] at ha; exact ⟨_, l, rfl, .inl (.inl (.inl (e _ _ ha))), q _ (.int _)⟩
/-- max, min -/
theorem rc_maxL {l : List Int} (h0 : 0 < l.length) : RcD (rMaxI K) [.d (iL l)] (.d (.int (maxD 0 l))) := rc_val fun G H σ vs e hv Q q => by
  obtain ⟨v, rfl, h⟩ := as1 hv
  cases h with
  | lst ha hs => rw [of_dqs_ints hs] at ha; exact ⟨_, l, rfl, .inl (.inl (.inl (e _ _ ha))), h0, q _ (.int _)⟩
theorem rc_maxT {l : List Int} (h0 : 0 < l.length) : RcD (rMaxI K) [.d (iT l)] (.d (.int (maxD 0 l))) := rc_val fun G H σ vs e hv Q q => by
  obtain ⟨v, rfl, h⟩ := as1 hv
  cases h with
  | tup ha hs => rw [of_dqs_ints hs] at ha; exact ⟨_, l, rfl, .inr (.inl (.inl (e _ _ ha))), h0, q _ (.int _)⟩
theorem rc_minL {l : List Int} (h0 : 0 < l.length) : RcD (rMinI K) [.d (iL l)] (.d (.int (minD 0 l))) := rc_val fun G H σ vs e hv Q q => by
  obtain ⟨v, rfl, h⟩ := as1 hv
  cases h with
  | lst ha hs => rw [of_dqs_ints hs] at ha; exact ⟨_, l, rfl, .inl (.inl (.inl (e _ _ ha))), h0, q _ (.int _)⟩
theorem rc_minT {l : List Int} (h0 : 0 < l.length) : RcD (rMinI K) [.d (iT l)] (.d (.int (minD 0 l))) := rc_val fun G H σ vs e hv Q q => by
  obtain ⟨v, rfl, h⟩ := as1 hv
  cases h with
  | tup ha hs => rw [of_dqs_ints hs] at ha; exact ⟨_, l, rfl, .inr (.inl (.inl (e _ _ ha))), h0, q _ (.int _)⟩
def rMax2 : List V → Hp → VK → Prop := fun vs H Q => ∃ i j, vs = [.int i, .int j] ∧ Q (.int (if j > i then j else i)) H
def rMin2 : List V → Hp → VK → Prop := fun vs H Q => ∃ i j, vs = [.int i, .int j] ∧ Q (.int (if j < i then j else i)) H
theorem kr_max2 (hc : X.calm = true) : CallR X (.builtin "max") rMax2 := call_max2 hc
theorem kr_min2 (hc : X.calm = true) : CallR X (.builtin "min") rMin2 := call_min2 hc
theorem rc_max2 {i j : Int} : RcD rMax2 [.d (.int i), .d (.int j)] (.d (.int (max i j))) := rc_val fun G H σ vs e hv Q q => by
  obtain ⟨v, w, rfl, h1, h2⟩ := as2 hv
  cases h1; cases h2
  have e : (if j > i then j else i) = max i j := by split <;> omega
  exact ⟨i, j, rfl, by rw [e]; exact q _ (.int _)⟩
theorem rc_min2 {i j : Int} : RcD rMin2 [.d (.int i), .d (.int j)] (.d (.int (min i j))) := rc_val fun G H σ vs e hv Q q => by
  obtain ⟨v, w, rfl, h1, h2⟩ := as2 hv
  cases h1; cases h2
  have e : (if j < i then j else i) = min i j := by split <;> omega
  exact ⟨i, j, rfl, by rw [e]; exact q _ (.int _)⟩
/-- a built-in with keywords -/
def RcK (r : List V → List V → Hp → VK → Prop) (as ks : List Ar) (z : Rv) : Prop := ∀ (G H : Hp) (σ : L2.St) (vs ws : List V), Ex G H → AsOk G σ vs as → AsOk G σ ws ks → ∀ Q : VK, (∀ u G' H', Ext [] G H G' H' → ROk G H G' H' u z → Q u H') → r vs ws H Q
theorem ev_ckw {r : List V → List V → Hp → VK → Prop} {ta tk : TA} {as ks : List Ar} {z : Rv} (h : EvA b ta ρ as ρ1) (h2 : EvA b tk ρ1 ks ρ2) (hr : RcK r as ks z) : Ev b (tCKw r ta tk) ρ z ρ2 := fun G H σ e st nd Q q =>
  h G H σ e st nd _ fun vs G1 H1 x1 s1 a1 k1 => h2 G1 H1 σ x1.gh s1 (by rw [a1]; exact nd) _ fun ws G2 H2 x2 s2 a2 k2 => by
    have y2 := x1.then x2 a1
    exact hr G2 H2 σ vs ws x2.gh (k1.mono x2.gg) k2 Q fun u G3 H3 x3 k3 => q u G3 H3 (y2.tr x3.up) (s2.mono x3) (a2.trans a1) (k3.back y2)
theorem rk_maxL {l : List Int} {d : Int} : RcK (rMaxK K) [.d (iL l)] [.d (.int d)] (.d (.int (maxD d l))) := fun G H σ vs ws e hv hw Q q => by
  obtain ⟨v, rfl, h⟩ := as1 hv
  obtain ⟨w, rfl, h2⟩ := as1 hw
  cases h2
  cases h with
  | lst ha hs => rw [of_dqs_ints hs] at ha; exact ⟨_, l, d, rfl, rfl, .inl (.inl (.inl (e _ _ ha))), q _ G H (Ext.refl e) (.int _)⟩
theorem rk_maxT {l : List Int} {d : Int} : RcK (rMaxK K) [.d (iT l)] [.d (.int d)] (.d (.int (maxD d l))) := fun G H σ vs ws e hv hw Q q => by
  obtain ⟨v, rfl, h⟩ := as1 hv
  obtain ⟨w, rfl, h2⟩ := as1 hw
  cases h2
  cases h with
  | tup ha hs => rw [of_dqs_ints hs] at ha; exact ⟨_, l, d, rfl, rfl, .inr (.inl (.inl (e _ _ ha))), q _ G H (Ext.refl e) (.int _)⟩
/-- sorted -/
theorem rc_sorted {l : List Int} : RcD (rSortedI K) [.d (iL l)] (.l ((srt l).map .int)) := fun G H σ vs e hv Q q => by
  obtain ⟨v, rfl, h⟩ := as1 hv
  cases h with
  | lst ha hs =>
    rw [of_dqs_ints hs] at ha
    refine ⟨_, l, rfl, .inl (.inl (e _ _ ha)), fun ns' p hp hs' hn => ?_⟩
    rw [srt_of hp hs']
    exact q _ G _ (Ext.own e hn) ⟨p, _, rfl, hn, e.none hn, upd_same, dqs_ints _⟩
theorem rk_sortedR {l : List Int} : RcK (rSortedKw K true [.bl true]) [.d (iL l)] [.d (.bool true)] (.l ((srtD l).map .int)) := fun G H σ vs ws e hv hw Q q => by
  obtain ⟨v, rfl, h⟩ := as1 hv
  obtain ⟨w, rfl, h2⟩ := as1 hw
  cases h2
  cases h with
  | lst ha hs =>
    rw [of_dqs_ints hs] at ha
    refine ⟨_, l, rfl, rfl, .inl (.inl (e _ _ ha)), fun ns' p hp hs' hn => ?_⟩
    rw [srtD_of hp hs']
    exact q _ G _ (Ext.own e hn) ⟨p, _, rfl, hn, e.none hn, upd_same, dqs_ints _⟩
/-- tuple(..), list(..) -/
def rTup (K : PySem.W.Frag) : List V → Hp → VK → Prop := fun vs H Q => ∃ p ys, vs = [.ref p] ∧ ((SqL K H p ys ∧ ∀ l, H l = none → Q (.ref l) (upd H l (.tup ys))) ∨ (SqT K H p ys ∧ Q (.ref p) H))
theorem kr_tup : CallR X (.type "tuple") (rTup X.K) := call_tuple_of
theorem rc_tupL {l : List PyData} : RcD (rTup K) [.d (.list l)] (.d (.tuple l)) := fun G H σ vs e hv Q q => by
  obtain ⟨v, rfl, h⟩ := as1 hv
  cases h with
  | lst ha hs => exact ⟨_, _, rfl, .inl ⟨.inl (.inl (e _ _ ha)), fun p hp => q _ _ _ (Ext.new e hp) (.tup upd_same (dqs_mono (Ex.new (e.none hp)) hs))⟩⟩
theorem rc_tupT {l : List PyData} : RcD (rTup K) [.d (.tuple l)] (.d (.tuple l)) := fun G H σ vs e hv Q q => by
  obtain ⟨v, rfl, h⟩ := as1 hv
  cases h with
  | tup ha hs => exact ⟨_, _, rfl, .inr ⟨.inl (.inl (e _ _ ha)), q _ G H (Ext.refl e) (.tup ha hs)⟩⟩
def rLst (K : PySem.W.Frag) : List V → Hp → VK → Prop := fun vs H Q => ∃ p ys, vs = [.ref p] ∧ (SqL K H p ys ∨ SqT K H p ys) ∧ ∀ l, H l = none → Q (.ref l) (upd H l (.lst ys))
theorem kr_lst : CallR X (.type "list") (rLst X.K) := call_list_of
theorem rc_lstL {l : List PyData} : RcD (rLst K) [.d (.list l)] (.l l) := fun G H σ vs e hv Q q => by
  obtain ⟨v, rfl, h⟩ := as1 hv
  cases h with
  | lst ha hs => exact ⟨_, _, rfl, .inl (.inl (.inl (e _ _ ha))), fun p hp => q _ G _ (Ext.own e hp) ⟨p, _, rfl, hp, e.none hp, upd_same, hs⟩⟩
theorem rc_lstT {l : List PyData} : RcD (rLst K) [.d (.tuple l)] (.l l) := fun G H σ vs e hv Q q => by
  obtain ⟨v, rfl, h⟩ := as1 hv
  cases h with
  | tup ha hs => exact ⟨_, _, rfl, .inr (.inl (.inl (e _ _ ha))), fun p hp => q _ G _ (Ext.own e hp) ⟨p, _, rfl, hp, e.none hp, upd_same, hs⟩⟩
/-- xs[::-1] -/
theorem ev_revL {xs : List PyData} (h : Ev b te ρ (.d (.list xs)) ρ1) : Ev b (tRevL K te) ρ (.l xs.reverse) ρ1 := fun G H σ e st nd Q q =>
  h G H σ e st nd _ fun v G1 H1 x1 s1 a1 k1 => by
    cases k1 with
    | lst ha hs =>
      rename_i a vs
      refine ⟨a, vs, rfl, .inl (.inl (x1.gh _ _ ha)), fun p hp => ?_⟩
      have x2 : Ext [] G1 H1 G1 (upd H1 p (.lst vs.reverse)) := Ext.own x1.gh hp
      refine q _ _ _ (x1.tr x2.up) (s1.mono x2) a1 ⟨p, _, rfl, ?_, x1.gh.none hp, upd_same, hs.rev⟩
      cases z : H p with
      | none => rfl
      | some o => exact absurd hp (x1.th p (by rw [z]; simp))
/-- all, any -/
theorem rc_all {l : List Bool} : RcD (rAll K) [.d (.list (l.map .bool))] (.d (.bool (l.all id))) := rc_val fun G H σ vs e hv Q q => by
  obtain ⟨v, rfl, h⟩ := as1 hv
  cases h with
  | lst ha hs => rw [of_dqs_bools hs] at ha; exact ⟨_, l, rfl, .inl (.inl (e _ _ ha)), q _ (.bl _)⟩
theorem rc_any {l : List Bool} : RcD (rAny K) [.d (.list (l.map .bool))] (.d (.bool (l.any id))) := rc_val fun G H σ vs e hv Q q => by
  obtain ⟨v, rfl, h⟩ := as1 hv
  cases h with
  | lst ha hs => rw [of_dqs_bools hs] at ha; exact ⟨_, l, rfl, .inl (.inl (e _ _ ha)), q _ (.bl _)⟩
/-- isinstance of data and a built-in type -/
def tyN : PyData → String
  | .none => "NoneType"
  | .bool _ => "bool"
  | .int _ => "int"
  | .str _ => "str"
  | .list _ => "list"
  | .tuple _ => "tuple"
  | .dict _ => "dict"
def isTyN (s n : String) : Bool := s == n || (n == "int" && s == "bool")
def isTy (d : PyData) (n : String) : Bool := isTyN (tyN d) n
theorem tyN_mem (d : PyData) : tyN d ∈ ["NoneType", "bool", "int", "str", "list", "tuple", "dict"] := by cases d <;> simp [tyN]
def noX : PyData → Bool
  | .dict _ => false
  | _ => true
theorem ty_of {G H : Hp} {v : V} (e : Ex G H) : ∀ {d : PyData}, Dq G v d → noX d = true → TyX K H v (.type (tyN d))
  | _, .non, _ => .base .non
  | _, .bl b, _ => .base (.bl b)
  | _, .int i, _ => .base (.int i)
  | _, .str x, _ => .base (.str x)
  | _, .lst ha _, _ => .base (.lst (e _ _ ha))
  | _, .tup ha _, _ => .base (.tup (e _ _ ha))
  | _, .exc _, z => by cases z
  | _, .excF _ _ _, z => by cases z
theorem rc_isi {d : PyData} {n : String} {r : Bool} (hx : noX d = true) (h : kitB (tyN d) n = some r) : RcD (rIsi K) [.d d, .va (.ty n)] (.d (.bool r)) := rc_val fun G H σ vs e hv Q q => by
  cases hv with
  | cons h1 t => cases t with
    | cons h2 t =>
      cases t
      have h2' : _ = V.ty n := h2
      subst h2'
      exact ⟨_, _, _, _, r, rfl, .ty n, ty_of e h1 hx, kit_ty h, q _ (.bl _)⟩
theorem kit_int (d : PyData) : kitB (tyN d) "int" = some (isTy d "int") := (show ∀ s ∈ ["NoneType", "bool", "int", "str", "list", "tuple", "dict"], kitB s "int" = some (isTyN s "int") by decide +kernel) _ (tyN_mem d)
theorem kit_bool (d : PyData) : kitB (tyN d) "bool" = some (isTy d "bool") := (show ∀ s ∈ ["NoneType", "bool", "int", "str", "list", "tuple", "dict"], kitB s "bool" = some (isTyN s "bool") by decide +kernel) _ (tyN_mem d)
theorem kit_tuple (d : PyData) : kitB (tyN d) "tuple" = some (isTy d "tuple") := (show ∀ s ∈ ["NoneType", "bool", "int", "str", "list", "tuple", "dict"], kitB s "tuple" = some (isTyN s "tuple") by decide +kernel) _ (tyN_mem d)
theorem kit_list (d : PyData) : kitB (tyN d) "list" = some (isTy d "list") := (show ∀ s ∈ ["NoneType", "bool", "int", "str", "list", "tuple", "dict"], kitB s "list" = some (isTyN s "list") by decide +kernel) _ (tyN_mem d)
theorem kit_str (d : PyData) : kitB (tyN d) "str" = some (isTy d "str") := (show ∀ s ∈ ["NoneType", "bool", "int", "str", "list", "tuple", "dict"], kitB s "str" = some (isTyN s "str") by decide +kernel) _ (tyN_mem d)
/-- list(range(..)) -/
def EvR (b : Bool) (tr : L2.St → Hp → (Int → Int → Hp → Prop) → Prop) (ρ : En) (lo hi : Int) (ρ' : En) : Prop :=
  ∀ (G H : Hp) (σ : L2.St), Ex G H → StOk G H σ ρ → (adr ρ).Nodup → ∀ Q : Int → Int → Hp → Prop, (∀ G' H', Ext (ws b ρ) G H G' H' → StOk G' H' σ ρ' → adr ρ' = adr ρ → Q lo hi H') → tr σ H Q
theorem er_1 {n : Int} (h : Ev b te ρ (.d (.int n)) ρ1) : EvR b (tRg1 te) ρ 0 n ρ1 := fun G H σ e st nd Q q =>
  h G H σ e st nd _ fun v G1 H1 x1 s1 a1 k1 => by cases k1; exact ⟨n, rfl, q G1 H1 x1 s1 a1⟩
theorem er_2 {m n : Int} (h : Ev b te ρ (.d (.int m)) ρ1) (h2 : Ev b tb ρ1 (.d (.int n)) ρ2) : EvR b (tRg2 te tb) ρ m n ρ2 := fun G H σ e st nd Q q =>
  h G H σ e st nd _ fun v G1 H1 x1 s1 a1 k1 => h2 G1 H1 σ x1.gh s1 (by rw [a1]; exact nd) _ fun w G2 H2 x2 s2 a2 k2 => by
    cases k1; cases k2
    exact ⟨m, n, rfl, rfl, q G2 H2 (x1.then x2 a1) s2 (a2.trans a1)⟩
theorem rgV_is (lo : Int) : ∀ n : Nat, (List.range n).map (fun i => V.int (lo + (i : Nat))) = (rgI lo n).map V.int := by
  intro n
  apply List.ext_getElem?
  intro i
  rw [List.getElem?_map, List.getElem?_map]
  by_cases hi : i < n
  · rw [List.getElem?_range hi, rgI_get n lo i hi]; rfl
  · rw [List.getElem?_eq_none (by simp; omega), List.getElem?_eq_none (by rw [rgI_len]; omega)]; rfl
theorem ev_listRg {tr : L2.St → Hp → (Int → Int → Hp → Prop) → Prop} {lo hi : Int} (h : EvR b tr ρ lo hi ρ1) (hl : -1000000 ≤ lo ∧ lo ≤ 1000000 ∧ -1000000 ≤ hi ∧ hi ≤ 1000000) : Ev b (tLstRg tr) ρ (.l ((rgI lo (hi - lo).toNat).map .int)) ρ1 := fun G H σ e st nd Q q =>
  h G H σ e st nd _ fun G1 H1 x1 s1 a1 => by
    refine ⟨⟨by omega, by omega, by omega, by omega, by omega⟩, fun p hp => ?_⟩
    have x2 : Ext [] G1 H1 G1 (upd H1 p (.lst (rgV lo hi))) := Ext.own x1.gh hp
    refine q _ _ _ (x1.tr x2.up) (s1.mono x2) a1 ⟨p, _, rfl, ?_, x1.gh.none hp, upd_same, ?_⟩
    · cases z : H p with
      | none => rfl
      | some o => exact absurd hp (x1.th p (by rw [z]; simp))
    · unfold rgV
      rw [rgV_is]
      exact dqs_ints _
end
end Kn

namespace Kn
open PySem L2 PyProof.Rows

/-! ### kinds of data -/
abbrev eL {α : Type} (e : α → PyData) (l : List α) : PyData := .list (l.map e)
abbrev eT {α : Type} (e : α → PyData) (l : List α) : PyData := .tuple (l.map e)
abbrev eP {α β : Type} (e : α → PyData) (f : β → PyData) (p : α × β) : PyData := .tuple [e p.1, f p.2]
def eO {α : Type} (e : α → PyData) : Option α → PyData
  | none => .none
  | some x => e x
section
variable {α β γ : Type} {b : Bool} {ρ ρ1 ρ2 ρ3 : En} {ta tk tb tc te : TE} {t u : TS} {tt : TT} {x y z : PyData} {r : Rv} {K : PySem.W.Frag} {wi : TI} {g : TG} {vs : List Nat} {E : Ens}

/-! ### comprehensions over typed lists -/
theorem ev_lcF {xs : List α} {enc : α → PyData} {j : Nat} {p : α → Bool} {f : α → β} (eb : β → PyData) (hi : EvI b wi ρ (xs.map enc) ρ1) (hj : j ∈ vs) (hl : xs.length ≤ 1000000)
    (hs : ∀ x ∈ xs, EvT false tt ((wipeE ρ1 vs).set j (.dat (enc x))) (p x) ((wipeE ρ1 vs).set j (.dat (enc x))) ∧ (p x = true → Ev false te ((wipeE ρ1 vs).set j (.dat (enc x))) (.d (eb (f x))) ((wipeE ρ1 vs).set j (.dat (enc x))))) :
    Ev b (tLc wi (gName j) tt te vs) ρ (.l (((xs.filter p).map f).map eb)) ρ1 := by
  rw [List.map_map]
  exact ev_lc xs enc (fun x => [(j, enc x)]) p (eb ∘ f) hi (fun x _ => ⟨gv_name, fun q hq => by rw [List.mem_singleton.mp hq]; exact hj⟩) hs hl
theorem ev_lcM {xs : List α} {enc : α → PyData} {j : Nat} {f : α → β} (eb : β → PyData) (hi : EvI b wi ρ (xs.map enc) ρ1) (hj : j ∈ vs) (hl : xs.length ≤ 1000000)
    (hs : ∀ x ∈ xs, Ev false te ((wipeE ρ1 vs).set j (.dat (enc x))) (.d (eb (f x))) ((wipeE ρ1 vs).set j (.dat (enc x)))) : Ev b (tLc wi (gName j) tYes te vs) ρ (.l ((xs.map f).map eb)) ρ1 := by
  have h := ev_lcF (p := fun _ => true) (tt := tYes) eb hi hj hl fun x hx => ⟨fun G H σ e st nd Q q => q G H (Ext.refl e) st rfl, fun _ => hs x hx⟩
  rwa [show xs.filter (fun _ => true) = xs from List.filter_eq_self.mpr fun _ _ => rfl] at h
/-- over pairs -/
theorem ev_lcF2 {xs : List (α × β)} {e1 : α → PyData} {e2 : β → PyData} {i j : Nat} {p : α × β → Bool} {f : α × β → γ} (eb : γ → PyData) (hi : EvI b wi ρ (xs.map (eP e1 e2)) ρ1) (hj : i ∈ vs ∧ j ∈ vs) (hl : xs.length ≤ 1000000)
    (hs : ∀ x ∈ xs, EvT false tt (((wipeE ρ1 vs).set i (.dat (e1 x.1))).set j (.dat (e2 x.2))) (p x) (((wipeE ρ1 vs).set i (.dat (e1 x.1))).set j (.dat (e2 x.2))) ∧ (p x = true → Ev false te (((wipeE ρ1 vs).set i (.dat (e1 x.1))).set j (.dat (e2 x.2))) (.d (eb (f x))) (((wipeE ρ1 vs).set i (.dat (e1 x.1))).set j (.dat (e2 x.2))))) :
    Ev b (tLc wi (gTup K 2 (gCons (gName i) (gCons (gName j) gNil))) tt te vs) ρ (.l (((xs.filter p).map f).map eb)) ρ1 := by
  rw [List.map_map]
  refine ev_lc xs (eP e1 e2) (fun x => [(i, e1 x.1), (j, e2 x.2)]) p (eb ∘ f) hi (fun x _ => ⟨gv_tup2, fun q hq => ?_⟩) hs hl
  rcases List.mem_cons.mp hq with h | h
  · rw [h]; exact hj.1
  · rw [List.mem_singleton.mp h]; exact hj.2
theorem ev_lcM2 {xs : List (α × β)} {e1 : α → PyData} {e2 : β → PyData} {i j : Nat} {f : α × β → γ} (eb : γ → PyData) (hi : EvI b wi ρ (xs.map (eP e1 e2)) ρ1) (hj : i ∈ vs ∧ j ∈ vs) (hl : xs.length ≤ 1000000)
    (hs : ∀ x ∈ xs, Ev false te (((wipeE ρ1 vs).set i (.dat (e1 x.1))).set j (.dat (e2 x.2))) (.d (eb (f x))) (((wipeE ρ1 vs).set i (.dat (e1 x.1))).set j (.dat (e2 x.2)))) :
    Ev b (tLc wi (gTup K 2 (gCons (gName i) (gCons (gName j) gNil))) tYes te vs) ρ (.l ((xs.map f).map eb)) ρ1 := by
  have h := ev_lcF2 (K := K) (p := fun _ => true) (tt := tYes) eb hi hj hl fun x hx => ⟨fun G H σ e st nd Q q => q G H (Ext.refl e) st rfl, fun _ => hs x hx⟩
  rwa [show xs.filter (fun _ => true) = xs from List.filter_eq_self.mpr fun _ _ => rfl] at h
/-- the element changes what the slots own: S what is carried -/
def mapS {σ : Type} (f : σ → α → β × σ) : σ → List α → List β × σ
  | s, [] => ([], s)
  | s, x :: l => ((f s x).1 :: (mapS f (f s x).2 l).1, (mapS f (f s x).2 l).2)
theorem mapS_snoc {σ : Type} (f : σ → α → β × σ) : ∀ (l : List α) (s : σ) (x : α), mapS f s (l ++ [x]) = ((mapS f s l).1 ++ [(f (mapS f s l).2 x).1], (f (mapS f s l).2 x).2)
  | [], s, x => rfl
  | y :: l, s, x => by simp [mapS, mapS_snoc f l]
theorem mapS_len {σ : Type} (f : σ → α → β × σ) : ∀ (l : List α) (s : σ), (mapS f s l).1.length = l.length
  | [], s => rfl
  | y :: l, s => by simp [mapS, mapS_len f l]
theorem StOk.unwipe {G H G' H' : Hp} {σ : L2.St} {ρ ρ' : En} {vs : List Nat} {σ2 : L2.St} {ρ2 : En} (h2 : StOk G' H' σ2 ρ2) (hl : σ2.length = σ.length) (hσ : ∀ (i : Nat), i ∉ vs → σ2[i]? = σ[i]?) (hr : ∀ (i : Nat), i ∉ vs → ρ2[i]? = ρ'[i]?) (hll : ρ'.length = ρ2.length)
    (h : StOk G H σ ρ) (hv : ∀ (i : Nat), i ∈ vs → ρ'[i]? = ρ[i]?) (hm : ∀ (i : Nat) p xs, i ∈ vs → ρ[i]? ≠ some (.mu p xs)) (hm2 : ∀ (i : Nat) r, i ∈ vs → ρ[i]? ≠ some (.rg r)) (e : Ex G G') : StOk G' H' σ ρ' := by
  rw [StOk.iff]
  obtain ⟨l2, k2⟩ := StOk.iff.mp h2
  obtain ⟨l1, k1⟩ := StOk.iff.mp h
  refine ⟨by omega, fun i o s h1 h3 => ?_⟩
  by_cases hi : i ∈ vs
  · rw [hv i hi] at h3
    rcases k1 i o s h1 h3 with q | ⟨v, q1, q2⟩
    · exact .inl q
    · refine .inr ⟨v, q1, ?_⟩
      cases s with
      | un => trivial
      | dat d => exact dq_mono e q2
      | dc es => exact dc_mono e q2
      | va u => exact q2
      | kl K ns => obtain ⟨a0, e1, e2⟩ := q2; exact ⟨a0, e1, Ex.sl e e2⟩
      | mu p xs => exact absurd h3 (hm i p xs hi)
      | rg r => exact absurd h3 (hm2 i r hi)
  · exact k2 i o s (by rw [hσ i hi]; exact h1) (by rw [hr i hi]; exact h3)
theorem wipeE_out {i : Nat} : ∀ {vs : List Nat} {ρ : En}, i ∉ vs → (wipeE ρ vs)[i]? = ρ[i]?
  | [], _, _ => rfl
  | v :: vs, ρ, h => by
    have h1 : v ≠ i := fun e => h (by rw [e]; exact List.mem_cons_self)
    unfold wipeE
    rw [List.getElem?_set_ne h1]
    exact wipeE_out fun m => h (List.mem_cons_of_mem _ m)
theorem ev_lcS {S : Type} {xs : List α} {enc : α → PyData} {j : Nat} {f : S → α → β × S} (eb : β → PyData) (C : S → En) (s0 : S) (hi : EvI true wi ρ (xs.map enc) (C s0)) (hj : j ∈ vs) (hl : xs.length ≤ 1000000)
    (hC : ∀ s, adr (C s) = adr (C s0) ∧ (C s).length = (C s0).length ∧ ∀ (i : Nat), i ∈ vs → (C s)[i]? = some .un)
    (hs : ∀ s, ∀ x ∈ xs, Ev true te ((wipeE (C s) vs).set j (.dat (enc x))) (.d (eb (f s x).1)) ((wipeE (C (f s x).2) vs).set j (.dat (enc x)))) :
    Ev true (tLc wi (gName j) tYes te vs) ρ (.l ((mapS f s0 xs).1.map eb)) (C (mapS f s0 xs).2) := fun G H σ e st nd Q q =>
  hi G H σ e st nd _ fun J G1 H1 x1 s1 a1 hJ Dl hD => by
    have nd1 : (adr (C s0)).Nodup := by rw [a1]; exact nd
    have hD0 : H Dl = none := by
      cases z : H Dl with
      | none => rfl
      | some o => exact absurd hD (x1.th Dl (by rw [z]; simp))
    refine ⟨fun i m H' => i + m = xs.length ∧ ∃ G' acc, Ext (adr (C s0)) G1 H1 G' H' ∧ StOk G' H' σ (C (mapS f s0 (xs.take i)).2) ∧ G' Dl = none ∧ H' Dl = some (.lst acc) ∧ DqA G' acc ((mapS f s0 (xs.take i)).1.map eb), ⟨xs.length, by simp, G1, [], Ext.own x1.gh hD, ?_, x1.gh.none hD, upd_same, .nil⟩, fun i m H' hW => ?_⟩
    · exact s1.mono (Ext.own x1.gh hD)
    obtain ⟨hm, G', acc, x2, st2, gD, hDl, hacc⟩ := hW
    have hDa : Dl ∉ adr (C s0) := fun hmm => by
      rw [a1] at hmm
      obtain ⟨_, us, hu⟩ := st.own hmm
      rw [hD0] at hu; cases hu
    obtain ⟨hstop, hgo⟩ := hJ G' H' x2.gg x2.gh
    by_cases hlt : i < xs.length
    · obtain ⟨x, hx⟩ : ∃ x, xs[i]? = some x := ⟨xs[i], by simp [hlt]⟩
      have hmem : x ∈ xs := List.mem_of_getElem? hx
      obtain ⟨hgo1, hy⟩ := hgo i (enc x) (by rw [List.getElem?_map, hx]; rfl)
      refine .inr ⟨hgo1, fun H3 => ∃ G' acc, Ext (adr (C s0)) G1 H1 G' H3 ∧ StOk G' H3 σ (C (mapS f s0 (xs.take (i + 1))).2) ∧ G' Dl = none ∧ H3 Dl = some (.lst acc) ∧ DqA G' acc ((mapS f s0 (xs.take (i + 1))).1.map eb), fun H3 h3 => ⟨m - 1, by omega, by omega, h3⟩, fun v H3 hv => ?_⟩
      obtain ⟨G3, x3, hd3⟩ := hy v H3 hv
      generalize hs0 : (mapS f s0 (xs.take i)).2 = s at st2
      obtain ⟨c1, c2, c3⟩ := hC s
      have st3 := st2.mono x3
      have sw : StOk G3 H3 (wipe σ vs) (wipeE (C s) vs) := st3.wipe vs
      have y3 : Ext (adr (C s0)) G1 H1 G3 H3 := x2.tr x3.up
      have D3 : H3 Dl = some (.lst acc) := x3.hh _ _ hDl
      have gD3 : G3 Dl = none := x3.nw Dl (by simp) gD (by rw [hDl]; simp)
      have etake : xs.take (i + 1) = xs.take i ++ [x] := by rw [List.take_add_one, hx]; rfl
      have hset : ∀ (k : Nat), k ∉ vs → ((wipe σ vs).set j (some v))[k]? = σ[k]? := fun k hk => by
        rw [List.getElem?_set_ne (fun z => hk (by rw [← z]; exact hj)), wipe_out hk]
      refine ⟨wipe_ext (by rw [List.length_set, wipe_length]) fun k hk => by rw [hset k hk, wipe_out hk], ?_⟩
      have s4 : StOk G3 H3 ((wipe σ vs).set j (some v)) ((wipeE (C s) vs).set j (.dat (enc x))) := sw.set (s := .dat (enc x)) hd3 j
      have ad4 : adr ((wipeE (C s) vs).set j (.dat (enc x))) = adr (C s0) := by
        have h1 : ∀ (vs : List Nat), (∀ i ∈ vs, (C s)[i]? = some .un) → wipeE (C s) vs = C s := by
          intro vs
          induction vs with
          | nil => intro _; rfl
          | cons w vs ih =>
            intro hw
            unfold wipeE
            rw [ih fun i hi => hw i (List.mem_cons_of_mem _ hi)]
            have := hw w List.mem_cons_self
            apply List.ext_getElem?
            intro k
            by_cases hk : w = k
            · subst hk; rw [List.getElem?_set_self (List.getElem?_eq_some_iff.mp this).1, this]
            · rw [List.getElem?_set_ne hk]
        rw [h1 vs c3]
        have h2 : ∀ (ρ : En) (j : Nat), ρ[j]? = some .un → adr (ρ.set j (.dat (enc x))) = adr ρ := by
          intro ρ
          induction ρ with
          | nil => intro j h; simp at h
          | cons a r ih =>
            intro j h
            cases j with
            | zero => simp at h; subst h; rfl
            | succ j => rw [List.set_cons_succ, adr_cons, adr_cons, ih j (by simpa using h)]
        rw [h2 _ j (c3 j hj)]
        exact c1
      refine hs s x hmem G3 H3 _ x3.gh s4 (by rw [ad4]; exact nd1) _ fun w G5 H5 x5 s5 a5 k5 => ?_
      have x5' : Ext (adr (C s0)) G3 H3 G5 H5 := by
        have : Ext (adr ((wipeE (C s) vs).set j (.dat (enc x)))) G3 H3 G5 H5 := x5
        rwa [ad4] at this
      have D5 : H5 Dl = some (.lst acc) := x5'.fr _ _ hDa D3
      have gD5 : G5 Dl = none := x5'.nw Dl hDa gD3 (by rw [D3]; simp)
      have y5 : Ext (adr (C s0)) G1 H1 G5 H5 := y3.tr x5'
      have s6 : StOk G5 H5 σ (C (f s x).2) := by
        obtain ⟨d1, d2, d3⟩ := hC (f s x).2
        refine s5.unwipe (by rw [List.length_set, wipe_length]) hset (fun k hk => ?_) (by rw [List.length_set, wipeE_len]) st3 (fun k hk => by rw [d3 k hk, c3 k hk]) (fun k p ys hk => by rw [c3 k hk]; simp) (fun k r hk => by rw [c3 k hk]; simp) x5'.gg
        rw [List.getElem?_set_ne (fun z => hk (by rw [← z]; exact hj)), wipeE_out hk]
      have x6 : Ext [Dl] G5 H5 G5 (upd H5 Dl (.lst (acc ++ [w]))) := Ext.set x5'.gh (by simp) gD5
      refine ⟨acc, D5, ?_, G5, acc ++ [w], ?_, ?_, gD5, upd_same, ?_⟩
      · rw [hacc.len, List.length_map, mapS_len, sizeLine_eq]
        have h2 : (xs.take i).length ≤ xs.length := by rw [List.length_take]; omega
        omega
      · exact y5.trans x6 fun c hc => .inr (by rw [List.mem_singleton.mp hc]; exact hD)
      · rw [etake, mapS_snoc, hs0]
        have keep : ∀ {σ : List (Option V)} {ρ : En}, StOk G5 H5 σ ρ → Dl ∉ adr ρ → StOk G5 (upd H5 Dl (.lst (acc ++ [w]))) σ ρ := by
          intro σ ρ h
          induction h with
          | nil => intro _; exact .nil
          | @cons o s σ ρ h t ih =>
            intro hp
            rw [adr_cons] at hp
            refine .cons ?_ (ih fun z => hp (List.mem_append_right _ z))
            rcases h with h | ⟨v, h1, h2⟩
            · exact .inl h
            · refine .inr ⟨v, h1, ?_⟩
              cases s with
              | un => trivial
              | dat d => exact h2
              | dc es => exact h2
              | va u => exact h2
              | kl K ns => exact h2
              | mu q zs =>
                obtain ⟨k1, k2, vs, k3, k4⟩ := h2
                refine ⟨k1, k2, vs, ?_, k4⟩
                rw [upd_ne (fun z => hp (List.mem_append_left _ (by simp [adr1, z])))]; exact k3
              | rg r => exact rg_keep h2 (Ex.refl _) (fun a ha => upd_ne fun z => hp (List.mem_append_left _ (by subst z; exact ha))) fun a ha => (h2.2.1 a ha).1
        exact keep s6 (by rw [(hC (f s x).2).1]; exact hDa)
      · rw [etake, mapS_snoc, hs0, List.map_append]
        exact (dqs_mono x5'.gg (dqs_mono x3.gg hacc)).app (.cons k5 .nil)
    · have ei : i = xs.length := by omega
      refine .inl ⟨by rw [List.length_map] at hstop; rw [ei]; exact hstop, ?_⟩
      rw [ei, List.take_length] at hacc st2
      have x0 : Ext (ws true ρ) G H G' H' := Ext.tr x1 (show Ext (adr ρ) G1 H1 G' H' by rw [← a1]; exact x2)
      exact q _ G' H' x0 st2 ((hC _).1.trans a1) ⟨Dl, acc, rfl, hD0, gD, hDl, hacc⟩

/-! ### typed walks -/
theorem zip_typed (e1 : α → PyData) (e2 : β → PyData) : ∀ (xs : List α) (ys : List β), zipD (xs.map e1) (ys.map e2) = (xs.zip ys).map (eP e1 e2)
  | [], ys => by cases ys <;> rfl
  | x :: xs, [] => rfl
  | x :: xs, y :: ys => by simp [zipD, zip_typed e1 e2 xs ys]
def enumI : Int → List α → List (Int × α)
  | _, [] => []
  | k, x :: xs => (k, x) :: enumI (k + 1) xs
theorem enum_typed (e : α → PyData) : ∀ (xs : List α) (k : Int), enumD k (xs.map e) = (enumI k xs).map (eP .int e)
  | [], _ => rfl
  | x :: xs, k => by simp [enumD, enumI, enum_typed e xs]
theorem ei_zL {ta : TA} {e1 : α → PyData} {e2 : β → PyData} {xs : List α} {ys : List β} (h : EvA b ta ρ [.d (eL e1 xs), .d (eL e2 ys)] ρ1) : EvI b (RZ.iZipA K ta) ρ ((xs.zip ys).map (eP e1 e2)) ρ1 := by
  rw [← zip_typed]; exact ei_zipL h
theorem ei_zT {ta : TA} {e1 : α → PyData} {e2 : β → PyData} {xs : List α} {ys : List β} (h : EvA b ta ρ [.d (eT e1 xs), .d (eT e2 ys)] ρ1) : EvI b (RZ.iZipA K ta) ρ ((xs.zip ys).map (eP e1 e2)) ρ1 := by
  rw [← zip_typed]; exact ei_zipT h
theorem ei_en {ta : TA} {e : α → PyData} {xs : List α} (h : EvA b ta ρ [.d (eL e xs)] ρ1) : EvI b (iEnum K ta) ρ ((enumI 0 xs).map (eP .int e)) ρ1 := by
  rw [← enum_typed]; exact ei_enum h

theorem split_at {xs : List α} {i : Nat} {x : α} (h : xs[i]? = some x) : xs = xs.take i ++ x :: xs.drop (i + 1) := by
  obtain ⟨h1, h2⟩ := List.getElem?_eq_some_iff.mp h
  subst h2
  rw [List.getElem_cons_drop, List.take_append_drop]
/-! ### loops over typed lists -/
/-- a search: it gives back at the first place where p holds -/
theorem sv_find {xs : List α} {enc : α → PyData} {j : Nat} (hi : EvI b wi ρ (xs.map enc) ρ1) (ρ0 : En) (hw : Wk ρ1 ρ0) (p : α → Bool) (f : α → Rv)
    (hs : ∀ x ∈ xs, Sv t (ρ0.set j (.dat (enc x))) { nx := fun ρ' => p x = false ∧ Wk ρ' ρ0, ct := fun ρ' => p x = false ∧ Wk ρ' ρ0, rt := fun r _ => p x = true ∧ r = f x })
    (h1 : ∀ x ρ', xs.find? p = some x → E.rt (f x) ρ') (h2 : xs.find? p = none → E.nx ρ0) : Sv (tFor wi (gName j) t) ρ E := by
  refine sv_for hi (fun _ d => [(j, d)]) (fun _ _ _ => gv_name) (fun i ρ' => ρ' = ρ0 ∧ ∀ x ∈ xs.take i, p x = false) ⟨ρ0, hw, rfl, by simp⟩ (fun i d ρ2 hd hI => ?_) fun ρ2 hI => ?_
  · obtain ⟨rfl, hI⟩ := hI
    rw [List.getElem?_map] at hd
    cases hx : xs[i]? with
    | none => rw [hx] at hd; cases hd
    | some x =>
      rw [hx] at hd
      have hd : enc x = d := Option.some.inj hd
      subst hd
      have etake : xs.take (i + 1) = xs.take i ++ [x] := by rw [List.take_add_one, hx]; rfl
      have hn : ∀ ρ', p x = false ∧ Wk ρ' ρ2 → ∃ ρ'', Wk ρ' ρ'' ∧ ρ'' = ρ2 ∧ ∀ x ∈ xs.take (i + 1), p x = false := fun ρ' ⟨h1, h2⟩ => ⟨ρ2, h2, rfl, fun y hy => by
        rw [etake] at hy
        rcases List.mem_append.mp hy with hy | hy
        · exact hI y hy
        · rw [List.mem_singleton.mp hy]; exact h1⟩
      refine (hs x (List.mem_of_getElem? hx)).imp hn (fun r ρ' h => ?_) (fun _ h => h.elim) hn
      obtain ⟨h3, rfl⟩ := h
      refine h1 x ρ' ?_
      have hsplit : xs = xs.take i ++ x :: xs.drop (i + 1) := split_at hx
      rw [hsplit, List.find?_append, List.find?_eq_none.mpr fun y hy => by rw [hI y hy]; decide]
      simp [h3]
  · obtain ⟨rfl, hI⟩ := hI
    refine h2 (List.find?_eq_none.mpr fun y hy => ?_)
    rw [List.length_map, List.take_length] at hI
    rw [hI y hy]; decide
/-- a fold: what is carried stands in the slots as C says -/
theorem sv_fold {S : Type} {xs : List α} {enc : α → PyData} {j : Nat} (hi : EvI b wi ρ (xs.map enc) ρ1) (C : S → En) (f : S → α → S) (s0 : S) (hw : Wk ρ1 (C s0))
    (hs : ∀ (pre : List α) (x : α) (post : List α), xs = pre ++ x :: post → Sv t ((C (pre.foldl f s0)).set j (.dat (enc x))) { E with nx := fun ρ' => Wk ρ' (C (f (pre.foldl f s0) x)), ct := fun ρ' => Wk ρ' (C (f (pre.foldl f s0) x)), bk := E.nx })
    (hd : E.nx (C (xs.foldl f s0))) : Sv (tFor wi (gName j) t) ρ E := by
  refine sv_for hi (fun _ d => [(j, d)]) (fun _ _ _ => gv_name) (fun i ρ' => ρ' = C ((xs.take i).foldl f s0)) ⟨_, hw, rfl⟩ (fun i d ρ2 hd hI => ?_) fun ρ2 hI => ?_
  · subst hI
    rw [List.getElem?_map] at hd
    cases hx : xs[i]? with
    | none => rw [hx] at hd; cases hd
    | some x =>
      rw [hx] at hd
      have hd : enc x = d := Option.some.inj hd
      subst hd
      have etake : xs.take (i + 1) = xs.take i ++ [x] := by rw [List.take_add_one, hx]; rfl
      have hsplit : xs = xs.take i ++ x :: xs.drop (i + 1) := split_at hx
      have hf : f ((xs.take i).foldl f s0) x = (xs.take (i + 1)).foldl f s0 := by rw [etake, List.foldl_append]; rfl
      refine (hs _ x _ hsplit).imp (fun ρ' h => ⟨_, h, by rw [hf]⟩) (fun _ _ h => h) (fun _ h => h) (fun ρ' h => ⟨_, h, by rw [hf]⟩)
  · rw [hI, List.length_map, List.take_length]; exact hd
/-- over pairs -/
theorem sv_fold2 {S : Type} {xs : List (α × β)} {e1 : α → PyData} {e2 : β → PyData} {i j : Nat} (hi : EvI b wi ρ (xs.map (eP e1 e2)) ρ1) (C : S → En) (f : S → α × β → S) (s0 : S) (hw : Wk ρ1 (C s0))
    (hs : ∀ (pre : List (α × β)) (x : α × β) (post : List (α × β)), xs = pre ++ x :: post → Sv t (((C (pre.foldl f s0)).set i (.dat (e1 x.1))).set j (.dat (e2 x.2))) { E with nx := fun ρ' => Wk ρ' (C (f (pre.foldl f s0) x)), ct := fun ρ' => Wk ρ' (C (f (pre.foldl f s0) x)), bk := E.nx })
    (hd : E.nx (C (xs.foldl f s0))) : Sv (tFor wi (gTup K 2 (gCons (gName i) (gCons (gName j) gNil))) t) ρ E := by
  refine sv_for hi (fun k d => match xs[k]? with | some x => [(i, e1 x.1), (j, e2 x.2)] | none => []) (fun k d hd => ?_) (fun i ρ' => ρ' = C ((xs.take i).foldl f s0)) ⟨_, hw, rfl⟩ (fun i d ρ2 hd hI => ?_) fun ρ2 hI => ?_
  · rw [List.getElem?_map] at hd
    cases hx : xs[k]? with
    | none => rw [hx] at hd; cases hd
    | some x =>
      rw [hx] at hd
      have hd : eP e1 e2 x = d := Option.some.inj hd
      subst hd
      exact gv_tup2
  · subst hI
    rw [List.getElem?_map] at hd
    cases hx : xs[i]? with
    | none => rw [hx] at hd; cases hd
    | some x =>
      rw [hx] at hd
      have hd : eP e1 e2 x = d := Option.some.inj hd
      subst hd
      have etake : xs.take (i + 1) = xs.take i ++ [x] := by rw [List.take_add_one, hx]; rfl
      have hsplit : xs = xs.take i ++ x :: xs.drop (i + 1) := split_at hx
      have hf : f ((xs.take i).foldl f s0) x = (xs.take (i + 1)).foldl f s0 := by rw [etake, List.foldl_append]; rfl
      exact (hs _ x _ hsplit).imp (fun ρ' h => ⟨_, h, by rw [hf]⟩) (fun _ _ h => h) (fun _ h => h) (fun ρ' h => ⟨_, h, by rw [hf]⟩)
  · rw [hI, List.length_map, List.take_length]; exact hd
/-- each turn goes on: C holds of what is carried -/
theorem sv_each {S : Type} {xs : List α} {enc : α → PyData} {j : Nat} (hi : EvI b wi ρ (xs.map enc) ρ1) (I : S → Prop) (C : S → En) (s0 : S) (h0 : I s0) (hw : Wk ρ1 (C s0))
    (hs : ∀ s, I s → ∀ x ∈ xs, Sv t ((C s).set j (.dat (enc x))) { E with nx := fun ρ' => ∃ s', I s' ∧ Wk ρ' (C s'), ct := fun ρ' => ∃ s', I s' ∧ Wk ρ' (C s'), bk := E.nx })
    (hd : ∀ s, I s → E.nx (C s)) : Sv (tFor wi (gName j) t) ρ E := by
  refine sv_for hi (fun _ d => [(j, d)]) (fun _ _ _ => gv_name) (fun i ρ' => ∃ s, I s ∧ ρ' = C s) ⟨_, hw, s0, h0, rfl⟩ (fun i d ρ2 hd hI => ?_) fun ρ2 hI => ?_
  · obtain ⟨s, hI, rfl⟩ := hI
    rw [List.getElem?_map] at hd
    cases hx : xs[i]? with
    | none => rw [hx] at hd; cases hd
    | some x =>
      rw [hx] at hd
      have hd : enc x = d := Option.some.inj hd
      subst hd
      exact (hs s hI x (List.mem_of_getElem? hx)).imp (fun ρ' ⟨s', h1, h2⟩ => ⟨_, h2, s', h1, rfl⟩) (fun _ _ h => h) (fun _ h => h) (fun ρ' ⟨s', h1, h2⟩ => ⟨_, h2, s', h1, rfl⟩)
  · obtain ⟨s, hI, rfl⟩ := hI
    exact hd s hI
/-- two ways that join -/
theorem sv_join (ρm : En) (h : Sv t ρ { E with nx := fun ρ' => Wk ρ' ρm }) (k : Sv u ρm E) : Sv (tSeq t u) ρ E := sv_seq (fun G H σ e st nd D d1 d2 d3 d4 =>
  h G H σ e st nd D (fun ρ' G' H' σ' s w => d1 ρm G' H' σ' (s.wk w) k) d2 d3 d4)
end
end Kn

namespace Kn
open PySem PySem.Spec PyProof.Rows L2

/-! ### names -/
theorem bt_len : bootBuiltins "len" = some (.builtin "len") := by decide +kernel
theorem bt_sum : bootBuiltins "sum" = some (.builtin "sum") := by decide +kernel
theorem bt_max : bootBuiltins "max" = some (.builtin "max") := by decide +kernel
theorem bt_min : bootBuiltins "min" = some (.builtin "min") := by decide +kernel
theorem bt_sorted : bootBuiltins "sorted" = some (.builtin "sorted") := by decide +kernel
theorem bt_isinstance : bootBuiltins "isinstance" = some (.builtin "isinstance") := by decide +kernel
theorem bt_all : bootBuiltins "all" = some (.builtin "all") := by decide +kernel
theorem bt_any : bootBuiltins "any" = some (.builtin "any") := by decide +kernel
theorem bt_tuple : bootBuiltins "tuple" = some (.type "tuple") := by decide +kernel
theorem bt_list : bootBuiltins "list" = some (.type "list") := by decide +kernel
theorem bt_int : bootBuiltins "int" = some (.type "int") := by decide +kernel
theorem bt_bool : bootBuiltins "bool" = some (.type "bool") := by decide +kernel
theorem bt_str : bootBuiltins "str" = some (.type "str") := by decide +kernel
theorem bt_set : bootBuiltins "set" = some (.type "set") := by decide +kernel
theorem bt_dict : bootBuiltins "dict" = some (.type "dict") := by decide +kernel
/-! ### what a text's names stand for -/
/-- a module's constant -/
def CG (mg : Str → Option Value) (x : Str) (v : V) : Prop := ∃ u, mg x = some u ∧ RelV v u
theorem pe_gl {X : Cx} {x : Str} {v : V} {pos : Pos} (hg : Gl X x) (h : CG X.mg x v) (hd : (x == ("__debug__" : Str)) = false := by decide) : PE X (.Name x pos) (tC v) := by
  obtain ⟨u, h1, h2⟩ := h
  exact pe_glob hg h1 h2 hd
/-- a def that keeps its promise -/
structure Cal (P : Program) (w : World) (K : PySem.W.Frag) (mg : Str → Option Value) (base : Heap) (dvs : List V) (x : Str) (k : Nat) (ps : List Str) (sp : Sp) (f : Addr) (fd : FuncData) : Prop where
  m : mg x = some (.ref f)
  kp : PySem.W.keepIn K (.ref f) = true
  g : FnOk P w K mg base CX0 k f fd ps sp
  b : ∃ ds, Vals dvs ds ∧ Binds K fd ps ds
theorem Binds.no {K : PySem.W.Frag} {fd : FuncData} {ps : List Str} (h : Binds K fd ps []) : ∃ ds, Vals [] ds ∧ Binds K fd ps ds := ⟨[], .nil, h⟩
section
variable {X : Cx} {dvs : List V} {k j : Nat} {st : Stmt} {x : Str} {ps : List Str} {sp : Sp} {p pos : Pos} {e : Expr} {es : List Expr} {t tk : TA} {f : Addr} {fd : FuncData}
theorem pe_cal (C : Cal X.prog X.w X.K X.mg X.base dvs x k ps sp f fd) (hr : Room j X.A) (hk : k ≤ j) (hg : Gl X x) (ha : PA X (e :: es) t) (hdb : (x == ("__debug__" : Str)) = false := by decide)
    (he : starEach (e :: es) X.env = (false, eval e X.env) :: starEach es X.env := by rfl) (hpl : (backTo pos (starEach es X.env)).any (·.1) = false := by rfl) : PE X (.Call (.Name x p) (e :: es) [] pos) (tCall sp dvs E0 t) := by
  obtain ⟨ds, h1, h2⟩ := C.b
  exact pe_call C.g (hr.mono hk) hg C.m C.kp h2 h1 pass0 ha hdb he hpl
theorem pe_cal0 (C : Cal X.prog X.w X.K X.mg X.base dvs x k ps sp f fd) (hr : Room j X.A) (hk : k ≤ j) (hg : Gl X x) (hdb : (x == ("__debug__" : Str)) = false := by decide) : PE X (.Call (.Name x p) [] [] pos) (tCall sp dvs E0 tNil) := by
  obtain ⟨ds, h1, h2⟩ := C.b
  exact pe_call0 C.g (hr.mono hk) hg C.m C.kp h2 h1 pass0 hdb

/-! ### calls by keywords -/
def pk {α : Type} (n m : Nat) (π : List Nat) (us ws : List α) : List α := if us.length = n ∧ ws.length = m then π.filterMap (fun i => (us ++ ws)[i]?) else []
theorem pk_vals {n m : Nat} {π : List Nat} {vs zs : List V} {us ws : List Value} (h : Vals vs us) (h2 : Vals zs ws) : Vals (pk n m π vs zs) (pk n m π us ws) := by
  unfold pk
  rw [h.length, h2.length]
  split
  · have h3 := h.append h2
    generalize vs ++ zs = a at h3
    generalize us ++ ws = b at h3
    induction π with
    | nil => exact .nil
    | cons i π ih =>
      cases hi : a[i]? with
      | none =>
        have : b[i]? = none := by rw [List.getElem?_eq_none_iff] at hi ⊢; rw [← h3.length]; exact hi
        rw [List.filterMap_cons_none hi, List.filterMap_cons_none this]; exact ih
      | some v =>
        obtain ⟨u, h4, h5⟩ := h3.get hi
        rw [List.filterMap_cons_some hi, List.filterMap_cons_some h4]; exact .cons h5 ih
  · exact .nil
theorem pk_dqs {G : Hp} {n m : Nat} {π : List Nat} {vs zs : List V} {us ws : List PyData} (h : DqA G vs us) (h2 : DqA G zs ws) : DqA G (pk n m π vs zs) (pk n m π us ws) := by
  unfold pk
  rw [h.len, h2.len]
  split
  · have h3 := h.app h2
    generalize vs ++ zs = a at h3
    generalize us ++ ws = b at h3
    induction π with
    | nil => exact .nil
    | cons i π ih =>
      cases hi : a[i]? with
      | none =>
        have : b[i]? = none := by rw [List.getElem?_eq_none_iff] at hi ⊢; rw [← h3.len]; exact hi
        rw [List.filterMap_cons_none hi, List.filterMap_cons_none this]; exact ih
      | some v =>
        obtain ⟨u, h4, h5⟩ := h3.get hi
        rw [List.filterMap_cons_some hi, List.filterMap_cons_some h4]; exact .cons h5 ih
  · exact .nil
theorem kb_fun {K : PySem.W.Frag} {qual : Str} {ps ks : List Str} {n m : Nat} {π : List Nat} (F : Fun K x qual st f fd) (h0 : 0 < ps.length)
    (h : ∀ (kV doc pm : Value) (an : Option Addr) (cdv ct : Value) (us ws : List Value), us.length = n → ws.length = m → bindArgs (PySem.W.fnOf x qual (defArgs st) (defBody st) (defScope st) .none kV doc pm an cdv ct) ⟨us, ks.zip ws⟩ = pure (ps.zip (pk n m π us ws))) :
    KBinds K fd ps ks (pk n m π) (pk n m π) := by
  obtain ⟨oc, od, kV, doc, pm, an, cdv, ct, osl, rfl, lk, hcd⟩ := F.ex
  refine ⟨fun s us ws kin hl => ?_, fun h h2 => pk_vals h h2⟩
  by_cases hc : us.length = n ∧ ws.length = m
  · exact .of_eq (h kV doc pm an cdv ct us ws hc.1 hc.2)
  · unfold pk at hl
    rw [if_neg hc] at hl
    exact absurd hl (by simp; omega)
variable {n m : Nat} {π : List Nat} {ks : List Str} {kws : List Keyword}
theorem pe_calK (C : Cal X.prog X.w X.K X.mg X.base dvs x k ps sp f fd) (hr : Room j X.A) (hk : k ≤ j) (hb : KBinds X.K fd ps ks (pk n m π) (pk n m π)) (hg : Gl X x) (ha : PA X (e :: es) t) (hkw : PK X kws tk)
    (hall : (backToKw pos (keywordEach kws X.env)).all (·.1.isSome) = true := by rfl) (hks : (backToKw pos (keywordEach kws X.env)).filterMap (·.1) = ks := by rfl)
    (hdb : (x == ("__debug__" : Str)) = false := by decide) (he : starEach (e :: es) X.env = (false, eval e X.env) :: starEach es X.env := by rfl)
    (hpl : ((backTo pos (starEach (e :: es) X.env)).any (·.1) || (backToKw pos (keywordEach kws X.env)).any (·.1.isNone)) = false := by rfl) : PE X (.Call (.Name x p) (e :: es) kws pos) (tCallK sp (pk n m π) E0 t tk) :=
  pe_callK C.g (hr.mono hk) hg C.m C.kp hb pass0 ha hkw hall hks hdb he hpl
theorem pe_calK0 (C : Cal X.prog X.w X.K X.mg X.base dvs x k ps sp f fd) (hr : Room j X.A) (hk : k ≤ j) (hb : KBinds X.K fd ps ks (pk n m π) (pk n m π)) (hg : Gl X x) (hkw : PK X kws tk)
    (hall : (backToKw pos (keywordEach kws X.env)).all (·.1.isSome) = true := by rfl) (hks : (backToKw pos (keywordEach kws X.env)).filterMap (·.1) = ks := by rfl)
    (hdb : (x == ("__debug__" : Str)) = false := by decide) (hpl : ((backTo pos (starEach [] X.env)).any (·.1) || (backToKw pos (keywordEach kws X.env)).any (·.1.isNone)) = false := by rfl) :
    PE X (.Call (.Name x p) [] kws pos) (tCallK sp (pk n m π) E0 tNil tk) := by
  refine ⟨fun pins s σ H Q I h => ?_⟩
  refine wpAny_Call_Name_kw (ld_glob I hg C.m ?_ hdb)
  refine PySem.W.callWith_KW0 (h₀ := X.base) I.ok.mod.kin C.kp hall (thn (hkw.run pos pins s σ H _ I h) fun ws s2 ⟨zs, H2, I2, rz, q2⟩ => ⟨I2.kIn, ?_⟩) hpl
  rw [hks]
  exact run_fnk (us := []) (vs := []) C.g (hr.mono hk) hb pass0 I2 .nil rz q2
end

section
variable {b : Bool} {ρ ρ1 ρ2 ρ3 : En} {ta tk tb te : TE} {t u : TS} {tt : TT} {x y z : PyData} {r : Rv} {K : PySem.W.Frag} {α β : Type}
theorem ev_callK {R : List PyData → Rv → Prop} {E : XK} {ta tk : TA} {ds es : List PyData} {n m : Nat} {π : List Nat} (h : EvA b ta ρ (ds.map Ar.d) ρ1) (h2 : EvA b tk ρ1 (es.map Ar.d) ρ2) {as : List PyData} (e0 : pk n m π ds es = as) (hr : R as r) :
    Ev b (tCallK (spD R) (pk n m π) E ta tk) ρ r ρ2 := fun G H σ e st nd Q q =>
  h G H σ e st nd _ fun vs G1 H1 x1 s1 a1 k1 => h2 G1 H1 σ x1.gh s1 (by rw [a1]; exact nd) _ fun zs G2 H2 x2 s2 a2 k2 =>
    ⟨G2, as, r, x2.gh, by rw [← e0]; exact pk_dqs (as_data (k1.mono x2.gg)) (as_data k2), hr, fun v G3 H3 x3 k3 => q v G3 H3 ((x1.then x2 a1).tr x3.up) (s2.mono x3) (a2.trans a1) ((k3.back x2).back x1)⟩

/-! ### typed forms -/
theorem ei_tupD {xs : List PyData} (h : Ev b te ρ (.d (.tuple xs)) ρ1) : EvI b (iTup K te) ρ (xs.map id) ρ1 := by rw [List.map_id]; exact ei_tup h
theorem ei_listD {xs : List PyData} (h : Ev b te ρ (.d (.list xs)) ρ1) : EvI b (iList K te) ρ (xs.map id) ρ1 := by rw [List.map_id]; exact ei_list h

theorem o2_catm (e : α → PyData) {xs ys : List α} (hz : xs.length + ys.length ≤ 1000000) : Op2 rCat (eL e xs) (eL e ys) (.l ((xs ++ ys).map e)) := by
  rw [List.map_append]; exact o2_cat (by rw [List.length_map, List.length_map, sizeLine_eq]; omega)
theorem o2_catTm (e : α → PyData) {xs ys : List α} (hz : xs.length + ys.length ≤ 1000000) : Op2 (rCatA K) (eT e xs) (eT e ys) (.d (eT e (xs ++ ys))) := by
  rw [show eT e (xs ++ ys) = .tuple (xs.map e ++ ys.map e) by simp [List.map_append]]; exact o2_catT (by rw [List.length_map, List.length_map, sizeLine_eq]; omega)
theorem rep_flat (e : α → PyData) (k : Nat) (xs : List α) : (List.replicate k (xs.map e)).flatten = ((List.replicate k xs).flatten).map e := by
  induction k with
  | zero => rfl
  | succ k ih => rw [List.replicate_succ, List.replicate_succ, List.flatten_cons, List.flatten_cons, ih, List.map_append]
theorem o2_repm (e : α → PyData) {xs : List α} {k : Int} (hk : k < 1000000 ∧ -1000000 < k) (hz : xs.length * k.toNat ≤ 1000000) : Op2 rRep (eL e xs) (.int k) (.l ((List.replicate k.toNat xs).flatten.map e)) := by
  rw [← rep_flat]; exact o2_rep ⟨by omega, by omega⟩ (by rw [List.length_map, sizeLine_eq]; omega)
theorem o2_rep1 (e : α → PyData) {a : α} {k : Int} (hk : k ≤ 1000 ∧ -1000000 < k) : Op2 rRep (.list [e a]) (.int k) (.l ((List.replicate k.toNat a).map e)) := by
  have h := o2_repm (xs := [a]) (k := k) e ⟨by omega, hk.2⟩ (by simp; omega)
  have e1 : (List.replicate k.toNat [a]).flatten = List.replicate k.toNat a := by
    induction k.toNat with
    | zero => rfl
    | succ n ih => rw [List.replicate_succ, List.flatten_cons, ih, List.replicate_succ]; rfl
  rw [e1] at h; exact h
theorem o2_repTm (e : α → PyData) {xs : List α} {k : Int} (hk : 2 ≤ k ∧ k ≤ 1000) (hz : xs ≠ [] ∧ xs.length ≤ 1000) : Op2 (rRepT K) (eT e xs) (.int k) (.d (eT e (List.replicate k.toNat xs).flatten)) := fun G H v w eg hv hw Q q => by
  cases hv with
  | tup ha hs =>
    cases hw
    rename_i a vs
    refine ⟨_, k, vs, rfl, rfl, .inl (.inl (eg _ _ ha)), fun z => ?_, hk.1, hk.2, by rw [hs.len, List.length_map]; exact hz.2, fun p hp => ?_⟩
    · have := hs.len; rw [z, List.length_map] at this; exact hz.1 (List.eq_nil_of_length_eq_zero this.symm)
    · have x2 : Ext [] G H (upd G p (.tup (List.replicate k.toNat vs).flatten)) (upd H p (.tup (List.replicate k.toNat vs).flatten)) := Ext.new eg hp
      refine q _ _ _ x2 (.tup upd_same ?_)
      rw [← rep_flat]
      have key : ∀ n : Nat, DqA (upd G p (.tup (List.replicate k.toNat vs).flatten)) (List.replicate n vs).flatten (List.replicate n (xs.map e)).flatten := by
        intro n
        induction n with
        | zero => exact .nil
        | succ n ih =>
          rw [List.replicate_succ, List.replicate_succ, List.flatten_cons, List.flatten_cons]
          exact (dqs_mono x2.gg hs).app ih
      exact key _
theorem at_map (e : α → PyData) {xs : List α} {i : Int} {d : α} (hi : atI xs i = some d) : atI (xs.map e) i = some (e d) := by
  unfold atI at hi ⊢
  rw [List.length_map]
  cases hj : ixN xs.length i with
  | none => rw [hj] at hi; cases hi
  | some j =>
    rw [hj] at hi
    have hi : xs[j]? = some d := hi
    show (xs.map e)[j]? = _
    rw [List.getElem?_map, hi]; rfl
theorem o2_ixLm (e : α → PyData) {xs : List α} {i : Int} {d : α} (hi : atI xs i = some d) : Op2 (rIxL K) (eL e xs) (.int i) (.d (e d)) := o2_ixL (at_map e hi)
theorem o2_ixTm (e : α → PyData) {xs : List α} {i : Int} {d : α} (hi : atI xs i = some d) : Op2 (rIxT K) (eT e xs) (.int i) (.d (e d)) := o2_ixT (at_map e hi)
def cutA (xs : List α) (lo hi : Option Int) : List α := (xs.drop (HT.sIx xs.length 0 lo)).take (HT.sIx xs.length xs.length hi - HT.sIx xs.length 0 lo)
theorem cut_map (e : α → PyData) (xs : List α) (lo hi : Option Int) : cutD (xs.map e) lo hi = (cutA xs lo hi).map e := by
  unfold cutD cutA
  rw [List.length_map, List.map_take, List.map_drop]
theorem ev_slLm {tl th : TO} (e : α → PyData) {xs : List α} {lo hi : Option Int} (h : Ev b te ρ (.d (eL e xs)) ρ1) (h1 : EvO b tl ρ1 lo ρ2) (h2 : EvO b th ρ2 hi ρ3) : Ev b (tSl (rSlL K) te tl th) ρ (.l ((cutA xs lo hi).map e)) ρ3 := by
  rw [← cut_map]; exact ev_slL h h1 h2
theorem ev_slTm {tl th : TO} (e : α → PyData) {xs : List α} {lo hi : Option Int} (h : Ev b te ρ (.d (eT e xs)) ρ1) (h1 : EvO b tl ρ1 lo ρ2) (h2 : EvO b th ρ2 hi ρ3) : Ev b (tSl (rSlA K) te tl th) ρ (.d (eT e (cutA xs lo hi))) ρ3 := by
  rw [show eT e (cutA xs lo hi) = .tuple (cutD (xs.map e) lo hi) by rw [cut_map]]; exact ev_slT h h1 h2
theorem ev_revLm (e : α → PyData) {xs : List α} (h : Ev b te ρ (.d (eL e xs)) ρ1) : Ev b (tRevL K te) ρ (.l (xs.reverse.map e)) ρ1 := by
  rw [List.map_reverse]; exact ev_revL h
theorem rc_lenLm {e : α → PyData} {l : List α} : RcD (rLen K) [.d (eL e l)] (.d (.int l.length)) := by
  have h := rc_lenL (K := K) (l := l.map e); rwa [List.length_map] at h
theorem rc_lenTm {e : α → PyData} {l : List α} : RcD (rLen K) [.d (eT e l)] (.d (.int l.length)) := by
  have h := rc_lenT (K := K) (l := l.map e); rwa [List.length_map] at h
/-- slices from the front -/
theorem cut_to {xs : List α} {n : Int} (h : 0 ≤ n) : cutA xs none (some n) = xs.take n.toNat := by
  unfold cutA
  obtain ⟨k, rfl⟩ := Int.eq_ofNat_of_zero_le h
  rw [HT.sIx_none, show HT.sIx xs.length xs.length (some (k : Int)) = min k xs.length from HT.sIx_nat xs.length xs.length k]
  simp only [List.drop_zero, Nat.sub_zero, Int.toNat_natCast]
  by_cases hk : k ≤ xs.length
  · rw [Nat.min_eq_left hk]
  · rw [Nat.min_eq_right (by omega), List.take_length, List.take_of_length_le (by omega)]
theorem cut_from {xs : List α} {n : Int} (h : 0 ≤ n) : cutA xs (some n) none = xs.drop n.toNat := by
  unfold cutA
  obtain ⟨k, rfl⟩ := Int.eq_ofNat_of_zero_le h
  rw [HT.sIx_none, show HT.sIx xs.length 0 (some (k : Int)) = min k xs.length from HT.sIx_nat xs.length 0 k]
  simp only [Int.toNat_natCast]
  by_cases hk : k ≤ xs.length
  · rw [Nat.min_eq_left hk, List.take_of_length_le (by rw [List.length_drop]; omega)]
  · rw [Nat.min_eq_right (by omega), List.drop_length, List.drop_of_length_le (by omega)]; simp
theorem pg_subL {X : Cx} {o i : Expr} {pos : Pos} {to ti : TE} (ho : PE X o to) (hi : PE X i ti)
    (ha : ∀ v, assign (.Subscript o i pos) X.env v = (do
      let ov ← holding [v] (eval o X.env)
      let iv ← holding [v, ov] (eval i X.env)
      standAt pos
      holding [v, ov, iv] (setItem ov iv v)
      release [v, ov, iv] []) := by intro _; rfl) : PG X (.Subscript o i pos) (gSub to ti rSetL) := pg_sub ho hi set_list ha
end
/-! ### kinds of data that are compared -/
structure EqT {α : Type} [DecidableEq α] (e : α → PyData) (n : Nat) : Prop where
  lay : ∀ a, (e a).canLay0 = true
  dep : ∀ a, (e a).depth ≤ n
  eq : ∀ a b, PyData.eqv (e a) (e b) = decide (a = b)
theorem eq_int : EqT PyData.int 0 := ⟨fun _ => rfl, fun _ => Nat.le_refl _, fun a b => by
  show (a == b) = decide (a = b)
  rfl⟩
theorem eq_bool : EqT PyData.bool 0 := ⟨fun _ => rfl, fun _ => Nat.le_refl _, fun a b => by cases a <;> cases b <;> rfl⟩
section
variable {α β : Type} [DecidableEq α] [DecidableEq β] {e : α → PyData} {e2 : β → PyData} {n m : Nat}
theorem eq_all (h : EqT e n) : ∀ a b : List α, PyData.eqvAll (a.map e) (b.map e) = decide (a = b)
  | [], [] => rfl
  | [], _ :: _ => by simp [PyData.eqvAll]
  | _ :: _, [] => by simp [PyData.eqvAll]
  | x :: a, y :: b => by
    show (PyData.eqv (e x) (e y) && PyData.eqvAll (a.map e) (b.map e)) = _
    rw [h.eq, eq_all h a b]
    by_cases h1 : x = y <;> by_cases h2 : a = b <;> simp [h1, h2]
theorem lay_all (h : EqT e n) : ∀ a : List α, PyData.canLayAll0 (a.map e) = true
  | [] => rfl
  | x :: a => by show ((e x).canLay0 && PyData.canLayAll0 (a.map e)) = true; rw [h.lay, lay_all h a]; rfl
theorem dep_all (h : EqT e n) : ∀ a : List α, PyData.depthAll (a.map e) ≤ n
  | [] => Nat.zero_le _
  | x :: a => by show max (e x).depth (PyData.depthAll (a.map e)) ≤ n; have := h.dep x; have := dep_all h a; omega
theorem eq_L (h : EqT e n) : EqT (eL e) (n + 1) := ⟨fun a => lay_all h a, fun a => by show PyData.depthAll (a.map e) + 1 ≤ _; have := dep_all h a; omega, fun a b => eq_all h a b⟩
theorem eq_T (h : EqT e n) : EqT (eT e) (n + 1) := ⟨fun a => lay_all h a, fun a => by show PyData.depthAll (a.map e) + 1 ≤ _; have := dep_all h a; omega, fun a b => eq_all h a b⟩
theorem eq_P (h : EqT e n) (h2 : EqT e2 m) : EqT (eP e e2) (max n m + 1) := ⟨fun a => by show ((e a.1).canLay0 && ((e2 a.2).canLay0 && true)) = true; rw [h.lay, h2.lay]; rfl,
  fun a => by show max (e a.1).depth (max (e2 a.2).depth 0) + 1 ≤ _; have := h.dep a.1; have := h2.dep a.2; omega,
  fun a b => by
    show (PyData.eqv (e a.1) (e b.1) && (PyData.eqv (e2 a.2) (e2 b.2) && true)) = _
    rw [h.eq, h2.eq]
    obtain ⟨a1, a2⟩ := a
    obtain ⟨b1, b2⟩ := b
    by_cases h1 : a1 = b1 <;> by_cases h2 : a2 = b2 <;> simp [h1, h2]⟩
theorem EqT.sh (h : EqT e n) (hn : n ≤ 64) (a : α) : SeqAt.shaped (e a) = true := by
  unfold SeqAt.shaped
  rw [h.lay, Bool.true_and, decide_eq_true_eq]
  exact Nat.le_trans (h.dep a) hn
theorem o2_eqDm {K : PySem.W.Frag} {a b : α} (h : EqT e n) (hn : n ≤ 64) : Op2 (rEqD K) (e a) (e b) (.d (.bool (decide (a = b)))) := by
  rw [← h.eq]; exact o2_eqD (h.sh hn a) (h.sh hn b)
theorem o2_neDm {K : PySem.W.Frag} {a b : α} (h : EqT e n) (hn : n ≤ 64) : Op2 (rNeD K) (e a) (e b) (.d (.bool (!decide (a = b)))) := by
  rw [← h.eq]; exact o2_neD (h.sh hn a) (h.sh hn b)
theorem any_mem (h : EqT e n) (a : α) : ∀ l : List α, ((l.map e).any fun z => PyData.eqv z (e a)) = decide (a ∈ l)
  | [] => rfl
  | x :: l => by
    rw [List.map_cons, List.any_cons, any_mem h a l, h.eq]
    by_cases h1 : x = a <;> by_cases h2 : a ∈ l <;> simp [h1, h2, eq_comm]
    exact fun z => h1 z.symm
theorem o2_inDm {K : PySem.W.Frag} {a : α} {l : List α} (h : EqT e n) (hn : n + 1 ≤ 64) : Op2 (rInD K) (e a) (eL e l) (.d (.bool (decide (a ∈ l)))) := o2_val fun G H v w eg hv hw Q q => by
  refine ⟨e a, l.map e, dq_dp (dq_mono eg hv) (sh_lay (h.sh (by omega) a)), dq_dp (dq_mono eg hw) (sh_lay ((eq_L h).sh hn l)), h.sh (by omega) a, (eq_L h).sh hn l, ?_⟩
  rw [any_mem h]
  exact q _ (.bl _)
theorem o2_niDm {K : PySem.W.Frag} {a : α} {l : List α} (h : EqT e n) (hn : n + 1 ≤ 64) : Op2 (rNotInD K) (e a) (eL e l) (.d (.bool (!decide (a ∈ l)))) := o2_val fun G H v w eg hv hw Q q => by
  refine ⟨e a, l.map e, dq_dp (dq_mono eg hv) (sh_lay (h.sh (by omega) a)), dq_dp (dq_mono eg hw) (sh_lay ((eq_L h).sh hn l)), h.sh (by omega) a, (eq_L h).sh hn l, ?_⟩
  rw [any_mem h]
  exact q _ (.bl _)
end
section
variable {b : Bool} {ρ ρ1 : En} {ta : TA} {α : Type}
theorem ev_tupm (e : α → PyData) (xs : List α) (h : EvA b ta ρ ((xs.map e).map Ar.d) ρ1) (hl : xs.length ≤ 1000) : Ev b (tTup ta) ρ (.d (eT e xs)) ρ1 := ev_tup h (by rw [List.length_map]; exact hl)
theorem ev_lstm (e : α → PyData) (xs : List α) (h : EvA b ta ρ ((xs.map e).map Ar.d) ρ1) (hl : xs.length ≤ 1000) : Ev b (tLst ta) ρ (.l (xs.map e)) ρ1 := ev_lst h (by rw [List.length_map]; exact hl)
end
end Kn

namespace Kn
open PySem PySem.Spec PyProof.Rows L2
/-! ### the script -/
section
variable {b : Bool} {ρ ρ1 ρ2 ρ3 : En} {ta tb tc te : TE} {t u : TS} {tt : TT} {x y z : PyData} {r : Rv} {K : PySem.W.Frag} {E E' : Ens} {ns : List Int}
/-- a name that holds the script -/
def EvK (K : PySem.W.Frag) (ns : List Int) (b : Bool) (te : TE) (ρ : En) (ρ' : En) : Prop :=
  ∀ (G H : Hp) (σ : L2.St), Ex G H → StOk G H σ ρ → (adr ρ).Nodup → ∀ Q : VK, (∀ v G' H', Ext (ws b ρ) G H G' H' → StOk G' H' σ ρ' → adr ρ' = adr ρ → (∃ a, v = .ref a ∧ SqL K G' a (ns.map V.int)) → Q v H') → te σ H Q
theorem ev_k {i : Nat} (h : ρ[i]? = some (.kl K ns)) : EvK K ns b (tVar i) ρ ρ := fun G H σ e st _ Q q => by
  obtain ⟨v, h1, h2⟩ := st.get h (by simp)
  exact ⟨v, h1, q v G H (Ext.refl e) st rfl h2⟩
theorem ea_k {tr : TA} {as : List Ar} (h : EvK K ns b ta ρ ρ1) (hr : EvA b tr ρ1 as ρ2) : EvA b (tCons ta tr) ρ (.kl K ns :: as) ρ2 := fun G H σ e st nd Q q =>
  h G H σ e st nd _ fun v G1 H1 x1 s1 a1 k1 => hr G1 H1 σ x1.gh s1 (by rw [a1]; exact nd) _ fun vs G2 H2 x2 s2 a2 k2 =>
    q _ G2 H2 (x1.then x2 a1) s2 (a2.trans a1) (.cons (show AOk G2 σ v (.kl K ns) from by obtain ⟨a, e1, e2⟩ := k1; exact ⟨a, e1, Ex.sl x2.gg e2⟩) k2)
theorem rc_lenK : RcD (rLen K) [.kl K ns] (.d (.int ns.length)) := rc_val fun G H σ vs e hv Q q => by
  cases hv with
  | cons h t =>
    cases t
    obtain ⟨a, rfl, h2⟩ := h
    refine ⟨a, ns.map V.int, rfl, .inl (Ex.sl e h2), ?_⟩
    rw [List.length_map]
    exact q _ (.int _)
theorem ev_ixK {i : Int} {n : Int} (ha : EvK K ns b ta ρ ρ1) (hb : Ev b tb ρ1 (.d (.int i)) ρ2) (hi : atI ns i = some n) : Ev b (tOp (rIxL K) ta tb) ρ (.d (.int n)) ρ2 := fun G H σ e st nd Q q =>
  ha G H σ e st nd _ fun v G1 H1 x1 s1 a1 ⟨a, e1, e2⟩ => hb G1 H1 σ x1.gh s1 (by rw [a1]; exact nd) _ fun w G2 H2 x2 s2 a2 k2 => by
    cases k2
    subst e1
    have hm : atI (ns.map V.int) i = some (.int n) := by
      unfold atI at hi ⊢
      rw [List.length_map]
      cases hj : ixN ns.length i with
      | none => rw [hj] at hi; cases hi
      | some j =>
        rw [hj] at hi
        have hi : ns[j]? = some n := hi
        show (ns.map V.int)[j]? = _
        rw [List.getElem?_map, hi]; rfl
    refine ⟨a, _, i, _, rfl, rfl, Ex.sl x2.gh (Ex.sl x2.gg e2), hm, ?_⟩
    exact q _ G2 H2 (x1.then x2 a1) s2 (a2.trans a1) (.int n)
/-- a def over the script and data -/
def spK (K : PySem.W.Frag) (R : List Int → List PyData → Rv → Prop) : Sp := fun vs H Q _ => ∃ G a ws ns ds r, Ex G H ∧ vs = .ref a :: ws ∧ SqL K G a (ns.map V.int) ∧ DqA G ws ds ∧ R ns ds r ∧ ∀ v G' H', Ext [] G H G' H' → ROk G H G' H' v r → Q v H'
theorem ev_callS {R : List Int → List PyData → Rv → Prop} {E : XK} {ta : TA} {ds : List PyData} (h : EvA b ta ρ (.kl K ns :: ds.map Ar.d) ρ1) (hr : R ns ds r) : Ev b (tCall (spK K R) [] E ta) ρ r ρ1 := fun G H σ e st nd Q q =>
  h G H σ e st nd _ fun vs G1 H1 x1 s1 a1 k1 => by
    cases k1 with
    | @cons v vs _ _ h1 h2 =>
      obtain ⟨a, rfl, h3⟩ := h1
      exact ⟨G1, a, vs, ns, ds, r, x1.gh, by rw [List.append_nil], h3, as_data h2, hr, fun v G2 H2 x2 k2 => q v G2 H2 (x1.tr x2.up) (s1.mono x2) a1 (k2.back x1)⟩
def slotsK (K : PySem.W.Frag) (n : Nat) (ns : List Int) (ds : List PyData) : En := .kl K ns :: (ds.map Sl.dat ++ List.replicate (n - 1 - ds.length) .un)
theorem bodyK {N : List Str} {R : List Int → List PyData → Rv → Prop} {vs : List V} {H : Hp} {Q : VK} {E : XK} (h : spK K R vs H Q E)
    (k : ∀ ns ds r, R ns ds r → Sv t (slotsK K N.length ns ds) { nx := fun _ => r = .d .none, rt := fun r' _ => r' = r }) : t { nx := fun _ H' => Q .non H', rt := Q } (L2.start N vs) H := by
  obtain ⟨G, a, ws, ns, ds, r, e, rfl, hS, hd, hR, q⟩ := h
  have hst : StOk G H (L2.start N (.ref a :: ws)) (slotsK K N.length ns ds) := by
    unfold L2.start slotsK
    refine .cons (.inr ⟨_, rfl, a, rfl, hS⟩) ?_
    have e1 : N.length - (V.ref a :: ws).length = N.length - 1 - ds.length := by rw [List.length_cons, hd.len]; omega
    rw [e1]
    exact st_app (st_uns _) (st_dats hd)
  have ha : adr (slotsK K N.length ns ds) = [] := by unfold slotsK; rw [adr_cons, adr_app, adr_dats, adr_uns]; rfl
  refine k ns ds r hR G H _ e hst (by rw [ha]; exact List.nodup_nil) _ (fun ρ' G' H' σ' s w => ?_) (fun r' v ρ' G' H' σ' s w z => ?_) (fun ρ' G' H' σ' s w => w.elim) (fun ρ' G' H' σ' s w => w.elim)
  · have x := s.x
    rw [ha] at x
    refine q _ G' H' x ?_
    rw [w]; exact .non
  · have x := s.x
    rw [ha] at x
    subst z
    refine q v G' H' x ?_
    cases r' with
    | d d => exact w
    | va u => exact w
    | l xs =>
      obtain ⟨p, vs, e1, e2, e3⟩ := w
      exact ⟨p, vs, e1, e2.resolve_left (by rw [ha]; simp), e3⟩
    | e es => exact w
    | o d =>
      obtain ⟨hd, a, p, ws, us, h1, h2, h3, h4⟩ := w
      exact ⟨hd, a, p, ws, us, h1, h2.imp id fun z => ⟨z.1, z.2.resolve_left (by rw [ha]; simp)⟩, h3, h4.resolve_left (by rw [ha]; simp)⟩
theorem lenK {R : List Int → List PyData → Rv → Prop} {n : Nat} (h : ∀ ns ds r, R ns ds r → ds.length + 1 = n) : ∀ vs H Q E, spK K R vs H Q E → vs.length = n := fun vs H Q E q => by
  obtain ⟨G, a, ws, ns, ds, r, e, rfl, hS, hd, hR, _⟩ := q
  rw [List.length_cons, hd.len]; exact h ns ds r hR
/-- the law's own promise -/
def R_law (ns : List Int) (ds : List PyData) (r : Rv) : Prop := ds = [] ∧ ns.length ≤ 63 ∧ r = .d (.bool true)
theorem law_start (K : PySem.W.Frag) (H : Hp) (a : Addr) (ns : List Int) (hl : ns.length ≤ 63) (hS : SqL K H a (ns.map V.int)) : spK K R_law [.ref a] H (fun v _ => v = .bl true) fun _ _ _ => False :=
  ⟨H, a, [], ns, [], _, Ex.refl H, rfl, hS, .nil, ⟨rfl, hl, rfl⟩, fun v G' H' x h => by cases h; rfl⟩
end
end Kn

namespace Kn
open PySem PySem.Spec PyProof.Rows L2
/-! ### the draws -/
def mixV (c k : Int) : Int :=
  let m := (c % 2147483647 * 48271 + k * 69621 + 1048583) % 2147483629
  let m2 := m * m % 2147483587
  m2 * (m2 + 2) % 2147483579
def cellAt (ns : List Int) (k : Int) : Int := if k < ns.length then (atI ns k).getD 0 else 0
def cellV (ns : List Int) (k : Int) : Int :=
  if (10 : Int) ^ (18 : Int).toNat ≤ cellAt ns k then (cellAt ns k - (10 : Int) ^ (18 : Int).toNat) % ((10 : Int) ^ (60 : Int).toNat * (10 : Int) ^ (60 : Int).toNat * (10 : Int) ^ (60 : Int).toNat * (10 : Int) ^ (60 : Int).toNat)
  else (rgI 0 (24 : Int).toNat).foldl (fun f j => f * 2147483579 + mixV (cellAt ns k) (7 * k + 100 * j + j * j)) 0
theorem cell_at {ns : List Int} {k : Int} (h0 : 0 ≤ k) (h : k < ns.length) : atI ns k = some (cellAt ns k) := by
  unfold cellAt
  rw [if_pos h]
  obtain ⟨i, rfl⟩ := Int.eq_ofNat_of_zero_le h0
  have hi : i < ns.length := by omega
  have e : ns[i]? = some ns[i] := List.getElem?_eq_getElem hi
  have e2 := atI_nat (xs := ns) (j := i) e
  rw [e2]; rfl
/-- draws one after another -/
def takes (top : Int) : Int → Nat → List Int × Int
  | c, 0 => ([], c)
  | c, n + 1 => ((1 + c % top) :: (takes top (c / top) n).1, (takes top (c / top) n).2)
theorem takes_map (top : Int) : ∀ (xs : List Int) (c : Int), mapS (fun c (_ : Int) => (1 + c % top, c / top)) c xs = takes top c xs.length
  | [], c => rfl
  | x :: xs, c => by simp [mapS, takes, takes_map top xs]
theorem takes_len (top : Int) : ∀ (n : Nat) (c : Int), (takes top c n).1.length = n
  | 0, c => rfl
  | n + 1, c => by simp [takes, takes_len top n]
theorem takes_mem {top : Int} (h : 0 < top) : ∀ {n : Nat} {c x : Int}, x ∈ (takes top c n).1 → 1 ≤ x ∧ x ≤ top
  | 0, c, x, hx => by simp [takes] at hx
  | n + 1, c, x, hx => by
    rcases List.mem_cons.mp hx with e | hx
    · have := Int.emod_nonneg c (by omega : top ≠ 0); have := Int.emod_lt_of_pos c h; omega
    · exact takes_mem h hx
/-- the first ones go while the sum is too great -/
def light (m : Int) : List Int → List Int
  | [] => []
  | x :: l => if m < (x :: l).sum then light m l else x :: l
theorem light_suf (m : Int) : ∀ l, (light m l).Sublist l
  | [] => List.Sublist.refl _
  | x :: l => by
    unfold light
    split
    · exact (light_suf m l).trans (List.sublist_cons_self _ _)
    · exact List.Sublist.refl _
theorem light_sum {m : Int} (h : 0 ≤ m) : ∀ l, (light m l).sum ≤ m
  | [] => h
  | x :: l => by
    unfold light
    split
    · exact light_sum h l
    · omega
/-- a lot that is drawn -/
def lotV (c most top : Int) : List Int := light 200 (srt (takes top (c / (most + 1)) (c % (most + 1)).toNat).1).reverse
def lotC (c most top : Int) : Int := (takes top (c / (most + 1)) (c % (most + 1)).toNat).2
def Desc (l : List Int) : Prop := l.Pairwise (· ≥ ·)
structure Lot (l : List Int) : Prop where
  pos : ∀ x ∈ l, 1 ≤ x
  desc : Desc l
  len : l.length ≤ 60
  sum : l.sum ≤ 200
theorem lotV_sub (c most top : Int) : (lotV c most top).Sublist (srtD (takes top (c / (most + 1)) (c % (most + 1)).toNat).1) := light_suf _ _
theorem lotV_mem {c most top x : Int} (h : 0 < top) (hx : x ∈ lotV c most top) : 1 ≤ x ∧ x ≤ top := takes_mem h (srtD_mem.mp ((lotV_sub c most top).subset hx))
theorem lotV_len {c most top : Int} (h : 0 ≤ most) : (lotV c most top).length ≤ most.toNat := by
  have h1 := (lotV_sub c most top).length_le
  rw [srtD_len, takes_len] at h1
  have h2 := Int.emod_lt_of_pos c (show 0 < most + 1 by omega)
  have h3 := Int.emod_nonneg c (show most + 1 ≠ 0 by omega)
  omega
theorem lotV_lot {c most top : Int} (h : 0 < top) (h0 : 0 ≤ most) (h6 : most ≤ 60) : Lot (lotV c most top) where
  pos := fun x hx => (lotV_mem h hx).1
  desc := (srtD_sorted _).sublist (lotV_sub c most top)
  len := by have := lotV_len (c := c) (top := top) h0; omega
  sum := light_sum (by decide) _
/-! ### what is a lot -/
def isI (lo hi : Int) : PyData → Bool
  | .int i => decide (lo ≤ i) && decide (i ≤ hi)
  | _ => false
def pairsOk : List Int → Bool
  | x :: y :: l => decide (y ≤ x) && pairsOk (y :: l)
  | _ => true
def fitsV (l : List Int) : Bool := decide ((l.length : Int) ≤ 60) && decide (l.sum ≤ 200)
def intsD : List PyData → List Int
  | [] => []
  | .int i :: l => i :: intsD l
  | _ :: l => intsD l
def isLotD : PyData → Bool
  | .tuple ds => ds.all (isI 1 200) && (((intsD ds).zip ((intsD ds).drop 1)).all (fun p => decide (p.2 ≤ p.1)) && fitsV (intsD ds))
  | _ => false
theorem all_ints : ∀ {ds : List PyData}, ds.all (isI 1 200) = true → ds = (intsD ds).map .int
  | [], _ => rfl
  | d :: ds, h => by
    rw [List.all_cons, Bool.and_eq_true] at h
    cases d with
    | int i => show _ = PyData.int i :: (intsD ds).map .int; rw [← all_ints h.2]
    | _ => exact absurd h.1 (by simp [isI])
theorem ints_map : ∀ l : List Int, intsD (l.map .int) = l
  | [] => rfl
  | x :: l => by show x :: intsD (l.map .int) = _; rw [ints_map l]
theorem desc_zip : ∀ {l : List Int}, ((l.zip (l.drop 1)).all (fun p => decide (p.2 ≤ p.1))) = true ↔ Desc l
  | [] => by simp [Desc]
  | [x] => by simp [Desc]
  | x :: y :: l => by
    have ih := desc_zip (l := y :: l)
    simp only [List.drop_succ_cons, List.drop_zero, List.zip_cons_cons, List.all_cons, Bool.and_eq_true, decide_eq_true_eq] at ih ⊢
    rw [ih]
    unfold Desc
    constructor
    · rintro ⟨h1, h2⟩
      refine .cons (fun z hz => ?_) h2
      rcases List.mem_cons.mp hz with e | hz
      · rw [e]; exact h1
      · have := List.rel_of_pairwise_cons h2 hz; show x ≥ z; omega
    · intro h
      cases h with
      | cons h1 h2 => exact ⟨h1 y List.mem_cons_self, h2⟩
theorem sum_pos : ∀ {l : List Int}, (∀ y ∈ l, 1 ≤ y) → 0 ≤ l.sum
  | [], _ => Int.le_refl 0
  | y :: l, h => by
    rw [List.sum_cons]
    have := sum_pos (l := l) fun z hz => h z (List.mem_cons_of_mem _ hz)
    have := h y List.mem_cons_self
    omega
theorem le_sum : ∀ {l : List Int} {x : Int}, (∀ y ∈ l, 1 ≤ y) → x ∈ l → x ≤ l.sum
  | y :: l, x, h, hx => by
    have h0 : 0 ≤ l.sum := sum_pos fun z hz => h z (List.mem_cons_of_mem _ hz)
    rw [List.sum_cons]
    rcases List.mem_cons.mp hx with e | hx
    · omega
    · have := le_sum (fun z hz => h z (List.mem_cons_of_mem _ hz)) hx; have := h y List.mem_cons_self; omega
theorem Lot.le {l : List Int} (h : Lot l) {x : Int} (hx : x ∈ l) : 1 ≤ x ∧ x ≤ 200 := ⟨h.pos x hx, Int.le_trans (le_sum h.pos hx) h.sum⟩
theorem isLot_of {l : List Int} (h : Lot l) : isLotD (eT .int l) = true := by
  show ((l.map PyData.int).all (isI 1 200) && (_ && fitsV (intsD (l.map .int)))) = true
  rw [ints_map]
  rw [desc_zip.mpr h.desc]
  have h1 : (l.map PyData.int).all (isI 1 200) = true := by
    rw [List.all_eq_true]
    intro d hd
    obtain ⟨x, hx, rfl⟩ := List.mem_map.mp hd
    have := h.le hx
    simp [isI]; omega
  rw [h1]
  have := h.len
  have := h.sum
  simp [fitsV]
  omega
theorem lot_of {l : List Int} (h : isLotD (eT .int l) = true) : Lot l := by
  have h : ((l.map PyData.int).all (isI 1 200) && (((intsD (l.map .int)).zip ((intsD (l.map .int)).drop 1)).all (fun p => decide (p.2 ≤ p.1)) && fitsV (intsD (l.map .int)))) = true := h
  rw [ints_map] at h
  simp only [Bool.and_eq_true, fitsV, decide_eq_true_eq] at h
  obtain ⟨h1, h2, h3, h4⟩ := h
  refine ⟨fun x hx => ?_, desc_zip.mp h2, by omega, h4⟩
  rw [List.all_eq_true] at h1
  have := h1 (.int x) (List.mem_map.mpr ⟨x, hx, rfl⟩)
  simp [isI] at this
  exact this.1
/-! ### capacities, sums -/
def capOf (l : List Int) (n : Int) : Int := ((l.filter fun t => decide (n ≤ t)).map fun t => t - n + 1).sum
theorem isLotD_tup (ds : List PyData) : isLotD (.tuple ds) = (ds.all (isI 1 200) && (((intsD ds).zip ((intsD ds).drop 1)).all (fun p => decide (p.2 ≤ p.1)) && fitsV (intsD ds))) := rfl
theorem lot_small {v : PyData} (h : isLotD v = true) : ∀ ds, v = .tuple ds → ds.length ≤ 1000000 := by
  rintro ds rfl
  have h1 : (ds.all (isI 1 200) && (((intsD ds).zip ((intsD ds).drop 1)).all (fun p => decide (p.2 ≤ p.1)) && fitsV (intsD ds))) = true := h
  simp only [Bool.and_eq_true, fitsV, decide_eq_true_eq] at h1
  rw [all_ints h1.1, List.length_map]
  omega
end Kn

namespace Kn
open PySem PySem.Spec PyProof.Rows L2
/-! ### capacities and top sums -/
theorem cap_nil (n : Int) : capOf [] n = 0 := rfl
theorem cap_cons (x : Int) (l : List Int) (n : Int) : capOf (x :: l) n = (if n ≤ x then x - n + 1 else 0) + capOf l n := by
  unfold capOf
  by_cases h : n ≤ x
  · rw [List.filter_cons_of_pos (by simpa using h), if_pos h, List.map_cons, List.sum_cons]
  · rw [List.filter_cons_of_neg (by simpa using h), if_neg h]; omega
theorem cap_app (a b : List Int) (n : Int) : capOf (a ++ b) n = capOf a n + capOf b n := by
  induction a with
  | nil => rw [List.nil_append, cap_nil]; omega
  | cons x a ih => rw [List.cons_append, cap_cons, cap_cons, ih]; omega
theorem cap_pos (l : List Int) (n : Int) : 0 ≤ capOf l n := by
  induction l with
  | nil => exact Int.le_refl 0
  | cons x l ih => rw [cap_cons]; split <;> omega
theorem len_mul_succ (k : Nat) (m : Int) : ((k + 1 : Nat) : Int) * m = (k : Int) * m + m := by
  rw [Int.natCast_add, Int.add_mul]; simp
theorem cap_ge {a : List Int} {n : Int} (h : ∀ t ∈ a, n - 1 ≤ t) : capOf a n = a.sum - a.length * (n - 1) := by
  induction a with
  | nil => rw [cap_nil]; simp
  | cons x a ih =>
    rw [cap_cons, ih fun t ht => h t (List.mem_cons_of_mem _ ht), List.sum_cons, List.length_cons, len_mul_succ]
    have := h x List.mem_cons_self
    split <;> omega
theorem cap_zero {a : List Int} {n : Int} (h : ∀ t ∈ a, t ≤ n - 1) : capOf a n = 0 := by
  induction a with
  | nil => rfl
  | cons x a ih =>
    rw [cap_cons, ih fun t ht => h t (List.mem_cons_of_mem _ ht)]
    have := h x List.mem_cons_self
    split <;> omega
theorem cap_lb0 (a : List Int) (n : Int) : a.sum - a.length * (n - 1) ≤ capOf a n := by
  induction a with
  | nil => rw [cap_nil]; simp
  | cons x a ih =>
    rw [cap_cons, List.sum_cons, List.length_cons, len_mul_succ]
    split <;> omega
theorem cap_lb (l : List Int) (k : Nat) {n : Int} (hn : 1 ≤ n) : (l.take k).sum - k * (n - 1) ≤ capOf l n := by
  have h1 := cap_lb0 (l.take k) n
  have h2 : capOf l n = capOf (l.take k) n + capOf (l.drop k) n := by rw [← cap_app, List.take_append_drop]
  have h3 := cap_pos (l.drop k) n
  have h4 : ((l.take k).length : Int) * (n - 1) ≤ k * (n - 1) := Int.mul_le_mul_of_nonneg_right (by have := List.length_take_le k l; omega) (by omega)
  omega
theorem desc_tail {x : Int} {l : List Int} (h : Desc (x :: l)) : Desc l := (List.pairwise_cons.mp h).2
theorem desc_head {x : Int} {l : List Int} (h : Desc (x :: l)) {y : Int} (hy : y ∈ l) : y ≤ x := (List.pairwise_cons.mp h).1 y hy
theorem cap_at {l : List Int} (h : Desc l) (n : Int) : ∃ k, k ≤ l.length ∧ capOf l n = (l.take k).sum - k * (n - 1) := by
  induction l with
  | nil => exact ⟨0, Nat.le_refl _, by rw [cap_nil]; simp⟩
  | cons x l ih =>
    by_cases hx : n ≤ x
    · obtain ⟨k, hk, e⟩ := ih (desc_tail h)
      refine ⟨k + 1, by simp; omega, ?_⟩
      rw [cap_cons, if_pos hx, e, List.take_succ_cons, List.sum_cons, len_mul_succ]
      omega
    · refine ⟨0, Nat.zero_le _, ?_⟩
      rw [cap_zero]
      · simp
      · intro t ht
        rcases List.mem_cons.mp ht with e | ht
        · omega
        · have := desc_head h ht; omega
/-- the top sum is reached at the level behind the last tool -/
theorem cap_top {l : List Int} (h : Desc l) {k : Nat} {v : Int} (hk : l[k]? = some v) : capOf l (v + 1) = (l.take (k + 1)).sum - (k + 1 : Nat) * v := by
  have h2 : capOf l (v + 1) = capOf (l.take (k + 1)) (v + 1) + capOf (l.drop (k + 1)) (v + 1) := by rw [← cap_app, List.take_append_drop]
  obtain ⟨hlt, hv⟩ := List.getElem?_eq_some_iff.mp hk
  have hp := List.pairwise_iff_getElem.mp h
  rw [h2, cap_ge (a := l.take (k + 1)), cap_zero (a := l.drop (k + 1)), List.length_take, Nat.min_eq_left (by omega)]
  · simp
  · intro t ht
    obtain ⟨j, hj, e⟩ := List.getElem_of_mem ht
    rw [List.getElem_drop] at e
    have := hp k (k + 1 + j) hlt (by rw [List.length_drop] at hj; omega) (by omega)
    omega
  · intro t ht
    obtain ⟨j, hj, e⟩ := List.getElem_of_mem ht
    rw [List.getElem_take] at e
    rw [List.length_take] at hj
    by_cases hjk : j = k
    · subst hjk; omega
    · have := hp j k (by omega) hlt (by omega)
      omega
theorem sum_take_len {l : List Int} {k : Nat} (h : l.length ≤ k) : (l.take k).sum = l.sum := by rw [List.take_of_length_le h]
theorem rgI_snoc (lo : Int) : ∀ m : Nat, rgI lo (m + 1) = rgI lo m ++ [lo + m]
  | 0 => by simp [rgI]
  | m + 1 => by
    show lo :: rgI (lo + 1) (m + 1) = lo :: rgI (lo + 1) m ++ [lo + (m + 1 : Nat)]
    rw [rgI_snoc (lo + 1) m, List.cons_append]
    congr 3
    omega
theorem sum_app (a b : List Int) : (a ++ b).sum = a.sum + b.sum := by
  induction a with
  | nil => simp
  | cons x a ih => rw [List.cons_append, List.sum_cons, List.sum_cons, ih]; omega
theorem maxD_eq {d m : Int} {l : List Int} (h1 : m ∈ l) (h2 : ∀ y ∈ l, y ≤ m) : maxD d l = m := by
  have := maxD_mem (d := d) (List.ne_nil_of_mem h1)
  have := this.2 m h1
  have := h2 _ (maxD_mem (d := d) (List.ne_nil_of_mem h1)).1
  omega
theorem minD_eq {d m : Int} {l : List Int} (h1 : m ∈ l) (h2 : ∀ y ∈ l, m ≤ y) : minD d l = m := by
  have := minD_mem (d := d) (List.ne_nil_of_mem h1)
  have := this.2 m h1
  have := h2 _ (minD_mem (d := d) (List.ne_nil_of_mem h1)).1
  omega
theorem atI_rg {α : Type} {f : Int → α} {n : Nat} {x : Int} (h : x ∈ rgI 0 n) : atI ((rgI 0 n).map f) x = some (f x) := by
  obtain ⟨h1, h2⟩ := mem_rgI.mp h
  obtain ⟨k, rfl⟩ := Int.eq_ofNat_of_zero_le h1
  refine atI_nat ?_
  rw [List.getElem?_map, rgI_get n 0 k (by omega)]
  simp
/-- capacity is the greatest value of a top sum less its count times what is under the level -/
theorem cap_dual {l : List Int} (h : Desc l) {n : Int} (hn : 1 ≤ n) {m : Nat} (hm : l.length < m) : maxD 0 ((rgI 0 m).map fun x => (l.take x.toNat).sum - x * (n - 1)) = capOf l n := by
  refine maxD_eq ?_ ?_
  · obtain ⟨k, hk, e⟩ := cap_at h n
    rw [e]
    exact List.mem_map.mpr ⟨k, mem_rgI.mpr ⟨by omega, by omega⟩, by simp⟩
  · intro y hy
    obtain ⟨x, hx, rfl⟩ := List.mem_map.mp hy
    obtain ⟨k, rfl⟩ := Int.eq_ofNat_of_zero_le (mem_rgI.mp hx).1
    exact cap_lb l k hn
theorem Lot.only {l : List Int} (h : Lot l) (hx : 200 ∈ l) : l = [200] := by
  cases l with
  | nil => cases hx
  | cons x r =>
    have hs := h.sum
    rw [List.sum_cons] at hs
    have hr : ∀ y ∈ r, 1 ≤ y := fun y hy => h.pos y (List.mem_cons_of_mem _ hy)
    have h0 := sum_pos hr
    have hx1 : 200 ≤ x := by
      rcases List.mem_cons.mp hx with e | hx
      · omega
      · exact desc_head h.desc hx
    cases r with
    | nil => have : x = 200 := by omega
             rw [this]
    | cons y r =>
      have := hr y List.mem_cons_self
      rw [List.sum_cons] at h0 hs
      have := sum_pos (l := r) fun z hz => hr z (List.mem_cons_of_mem _ hz)
      omega
/-- the top sum is the least value of capacity plus count times what is under the level -/
theorem top_dual {l : List Int} (h : Lot l) {k m : Nat} (hm : ∀ t ∈ l, min 200 (t + 1) ≤ m) (h1 : 1 ≤ m) (h1k : 1 ≤ k) : minD 0 ((rgI 1 m).map fun n => capOf l n + (k : Int) * (n - 1)) = (l.take k).sum := by
  refine minD_eq ?_ ?_
  · have hk0 : k ≠ 0 := by omega
    · obtain ⟨k, rfl⟩ := Nat.exists_eq_succ_of_ne_zero hk0
      by_cases hk : k < l.length
      · have hv : l[k]? = some l[k] := List.getElem?_eq_getElem hk
        generalize l[k] = v at hv
        have hmem := List.mem_of_getElem? hv
        have hle := h.le hmem
        have hmv := hm v hmem
        by_cases h2 : v = 200
        · subst h2
          have e := h.only hmem
          subst e
          have : k = 0 := by simpa using hk
          subst this
          exact List.mem_map.mpr ⟨200, mem_rgI.mpr ⟨by omega, by omega⟩, by decide⟩
        · refine List.mem_map.mpr ⟨v + 1, mem_rgI.mpr ⟨by omega, by omega⟩, ?_⟩
          rw [cap_top h.desc hv]
          simp
      · refine List.mem_map.mpr ⟨1, mem_rgI.mpr ⟨by omega, by omega⟩, ?_⟩
        rw [cap_ge (by intro t ht; have := h.pos t ht; omega), sum_take_len (by omega)]
        simp
  · intro y hy
    obtain ⟨n, hn, rfl⟩ := List.mem_map.mp hy
    have := cap_lb l k (mem_rgI.mp hn).1
    omega
end Kn

namespace Kn
open PySem PySem.Spec PyProof.Rows L2
/-! ### sorted over a dict of ints -/
section
variable {P : Program} {w : World} {A : Around} {E : Value → Shared → Prop} {s : Shared} {a : Addr}
theorem collect_d {knd : KeyKind P w Key} {kvs : List (Key × Value)} {ep : Nat} {Q : List Value → Shared → Prop} (hh : A.handled = none) (lo : (a == sysModules) = false) (hd : s.heap.DictAt knd a kvs ep) (hn : kvs.length ≤ sizeLine)
    (hQ : ∀ h' tk acc', (∀ b o, s.heap.get? b = some o → h'.get? b = some o) → s.heap.objs.size < h'.objs.size → ItemsOf (fun i v => ∃ k x, kvs[i]? = some (k, x) ∧ knd.is k v = true) acc' kvs.length → Q acc'.toList { s with heap := h', toks := tk }) :
    wpAny (model P w) A (collect (.ref a)) Q E s := by
  unfold collect
  refine wpAny_bind (wpAny_runValue (codeAny_builtin PySem.F.entry_proto_collect ?_))
  rw [Around.under_plainId PySem.F.plain_proto_collect _]
  show wpAny _ A.in1 (newList [] >>= fun l => again (.builtin "list.__iadd__" ⟨[l, .ref a], []⟩)) _ _ s
  refine wpAny_bind (wpAny_newObj_type ?_)
  refine wpAny_pure ⟨plainId_quiet PySem.F.plain_list_iadd _, codeAny_builtin PySem.F.entry_list_iadd ?_⟩
  rw [Around.under_plainId PySem.F.plain_list_iadd _]
  have hS : (s.heap.push { cls := .type "list", data := .seq ([] : List Value).toArray }).get? s.heap.objs.size = some { cls := .type "list", data := .seq #[] 0 } := Heap.get?_push_size _ rfl
  show wpAny _ A.in1 (Builtin.List.listExtendWith (.ref s.heap.objs.size) (.ref a) (.ref s.heap.objs.size)) _ _ _
  have K := PySem.W.kdl_dict (prog := P) (w := w) (knd := knd) (kvs := kvs) (ep := ep) lo
  have hlt := hd.lt_size
  refine wpAny_mono (PySem.W.kdl_extend (A := A) (s := { s with heap := s.heap.push { cls := .type "list", data := .seq ([] : List Value).toArray } }) K hh (hd.push _) s.heap.objs.size (Nat.ne_of_gt hlt) (Nat.ne_of_gt hlt) (.ref s.heap.objs.size) 0 hS
    (R := fun rr s' => rr = .ok (.ret (.ref s.heap.objs.size)) ∧ ∃ (h' : Heap) (tk : Nat) (acc : Array Value) (c' : Nat), s' = { s with heap := h', toks := tk } ∧
      (∀ b o, s.heap.get? b = some o → h'.get? b = some o) ∧ h'.get? s.heap.objs.size = some { cls := .type "list", dict := none, data := .seq acc c', slots := #[] } ∧ ItemsOf (fun i v => ∃ k x, kvs[i]? = some (k, x) ∧ knd.is k v = true) acc kvs.length)
    (fun h' tk acc c' hk e hi => ⟨rfl, h', tk, acc, c', rfl, fun b o q => hk b o (Nat.ne_of_lt (Heap.lt_size q)) (Heap.get?_push_of_some _ q), e, hi⟩) hn) (fun fin s' h => ?_) (fun e s' h => ?_)
  · cases fin with
    | done f =>
      obtain ⟨e, h', tk, acc, c', rfl, hk, hS', hi⟩ := h
      cases e
      show wpAny _ A (load s.heap.objs.size >>= _) _ _ _
      exact wpAny_bind (wpAny_load hS' (wpAny_pure (hQ h' tk acc hk (Heap.lt_size hS') hi)))
    | again c' =>
      refine ⟨h.1, codeAny_mono h.2 fun rr s'' hr' => ?_⟩
      obtain ⟨rfl, h', tk, acc, c', rfl, hk, hS', hi⟩ := hr'
      show wpAny _ A (load s.heap.objs.size >>= _) _ _ _
      exact wpAny_bind (wpAny_load hS' (wpAny_pure (hQ h' tk acc hk (Heap.lt_size hS') hi)))
  · exact absurd h.1 (by simp)
theorem sorted_dR {knd : KeyKind P w Key} {kvs : List (Key × Value)} {ep : Nat} {b : Bool} {ns : List Int} {Q : Value → Shared → Prop} (hh : A.handled = none) (lo : (a == sysModules) = false) (hd : s.heap.DictAt knd a kvs ep) (hn : kvs.length ≤ sizeLine)
    (hk : ∀ vs : List Value, vs.length = kvs.length → (∀ (i : Nat) (v : Value), vs[i]? = some v → ∃ k x, kvs[i]? = some (k, x) ∧ knd.is k v = true) → IntsAre vs ns)
    (hQ : ∀ (h' : Heap) (tk : Nat) (p : Addr) (out : List Value) (c : Nat) (ns' : List Int), (∀ b o, s.heap.get? b = some o → h'.get? b = some o) → s.heap.objs.size ≤ p → h'.get? p = some (seqObj "list" out.toArray c) → IntsAre out ns' → ns'.Perm ns → Ordered b ns' → Q (.ref p) { s with heap := h', toks := tk }) :
    wpAny (model P w) A (call (.builtin "sorted") [.ref a] [(Str.ofString "reverse", .bool b)]) Q E s := by
  refine call_function_entry_kw kind_sorted plain_sorted entry_sorted (args_sorted_rev _ _) ?_
  unfold Builtin.«sorted»
  refine wpAny_bind (m := checkCount "sorted" 1 1 _) (wpAny_pure ?_)
  refine wpAny_bind (collect_d (A := A.in1) hh lo hd hn fun h1 tk acc k1 hz1 hi => ?_)
  have hl : acc.toList.length = kvs.length := by rw [Array.length_toList]; exact hi.1
  have hI : IntsAre acc.toList ns := hk acc.toList hl fun i v e => hi.2 i v (by rw [← Array.getElem?_toList]; exact e)
  refine wpAny_bind (wpAny_newList ?_ (by rw [hl]; exact hn))
  have hoL : (h1.push (seqObj "list" acc.toList.toArray 0)).get? h1.objs.size = some (seqObj "list" acc.toList.toArray 0) := Heap.get?_push_size _ rfl
  refine wpAny_bind (wpAny_holding (wpAny_call_entry_kw slot_list_sort ⟨_, hoL, rfl⟩ entry_list_sort (PyProof.Rows.list_sort_tree_revAny hoL hI (by rw [hl]; exact hn) fun out ns' a1 a2 a3 => ⟨_, rfl, ?_⟩) (args_list_sort_rev _ _)))
  obtain ⟨c, hc⟩ := sortedHeap_at (vs := acc.toList) (out := out) hoL
  have hz : s.heap.objs.size ≤ h1.objs.size := Nat.le_of_lt hz1
  refine wpAny_pure ⟨_, rfl, hQ _ tk h1.objs.size out.toList c ns' (fun b u e => ?_) hz (by rw [Array.toArray_toList]; exact hc) a1 a2 a3⟩
  have q := k1 b u e
  have hlt := Heap.lt_size q
  show (sortedHeap (h1.push (seqObj "list" acc.toList.toArray 0)) h1.objs.size acc.toList out).get? b = some u
  rw [sortedHeap_old (Nat.ne_of_lt hlt) (by rw [size_push']; exact Nat.lt_succ_of_lt hlt)]
  exact Heap.get?_push_of_some _ q
end
section
variable {X : Cx}
def rSortDR (b : Bool) : List V → List V → Hp → VK → Prop := fun vs zs H Q => ∃ (a : Addr) (kvs : List (Key × V)) (ns : List Int), vs = [V.ref a] ∧ zs = [.bl b] ∧ H a = some (.dK kvs) ∧ kvs.map (·.1) = ns.map Sum.inl ∧
  ∀ (ns' : List Int) (p : Addr), ns'.Perm ns → OrdB b ns' → H p = none → Q (.ref p) (upd H p (.lst (ns'.map V.int)))
theorem ints_keys {kvs : List (Key × Value)} {knd : Key → Value → Bool} (hknd : ∀ k v, knd k v = true → RelV (kV k) v) : ∀ {ns : List Int} {ks : List Key} {vs : List Value}, ks = ns.map Sum.inl → vs.length = ks.length → (∀ (i : Nat) v, vs[i]? = some v → ∃ k, ks[i]? = some k ∧ knd k v = true) → IntsAre vs ns
  | [], _, vs, rfl, hl, h => by
    have : vs = [] := List.eq_nil_of_length_eq_zero (by simpa using hl)
    subst this; exact .nil
  | n :: ns, _, [], rfl, hl, h => by simp at hl
  | n :: ns, _, v :: vs, rfl, hl, h => by
    obtain ⟨k, h1, h2⟩ := h 0 v rfl
    have : k = Sum.inl n := by simpa using h1.symm
    subst this
    obtain ⟨t, rfl⟩ : ∃ t, v = Value.int n t := hknd _ _ h2
    exact .cons n t (ints_keys (kvs := kvs) (knd := knd) hknd rfl (by simpa using hl) fun i u hu => by
      obtain ⟨k, h3, h4⟩ := h (i + 1) u (by simpa using hu)
      exact ⟨k, by simpa using h3, h4⟩)
theorem kr_sortDR {b : Bool} (hc : X.calm = true) : CallRK X (.builtin "sorted") [Str.ofString "reverse"] (rSortDR b) := by
  intro pins s σ H vs zs us ws Q I r rz h
  obtain ⟨a, kvs, ns, rfl, rfl, hk, hns, q⟩ := h
  obtain rfl := Vals.ref1 r
  obtain ⟨w1, rfl, e1⟩ := vals1 rz
  obtain rfl : w1 = Value.bool b := e1
  obtain ⟨z, lo, vs, rk, hd⟩ := (show ObjOk X.prog X.w H s.heap a (.dK kvs) from I.hok a _ hk)
  obtain ⟨ep, hat⟩ := hd.dictAt
  have hl : kvs.length = vs.length := Paired.length rk
  refine sorted_dR (knd := mixKind X.prog X.w) (kvs := vs) (ep := ep) (ns := ns) (I.ok.hd hc) lo hat (by rw [← hl]; exact z) (fun us hlu hu => ?_) fun h' tk p out c ns' hkeep hz hp h1 h2 h3 => ?_
  · refine ints_keys (kvs := vs) (knd := (mixKind X.prog X.w).is) (fun k v h => keyIs_rel h) hns (by rw [List.length_map, hl]; exact hlu) fun i v e => ?_
    obtain ⟨k, x, e1, e2⟩ := hu i v e
    refine ⟨k, ?_, e2⟩
    rw [KV.keys rk, List.getElem?_map, e1]; rfl
  · have hlen : (ns'.map V.int).length ≤ sizeLine := by
      rw [List.length_map, h2.length_eq]
      have : (kvs.map (·.1)).length = ns.length := by rw [hns, List.length_map]
      rw [List.length_map] at this
      omega
    refine ⟨.ref p, upd H p (.lst (ns'.map V.int)), I.laid (t' := tk) hkeep hz (show ObjOk X.prog X.w _ _ _ (.lst (ns'.map V.int)) from ⟨hlen, out, c, vals_of_ints h1, hp⟩), rfl, q ns' p h2 h3 (I.hok.fresh hz)⟩
end
/-! ### the distinct ones, from the greatest on -/
def addI (acc : List Int) (x : Int) : List Int := if x ∈ acc then acc else acc ++ [x]
def nubI (l : List Int) : List Int := l.foldl addI []
theorem nub_snoc (l : List Int) (x : Int) : nubI (l ++ [x]) = addI (nubI l) x := by unfold nubI; rw [List.foldl_append]; rfl
theorem add_mem {acc : List Int} {x y : Int} : y ∈ addI acc x ↔ y ∈ acc ∨ y = x := by
  unfold addI
  split
  · constructor
    · exact .inl
    · rintro (h | rfl)
      · exact h
      · assumption
  · simp
theorem fold_mem : ∀ (l acc : List Int) (y : Int), y ∈ l.foldl addI acc ↔ y ∈ acc ∨ y ∈ l
  | [], acc, y => by simp
  | x :: l, acc, y => by rw [List.foldl_cons, fold_mem l, add_mem, List.mem_cons, or_assoc]
theorem nub_mem {l : List Int} {y : Int} : y ∈ nubI l ↔ y ∈ l := by unfold nubI; rw [fold_mem]; simp
theorem add_nodup {acc : List Int} {x : Int} (h : acc.Nodup) : (addI acc x).Nodup := by
  unfold addI
  split
  · exact h
  · rename_i hx
    exact List.nodup_append.mpr ⟨h, by simp, fun a ha b hb => by rw [List.mem_singleton.mp hb]; exact fun e => hx (by rw [← e]; exact ha)⟩
theorem fold_nodup : ∀ (l acc : List Int), acc.Nodup → (l.foldl addI acc).Nodup
  | [], _, h => h
  | x :: l, acc, h => by rw [List.foldl_cons]; exact fold_nodup l _ (add_nodup h)
theorem nub_nodup (l : List Int) : (nubI l).Nodup := fold_nodup l [] List.nodup_nil
theorem fold_len : ∀ (l acc : List Int), (l.foldl addI acc).length ≤ acc.length + l.length
  | [], acc => by simp
  | x :: l, acc => by
    rw [List.foldl_cons]
    have h1 := fold_len l (addI acc x)
    have h2 : (addI acc x).length ≤ acc.length + 1 := by unfold addI; split <;> simp
    simp only [List.length_cons]; omega
theorem nub_len (l : List Int) : (nubI l).length ≤ l.length := by have := fold_len l []; simpa [nubI] using this
/-- the dict that stands for a set of ints -/
def tabT (ks : List Int) : List (Key × V) := ks.map fun k => (Sum.inl k, V.bl true)
theorem put_tab (ks : List Int) (x : Int) : putK (tabT ks) (Sum.inl x) (V.bl true) = tabT (addI ks x) := by
  unfold putK
  have h1 : ((tabT ks).any fun kv => decide (kv.1 = (Sum.inl x : Key))) = decide (x ∈ ks) := by
    induction ks with
    | nil => rfl
    | cons k ks ih =>
      show (decide ((Sum.inl k : Key) = Sum.inl x) || (tabT ks).any _) = _
      rw [ih]
      by_cases h : k = x <;> by_cases h2 : x ∈ ks <;> simp [h, h2, eq_comm]
  rw [h1]
  unfold addI
  by_cases h : x ∈ ks
  · rw [if_pos (by simpa using h), if_pos h]
    unfold tabT
    rw [List.map_map]
    refine List.map_congr_left fun k _ => ?_
    show (if (Sum.inl k : Key) = Sum.inl x then ((Sum.inl k : Key), V.bl true) else (Sum.inl k, V.bl true)) = _
    split <;> rfl
  · rw [if_neg (by simpa using h), if_neg h]
    unfold tabT
    rw [List.map_append]; rfl
section
variable {b : Bool} {ρ ρ1 : En} {wi : TI} {tt : TT} {vs : List Nat} {j : Nat}
theorem ev_sortDC {xs : List Int} {p : Int → Bool} (hi : EvI b wi ρ (xs.map .int) ρ1) (hj : j ∈ vs) (hjl : j < ρ1.length) (hl : xs.length ≤ 1000000)
    (hs : ∀ x ∈ xs, EvT false tt ((wipeE ρ1 vs).set j (.dat (.int x))) (p x) ((wipeE ρ1 vs).set j (.dat (.int x)))) :
    Ev b (tCKw (rSortDR true) (tCons (tDc wi (gName j) tt (tVar j) (tC (.bl true)) vs) tNil) (tCons (tC (.bl true)) tNil)) ρ (.l ((srtD (nubI (xs.filter p))).map .int)) ρ1 := fun G H σ e st nd Q q =>
  hi G H σ e st nd _ fun J G1 H1 x1 s1 a1 hJ Dl hD => by
    have nd1 : (adr ρ1).Nodup := by rw [a1]; exact nd
    refine ⟨fun i m H' => i + m = xs.length ∧ ∃ G', Ext [] G1 H1 G' H' ∧ G' Dl = none ∧ H' Dl = some (.dK (tabT (nubI ((xs.take i).filter p)))), ⟨xs.length, by simp, G1, Ext.own x1.gh hD, x1.gh.none hD, upd_same⟩, fun i m H' hW => ?_⟩
    obtain ⟨hm, G', x2, gD, hDl⟩ := hW
    obtain ⟨hstop, hgo⟩ := hJ G' H' x2.gg x2.gh
    by_cases hlt : i < xs.length
    · obtain ⟨x, hx⟩ : ∃ x, xs[i]? = some x := ⟨xs[i], by simp [hlt]⟩
      have hmem : x ∈ xs := List.mem_of_getElem? hx
      obtain ⟨hgo1, hy⟩ := hgo i (.int x) (by rw [List.getElem?_map, hx]; rfl)
      refine .inr ⟨hgo1, fun H3 => ∃ G', Ext [] G1 H1 G' H3 ∧ G' Dl = none ∧ H3 Dl = some (.dK (tabT (nubI ((xs.take (i + 1)).filter p)))), fun H3 h3 => ⟨m - 1, by omega, by omega, h3⟩, fun v H3 hv => ?_⟩
      obtain ⟨G3, x3, hd3⟩ := hy v H3 hv
      have y3 := x2.tr x3
      have sw : StOk G3 H3 (wipe σ vs) (wipeE ρ1 vs) := (s1.mono y3).wipe vs
      refine gv_name (j := j) (d := .int x) G3 H3 _ _ v x3.gh sw hd3 _ fun σ2 s2 l2 o2 => ?_
      have D3 := x3.hh _ _ hDl
      have gD3 : G3 Dl = none := x3.nw Dl (by simp) gD (by rw [hDl]; simp)
      have etake : xs.take (i + 1) = xs.take i ++ [x] := by rw [List.take_add_one, hx]; rfl
      refine ⟨wipe_ext (by rw [l2, wipe_length]) fun k hk => o2 k fun hmm => ?_, ?_⟩
      · have : k = j := by simpa using hmm
        exact hk (by rw [this]; exact hj)
      · have nd2 : (adr ((wipeE ρ1 vs).set j (.dat (.int x)))).Nodup := nd_set0 rfl (nd_wipe nd1 vs)
        refine hs x hmem G3 H3 σ2 x3.gh s2 nd2 _ fun G4 H4 x4 s4 a4 => ?_
        have D4 := x4.hh _ _ D3
        have gD4 : G4 Dl = none := x4.nw Dl (show Dl ∉ ([] : List Addr) by simp) gD3 (by rw [D3]; simp)
        have y4 : Ext [] G1 H1 G4 H4 := y3.tr x4
        cases hp : p x with
        | false =>
          show ∃ G', _
          refine ⟨G4, y4, gD4, ?_⟩
          rw [etake, List.filter_append, List.filter_cons, if_neg (by rw [hp]; decide)]
          rw [List.filter_nil, List.append_nil]
          exact D4
        | true =>
          have hslot : ((wipeE ρ1 vs).set j (.dat (.int x)))[j]? = some (.dat (.int x)) := List.getElem?_set_self (by rw [wipeE_len]; exact hjl)
          obtain ⟨v5, h5, k5⟩ := s4.get hslot (by simp)
          cases k5
          refine ⟨_, h5, tabT (nubI ((xs.take i).filter p)), Sum.inl x, rfl, D4, ?_, ?_⟩
          · unfold tabT
            rw [List.length_map, sizeLine_eq]
            have h1 := List.length_filter_le p (xs.take i)
            have h2 : (xs.take i).length ≤ xs.length := by rw [List.length_take]; omega
            have h3 := nub_len ((xs.take i).filter p)
            omega
          · have x6 : Ext [Dl] G4 H4 G4 (upd H4 Dl (.dK (putK (tabT (nubI ((xs.take i).filter p))) (Sum.inl x) (.bl true)))) := Ext.set x4.gh (by simp) gD4
            refine ⟨G4, y4.trans x6 fun c hc => .inr (by rw [List.mem_singleton.mp hc]; exact hD), gD4, ?_⟩
            rw [upd_same, put_tab, etake, List.filter_append, List.filter_cons, if_pos hp, List.filter_nil, nub_snoc]
    · have ei : i = xs.length := by omega
      refine .inl ⟨by rw [List.length_map] at hstop; rw [ei]; exact hstop, ?_⟩
      rw [ei, List.take_length] at hDl
      refine ⟨Dl, _, nubI (xs.filter p), rfl, rfl, hDl, by unfold tabT; rw [List.map_map]; rfl, fun ns' pa hp ho hn => ?_⟩
      have ho : ns'.Pairwise (· ≥ ·) := ho
      rw [srtD_of hp ho]
      have x7 : Ext (ws b ρ) G H G' (upd H' pa (.lst ((srtD (nubI (xs.filter p))).map V.int))) := (x1.tr x2.up).tr (Ext.own x2.gh hn)
      refine q _ G' _ x7 ((s1.mono x2).mono (Ext.own x2.gh hn)) a1 ⟨pa, _, rfl, ?_, x2.gh.none hn, upd_same, dqs_ints _⟩
      cases z : H pa with
      | none => rfl
      | some o => exact absurd hn ((x1.tr x2.up).th pa (by rw [z]; simp))
end
end Kn

namespace Kn
open PySem PySem.Spec PyProof.Rows L2
/-! ### texts and truth values in a display -/
theorem of_dqs_strs {H : Hp} : ∀ {l : List Str} {vs : List V}, DqA H vs (l.map PyData.str) → vs = l.map V.str
  | [], _, .nil => rfl
  | _ :: l, _, .cons (.str _) t => by rw [of_dqs_strs (l := l) t]; rfl
theorem strs_flat : ∀ l : List Str, (l.map V.str).all flatV = true
  | [] => rfl
  | x :: l => by rw [List.map_cons, List.all_cons, strs_flat l]; rfl
theorem bools_flat : ∀ l : List Bool, (l.map V.bl).all flatV = true
  | [] => rfl
  | x :: l => by rw [List.map_cons, List.all_cons, bools_flat l]; rfl
theorem inV_strs (x : Str) (l : List Str) : inV (V.str x) (l.map V.str) = l.any fun y => y == x := by
  unfold inV; rw [List.any_map]; rfl
theorem inV_bools (x : Bool) : ∀ l : List Bool, inV (V.bl x) (l.map V.bl) = decide (x ∈ l)
  | [] => rfl
  | y :: l => by
    have ih := inV_bools x l
    unfold inV at ih ⊢
    rw [List.map_cons, List.any_cons, ih]
    show (eqV (V.bl y) (V.bl x) || _) = _
    cases x <;> cases y <;> simp [eqV]
section
variable {K : PySem.W.Frag}
theorem o2_niTs {l : List Str} {i : Str} : Op2 (rIn K true) (.str i) (.tuple (l.map .str)) (.d (.bool (!(l.any fun y => y == i)))) := o2_val fun G H v w e hv hw Q q => by
  cases hv; cases hw with
  | tup ha hs =>
    rw [of_dqs_strs hs] at ha
    exact ⟨_, _, rfl, .inr (.inl (.inl (e _ _ ha))), rfl, strs_flat l, by
      show Q (.bl (!inV (V.str i) (l.map V.str))) H
      rw [inV_strs]; exact q _ (.bl _)⟩
theorem o2_niLb {l : List Bool} {i : Bool} : Op2 (rIn K true) (.bool i) (eL .bool l) (.d (.bool (!decide (i ∈ l)))) := o2_val fun G H v w e hv hw Q q => by
  cases hv; cases hw with
  | lst ha hs =>
    rw [of_dqs_bools hs] at ha
    exact ⟨_, _, rfl, .inl (.inl (.inl (e _ _ ha))), rfl, bools_flat l, by
      show Q (.bl (!inV (V.bl i) (l.map V.bl))) H
      rw [inV_bools]; exact q _ (.bl _)⟩
theorem o2_inLb {l : List Bool} {i : Bool} : Op2 (rIn K false) (.bool i) (eL .bool l) (.d (.bool (decide (i ∈ l)))) := o2_val fun G H v w e hv hw Q q => by
  cases hv; cases hw with
  | lst ha hs =>
    rw [of_dqs_bools hs] at ha
    exact ⟨_, _, rfl, .inl (.inl (.inl (e _ _ ha))), rfl, bools_flat l, by rw [inV_bools]; exact q _ (.bl _)⟩
end
section
variable {K : PySem.W.Frag}
theorem o2_inTs {l : List Str} {i : Str} : Op2 (rIn K false) (.str i) (.tuple (l.map .str)) (.d (.bool (l.any fun y => y == i))) := o2_val fun G H v w e hv hw Q q => by
  cases hv; cases hw with
  | tup ha hs =>
    rw [of_dqs_strs hs] at ha
    exact ⟨_, _, rfl, .inr (.inl (.inl (e _ _ ha))), rfl, strs_flat l, by
      show Q (.bl (inV (V.str i) (l.map V.str))) H
      rw [inV_strs]; exact q _ (.bl _)⟩
end
/-! ### x is True, x is False -/
theorem o2_isBl {a b : Bool} : Op2 rIsB (.bool a) (.bool b) (.d (.bool (decide (a = b)))) := o2_val fun G H v w e hv hw Q q => by
  cases hv; cases hw
  exact ⟨a, b, rfl, rfl, q _ (.bl _)⟩
/-! ### the words -/
def byS (s : Bool) : Str := if s then Str.ofString "sharpest" else Str.ofString "dullest"
theorem byS_in (s : Bool) : (!([Str.ofString "dullest", Str.ofString "sharpest"].any fun y => y == byS s)) = false := by cases s <;> decide +kernel
theorem byS_is (s : Bool) : decide (byS s = Str.ofString "sharpest") = s := by cases s <;> decide +kernel
/-! ### rows -/
def isRowD : PyData → Bool
  | .list ds => decide ((ds.length : Int) ≤ 200) && ds.all (isI 1 200)
  | _ => false
theorem isRowD_list (ds : List PyData) : isRowD (.list ds) = (decide ((ds.length : Int) ≤ 200) && ds.all (isI 1 200)) := rfl
structure Row (l : List Int) : Prop where
  len : l.length ≤ 200
  ok : ∀ x ∈ l, 1 ≤ x ∧ x ≤ 200
theorem isRow_of {l : List Int} (h : Row l) : isRowD (eL .int l) = true := by
  show (decide (((l.map PyData.int).length : Int) ≤ 200) && (l.map PyData.int).all (isI 1 200)) = true
  have h1 : (l.map PyData.int).all (isI 1 200) = true := by
    rw [List.all_eq_true]
    intro d hd
    obtain ⟨x, hx, rfl⟩ := List.mem_map.mp hd
    have := h.ok x hx
    simp [isI]; omega
  rw [h1]
  have := h.len
  simp; omega
theorem row_small {v : PyData} (h : isRowD v = true) : ∀ ds, v = .list ds → ds.length ≤ 1000000 := by
  rintro ds rfl
  rw [isRowD_list, Bool.and_eq_true, decide_eq_true_eq] at h
  omega
theorem row_of {l : List Int} (h : isRowD (eL .int l) = true) : Row l := by
  have h : (decide (((l.map PyData.int).length : Int) ≤ 200) && (l.map PyData.int).all (isI 1 200)) = true := h
  rw [Bool.and_eq_true, decide_eq_true_eq, List.length_map] at h
  refine ⟨by omega, fun x hx => ?_⟩
  have := List.all_eq_true.mp h.2 (.int x) (List.mem_map.mpr ⟨x, hx, rfl⟩)
  simpa [isI] using this
/-! ### what the first lot can do less -/
def gapV (a b : List Int) : Option Int := (rgI 1 (maxD 0 b + 1 - 1).toNat).find? fun n => decide (capOf a n < capOf b n)
def partL (a : List Int) (n : Int) : List Int := List.replicate (capOf a n + 1).toNat n
def partV (a b : List Int) : Rv := match gapV a b with
  | none => .d .none
  | some n => .l ((partL a n).map .int)
theorem part_none {a b : List Int} (h : gapV a b = none) : partV a b = .d .none := by unfold partV; rw [h]
theorem part_some {a b : List Int} {n : Int} (h : gapV a b = some n) : partV a b = .l ((partL a n).map .int) := by unfold partV; rw [h]
theorem cap_le {l : List Int} {n : Int} (hn : 1 ≤ n) (h : ∀ x ∈ l, 1 ≤ x) : capOf l n ≤ l.sum := by
  induction l with
  | nil => rw [cap_nil]; simp
  | cons x l ih =>
    have := h x List.mem_cons_self
    have := ih fun y hy => h y (List.mem_cons_of_mem _ hy)
    rw [cap_cons, List.sum_cons]
    split <;> omega
theorem Lot.cap {l : List Int} (h : Lot l) {n : Int} (hn : 1 ≤ n) : 0 ≤ capOf l n ∧ capOf l n ≤ 200 := ⟨cap_pos l n, Int.le_trans (cap_le hn h.pos) h.sum⟩
theorem maxD_le {l : List Int} {m : Int} (h0 : 0 ≤ m) (h : ∀ x ∈ l, x ≤ m) : maxD 0 l ≤ m := by
  by_cases hl : l = []
  · subst hl; exact h0
  · exact h _ (maxD_mem (d := 0) hl).1
theorem maxD_nn {l : List Int} (h : ∀ x ∈ l, 1 ≤ x) : 0 ≤ maxD 0 l := by
  by_cases hl : l = []
  · subst hl; decide
  · have := h _ (maxD_mem (d := 0) hl).1; omega
theorem maxD_ub {l : List Int} {x : Int} (hx : x ∈ l) : x ≤ maxD 0 l := (maxD_mem (d := 0) (List.ne_nil_of_mem hx)).2 x hx
theorem gap_some {a b : List Int} {n : Int} (h : gapV a b = some n) : 1 ≤ n ∧ n ≤ maxD 0 b ∧ capOf a n < capOf b n ∧ ∀ m, 1 ≤ m → m < n → capOf b m ≤ capOf a m := by
  unfold gapV at h
  have h1 := List.find?_some h
  have h2 := List.mem_of_find?_eq_some h
  have h3 := mem_rgI.mp h2
  refine ⟨by omega, by omega, by simpa using h1, fun m hm hmn => ?_⟩
  obtain ⟨-, as, bs, e, hno⟩ := List.find?_eq_some_iff_append.mp h
  have hlen : as.length = (n - 1).toNat := by
    have hk : (rgI 1 (maxD 0 b + 1 - 1).toNat)[as.length]? = some n := by rw [e]; simp
    have hlt : as.length < (rgI 1 (maxD 0 b + 1 - 1).toNat).length := by rw [e]; simp
    rw [rgI_len] at hlt
    rw [rgI_get _ _ _ hlt] at hk
    have := Option.some.inj hk
    omega
  have hmem : m ∈ as := by
    have hk : (rgI 1 (maxD 0 b + 1 - 1).toNat)[(m - 1).toNat]? = some ((1 : Int) + (((m - 1).toNat : Nat) : Int)) := rgI_get _ _ _ (by omega)
    rw [e, List.getElem?_append_left (by omega)] at hk
    have := List.mem_of_getElem? hk
    rwa [show (1 : Int) + (((m - 1).toNat : Nat) : Int) = m by omega] at this
  have := hno m hmem
  simp at this
  exact this
theorem gap_none {a b : List Int} (h : gapV a b = none) : ∀ n, 1 ≤ n → capOf b n ≤ capOf a n := by
  intro n hn
  unfold gapV at h
  by_cases hb : n ≤ maxD 0 b
  · have := List.find?_eq_none.mp h n (mem_rgI.mpr ⟨hn, by omega⟩)
    simpa using this
  · rw [cap_zero (a := b) fun t ht => by have := maxD_ub ht; omega]
    exact cap_pos a n
theorem gap_iff {a b : List Int} : gapV a b = none ↔ ∀ n, 1 ≤ n → capOf b n ≤ capOf a n :=
  ⟨gap_none, fun h => by
    cases e : gapV a b with
    | none => rfl
    | some n => have := gap_some e; have := h n this.1; omega⟩
/-! ### use of a tool -/
def suitV (l : List Int) (n : Int) : List Int := srtD (nubI (l.filter fun t => decide (n ≤ t)))
theorem suit_mem {l : List Int} {n t : Int} : t ∈ suitV l n ↔ t ∈ l ∧ n ≤ t := by
  unfold suitV
  rw [srtD_mem, nub_mem, List.mem_filter, decide_eq_true_eq]
def wornV (l : List Int) (t : Int) : List Int := srtD ((l.erase t ++ [t - 1]).filter fun v => decide (0 < v))
theorem worn_len {l : List Int} {t : Int} (h : t ∈ l) : (wornV l t).length ≤ l.length := by
  unfold wornV
  rw [srtD_len]
  have h1 := List.length_filter_le (fun v => decide (0 < v)) (l.erase t ++ [t - 1])
  rw [List.length_append, List.length_erase_of_mem h, List.length_singleton] at h1
  have := List.length_pos_of_mem h
  omega
theorem erase_at {l : List Int} {t : Int} (h : t ∈ l) : ∃ j, l[j]? = some t ∧ (∀ m : Nat, m < j → l[m]? ≠ some t) ∧ l.eraseIdx j = l.erase t := by
  induction l with
  | nil => cases h
  | cons x l ih =>
    by_cases hx : x = t
    · subst hx
      exact ⟨0, rfl, fun m hm => absurd hm (by omega), by simp⟩
    · obtain ⟨j, h1, h2, h3⟩ := ih ((List.mem_cons.mp h).resolve_left fun e => hx e.symm)
      refine ⟨j + 1, by simpa using h1, fun m hm => ?_, ?_⟩
      · cases m with
        | zero => simpa using hx
        | succ m => simpa using h2 m (by omega)
      · rw [List.eraseIdx_cons_succ, h3, List.erase_cons_tail (by simpa using hx)]
def headI (l : List Int) : Int := (l[0]?).getD 0
def lastI (l : List Int) : Int := (l[l.length - 1]?).getD 0
def pickV (s : Bool) (l : List Int) (n : Int) : Int := if (suitV l n).length = 0 then 0 else if s = true then headI (suitV l n) else lastI (suitV l n)
theorem pick_mem {s : Bool} {l : List Int} {n : Int} (h : (suitV l n).length ≠ 0) : pickV s l n ∈ suitV l n := by
  unfold pickV
  rw [if_neg h]
  split
  · have e : (suitV l n)[0]? = some (suitV l n)[0] := List.getElem?_eq_getElem (by omega)
    unfold headI; rw [e]; exact List.getElem_mem _
  · have e : (suitV l n)[(suitV l n).length - 1]? = some (suitV l n)[(suitV l n).length - 1] := List.getElem?_eq_getElem (by omega)
    unfold lastI; rw [e]; exact List.getElem_mem _
theorem pick_in {s : Bool} {l : List Int} {n : Int} (h : 0 < pickV s l n) : pickV s l n ∈ l ∧ n ≤ pickV s l n := by
  by_cases h0 : (suitV l n).length = 0
  · unfold pickV at h; rw [if_pos h0] at h; exact absurd h (by decide)
  · exact suit_mem.mp (pick_mem h0)
def stepS (s : Bool) (p : List Int × List Int) (n : Int) : List Int × List Int := (p.1 ++ [pickV s p.2 n], if 0 < pickV s p.2 n then wornV p.2 (pickV s p.2 n) else p.2)
def servedV (s : Bool) (l row : List Int) : List Int × List Int := row.foldl (stepS s) ([], l)
theorem serve_len (s : Bool) : ∀ (row : List Int) (p : List Int × List Int), (row.foldl (stepS s) p).1.length = p.1.length + row.length ∧ (row.foldl (stepS s) p).2.length ≤ p.2.length
  | [], p => ⟨rfl, Nat.le_refl _⟩
  | n :: row, p => by
    rw [List.foldl_cons]
    obtain ⟨h1, h2⟩ := serve_len s row (stepS s p n)
    have h3 : (stepS s p n).1.length = p.1.length + 1 := by unfold stepS; simp
    have h4 : (stepS s p n).2.length ≤ p.2.length := by
      unfold stepS
      show (if _ then _ else _ : List Int).length ≤ _
      split
      · rename_i h; exact worn_len (pick_in h).1
      · exact Nat.le_refl _
    simp only [List.length_cons]
    omega
end Kn

namespace Kn
open PySem PySem.Spec PyProof.Rows L2
/-! ### capacities behind the use of a tool -/
theorem cap_perm {a b : List Int} (h : a.Perm b) (n : Int) : capOf a n = capOf b n := by
  induction h with
  | nil => rfl
  | cons x _ ih => rw [cap_cons, cap_cons, ih]
  | swap x y l => rw [cap_cons, cap_cons, cap_cons, cap_cons]; omega
  | trans _ _ ih1 ih2 => rw [ih1, ih2]
theorem cap_filter {n : Int} (hn : 1 ≤ n) : ∀ l : List Int, capOf (l.filter fun v => decide (0 < v)) n = capOf l n
  | [] => rfl
  | x :: l => by
    by_cases h : 0 < x
    · rw [List.filter_cons_of_pos (by simpa using h), cap_cons, cap_cons, cap_filter hn l]
    · rw [List.filter_cons_of_neg (by simpa using h), cap_cons, cap_filter hn l, if_neg (by omega)]; omega
theorem cap_worn {l : List Int} {t n : Int} (h : t ∈ l) (hn : 1 ≤ n) : capOf (wornV l t) n = capOf l n - (if n ≤ t then 1 else 0) := by
  unfold wornV
  rw [cap_perm (srtD_perm _), cap_filter hn, cap_app]
  have h2 := cap_perm (List.perm_cons_erase h) n
  rw [cap_cons] at h2
  rw [h2, cap_cons, cap_nil]
  split <;> split <;> omega
theorem worn_pos {l : List Int} {t : Int} : ∀ x ∈ wornV l t, 1 ≤ x := fun x hx => by
  unfold wornV at hx
  have := (List.mem_filter.mp (srtD_mem.mp hx)).2
  simp at this
  omega
theorem cap_one {l : List Int} (h : ∀ x ∈ l, 1 ≤ x) : capOf l 1 = l.sum := by
  rw [cap_ge (by intro t ht; have := h t ht; omega)]; simp
theorem worn_lot {l : List Int} {t : Int} (h : Lot l) (ht : t ∈ l) : Lot (wornV l t) where
  pos := worn_pos
  desc := srtD_sorted _
  len := Nat.le_trans (worn_len ht) h.len
  sum := by
    rw [← cap_one worn_pos, cap_worn ht (by decide), cap_one h.pos]
    have := h.sum
    split <;> omega
/-! ### what serve picks -/
def nextL (s : Bool) (l : List Int) (n : Int) : List Int := if 0 < pickV s l n then wornV l (pickV s l n) else l
def picksL (s : Bool) : List Int → List Int → List Int
  | _, [] => []
  | l, n :: row => pickV s l n :: picksL s (nextL s l n) row
def endL (s : Bool) : List Int → List Int → List Int
  | l, [] => l
  | l, n :: row => endL s (nextL s l n) row
theorem served_go (s : Bool) : ∀ (row ps l : List Int), row.foldl (stepS s) (ps, l) = (ps ++ picksL s l row, endL s l row)
  | [], ps, l => by simp [picksL, endL]
  | n :: row, ps, l => by
    rw [List.foldl_cons]
    show row.foldl (stepS s) (ps ++ [pickV s l n], nextL s l n) = _
    rw [served_go s row]
    simp [picksL, endL]
theorem served_eq (s : Bool) (l row : List Int) : servedV s l row = (picksL s l row, endL s l row) := by
  unfold servedV
  rw [served_go, List.nil_append]
theorem next_lot {s : Bool} {l : List Int} (h : Lot l) (n : Int) : Lot (nextL s l n) := by
  unfold nextL
  split
  · rename_i hp; exact worn_lot h (pick_in hp).1
  · exact h
theorem end_lot {s : Bool} : ∀ {row l : List Int}, Lot l → Lot (endL s l row)
  | [], _, h => h
  | n :: row, _, h => end_lot (row := row) (next_lot h n)
theorem suit_some {l : List Int} {n : Int} (h : 0 < capOf l n) : (suitV l n).length ≠ 0 := by
  intro h0
  have : ∀ t ∈ l, t ≤ n - 1 := fun t ht => by
    by_cases hn : n ≤ t
    · have := List.length_pos_of_mem (suit_mem.mpr ⟨ht, hn⟩); omega
    · omega
  rw [cap_zero this] at h
  exact absurd h (by decide)
theorem pick_some {s : Bool} {l : List Int} {n : Int} (hn : 1 ≤ n) (h : 0 < capOf l n) : n ≤ pickV s l n ∧ pickV s l n ∈ l := by
  have := suit_mem.mp (pick_mem (s := s) (suit_some h))
  exact ⟨this.2, this.1⟩
theorem pick_none {s : Bool} {l : List Int} {n : Int} (h : capOf l n = 0) : pickV s l n = 0 := by
  unfold pickV
  rw [if_pos]
  apply Classical.byContradiction
  intro hne
  have hm := suit_mem.mp (pick_mem (s := s) hne)
  have h2 := cap_perm (List.perm_cons_erase hm.1) n
  rw [cap_cons, if_pos hm.2, h] at h2
  have := cap_pos (l.erase (pickV s l n)) n
  omega
theorem cap_next {s : Bool} {l : List Int} {n k : Int} (hn : 1 ≤ n) (hk : 1 ≤ k) (h : 0 < capOf l n) : capOf (nextL s l n) k = capOf l k - (if k ≤ pickV s l n then 1 else 0) := by
  obtain ⟨h1, h2⟩ := pick_some (s := s) hn h
  unfold nextL
  rw [if_pos (by omega), cap_worn h2 hk]
theorem next_none {s : Bool} {l : List Int} {n : Int} (h : capOf l n = 0) : nextL s l n = l := by
  unfold nextL
  rw [pick_none h, if_neg (by decide)]
/-- a row of one need -/
theorem same_done {s : Bool} {n : Int} (hn : 1 ≤ n) : ∀ (m : Nat) {l : List Int}, (m : Int) ≤ capOf l n → (0 : Int) ∉ picksL s l (List.replicate m n)
  | 0, l, _ => by simp [picksL]
  | m + 1, l, h => by
    have hp : 0 < capOf l n := by omega
    have hk := pick_some (s := s) hn hp
    rw [List.replicate_succ]
    show (0 : Int) ∉ pickV s l n :: picksL s (nextL s l n) (List.replicate m n)
    rw [List.mem_cons, not_or]
    refine ⟨by omega, same_done hn m ?_⟩
    rw [cap_next hn hn hp, if_pos hk.1]
    omega
theorem same_not {s : Bool} {n : Int} (hn : 1 ≤ n) : ∀ (m : Nat) {l : List Int}, capOf l n < (m : Int) → (0 : Int) ∈ picksL s l (List.replicate m n)
  | 0, l, h => by have := cap_pos l n; omega
  | m + 1, l, h => by
    rw [List.replicate_succ]
    show (0 : Int) ∈ pickV s l n :: picksL s (nextL s l n) (List.replicate m n)
    by_cases hp : 0 < capOf l n
    · have hk := pick_some (s := s) hn hp
      refine List.mem_cons_of_mem _ (same_not hn m ?_)
      rw [cap_next hn hn hp, if_pos hk.1]
      omega
    · have := cap_pos l n
      rw [pick_none (by omega)]
      exact List.mem_cons_self
/-! ### equal capacities, equal lots -/
theorem tops_eq : ∀ {a b : List Int}, (∀ x ∈ a, 1 ≤ x) → (∀ x ∈ b, 1 ≤ x) → (∀ k : Nat, (a.take k).sum = (b.take k).sum) → a = b
  | [], [], _, _, _ => rfl
  | [], y :: b, _, hb, h => by have := h 1; have := hb y List.mem_cons_self; simp at *; omega
  | x :: a, [], ha, _, h => by have := h 1; have := ha x List.mem_cons_self; simp at *; omega
  | x :: a, y :: b, ha, hb, h => by
    have h1 : x = y := by have := h 1; simpa using this
    subst h1
    rw [tops_eq (a := a) (b := b) (fun z hz => ha z (List.mem_cons_of_mem _ hz)) (fun z hz => hb z (List.mem_cons_of_mem _ hz)) fun k => by
      have := h (k + 1)
      simp at this
      omega]
/-- where the top sum stands below capacity plus count, it is reached -/
theorem top_at {l : List Int} (h : Desc l) (hp : ∀ x ∈ l, 1 ≤ x) (k : Nat) : ∃ n, 1 ≤ n ∧ (l.take k).sum = capOf l n + k * (n - 1) ∨ (k = 0 ∧ (l.take k).sum = 0) := by
  cases k with
  | zero => exact ⟨1, .inr ⟨rfl, rfl⟩⟩
  | succ k =>
    by_cases hk : k < l.length
    · have hv : l[k]? = some l[k] := List.getElem?_eq_getElem hk
      refine ⟨l[k] + 1, .inl ⟨?_, ?_⟩⟩
      · have := hp l[k] (List.getElem_mem _); omega
      · rw [cap_top h hv]; simp
    · refine ⟨1, .inl ⟨by omega, ?_⟩⟩
      rw [cap_one hp, sum_take_len (by omega)]; simp
theorem tops_of_caps {a b : List Int} (ha : Desc a) (hp : ∀ x ∈ a, 1 ≤ x) (h : ∀ n, 1 ≤ n → capOf b n ≤ capOf a n) (k : Nat) : (b.take k).sum ≤ (a.take k).sum := by
  obtain ⟨n, ⟨h1, h2⟩ | ⟨h1, h2⟩⟩ := top_at ha hp k
  · have := cap_lb b k h1; have := h n h1; omega
  · subst h1; simp
theorem caps_of_tops {a b : List Int} (hb : Desc b) (h : ∀ k, k ≤ b.length → (b.take k).sum ≤ (a.take k).sum) {n : Int} (hn : 1 ≤ n) : capOf b n ≤ capOf a n := by
  obtain ⟨k, hk, e⟩ := cap_at hb n
  have := cap_lb a k hn
  have := h k hk
  omega
theorem caps_eq {a b : List Int} (ha : Lot a) (hb : Lot b) (h : ∀ n, 1 ≤ n → capOf a n = capOf b n) : a = b :=
  tops_eq ha.pos hb.pos fun k => Int.le_antisymm (tops_of_caps hb.desc hb.pos (fun n hn => by rw [h n hn]; exact Int.le_refl _) k) (tops_of_caps ha.desc ha.pos (fun n hn => by rw [h n hn]; exact Int.le_refl _) k)
/-- the first of a range -/
theorem filter_first {p : Int → Bool} : ∀ (m : Nat) (lo n : Int), lo ≤ n → n < lo + m → p n = true → (∀ k, lo ≤ k → k < n → p k = false) → ∃ r, (rgI lo m).filter p = n :: r
  | 0, lo, n, h1, h2, _, _ => by omega
  | m + 1, lo, n, h1, h2, hp, hno => by
    show ∃ r, (lo :: rgI (lo + 1) m).filter p = n :: r
    by_cases e : lo = n
    · subst e; exact ⟨_, List.filter_cons_of_pos hp⟩
    · obtain ⟨r, hr⟩ := filter_first m (lo + 1) n (by omega) (by omega) hp fun k hk hk2 => hno k (by omega) hk2
      exact ⟨r, by rw [List.filter_cons_of_neg (by rw [hno lo (by omega) (by omega)]; decide), hr]⟩
theorem cut_last {α : Type} (l : List α) (x : α) : cutA (l ++ [x]) none (some (-1)) = l := by
  unfold cutA
  rw [HT.sIx_none]
  have e : HT.sIx (l ++ [x]).length (l ++ [x]).length (some (-1)) = l.length := by
    unfold HT.sIx
    simp
    omega
  rw [e]
  simp
/-- over pairs: each turn goes on -/
theorem sv_each2 {α β S : Type} {b : Bool} {ρ ρ1 : En} {wi : TI} {t : TS} {E : Ens} {K : PySem.W.Frag} {xs : List (α × β)} {e1 : α → PyData} {e2 : β → PyData} {i j : Nat} (hi : EvI b wi ρ (xs.map (eP e1 e2)) ρ1) (I : S → Prop) (C : S → En) (s0 : S) (h0 : I s0) (hw : Wk ρ1 (C s0))
    (hs : ∀ s, I s → ∀ x ∈ xs, Sv t (((C s).set i (.dat (e1 x.1))).set j (.dat (e2 x.2))) { E with nx := fun ρ' => ∃ s', I s' ∧ Wk ρ' (C s'), ct := fun ρ' => ∃ s', I s' ∧ Wk ρ' (C s'), bk := E.nx })
    (hd : ∀ s, I s → E.nx (C s)) : Sv (tFor wi (gTup K 2 (gCons (gName i) (gCons (gName j) gNil))) t) ρ E := by
  refine sv_for hi (fun k d => match xs[k]? with | some x => [(i, e1 x.1), (j, e2 x.2)] | none => []) (fun k d hd => ?_) (fun i ρ' => ∃ s, I s ∧ ρ' = C s) ⟨_, hw, s0, h0, rfl⟩ (fun i d ρ2 hd hI => ?_) fun ρ2 hI => ?_
  · rw [List.getElem?_map] at hd
    cases hx : xs[k]? with
    | none => rw [hx] at hd; cases hd
    | some x =>
      rw [hx] at hd
      have hd : eP e1 e2 x = d := Option.some.inj hd
      subst hd
      exact gv_tup2
  · obtain ⟨s, hI, rfl⟩ := hI
    rw [List.getElem?_map] at hd
    cases hx : xs[i]? with
    | none => rw [hx] at hd; cases hd
    | some x =>
      rw [hx] at hd
      have hd : eP e1 e2 x = d := Option.some.inj hd
      subst hd
      exact (hs s hI x (List.mem_of_getElem? hx)).imp (fun ρ' ⟨s', h1, h2⟩ => ⟨_, h2, s', h1, rfl⟩) (fun _ _ h => h) (fun _ h => h) (fun ρ' ⟨s', h1, h2⟩ => ⟨_, h2, s', h1, rfl⟩)
  · obtain ⟨s, hI, rfl⟩ := hI
    exact hd s hI
def lotB (l : List Int) : Bool := isLotD (eT .int l)
theorem lots_all {l : List (List Int × List Int)} (h : (l.all fun p => lotB p.1 && lotB p.2) = true) : ∀ p ∈ l, Lot p.1 ∧ Lot p.2 := fun p hp => by
  have := List.all_eq_true.mp h p hp
  rw [Bool.and_eq_true] at this
  exact ⟨lot_of this.1, lot_of this.2⟩
end Kn

namespace Kn
open PySem PySem.Spec PyProof.Rows L2
/-! ### sorted(set(a tuple of ints)) -/
section
variable {X : Cx}
def rSetI (K : PySem.W.Frag) (w : World) : List V → Hp → VK → Prop := fun vs H Q => ∃ (p : Addr) (ns : List Int), vs = [V.ref p] ∧ SqT K H p (ns.map V.int) ∧ ns.length ≤ 1000 ∧
  ∀ (q : Addr) (c : Nat), c ≤ ns.length → H q = none → Q (.ref q) (upd H q (SetO w q (fun j => decide (j ∈ ns)) c))
theorem kr_setI (hc : X.calm = true) : CallR X (.type "set") (rSetI X.K X.w) := by
  intro pins s σ H vs us Q I r h
  obtain ⟨p0, ns, rfl, hq, hl, q⟩ := h
  rw [Vals.ref1 r]
  obtain ⟨its, rv, pt, hz⟩ := I.tuple hq
  have hi : IntsAre its.toArray.toList ns := ints_of_vals rv
  refine call_set_tupI ns (I.ok.hd hc) (show s.heap.IsTuple p0 its.toArray from pt) hi (by unfold scanBound; omega) fun h' tk c R1 hcn k => ?_
  exact ⟨.ref s.heap.objs.size, upd H s.heap.objs.size (SetO X.w s.heap.objs.size (fun j => decide (j ∈ ns)) c), I.laid (t' := tk) k (Nat.le_refl _) (setO_new R1), rfl, q _ c hcn (I.hok.fresh (Nat.le_refl _))⟩
end
theorem srt_nub {ns' l : List Int} (h : ns'.Pairwise (· < ·)) (hm : ∀ k : Int, k ∈ ns' ↔ k ∈ l) : ns' = srt (nubI l) := by
  have h1 : ns'.Nodup := h.imp fun a => Int.ne_of_lt a
  refine srt_of ?_ (h.imp fun a => Int.le_of_lt a)
  exact (List.perm_ext_iff_of_nodup h1 (nub_nodup l)).mpr fun k => by rw [hm, nub_mem]
section
variable {b : Bool} {ρ ρ1 : En} {te : TE} {K : PySem.W.Frag} {w : World}
theorem ev_sortSet {l : List Int} (h : Ev b te ρ (.d (eT .int l)) ρ1) (hl : l.length < 64) : Ev b (tCB (rSortedSet w) (tCons (tCB (rSetI K w) (tCons te tNil)) tNil)) ρ (.l ((srt (nubI l)).map .int)) ρ1 := fun G H σ e st nd Q q =>
  h G H σ e st nd _ fun v G1 H1 x1 s1 a1 k1 => by
    cases k1 with
    | tup ha hs =>
      rw [of_dqs_ints hs] at ha
      refine ⟨_, l, rfl, .inl (.inl (x1.gh _ _ ha)), by omega, fun q0 c hc hn => ?_⟩
      refine ⟨q0, _, c, rfl, upd_same, by omega, fun ns' p hs1 hm hlen hp => ?_⟩
      have e1 := srt_nub (l := l) hs1 (fun k => by rw [hm k, decide_eq_true_eq])
      subst e1
      have x2 : Ext [] G1 H1 G1 (upd H1 q0 (SetO w q0 (fun j => decide (j ∈ l)) c)) := Ext.own x1.gh hn
      have x3 := x2.tr (Ext.own (p := p) (o := .lst ((srt (nubI l)).map V.int)) x2.gh hp)
      refine q _ G1 _ (x1.tr x3.up) (s1.mono x3) a1 ⟨p, _, rfl, ?_, x2.gh.none hp, upd_same, dqs_ints _⟩
      cases z : H p with
      | none => rfl
      | some o => exact absurd hp (x2.th p (x1.th p (by rw [z]; simp)))
end
/-! ### a def with defaults -/
theorem FunD.ok0 {P : Program} {w : World} {K : PySem.W.Frag} {mg : Str → Option Value} {base : Heap} {x qual : Str} {params : Arguments} {body : List Stmt} {scope : Scope} {dvs : List V} {kws : List (Str × V)} {f : Addr} {fd : FuncData} {N ps : List Str} {k : Nat} {sp : Sp}
    (F : FunD K x qual params body scope dvs kws f fd) (S : FnScope N ps scope) (len : ∀ vs H Q E, sp vs H Q E → vs.length = ps.length)
    (hbody : ∀ (cdv : Value) (A : Around) (outer : List Env) (s : Shared) (H : Hp) (vs : List V) (Q : VK) (E : XK), Room k (A.deeper (envOfC qual scope s.heap.objs.size f cdv)) → sp vs H Q E →
      ∃ t, PSs (cxOf CX0 P w K mg base N qual scope f cdv A outer s H E).nox body t ∧ t { nx := fun _ H' => Q .non H', rt := Q } (start N vs) H) : FnOk P w K mg base CX0 (k + 1) f fd ps sp :=
  L2.FunD.ok F S len fun cdv A outer s H vs Q E hr hs => by
    obtain ⟨t, h, q⟩ := hbody cdv A outer s H vs Q E hr hs
    exact ⟨t, h.nox, q⟩
end Kn

namespace Kn
open PySem PySem.Spec PyProof.Rows L2
/-! ### the race: the dullest suitable tool does no worse -/
def cntOf (l : List Int) (n : Int) : Int := (l.filter fun t => decide (n ≤ t)).length
theorem cnt_cons (x : Int) (l : List Int) (n : Int) : cntOf (x :: l) n = (if n ≤ x then 1 else 0) + cntOf l n := by
  unfold cntOf
  by_cases h : n ≤ x
  · rw [List.filter_cons_of_pos (by simpa using h), if_pos h, List.length_cons]; omega
  · rw [List.filter_cons_of_neg (by simpa using h), if_neg h]; omega
theorem cap_cnt (l : List Int) (n : Int) : capOf l n - capOf l (n + 1) = cntOf l n := by
  induction l with
  | nil => rw [cap_nil, cap_nil]; simp [cntOf]
  | cons x l ih =>
    rw [cap_cons, cap_cons, cnt_cons]
    split <;> split <;> omega
theorem cnt_mono (l : List Int) {m n : Int} (h : m ≤ n) : cntOf l n ≤ cntOf l m := by
  induction l with
  | nil => simp [cntOf]
  | cons x l ih => rw [cnt_cons, cnt_cons]; split <;> split <;> omega
theorem cnt_pos (l : List Int) (n : Int) : 0 ≤ cntOf l n := by unfold cntOf; omega
theorem cnt_at {l : List Int} {t : Int} (h : t ∈ l) : cntOf l (t + 1) + 1 ≤ cntOf l t := by
  induction l with
  | nil => cases h
  | cons x l ih =>
    rw [cnt_cons, cnt_cons]
    rcases List.mem_cons.mp h with e | h
    · subst e
      have := cnt_mono l (show t ≤ t + 1 by omega)
      rw [if_neg (by omega), if_pos (by omega)]; omega
    · have := ih h
      split <;> split <;> omega
/-- no tool between -/
theorem cnt_gap {l : List Int} {n a : Int} (h : ∀ t ∈ l, n ≤ t → a ≤ t) (hna : n ≤ a) {m : Int} (h1 : n ≤ m) (h2 : m ≤ a) : cntOf l m = cntOf l n := by
  induction l with
  | nil => rfl
  | cons x l ih =>
    have := ih fun t ht => h t (List.mem_cons_of_mem _ ht)
    have := h x List.mem_cons_self
    rw [cnt_cons, cnt_cons]
    split <;> split <;> omega
theorem cap_step (l : List Int) (n : Int) : ∀ k : Nat, (∀ m, n ≤ m → m < n + k → 0 ≤ cntOf l m) → capOf l (n + k) ≤ capOf l n
  | 0, _ => by simp
  | k + 1, h => by
    have h1 := cap_step l n k fun m a b => h m a (by omega)
    have h2 := cap_cnt l (n + k)
    have h3 := cnt_pos l (n + k)
    rw [show n + ((k + 1 : Nat) : Int) = n + k + 1 by omega]
    omega
theorem cap_mono (l : List Int) {m n : Int} (h : m ≤ n) : capOf l n ≤ capOf l m := by
  have := cap_step l m (n - m).toNat fun k _ _ => cnt_pos l k
  rwa [show m + (((n - m).toNat : Nat) : Int) = n by omega] at this
/-- both use a tool: the first one its dullest suitable one -/
theorem race_both {A B : List Int} {d need a t : Int} (hn : 1 ≤ need) (ha : need ≤ a) (hlow : ∀ x ∈ A, need ≤ x → a ≤ x) (ht : t ∈ B) (htn : need ≤ t) (inv : ∀ n, 1 ≤ n → capOf B n - capOf A n ≤ d) {n : Int} (hn1 : 1 ≤ n) :
    (capOf B n - (if n ≤ t then 1 else 0)) - (capOf A n - (if n ≤ a then 1 else 0)) ≤ d := by
  have h0 := inv n hn1
  by_cases h1 : n ≤ t
  · rw [if_pos h1]; split <;> omega
  · by_cases h2 : n ≤ a
    · rw [if_neg h1, if_pos h2]
      apply Classical.byContradiction
      intro hno
      have hd : capOf B n - capOf A n = d := by omega
      -- at n + 1
      have e1 := inv (n + 1) (by omega)
      have c1 := cap_cnt B n
      have c2 := cap_cnt A n
      have g : ∀ m, need ≤ m → m ≤ a → cntOf A m = cntOf A need := fun m h3 h4 => cnt_gap hlow ha h3 h4
      have gn := g n (by omega) h2
      have hB : cntOf A need ≤ cntOf B n := by omega
      -- down to t
      have down : ∀ k : Nat, t + 1 + k ≤ n → d ≤ capOf B (n - k) - capOf A (n - k) := by
        intro k
        induction k with
        | zero => intro _; simp; omega
        | succ k ih =>
          intro hk
          have h5 := ih (by omega)
          have c3 := cap_cnt B (n - (k + 1 : Nat))
          have c4 := cap_cnt A (n - (k + 1 : Nat))
          rw [show n - ((k + 1 : Nat) : Int) + 1 = n - k by omega] at c3 c4
          have g2 := g (n - (k + 1 : Nat)) (by omega) (by omega)
          have g3 := cnt_mono B (show n - ((k + 1 : Nat) : Int) ≤ n by omega)
          omega
      have h6 := down (n - (t + 1)).toNat (by omega)
      rw [show n - (((n - (t + 1)).toNat : Nat) : Int) = t + 1 by omega] at h6
      have c5 := cap_cnt B t
      have c6 := cap_cnt A t
      have g4 := g t htn (by omega)
      have g5 := cnt_at ht
      have g6 := cnt_mono B (show t + 1 ≤ n by omega)
      have := inv t (by omega)
      omega
    · rw [if_neg h1, if_neg h2]; omega
theorem dull_low {l : List Int} {n x : Int} (hx : x ∈ l) (hn : n ≤ x) : pickV false l n ≤ x := by
  have h0 : (suitV l n).length ≠ 0 := by
    have := List.length_pos_of_mem (suit_mem.mpr ⟨hx, hn⟩); omega
  unfold pickV
  rw [if_neg h0, if_neg (by decide)]
  have hm := suit_mem.mpr ⟨hx, hn⟩
  have hs : (suitV l n).Pairwise (· ≥ ·) := srtD_sorted _
  have e2 : (suitV l n)[(suitV l n).length - 1]? = some (suitV l n)[(suitV l n).length - 1] := List.getElem?_eq_getElem (by omega)
  unfold lastI
  rw [e2]
  show (suitV l n)[(suitV l n).length - 1] ≤ x
  obtain ⟨j, hj, e⟩ := List.getElem_of_mem hm
  by_cases hjl : j = (suitV l n).length - 1
  · subst hjl; omega
  · have := List.pairwise_iff_getElem.mp hs j ((suitV l n).length - 1) hj (by omega) (by omega)
    omega
def sgn (x : Int) : Int := if 0 < x then 1 else 0
def cntP (l : List Int) : Int := (l.filter fun x => decide (0 < x)).length
theorem cntP_cons (x : Int) (l : List Int) : cntP (x :: l) = sgn x + cntP l := by
  unfold cntP sgn
  by_cases h : 0 < x
  · rw [List.filter_cons_of_pos (by simpa using h), if_pos h, List.length_cons]; omega
  · rw [List.filter_cons_of_neg (by simpa using h), if_neg h]; omega
/-- marks that may be: 0, or a suitable tool -/
inductive Walk : List Int → List Int → List Int → List Int → Prop
  | nil {l : List Int} : Walk l [] [] l
  | skip {l e row marks : List Int} {n : Int} : Walk l row marks e → Walk l (n :: row) (0 :: marks) e
  | use {l e row marks : List Int} {n m : Int} : m ∈ l → n ≤ m → 1 ≤ n → Walk (wornV l m) row marks e → Walk l (n :: row) (m :: marks) e
theorem race_one {A B : List Int} {d n m : Int} (hn : 1 ≤ n) (hd : 0 ≤ d) (inv : ∀ k, 1 ≤ k → capOf B k - capOf A k ≤ d) (hm : m = 0 ∨ m ∈ B ∧ n ≤ m) :
    0 ≤ d + sgn (pickV false A n) - sgn m ∧ ∀ k, 1 ≤ k → capOf (if m = 0 then B else wornV B m) k - capOf (nextL false A n) k ≤ d + sgn (pickV false A n) - sgn m := by
  by_cases hA : 0 < capOf A n
  · obtain ⟨p1, p2⟩ := pick_some (s := false) hn hA
    have hs : sgn (pickV false A n) = 1 := by unfold sgn; rw [if_pos (by omega)]
    rw [hs]
    rcases hm with rfl | ⟨h1, h2⟩
    · refine ⟨by simp [sgn]; omega, fun k hk => ?_⟩
      rw [cap_next hn hk hA, if_pos rfl]
      have := inv k hk
      simp only [sgn]
      split <;> simp <;> omega
    · have hs2 : sgn m = 1 := by unfold sgn; rw [if_pos (by omega)]
      refine ⟨by omega, fun k hk => ?_⟩
      rw [cap_next hn hk hA, if_neg (by omega), cap_worn h1 hk, hs2]
      have := race_both hn p1 (fun x hx hxn => dull_low hx hxn) h1 h2 inv hk
      omega
  · have hA0 : capOf A n = 0 := by have := cap_pos A n; omega
    have hs : sgn (pickV false A n) = 0 := by rw [pick_none hA0]; rfl
    rw [hs, next_none hA0]
    rcases hm with rfl | ⟨h1, h2⟩
    · refine ⟨by simp [sgn]; omega, fun k hk => ?_⟩
      rw [if_pos rfl]
      have := inv k hk
      simp [sgn]; omega
    · have hs2 : sgn m = 1 := by unfold sgn; rw [if_pos (by omega)]
      have c1 := cap_cnt B m
      have c2 := cnt_at h1
      have c3 := cnt_pos B (m + 1)
      have c4 := cap_mono B h2
      have c5 := inv n hn
      have c6 := cap_pos B (m + 1)
      refine ⟨by omega, fun k hk => ?_⟩
      rw [if_neg (by omega), cap_worn h1 hk, hs2]
      by_cases hkm : k ≤ m
      · rw [if_pos hkm]; have := inv k hk; omega
      · rw [if_neg hkm]
        have := cap_mono B (show m + 1 ≤ k by omega)
        have := cap_pos A k
        omega
theorem race : ∀ {row marks A B e : List Int} {d : Int}, (∀ n ∈ row, 1 ≤ n) → 0 ≤ d → (∀ k, 1 ≤ k → capOf B k - capOf A k ≤ d) → Walk B row marks e →
    0 ≤ d + cntP (picksL false A row) - cntP marks ∧ ∀ k, 1 ≤ k → capOf e k - capOf (endL false A row) k ≤ d + cntP (picksL false A row) - cntP marks
  | [], _, A, B, _, d, _, hd, inv, .nil => by
    have : cntP ([] : List Int) = 0 := rfl
    refine ⟨by show 0 ≤ d + cntP [] - cntP []; omega, fun k hk => ?_⟩
    show _ ≤ d + cntP [] - cntP []
    have := inv k hk
    show capOf B k - capOf A k ≤ _
    omega
  | n :: row, _, A, B, e, d, hr, hd, inv, .skip (marks := marks) w => by
    obtain ⟨h1, h2⟩ := race_one (m := 0) (hr n List.mem_cons_self) hd inv (.inl rfl)
    rw [if_pos rfl] at h2
    have h3 := race (fun x hx => hr x (List.mem_cons_of_mem _ hx)) h1 h2 w
    show 0 ≤ d + cntP (pickV false A n :: picksL false (nextL false A n) row) - cntP (0 :: marks) ∧ ∀ k, 1 ≤ k → capOf e k - capOf (endL false (nextL false A n) row) k ≤ d + cntP (pickV false A n :: picksL false (nextL false A n) row) - cntP (0 :: marks)
    rw [cntP_cons, cntP_cons]
    refine ⟨by omega, fun k hk => ?_⟩
    have := h3.2 k hk
    omega
  | n :: row, _, A, B, e, d, hr, hd, inv, .use (m := m) (marks := marks) hm hnm _ w => by
    have hn := hr n List.mem_cons_self
    obtain ⟨h1, h2⟩ := race_one (m := m) hn hd inv (.inr ⟨hm, hnm⟩)
    rw [if_neg (by omega)] at h2
    have h3 := race (fun x hx => hr x (List.mem_cons_of_mem _ hx)) h1 h2 w
    show 0 ≤ d + cntP (pickV false A n :: picksL false (nextL false A n) row) - cntP (m :: marks) ∧ ∀ k, 1 ≤ k → capOf e k - capOf (endL false (nextL false A n) row) k ≤ d + cntP (pickV false A n :: picksL false (nextL false A n) row) - cntP (m :: marks)
    rw [cntP_cons, cntP_cons]
    refine ⟨by omega, fun k hk => ?_⟩
    have := h3.2 k hk
    omega
/-- what serve picks is such a walk -/
theorem picks_walk (s : Bool) : ∀ {row l : List Int}, (∀ n ∈ row, 1 ≤ n) → Walk l row (picksL s l row) (endL s l row)
  | [], _, _ => .nil
  | n :: row, l, h => by
    have hn := h n List.mem_cons_self
    have ih := fun l' => picks_walk s (row := row) (l := l') fun x hx => h x (List.mem_cons_of_mem _ hx)
    show Walk l (n :: row) (pickV s l n :: picksL s (nextL s l n) row) (endL s (nextL s l n) row)
    by_cases hp : 0 < pickV s l n
    · have e : nextL s l n = wornV l (pickV s l n) := if_pos hp
      rw [e]
      exact .use (pick_in hp).1 (pick_in hp).2 hn (ih _)
    · have e : nextL s l n = l := if_neg hp
      have e0 : pickV s l n = 0 := by
        by_cases h0 : (suitV l n).length = 0
        · unfold pickV; rw [if_pos h0]
        · have := (suit_mem.mp (pick_mem (s := s) h0)).2; omega
      rw [e, e0]
      exact .skip (ih _)
/-- a greater lot performs no fewer -/
theorem serve_more {A B row : List Int} (hr : ∀ n ∈ row, 1 ≤ n) (h : ∀ k, 1 ≤ k → capOf B k ≤ capOf A k) : cntP (picksL false B row) ≤ cntP (picksL false A row) := by
  have := (race (A := A) (d := 0) hr (by decide) (fun k hk => by have := h k hk; omega) (picks_walk false (l := B) hr)).1
  omega
/-- a call whose own list is made on the spot -/
theorem ev_callF {R : List PyData → List PyData → Rv → List PyData → Prop} {E : XK} {b : Bool} {ρ ρ1 ρ2 : En} {te : TE} {ta : TA} {xs ys ds : List PyData} {r : Rv} (h1 : Ev b te ρ (.l xs) ρ1) (h : EvA b ta ρ1 (ds.map Ar.d) ρ2) (hr : R xs ds r ys) :
    Ev b (tCall (spO R) [] E (tCons te ta)) ρ r ρ2 := fun G H σ e st nd Q q =>
  h1 G H σ e st nd _ fun v G1 H1 x1 s1 a1 ⟨p, vs, hv, h0, hg, hh, hd⟩ => by
    have nd1 : (adr ρ1).Nodup := by rw [a1]; exact nd
    refine h G1 H1 σ x1.gh s1 nd1 _ fun us G2 H2 x2 s2 a2 k2 => ?_
    have hp : p ∉ ws b ρ1 := by
      cases b with
      | false => exact List.not_mem_nil
      | true =>
        intro hm
        have hm : p ∈ adr ρ1 := hm
        rw [a1] at hm
        obtain ⟨_, us, hu⟩ := st.own hm
        rw [h0] at hu; cases hu
    have hh2 : H2 p = some (.lst vs) := x2.fr p _ hp hh
    have hg2 : G2 p = none := x2.nw p hp hg (by rw [hh]; simp)
    subst hv
    refine ⟨G2, p, vs, us, xs, ds, r, ys, x2.gh, by rw [List.append_nil], hh2, hg2, dqs_mono x2.gg hd, as_data k2, hr, fun v G3 H3 us' x3 k3 k4 k5 k6 => ?_⟩
    have x0 := x1.then x2 a1
    have hp0 : p ∉ adr ρ2 := by
      rw [a2, a1]
      intro hm
      obtain ⟨_, us, hu⟩ := st.own hm
      rw [h0] at hu; cases hu
    have y3 : Ext (ws b ρ) G H G3 H3 := x0.trans x3 fun q hq => .inr (by rw [List.mem_singleton.mp hq]; exact h0)
    refine q v G3 H3 y3 ?_ (a2.trans a1) (k6.back x0)
    -- the slots do not hold p
    have keep : ∀ {σ : List (Option V)} {ρ : En}, StOk G2 H2 σ ρ → p ∉ adr ρ → StOk G3 H3 σ ρ := by
      intro σ ρ h
      induction h with
      | nil => intro _; exact .nil
      | @cons o s σ ρ h t ih =>
        intro hp
        rw [adr_cons] at hp
        refine .cons ?_ (ih fun z => hp (List.mem_append_right _ z))
        rcases h with h | ⟨v, h1, h2⟩
        · exact .inl h
        · refine .inr ⟨v, h1, ?_⟩
          cases s with
          | un => trivial
          | dat d => exact dq_mono x3.gg h2
          | dc es => exact dc_mono x3.gg h2
          | va u => exact h2
          | kl K ns => obtain ⟨a0, e1, e2⟩ := h2; exact ⟨a0, e1, Ex.sl x3.gg e2⟩
          | mu q zs =>
            obtain ⟨k1, k2, vs, k3, k4⟩ := h2
            have hq : q ∉ [p] := fun z => hp (List.mem_append_left _ (by rw [← List.mem_singleton.mp z]; simp [adr1]))
            exact ⟨k1, x3.nw q hq k2 (by rw [k3]; simp), vs, x3.fr q _ hq k3, dqs_mono x3.gg k4⟩
          | rg r => exact VOk.out h2 x3 fun q hq ha => hp (List.mem_append_left _ (by rw [← List.mem_singleton.mp hq]; exact ha))
    exact keep s2 hp0
theorem ix_ok {n : Nat} {j : Int} (h0 : 0 ≤ j) (h : j < n) : ixN n j = some j.toNat := by
  unfold ixN
  rw [if_pos h0, if_pos h]
theorem at_ok {l : List Int} {j : Int} (h0 : 0 ≤ j) (h : j < l.length) : atI l j = some ((l[j.toNat]?).getD 0) := by
  have e : l[j.toNat]? = some l[j.toNat] := List.getElem?_eq_getElem (by omega)
  unfold atI
  rw [ix_ok h0 h]
  show l[j.toNat]? = _
  rw [e]; rfl
def pickM (l : List Int) (c : Int) : Int := (l[(c % (l.length : Int)).toNat]?).getD 0
theorem at_mod {l : List Int} (hl : 0 < l.length) (c : Int) : atI l (c % (l.length : Int)) = some (pickM l c) ∧ pickM l c ∈ l := by
  have h1 := Int.emod_nonneg c (show (l.length : Int) ≠ 0 by omega)
  have h2 := Int.emod_lt_of_pos c (show (0 : Int) < (l.length : Int) by omega)
  refine ⟨at_ok h1 h2, ?_⟩
  unfold pickM
  rw [List.getElem?_eq_getElem (by omega)]
  exact List.getElem_mem _
theorem room65 {k : Nat} {A : Around} (r : Room k A) : A.units + 65 < cLine := by have := r.un; omega
/-! ### a walk over a list or a tuple -/
def iSq (K : PySem.W.Frag) (tl : TE) : TI := fun σ H R => tl σ H fun x H1 => ∃ a, x = .ref a ∧ (((∃ xs, SqL K H1 a xs) ∧ R (Itl K a) H1) ∨ ((∃ xs, SqT K H1 a xs) ∧ R (Itt K a) H1))
theorem pi_sq {X : Cx} {tg : Expr} {l : Expr} {tl : TE} (hl : PE X l tl) : PI X tg l (iSq X.K tl) := by
  refine ⟨fun pins s σ H R I h => ?_⟩
  refine thn (hl.run pins s σ H _ I h) fun v s1 ⟨x, H1, I1, r1, q1⟩ => ?_
  obtain ⟨a, e, q1⟩ := q1
  subst e
  cases r1
  rcases q1 with ⟨⟨xs, hq⟩, q⟩ | ⟨⟨xs, hq⟩, q⟩
  · obtain ⟨its, rv, p, hz⟩ := I1.list hq
    refine wpAny_pyIter_list p.isList ?_
    refine ⟨s1.heap.objs.size, [s1.heap.objs.size], _, _, H1, rfl, I1.kept (t' := s1.toks) fun b o e => Heap.get?_push_of_some _ e, turn_list a _, ⟨_, Heap.get?_push_size _ rfl, rfl, rfl⟩, fun b hb => ?_, q⟩
    have e : b = s1.heap.objs.size := by simpa using hb
    subst e
    exact I1.fpOk (Nat.le_refl _) (I1.hok.fresh (Nat.le_refl _))
  · obtain ⟨its, rv, p, hz⟩ := I1.tuple hq
    refine wpAny_pyIter_tuple (show s1.heap.IsTuple a its.toArray from p) ?_
    refine ⟨s1.heap.objs.size, [s1.heap.objs.size], _, _, H1, rfl, I1.kept (t' := s1.toks) fun b o e => Heap.get?_push_of_some _ e, turn_tuple a _, ⟨_, Heap.get?_push_size _ rfl, rfl, rfl⟩, fun b hb => ?_, q⟩
    have e : b = s1.heap.objs.size := by simpa using hb
    subst e
    exact I1.fpOk (Nat.le_refl _) (I1.hok.fresh (Nat.le_refl _))
section
variable {b : Bool} {ρ ρ1 : En} {te : TE} {K : PySem.W.Frag}
theorem ei_sqL {xs : List PyData} (h : Ev b te ρ (.d (.list xs)) ρ1) : EvI b (iSq K te) ρ xs ρ1 := fun G H σ e st nd R q =>
  h G H σ e st nd _ fun v G1 H1 x1 s1 a1 k1 => by
    cases k1 with
    | lst ha hs =>
      rename_i a vs
      refine ⟨a, rfl, .inl ⟨⟨vs, .inl (.inl (x1.gh _ _ ha))⟩, q _ G1 H1 x1 s1 a1 fun G2 H2 e1 e2 => ?_⟩⟩
      have hq : SqL K H2 a vs := .inl (.inl (e2 _ _ (e1 _ _ ha)))
      refine ⟨⟨vs, hq, by rw [hs.len]; exact Nat.le_refl _⟩, fun i d hd => ?_⟩
      obtain ⟨v, h1, h2⟩ := hs.get' hd
      refine ⟨⟨vs, v, hq, h1⟩, fun x H3 hy => ?_⟩
      obtain ⟨rfl, hy⟩ := hy
      have hx := hy vs hq
      rw [h1] at hx
      have hx := Option.some.inj hx
      subst hx
      exact ⟨G2, Ext.refl e2, dq_mono e1 h2⟩
theorem ei_sqT {xs : List PyData} (h : Ev b te ρ (.d (.tuple xs)) ρ1) : EvI b (iSq K te) ρ xs ρ1 := fun G H σ e st nd R q =>
  h G H σ e st nd _ fun v G1 H1 x1 s1 a1 k1 => by
    cases k1 with
    | tup ha hs =>
      rename_i a vs
      refine ⟨a, rfl, .inr ⟨⟨vs, .inl (.inl (x1.gh _ _ ha))⟩, q _ G1 H1 x1 s1 a1 fun G2 H2 e1 e2 => ?_⟩⟩
      have hq : SqT K H2 a vs := .inl (.inl (e2 _ _ (e1 _ _ ha)))
      refine ⟨⟨vs, hq, by rw [hs.len]; exact Nat.le_refl _⟩, fun i d hd => ?_⟩
      obtain ⟨v, h1, h2⟩ := hs.get' hd
      refine ⟨⟨vs, v, hq, h1⟩, fun x H3 hy => ?_⟩
      obtain ⟨rfl, hy⟩ := hy
      have hx := hy vs hq
      rw [h1] at hx
      have hx := Option.some.inj hx
      subst hx
      exact ⟨G2, Ext.refl e2, dq_mono e1 h2⟩
end
/-- a list (false) or a tuple (true) -/
abbrev eQ {α : Type} (t : Bool) (e : α → PyData) (l : List α) : PyData := if t = true then eT e l else eL e l
theorem sum_perm {a b : List Int} (h : a.Perm b) : a.sum = b.sum := by
  induction h with
  | nil => rfl
  | cons x _ ih => rw [List.sum_cons, List.sum_cons, ih]
  | swap x y l => rw [List.sum_cons, List.sum_cons, List.sum_cons, List.sum_cons]; omega
  | trans _ _ ih1 ih2 => rw [ih1, ih2]
end Kn

namespace Kn
open PySem PySem.Spec PyProof.Rows L2
/-! ### promises that hold where nothing is being shown (no repr under way) -/
structure RoomG (k : Nat) (A : Around) : Prop where
  r : Room k A
  g : A.guards = some []
theorem RoomG.mono {i j : Nat} {A : Around} (q : RoomG j A) (h : i ≤ j) : RoomG i A := ⟨q.r.mono h, q.g⟩
theorem RoomG.deeper {k : Nat} {A : Around} (q : RoomG (k + 1) A) (env : Env) : RoomG k (A.deeper env) := ⟨q.r.deeper env, q.g⟩
theorem RoomG.units {k : Nat} {A : Around} (q : RoomG k A) : A.units + 64 < cLine := q.r.units
theorem RoomG.units65 {k : Nat} {A : Around} (q : RoomG k A) : A.units + 200 < cLine := by have := q.r.un; omega
structure FnOkG (P : Program) (w : World) (K : PySem.W.Frag) (mg : Str → Option Value) (base : Heap) (CX : CXT) (k : Nat) (f : Addr) (fd : FuncData) (ps : List Str) (sp : Sp) : Prop where
  len : ∀ vs H Q E, sp vs H Q E → vs.length = ps.length
  go : ∀ {A : Around} {outer : List Env} {s : Shared} {H : Hp} {args : Args} {us : List Value} {vs : List V} {Q : VK} {E : XK}, RoomG k A → Env0 P w K mg base A outer s H → BindsTo s fd args (ps.zip us) → Vals vs us →
    sp vs H Q E → codeAny (model P w) A (.call (.ref f) args) (CR CX outer P w H s Q E) s
section
variable {P : Program} {w : World} {K : PySem.W.Frag} {mg : Str → Option Value} {base : Heap} {CX : CXT} {j k : Nat} {f : Addr} {fd : FuncData} {ps N : List Str} {sp : Sp}
theorem FnOkG.mono (F : FnOkG P w K mg base CX j f fd ps sp) (h : j ≤ k) : FnOkG P w K mg base CX k f fd ps sp := ⟨F.len, fun q => F.go (q.mono h)⟩
theorem FnOkG.imp {sp2 : Sp} (F : FnOkG P w K mg base CX k f fd ps sp) (h : ∀ vs H Q E, sp2 vs H Q E → sp vs H Q E) : FnOkG P w K mg base CX k f fd ps sp2 :=
  ⟨fun _ _ _ _ q => F.len _ _ _ _ (h _ _ _ _ q), fun q e b v z => F.go q e b v (h _ _ _ _ z)⟩
/-- a def by its body -/
theorem fnG {name qual : Str} {params : Arguments} {body : List Stmt} {scope : Scope} {dV kV doc pm cdv ct oc : Value} {an od : Option Addr} {osl : Array (Option Value)}
    (at_f : K.lookup f = some ⟨oc, od, .func (PySem.W.fnOf name qual params body scope dV kV doc pm an cdv ct), osl⟩) (code_f : PySem.W.codeIn K cdv qual = true) (S : FnScope N ps scope) (len : ∀ vs H Q E, sp vs H Q E → vs.length = ps.length)
    (walk : ∀ (A : Around) (outer : List Env) (s : Shared) (H : Hp) (vs : List V) (Q : VK) (E : XK), RoomG k (A.deeper (envOfC qual scope s.heap.objs.size f cdv)) → sp vs H Q E →
      ∃ t, PSs (cxOf CX P w K mg base N qual scope f cdv A outer s H E) body t ∧ t { nx := fun _ H2 => Q .non H2, rt := Q } (start N vs) H) :
    FnOkG P w K mg base CX (k + 1) f (PySem.W.fnOf name qual params body scope dV kV doc pm an cdv ct) ps sp := by
  constructor
  · exact len
  intro A outer s H args us vs Q E room at_call binds rel want
  have in_K : K.In s.heap := at_call.mod.kin.keeps fun b o e => (at_call.bs b o e).1
  have bound : ∀ y ∈ ps.zip us, scope.names.lookup y.1 = some .local ∨ (scope.names.lookup y.1 = some .cell ∧ ((cellsFrom (s.heap.objs.size + 1) scope.names []).lookup y.1).isSome = true) := by
    rintro ⟨n, v⟩ hy
    cases S.par n (List.of_mem_zip hy).1 with
    | inl q => exact .inl q
    | inr q => exact .inr ⟨q, PySem.W.cellsFrom_some _ _ _ (.inl q)⟩
  apply codeAny_call_function room.r.depth (in_K _ _ at_f) rfl S.co S.gen rfl (PySem.W.codeRec_of in_K code_f)
  apply binds
  apply wpAny_newFunctionEnv_cells S.kind bound
  rintro env rfl s1 made
  constructor
  · exact (at_call.mod.nolimit.keeps fun b o e => (at_call.bs b o e).1).keeps made.toInCall.keep
  apply codeAny_func
  obtain ⟨t, run_t, end_t⟩ := walk A outer s H vs Q E (room.deeper _) want
  have begun : Inv (cxOf CX P w K mg base N qual scope f cdv A outer s H E) [] (start N vs) H s1 := inv_start S room.r.hd at_call (len _ _ _ _ want) rel made
  refine wpAny_mono (run_t.run [] s1 (start N vs) H _ begun end_t) ?_ (fun _ _ z => z)
  rintro (_ | _ | _ | u) s2 hs
  all_goals first
    | exact (let ⟨_, _, _, J, rv, z⟩ := hs; (⟨_, _, J.os, J.bare, J.base, J.hok, rv, z⟩ : CE outer P w H s Q _ s2))
    | exact (let ⟨_, _, J, z⟩ := hs; (⟨V.non, _, J.os, J.bare, J.base, J.hok, rfl, z⟩ : CE outer P w H s Q Value.none s2))
    | exact (let ⟨_, _, _, z⟩ := hs; False.elim z)
theorem funG {x qual : Str} {st : Stmt} (F : Fun K x qual st f fd) (S : FnScope N ps (defScope st)) (len : ∀ vs H Q E, sp vs H Q E → vs.length = ps.length)
    (walk : ∀ (cdv : Value) (A : Around) (outer : List Env) (s : Shared) (H : Hp) (vs : List V) (Q : VK) (E : XK), RoomG k (A.deeper (envOfC qual (defScope st) s.heap.objs.size f cdv)) → sp vs H Q E →
      ∃ t, PSs (cxOf CX P w K mg base N qual (defScope st) f cdv A outer s H E) (defBody st) t ∧ t { nx := fun _ H2 => Q .non H2, rt := Q } (start N vs) H) : FnOkG P w K mg base CX (k + 1) f fd ps sp := by
  obtain ⟨_, _, _, _, _, _, cdv, _, _, rfl, at_f, code_f⟩ := F.ex
  exact fnG at_f code_f S len fun A outer s H vs Q E room want => walk cdv A outer s H vs Q E room want
theorem funG0 {x qual : Str} {st : Stmt} (F : Fun K x qual st f fd) (S : FnScope N ps (defScope st)) (len : ∀ vs H Q E, sp vs H Q E → vs.length = ps.length)
    (walk : ∀ (cdv : Value) (A : Around) (outer : List Env) (s : Shared) (H : Hp) (vs : List V) (Q : VK) (E : XK), RoomG k (A.deeper (envOfC qual (defScope st) s.heap.objs.size f cdv)) → sp vs H Q E →
      ∃ t, PSs (cxOf CX0 P w K mg base N qual (defScope st) f cdv A outer s H E).nox (defBody st) t ∧ t { nx := fun _ H2 => Q .non H2, rt := Q } (start N vs) H) : FnOkG P w K mg base CX0 (k + 1) f fd ps sp :=
  funG F S len fun cdv A outer s H vs Q E room want => let ⟨t, h, z⟩ := walk cdv A outer s H vs Q E room want; ⟨t, h.nox, z⟩
theorem funDG {x qual : Str} {params : Arguments} {body : List Stmt} {scope : Scope} {dvs : List V} {kws : List (Str × V)} (F : FunD K x qual params body scope dvs kws f fd) (S : FnScope N ps scope) (len : ∀ vs H Q E, sp vs H Q E → vs.length = ps.length)
    (walk : ∀ (cdv : Value) (A : Around) (outer : List Env) (s : Shared) (H : Hp) (vs : List V) (Q : VK) (E : XK), RoomG k (A.deeper (envOfC qual scope s.heap.objs.size f cdv)) → sp vs H Q E →
      ∃ t, PSs (cxOf CX P w K mg base N qual scope f cdv A outer s H E) body t ∧ t { nx := fun _ H2 => Q .non H2, rt := Q } (start N vs) H) : FnOkG P w K mg base CX (k + 1) f fd ps sp := by
  obtain ⟨_, _, _, _, _, _, _, cdv, _, _, rfl, at_f, code_f, _, _⟩ := F.ex
  exact fnG at_f code_f S len fun A outer s H vs Q E room want => walk cdv A outer s H vs Q E room want
end
/-! ### calls -/
section
variable {X : Cx} {CX : CXT} {k : Nat} {f : Addr} {fd : FuncData} {ps : List Str} {sp : Sp} {dvs : List V} {ds : List Value} {E : L2.St → XK} {x : Str} {p pos : Pos} {e : Expr} {es : List Expr} {t : TA}
theorem goG {pins : List (Addr × Obj)} {σ : L2.St} {H : Hp} {s : Shared} {Q : VK} {E1 : XK} {args : Args} {us : List Value} {vs : List V} (F : FnOkG X.prog X.w X.K X.mg X.base CX k f fd ps sp) (room : RoomG k X.A) (pass : PassesAt CX X σ E1)
    (I : Inv X pins σ H s) (binds : BindsTo s fd args (ps.zip us)) (rel : Vals vs us) (want : sp vs H Q E1) : codeAny (model X.prog X.w) X.A (.call (.ref f) args) (fun r s2 => match r with | .ok (.ret u) => EP X pins σ Q u s2 | .ok _ => False | .error e => X.xe e s2) s := by
  refine codeAny_mono (F.go room I.env0 binds rel want) ?_
  rintro (e | (_ | _ | _ | u)) s2 z
  all_goals first
    | exact I.after z
    | exact pass pins H s e s2 I z
    | exact False.elim z
theorem run_fnSG {pins : List (Addr × Obj)} {σ : L2.St} {H : Hp} {s : Shared} {Q : VK} {us : List Value} {vs : List V} (F : FnOkG X.prog X.w X.K X.mg X.base CX k f fd ps sp) (room : RoomG k X.A) (bind : Binds X.K fd ps ds) (dfl : Vals dvs ds) (pass : PassesAt CX X σ (E σ))
    (I : Inv X pins σ H s) (rel : Vals vs us) (want : sp (vs ++ dvs) H Q (E σ)) : wpAny (model X.prog X.w) X.A (call (.ref f) us) (EP X pins σ Q) X.xe s := by
  have rel2 := rel.append dfl
  have many : (us ++ ds).length = ps.length := rel2.length.symm.trans (F.len _ _ _ _ want)
  refine wpAny_call (codeAny_mono (goG F room pass I (bind s us I.kIn many) rel2 want) ?_)
  rintro (e | (_ | _ | _ | u)) s2 z <;> exact z
theorem pe_callSG (F : FnOkG X.prog X.w X.K X.mg X.base CX k f fd ps sp) (room : RoomG k X.A) (glob : Gl X x) (at_x : X.mg x = some (.ref f)) (kept : PySem.W.keepIn X.K (.ref f) = true) (bind : Binds X.K fd ps ds) (dfl : Vals dvs ds) (pass : ∀ σ, PassesAt CX X σ (E σ))
    (args : PA X (e :: es) t) (hdb : (x == ("__debug__" : Str)) = false := by decide) (first1 : starEach (e :: es) X.env = (false, eval e X.env) :: starEach es X.env := by rfl) (nostar : (backTo pos (starEach es X.env)).any (·.1) = false := by rfl) :
    PE X (.Call (.Name x p) (e :: es) [] pos) (tCallSD sp dvs E t) := by
  constructor
  intro pins s σ H Q I want
  apply wpAny_Call_Name_kw (ld_glob I glob at_x ?_ hdb)
  refine PySem.W.callWith_K (h₀ := X.base) I.ok.mod.kin kept (thn (args.run pos pins s σ H _ I want) ?_) first1 nostar
  rintro us s1 ⟨vs, H1, I1, rel, z⟩
  exact ⟨I1.kIn, run_fnSG F room bind dfl (pass σ) I1 rel z⟩
end
/-! ### the law's own call -/
theorem law_callG0 {P : Program} {w : World} {K : PySem.W.Frag} {mg mb : Str → Option Value} {CX : CXT} {k : Nat} {fa a : Addr} {fd : FuncData} {x : Str} {sp : Sp} {s : Shared} {vs : List Value} {H : Hp}
    (KX : K.In s.heap) (hns : s.heap.Ns mainGlobals mg) (hb : s.heap.Ns builtinsNs mb) (hbb : ∀ x : Str, x ≠ "__name__" → mb x = bootBuiltins x) (hlim : s.heap.NoLimit) (hg : s.gens = #[])
    (ha : s.heap.get? a = some { cls := .type "list", data := .seq vs.toArray }) (room : Room k callerA) (F : ∀ base : Heap, K.In base → base.Ns mainGlobals mg → FnOkG P w K mg base CX k fa fd [x] sp) (bind : ∀ (s : Shared) (u : Value), BindsTo s fd ⟨[u], []⟩ [(x, u)])
    (want : sp [.ref a] H (fun v _ => v = .bl true) fun _ _ _ => False) (hCX : ∀ e s2, CX [] H s (fun _ _ _ => False) e s2 → False)
    (only : Only H) (ok : HOk P w H s.heap) (at_a : ∀ b, H b ≠ none → b = a) (not_K : H a ≠ none → K.lookup a = none) :
    codeAny (model P w) callerA (.call (.ref fa) ⟨[.ref a], []⟩) (fun r s2 => r = .ok (.ret (.bool true)) ∧ OldK s.heap s2.heap ∧ s2.os = s.os ∧ AllBare s2.gens) s := by
  have keep : ∀ {b : Addr} {o : Obj}, s.heap.get? b = some o → (b = a → H b = none) → (hidT s.heap H).get? b = some o := fun {b o} e n => hidT_get e (by
    apply Classical.byContradiction
    intro z
    exact z (n (at_a b z)))
  have dic : ∀ {b : Addr} {m : Str → Option Value}, s.heap.Ns b m → (hidT s.heap H).Ns b m := by
    rintro b m ⟨o, es, ep, e, d, r⟩
    refine ⟨o, es, ep, keep e ?_, d, r⟩
    rintro rfl
    rw [ha] at e
    cases e
    have d2 : Data.seq vs.toArray _ = Data.dict es ep := d
    cases d2
  have in_K : K.In (hidT s.heap H) := fun b o e => keep (KX b o e) (by
    rintro rfl
    apply Classical.byContradiction
    intro z
    rw [not_K z] at e
    cases e)
  have modu : Mod K mg (hidT s.heap H) := ⟨in_K, dic hns, ⟨mb, dic hb, hbb⟩, let ⟨m, h1, h2⟩ := hlim; ⟨m, dic h1, h2⟩⟩
  have start0 : Env0 P w K mg (hidT s.heap H) callerA [] s H := ⟨rfl, modu, fun _ _ e => of_hidT e, Nat.le_of_eq (hidT_size _ _), trivial, (fun _ z => by cases z), ok, .of_eq hg⟩
  refine codeAny_mono ((F _ in_K (dic hns)).go ⟨room, rfl⟩ start0 (bind s (.ref a)) (us := [.ref a]) (vs := [.ref a]) (.cons rfl .nil) want) ?_
  rintro (e | (_ | _ | _ | u)) s2 z
  all_goals first
    | exact (hCX e s2 z).elim
    | exact False.elim z
    | skip
  obtain ⟨v, H2, os, bare, un, ok2, rel, q⟩ := z
  have q2 : v = .bl true := q
  subst q2
  have e1 : u = Value.bool true := rel
  subst e1
  refine ⟨rfl, OldK.of_keep ?_, os, bare⟩
  intro b o e
  cases q : H b with
  | none => exact un.keep b o e q (by intro z; cases z) (by simp)
  | some c =>
    rcases only b with z | ⟨ob, xs, z⟩
    · rw [q] at z; cases z
    · obtain ⟨e1, _⟩ := ok b _ z
      obtain ⟨e2, _⟩ := ok2 b _ (un.frzs b ob _ z)
      rw [e] at e1
      cases e1
      exact e2
theorem law_callG {P : Program} {w : World} {K : PySem.W.Frag} {mg mb : Str → Option Value} {CX : CXT} {k : Nat} {fa a : Addr} {fd : FuncData} {x : Str} {sp : Sp} {s : Shared} {vs : List Value} {ns : List Int}
    (KX : K.In s.heap) (hns : s.heap.Ns mainGlobals mg) (hb : s.heap.Ns builtinsNs mb) (hbb : ∀ x : Str, x ≠ "__name__" → mb x = bootBuiltins x) (hlim : s.heap.NoLimit) (hg : s.gens = #[])
    (ha : s.heap.get? a = some { cls := .type "list", data := .seq vs.toArray }) (hi : IntsAre vs ns) (hl : ns.length ≤ sizeLine) (room : Room k callerA)
    (F : ∀ base : Heap, K.In base → base.Ns mainGlobals mg → FnOkG P w K mg base CX k fa fd [x] sp) (bind : ∀ (s : Shared) (u : Value), BindsTo s fd ⟨[u], []⟩ [(x, u)])
    (want : ∀ H : Hp, Only H → SqL K H a (ns.map V.int) → sp [.ref a] H (fun v _ => v = .bl true) fun _ _ _ => False) (hCX : ∀ H e s2, CX [] H s (fun _ _ _ => False) e s2 → False) :
    codeAny (model P w) callerA (.call (.ref fa) ⟨[.ref a], []⟩) (fun r s2 => r = .ok (.ret (.bool true)) ∧ OldK s.heap s2.heap ∧ s2.os = s.os ∧ AllBare s2.gens) s := by
  have rv := vals_ints hi
  have lv := hi.length
  cases hk : K.lookup a with
  | some o =>
    have e := KX a o hk
    rw [ha] at e
    cases e
    have no : ∀ b, (fun _ => none : Hp) b ≠ none → b = a := fun _ z => absurd rfl z
    exact law_callG0 (H := fun _ => none) KX hns hb hbb hlim hg ha room F bind (want _ (fun _ => .inl rfl) (.inr ⟨_, vs.toArray, _, hk, rfl, rfl, rfl, by rw [List.size_toArray, lv]; exact hl, by simpa using rv⟩)) (hCX _) (fun _ => .inl rfl)
      (fun b u z => by cases (show (none : Option HO) = some u from z)) no (fun z => absurd rfl z)
  | none =>
    have only : Only (fun b => if b = a then some (.frz { cls := .type "list", data := .seq vs.toArray } (.lst (ns.map V.int))) else none) := fun b => by
      by_cases hb : b = a
      · exact .inr ⟨_, _, if_pos hb⟩
      · exact .inl (if_neg hb)
    refine law_callG0 KX hns hb hbb hlim hg ha room F bind (want _ only (.inl (.inr ⟨{ cls := .type "list", data := .seq vs.toArray }, if_pos rfl⟩))) (hCX _) only ?_ ?_ (fun _ => hk)
    · intro b u z
      by_cases hb : b = a
      · cases (if_pos hb).symm.trans z
        subst hb
        exact ⟨ha, by rw [List.length_map]; exact hl, vs, _, rv, ha⟩
      · cases (if_neg hb).symm.trans z
    · intro b z
      apply Classical.byContradiction
      intro hb
      exact z (if_neg hb)
theorem walk_ofG {l : PySem.W.OpenLaw} {n k : Nat} {q : Program} {loose : List Str} {XP : (Str → Option Value) → Heap → Prop} {YP : World → Heap → Prop} {d : DefRec} {K : Params → PySem.W.Frag} {CX : CXT} {sp : PySem.W.Frag → Sp} {x : Str}
    (most : l.most = some n) (small : n ≤ sizeLine) (nodef : d.params.defaults = []) (room : Room k callerA) (hY : ∀ (w : World) (h : Heap), YP w h → (K w.params).In h)
    (F : ∀ (w : World) (mg : Str → Option Value) (fa : Addr) (h : Heap), (K w.params).In h → h.Ns mainGlobals mg → mg d.name = some (.ref fa) →
      ∃ fd : FuncData, (∀ (s : Shared) (u : Value), BindsTo s fd ⟨[u], []⟩ [(x, u)]) ∧ ∀ base : Heap, (K w.params).In base → base.Ns mainGlobals mg → FnOkG l.prog w (K w.params) mg base CX k fa fd [x] (sp (K w.params)))
    (want : ∀ (K : PySem.W.Frag) (H : Hp) (a : Addr) (ns : List Int), ns.length ≤ n → Only H → SqL K H a (ns.map V.int) → sp K [.ref a] H (fun v _ => v = .bl true) fun _ _ _ => False)
    (hCX : ∀ (H : Hp) (s : Shared) (e : Value) (s' : Shared), CX [] H s (fun _ _ _ => False) e s' → False) : PySem.W.WalkO q loose XP YP l.row.toRowW d [] (fun f vs => PySem.call f vs) := by
  refine Att.attach_call most nodef ?_
  intro w s₀ s₁ mg mb fa o pm cd doc a vs ns G Y ho hd hcd hmg hobj hints hlen hg
  obtain ⟨fd, bind, hF⟩ := F w mg fa _ (hY w _ Y) G.T.g hmg
  exact law_callG (hY w _ Y) G.T.g G.T.b G.T.builtins G.T.nolimit hg hobj hints (Nat.le_trans hlen small) room hF bind (fun H hO hS => want _ H a ns hlen hO hS) (fun H e s2 => hCX H s₁ e s2)
end Kn

namespace Kn
open PySem

/-! ### the mirror: what a def computes, in plain Lean -/
abbrev D := PyData
structure Xc where
  cls : Str
  fs : List (Str × PyData)
inductive R (α : Type) where
  | ok (a : α)
  | ex (e : Xc)
  | bad
namespace R
variable {α β γ : Type}
def bind (m : R α) (f : α → R β) : R β := match m with
  | .ok a => f a
  | .ex e => .ex e
  | .bad => .bad
def nox (m : R α) : R α := match m with
  | .ok a => .ok a
  | _ => .bad
@[simp] theorem ok_bind (a : α) (f : α → R β) : (R.ok a).bind f = f a := rfl
@[simp] theorem ex_bind (e : Xc) (f : α → R β) : (R.ex e : R α).bind f = .ex e := rfl
@[simp] theorem bad_bind (f : α → R β) : (R.bad : R α).bind f = .bad := rfl
@[simp] theorem ok_nox (a : α) : (R.ok a).nox = .ok a := rfl
@[simp] theorem bind_ok (m : R α) : m.bind R.ok = m := by cases m <;> rfl
theorem bind_assoc (m : R α) (f : α → R β) (g : β → R γ) : (m.bind f).bind g = m.bind fun a => (f a).bind g := by cases m <;> rfl
theorem bind_eq_ok {m : R α} {f : α → R β} {b : β} (h : m.bind f = .ok b) : ∃ a, m = .ok a ∧ f a = .ok b := by
  cases m with
  | ok a => exact ⟨a, rfl, h⟩
  | ex e => cases h
  | bad => cases h
theorem bind_eq_ex {m : R α} {f : α → R β} {e : Xc} (h : m.bind f = .ex e) : m = .ex e ∨ ∃ a, m = .ok a ∧ f a = .ex e := by
  cases m with
  | ok a => exact .inr ⟨a, rfl, h⟩
  | ex e => cases h; exact .inl rfl
  | bad => cases h
end R
/-- how a statement ends -/
inductive Ct (N L : Type) where
  | nx (s : N)
  | rt (r : Rv) (o : List PyData)
  | bk (s : L)
  | ct (s : L)
section
variable {N M L α : Type}
/-- one statement, then another -/
def sq (m : R (Ct M L)) (k : M → R (Ct N L)) : R (Ct N L) := m.bind fun c => match c with
  | .nx s => k s
  | .rt r o => .ok (.rt r o)
  | .bk s => .ok (.bk s)
  | .ct s => .ok (.ct s)
@[simp] theorem sq_nx (s : M) (k : M → R (Ct N L)) : sq (.ok (.nx s)) k = k s := rfl
@[simp] theorem sq_rt (r : Rv) (o : List PyData) (k : M → R (Ct N L)) : sq (.ok (.rt r o)) k = .ok (.rt r o) := rfl
@[simp] theorem sq_bk (s : L) (k : M → R (Ct N L)) : sq (.ok (.bk s)) k = .ok (.bk s) := rfl
@[simp] theorem sq_ct (s : L) (k : M → R (Ct N L)) : sq (.ok (.ct s)) k = .ok (.ct s) := rfl
@[simp] theorem sq_ex (e : Xc) (k : M → R (Ct N L)) : sq (.ex e : R (Ct M L)) k = .ex e := rfl
@[simp] theorem sq_bind (m : R α) (f : α → R (Ct M L)) (k : M → R (Ct N L)) : sq (m.bind f) k = m.bind fun a => sq (f a) k := R.bind_assoc ..
@[simp] theorem sq_ite (b : Prop) [Decidable b] (x y : R (Ct M L)) (k : M → R (Ct N L)) : sq (if b then x else y) k = if b then sq x k else sq y k := by by_cases h : b <;> simp [h]
/-- a block that is always left -/
def exit (m : R (Ct Empty L)) : R (Ct N L) := m.bind fun c => match c with
  | .nx s => s.elim
  | .rt r o => .ok (.rt r o)
  | .bk s => .ok (.bk s)
  | .ct s => .ok (.ct s)
@[simp] theorem exit_rt (r : Rv) (o : List PyData) : (exit (.ok (.rt r o)) : R (Ct N L)) = .ok (.rt r o) := rfl
@[simp] theorem exit_bk (s : L) : (exit (.ok (.bk s)) : R (Ct N L)) = .ok (.bk s) := rfl
@[simp] theorem exit_ct (s : L) : (exit (.ok (.ct s)) : R (Ct N L)) = .ok (.ct s) := rfl
@[simp] theorem exit_ex (e : Xc) : (exit (.ex e : R (Ct Empty L)) : R (Ct N L)) = .ex e := rfl
@[simp] theorem exit_bind (m : R α) (f : α → R (Ct Empty L)) : (exit (m.bind f) : R (Ct N L)) = m.bind fun a => exit (f a) := R.bind_assoc ..
@[simp] theorem exit_ite (b : Prop) [Decidable b] (x y : R (Ct Empty L)) : (exit (if b then x else y) : R (Ct N L)) = if b then exit x else exit y := by by_cases h : b <;> simp [h]
end
section
variable {S L : Type}
/-- for: s what is carried on -/
def forM : List D → S → (S → D → R (Ct S S)) → R (Ct S L)
  | [], s, _ => .ok (.nx s)
  | x :: xs, s, f => (f s x).bind fun c => match c with
    | .nx s' => forM xs s' f
    | .ct s' => forM xs s' f
    | .bk s' => .ok (.nx s')
    | .rt r o => .ok (.rt r o)
def whileM : Nat → S → (S → R Bool) → (S → R (Ct S S)) → R (Ct S L)
  | 0, _, _, _ => .bad
  | n + 1, s, t, f => (t s).bind fun b => if b = true then (f s).bind fun c => match c with
      | .nx s' => whileM n s' t f
      | .ct s' => whileM n s' t f
      | .bk s' => .ok (.nx s')
      | .rt r o => .ok (.rt r o)
    else .ok (.nx s)
end
/-- what a body hands over -/
def rvD : Rv → R D
  | .d d => .ok d
  | _ => .bad
def rvL : Rv → R (List D)
  | .l xs => .ok xs
  | _ => .bad
def outD (m : R (Ct Unit Empty)) : R D := m.bind fun c => match c with
  | .nx _ => .ok .none
  | .rt r _ => rvD r
  | .bk s => s.elim
  | .ct s => s.elim
def outL (m : R (Ct Unit Empty)) : R (List D) := m.bind fun c => match c with
  | .nx _ => .bad
  | .rt r _ => rvL r
  | .bk s => s.elim
  | .ct s => s.elim
def outDO (m : R (Ct (List D) Empty)) : R (D × List D) := m.bind fun c => match c with
  | .nx o => .ok (.none, o)
  | .rt r o => (rvD r).bind fun d => .ok (d, o)
  | .bk s => s.elim
  | .ct s => s.elim
def outLO (m : R (Ct (List D) Empty)) : R (List D × List D) := m.bind fun c => match c with
  | .nx _ => .bad
  | .rt r o => (rvL r).bind fun d => .ok (d, o)
  | .bk s => s.elim
  | .ct s => s.elim
def rvO : Rv → R D
  | .o d => .ok d
  | _ => .bad
def outO (m : R (Ct Unit Empty)) : R D := m.bind fun c => match c with
  | .nx _ => .bad
  | .rt r _ => rvO r
  | .bk s => s.elim
  | .ct s => s.elim
section
variable {α : Type}
@[simp] theorem outO_rt (d : D) (o : List D) : outO (.ok (.rt (.o d) o)) = .ok d := rfl
@[simp] theorem outO_ex (e : Xc) : outO (.ex e) = .ex e := rfl
@[simp] theorem outO_bind (m : R α) (f : α → R (Ct Unit Empty)) : outO (m.bind f) = m.bind fun a => outO (f a) := R.bind_assoc ..
@[simp] theorem outO_ite (b : Prop) [Decidable b] (x y : R (Ct Unit Empty)) : outO (if b then x else y) = if b then outO x else outO y := by by_cases h : b <;> simp [h]
@[simp] theorem outD_rt (d : D) (o : List D) : outD (.ok (.rt (.d d) o)) = .ok d := rfl
@[simp] theorem outD_nx (u : Unit) : outD (.ok (.nx u)) = .ok .none := rfl
@[simp] theorem outD_ex (e : Xc) : outD (.ex e) = .ex e := rfl
@[simp] theorem outD_bind (m : R α) (f : α → R (Ct Unit Empty)) : outD (m.bind f) = m.bind fun a => outD (f a) := R.bind_assoc ..
@[simp] theorem outD_ite (b : Prop) [Decidable b] (x y : R (Ct Unit Empty)) : outD (if b then x else y) = if b then outD x else outD y := by by_cases h : b <;> simp [h]
@[simp] theorem outL_rt (d : List D) (o : List D) : outL (.ok (.rt (.l d) o)) = .ok d := rfl
@[simp] theorem outL_ex (e : Xc) : outL (.ex e) = .ex e := rfl
@[simp] theorem outL_bind (m : R α) (f : α → R (Ct Unit Empty)) : outL (m.bind f) = m.bind fun a => outL (f a) := R.bind_assoc ..
@[simp] theorem outL_ite (b : Prop) [Decidable b] (x y : R (Ct Unit Empty)) : outL (if b then x else y) = if b then outL x else outL y := by by_cases h : b <;> simp [h]
@[simp] theorem outDO_rt (d : D) (o : List D) : outDO (.ok (.rt (.d d) o)) = .ok (d, o) := rfl
@[simp] theorem outDO_nx (o : List D) : outDO (.ok (.nx o)) = .ok (.none, o) := rfl
@[simp] theorem outDO_ex (e : Xc) : outDO (.ex e) = .ex e := rfl
@[simp] theorem outDO_bind (m : R α) (f : α → R (Ct (List D) Empty)) : outDO (m.bind f) = m.bind fun a => outDO (f a) := R.bind_assoc ..
@[simp] theorem outDO_ite (b : Prop) [Decidable b] (x y : R (Ct (List D) Empty)) : outDO (if b then x else y) = if b then outDO x else outDO y := by by_cases h : b <;> simp [h]
@[simp] theorem outLO_rt (d : List D) (o : List D) : outLO (.ok (.rt (.l d) o)) = .ok (d, o) := rfl
@[simp] theorem outLO_ex (e : Xc) : outLO (.ex e) = .ex e := rfl
@[simp] theorem outLO_bind (m : R α) (f : α → R (Ct (List D) Empty)) : outLO (m.bind f) = m.bind fun a => outLO (f a) := R.bind_assoc ..
@[simp] theorem outLO_ite (b : Prop) [Decidable b] (x y : R (Ct (List D) Empty)) : outLO (if b then x else y) = if b then outLO x else outLO y := by by_cases h : b <;> simp [h]
end

/-! ### the operations -/
def intsOf : List D → Option (List Int)
  | [] => some []
  | .int i :: r => (intsOf r).map (i :: ·)
  | _ :: _ => none
def boolsOf : List D → Option (List Bool)
  | [] => some []
  | .bool i :: r => (boolsOf r).map (i :: ·)
  | _ :: _ => none
@[simp] theorem intsOf_map (l : List Int) : intsOf (l.map .int) = some l := by
  induction l with
  | nil => rfl
  | cons x l ih => simp [intsOf, ih]
@[simp] theorem boolsOf_map (l : List Bool) : boolsOf (l.map .bool) = some l := by
  induction l with
  | nil => rfl
  | cons x l ih => simp [boolsOf, ih]
theorem of_intsOf : ∀ {xs : List D} {l : List Int}, intsOf xs = some l → xs = l.map .int
  | [], l, h => by simp [intsOf] at h; simp [h]
  | .int i :: r, l, h => by
    cases e : intsOf r with
    | none => simp [intsOf, e] at h
    | some l' => simp [intsOf, e] at h; rw [← h, of_intsOf e]; rfl
  | .none :: r, l, h => by simp [intsOf] at h
  | .bool _ :: r, l, h => by simp [intsOf] at h
  | .str _ :: r, l, h => by simp [intsOf] at h
  | .list _ :: r, l, h => by simp [intsOf] at h
  | .tuple _ :: r, l, h => by simp [intsOf] at h
  | .dict _ :: r, l, h => by simp [intsOf] at h
theorem of_boolsOf : ∀ {xs : List D} {l : List Bool}, boolsOf xs = some l → xs = l.map .bool
  | [], l, h => by simp [boolsOf] at h; simp [h]
  | .bool i :: r, l, h => by
    cases e : boolsOf r with
    | none => simp [boolsOf, e] at h
    | some l' => simp [boolsOf, e] at h; rw [← h, of_boolsOf e]; rfl
  | .none :: r, l, h => by simp [boolsOf] at h
  | .int _ :: r, l, h => by simp [boolsOf] at h
  | .str _ :: r, l, h => by simp [boolsOf] at h
  | .list _ :: r, l, h => by simp [boolsOf] at h
  | .tuple _ :: r, l, h => by simp [boolsOf] at h
  | .dict _ :: r, l, h => by simp [boolsOf] at h
/-- a list or a tuple -/
def seqOf : D → Option (List D)
  | .list xs => some xs
  | .tuple xs => some xs
  | _ => none
def addD : D → D → R D
  | .int i, .int j => .ok (.int (i + j))
  | .list a, .list b => if a.length + b.length ≤ 1000000 then .ok (.list (a ++ b)) else .bad
  | .tuple a, .tuple b => if a.length + b.length ≤ 1000000 then .ok (.tuple (a ++ b)) else .bad
  | _, _ => .bad
def addL : D → D → R (List D)
  | .list a, .list b => if a.length + b.length ≤ 1000000 then .ok (a ++ b) else .bad
  | _, _ => .bad
def subD : D → D → R D
  | .int i, .int j => .ok (.int (i - j))
  | _, _ => .bad
def mulD : D → D → R D
  | .int i, .int j => if (-(2 ^ 64) < i ∧ i < 2 ^ 64) ∨ (-(2 ^ 64) < j ∧ j < 2 ^ 64) then .ok (.int (i * j)) else if i.natAbs.log2 + j.natAbs.log2 < 1000000 then .ok (.int (i * j)) else .bad
  | .list a, .int k => if (k < 1000000 ∧ -1000000 < k) ∧ a.length * k.toNat ≤ 1000000 then .ok (.list (List.replicate k.toNat a).flatten) else .bad
  | .tuple a, .int k => if (2 ≤ k ∧ k ≤ 1000) ∧ a.length ≠ 0 ∧ a.length ≤ 1000 then .ok (.tuple (List.replicate k.toNat a).flatten) else if (k = 1 ∨ a = []) ∧ -1000 ≤ k ∧ k ≤ 1000 then .ok (.tuple a) else if a ≠ [] ∧ -1000 ≤ k ∧ k ≤ 0 then .ok (.tuple []) else .bad
  | _, _ => .bad
def mulL : D → D → R (List D)
  | .list a, .int k => if (k < 1000000 ∧ -1000000 < k) ∧ a.length * k.toNat ≤ 1000000 then .ok (List.replicate k.toNat a).flatten else .bad
  | _, _ => .bad
def fdivD : D → D → R D
  | .int i, .int j => if 0 < j ∧ j < 1073741824 then .ok (.int (i / j)) else .bad
  | _, _ => .bad
def modD : D → D → R D
  | .int i, .int j => if 0 < j then .ok (.int (i % j)) else .bad
  | _, _ => .bad
def powD : D → D → R D
  | .int i, .int j => if 0 ≤ j ∧ j ≤ 1000000 ∧ i.natAbs < 2 ^ 64 then .ok (.int (i ^ j.toNat)) else .bad
  | _, _ => .bad
def negD : D → R D
  | .int i => .ok (.int (-i))
  | _ => .bad
def ltD : D → D → R Bool
  | .int i, .int j => .ok (decide (i < j))
  | _, _ => .bad
def leD : D → D → R Bool
  | .int i, .int j => .ok (decide (i ≤ j))
  | _, _ => .bad
def gtD : D → D → R Bool
  | .int i, .int j => .ok (decide (i > j))
  | _, _ => .bad
def geD : D → D → R Bool
  | .int i, .int j => .ok (decide (i ≥ j))
  | _, _ => .bad
def bothS : D → D → Bool
  | .str _, .str _ => true
  | _, _ => false
def eqD (a b : D) : R Bool := if (SeqAt.shaped a = true ∧ SeqAt.shaped b = true) ∨ bothS a b = true then .ok (PyData.eqv a b) else .bad
def neD (a b : D) : R Bool := if (SeqAt.shaped a = true ∧ SeqAt.shaped b = true) ∨ bothS a b = true then .ok (!PyData.eqv a b) else .bad
def isM : D → D → R Bool
  | a, .none => .ok (isN a)
  | .bool a, .bool b => .ok (decide (a = b))
  | _, _ => .bad
def noM : D → D → R Bool
  | a, .none => .ok (!isN a)
  | .bool a, .bool b => .ok (!decide (a = b))
  | _, _ => .bad
def flatD : D → Bool
  | .none => true
  | .bool _ => true
  | .int _ => true
  | .str _ => true
  | _ => false
def inD : D → D → R Bool
  | x, .list ys => if SeqAt.shaped x = true ∧ SeqAt.shaped (.list ys) = true then .ok (ys.any fun y => PyData.eqv y x) else .bad
  | x, .tuple ys => if flatD x = true ∧ ys.all flatD = true then .ok (ys.any fun y => PyData.eqv y x) else .bad
  | _, _ => .bad
def niD : D → D → R Bool
  | x, .list ys => if SeqAt.shaped x = true ∧ SeqAt.shaped (.list ys) = true then .ok (!(ys.any fun y => PyData.eqv y x)) else .bad
  | x, .tuple ys => if flatD x = true ∧ ys.all flatD = true then .ok (!(ys.any fun y => PyData.eqv y x)) else .bad
  | _, _ => .bad
def notM (b : Bool) : R Bool := .ok (!b)
/-- a truth value -/
def blM : D → R Bool
  | .bool b => .ok b
  | _ => .bad
def bD (b : Bool) : R D := .ok (.bool b)
def atM (xs : List D) (i : Int) : R D := match L2.atI xs i with
  | some d => .ok d
  | none => .bad
def ixD : D → D → R D
  | .list xs, .int i => atM xs i
  | .tuple xs, .int i => atM xs i
  | _, _ => .bad
/-- a slice's end -/
def ixO : D → R (Option Int)
  | .int i => .ok (some i)
  | _ => .bad
def slD : D → Option Int → Option Int → R D
  | .list xs, lo, hi => .ok (.list (cutD xs lo hi))
  | .tuple xs, lo, hi => .ok (.tuple (cutD xs lo hi))
  | _, _, _ => .bad
def slL : D → Option Int → Option Int → R (List D)
  | .list xs, lo, hi => .ok (cutD xs lo hi)
  | _, _, _ => .bad
def revL : D → R (List D)
  | .list xs => .ok xs.reverse
  | _ => .bad
def lnD : D → R D
  | .list xs => .ok (.int xs.length)
  | .tuple xs => .ok (.int xs.length)
  | _ => .bad
def iSum (xs : List D) : R D := match intsOf xs with
  | some l => .ok (.int l.sum)
  | none => match boolsOf xs with
    | some l => .ok (.int (l.map fun b => if b then (1 : Int) else 0).sum)
    | none => .bad
def sumD : D → R D
  | .list xs => iSum xs
  | .tuple xs => match intsOf xs with
    | some l => .ok (.int l.sum)
    | none => .bad
  | _ => .bad
def iMax (xs : List D) : R D := match intsOf xs with
  | some l => if 0 < l.length then .ok (.int (maxD 0 l)) else .bad
  | none => .bad
def iMin (xs : List D) : R D := match intsOf xs with
  | some l => if 0 < l.length then .ok (.int (minD 0 l)) else .bad
  | none => .bad
def maxM : D → R D
  | .list xs => iMax xs
  | .tuple xs => iMax xs
  | _ => .bad
def minM : D → R D
  | .list xs => iMin xs
  | .tuple xs => iMin xs
  | _ => .bad
def iMaxK (xs : List D) (d : Int) : R D := match intsOf xs with
  | some l => .ok (.int (maxD d l))
  | none => .bad
def maxK : D → D → R D
  | .list xs, .int d => iMaxK xs d
  | .tuple xs, .int d => iMaxK xs d
  | _, _ => .bad
def max2 : D → D → R D
  | .int i, .int j => .ok (.int (max i j))
  | _, _ => .bad
def min2 : D → D → R D
  | .int i, .int j => .ok (.int (min i j))
  | _, _ => .bad
def srtL : D → R (List D)
  | .list xs => match intsOf xs with
    | some l => .ok ((srt l).map .int)
    | none => .bad
  | _ => .bad
def srtRL : D → R (List D)
  | .list xs => match intsOf xs with
    | some l => .ok ((srtD l).map .int)
    | none => .bad
  | _ => .bad
def tupD : D → R D
  | .list xs => .ok (.tuple xs)
  | .tuple xs => .ok (.tuple xs)
  | _ => .bad
def lstL : D → R (List D)
  | .list xs => .ok xs
  | .tuple xs => .ok xs
  | _ => .bad
def allD : D → R Bool
  | .list xs => match boolsOf xs with
    | some l => .ok (l.all id)
    | none => .bad
  | _ => .bad
def anyD : D → R Bool
  | .list xs => match boolsOf xs with
    | some l => .ok (l.any id)
    | none => .bad
  | _ => .bad
def isiD (d : D) (n : String) : R Bool := if noX d = true then .ok (isTy d n) else .bad
def rgOk (n : Int) : Bool := decide (n < 1000000000000) && decide (-1000000000000 < n)
def rg1 : D → R (List D)
  | .int n => if rgOk n = true then .ok ((rgI 0 n.toNat).map .int) else .bad
  | _ => .bad
def rg2 : D → D → R (List D)
  | .int m, .int n => if rgOk m = true ∧ rgOk n = true then .ok ((rgI m (n - m).toNat).map .int) else .bad
  | _, _ => .bad
def lrg (m n : Int) : R (List D) := if -1000000 ≤ m ∧ m ≤ 1000000 ∧ -1000000 ≤ n ∧ n ≤ 1000000 then .ok ((rgI m (n - m).toNat).map .int) else .bad
def lrg1 : D → R (List D)
  | .int n => lrg 0 n
  | _ => .bad
def lrg2 : D → D → R (List D)
  | .int m, .int n => lrg m n
  | _, _ => .bad
def iterM : D → R (List D)
  | .list xs => .ok xs
  | .tuple xs => .ok xs
  | _ => .bad
def zipM : D → D → R (List D)
  | .list xs, .list ys => .ok (zipD xs ys)
  | .tuple xs, .tuple ys => .ok (zipD xs ys)
  | _, _ => .bad
def enumM : D → R (List D)
  | .list xs => .ok (enumD 0 xs)
  | _ => .bad
section
variable {α : Type}
def un2 (x : D) (f : D → D → R α) : R α := match x with
  | .tuple [a, b] => f a b
  | _ => .bad
def un3 (x : D) (f : D → D → D → R α) : R α := match x with
  | .tuple [a, b, c] => f a b c
  | _ => .bad
@[simp] theorem un2_t (a b : D) (f : D → D → R α) : un2 (.tuple [a, b]) f = f a b := rfl
@[simp] theorem un3_t (a b c : D) (f : D → D → D → R α) : un3 (.tuple [a, b, c]) f = f a b c := rfl
end
/-- comprehensions -/
def lcG : List D → (D → R Bool) → (D → R D) → R (List D)
  | [], _, _ => .ok []
  | x :: xs, p, f => (p x).nox.bind fun b => if b = true then (f x).nox.bind fun y => (lcG xs p f).bind fun ys => .ok (y :: ys) else lcG xs p f
def lcM (xs : List D) (p : D → R Bool) (f : D → R D) : R (List D) := if xs.length ≤ 1000000 then lcG xs p f else .bad
def yesM (_ : D) : R Bool := .ok true
/-- .. whose items change a state -/
def lcGS {S : Type} : List D → S → (S → D → R (D × S)) → R (List D × S)
  | [], o, _ => .ok ([], o)
  | x :: xs, o, f => (f o x).nox.bind fun q => (lcGS xs q.2 f).bind fun r => .ok (q.1 :: r.1, r.2)
def lcMS {S : Type} (xs : List D) (o : S) (f : S → D → R (D × S)) : R (List D × S) := if xs.length ≤ 1000000 then lcGS xs o f else .bad
/-- an own list read as data: what comes out holds no list -/
def borR {α : Type} (chk : α → Bool) (m : R α) : R α := match m with
  | .ok d => if chk d = true then .ok d else .bad
  | _ => .bad
abbrev bor : R D → R D := borR noL
abbrev borL : R (List D) → R (List D) := borR noLs
abbrev borB : R Bool → R Bool := borR fun _ => true
@[simp] theorem borR_ok {α : Type} (chk : α → Bool) (d : α) (h : chk d = true) : borR chk (.ok d) = .ok d := if_pos h
/-- methods of own lists -/
def appM (xs : List D) (d : D) : R (List D) := if xs.length ≤ 1000000 then .ok (xs ++ [d]) else .bad
def popAtM (xs : List D) : D → R (D × List D)
  | .int i => if -1000000000000 < i ∧ i < 1000000000000 then match L2.ixN xs.length i with
    | some k => match xs[k]? with
      | some d => .ok (d, xs.eraseIdx k)
      | none => .bad
    | none => .bad
    else .bad
  | _ => .bad
def popM (xs : List D) : R (D × List D) := match xs[xs.length - 1]? with
  | some d => .ok (d, xs.dropLast)
  | none => .bad
def insM (xs : List D) : D → D → R (List D)
  | .int i, d => if 0 ≤ i ∧ i < 1000000000000 ∧ xs.length ≤ 1000000 then .ok (xs.take i.toNat ++ [d] ++ xs.drop i.toNat) else .bad
  | _, _ => .bad
def remM (xs : List D) : D → R (List D)
  | .int i => match intsOf xs with
    | some l => if i ∈ l then .ok ((l.erase i).map .int) else .bad
    | none => .bad
  | _ => .bad
def setM (xs : List D) : D → D → R (List D)
  | .int i, d => match L2.ixN xs.length i with
    | some k => .ok (xs.set k d)
    | none => .bad
  | _, _ => .bad
def extM (xs : List D) : D → R (List D)
  | .list ys => if xs.length + ys.length ≤ 1000000 then .ok (xs ++ ys) else .bad
  | _ => .bad
end Kn

namespace Kn
open PySem L2

/-! ### the judgements over the mirror -/
structure Rz where
  CA : Str → Addr
  W : WX
  rx : En
  ow : Option (Nat × (List D → Sl))
def Xc.fd (e : Xc) : List (PyData × PyData) := e.fs.map fun f => (PyData.str f.1, f.2)
def EOk (CA : Str → Addr) (G : Hp) (cls : Value) (d : Option Addr) (e : Xc) : Prop :=
  cls = .ref (CA e.cls) ∧ ((d = none ∧ e.fs = []) ∨ ∃ dd ws, d = some dd ∧ G dd = some (.xd ws) ∧ DqF G ws e.fd)
/-- e is raised -/
def EE {Q : Type} (z : Rz) (t : L2.St → Hp → Q → Prop) (ρ : En) (e : Xc) : Prop := ∀ (G H : Hp) (σ : L2.St), Ex G H → StOk G H σ ρ → (adr ρ).Nodup →
  (∀ cls d G' H', Ext (adr ρ) G H G' H' → StOk G' H' σ z.rx → EOk z.CA G' cls d e → z.W cls d σ H') → ∀ q : Q, t σ H q
def GG {S α Q : Type} (z : Rz) (O : En → α → En → Prop) (t : L2.St → Hp → Q → Prop) (ρ : S → En) (K : {β : Type} → S → (α → S → R β) → R β) : Prop :=
  ∀ s, ∃ m : R (α × S), (∀ (β : Type) (k : α → S → R β), @K β s k = m.bind fun q => k q.1 q.2) ∧ (∀ q, m = .ok q → O (ρ s) q.1 (ρ q.2)) ∧ ∀ e, m = .ex e → EE z t (ρ s) e
abbrev OE {α : Type} (b : Bool) (rv : α → Rv) (te : TE) : En → α → En → Prop := fun ρ a ρ' => Ev b te ρ (rv a) ρ'
abbrev OT (b : Bool) (tt : TT) : En → Bool → En → Prop := fun ρ c ρ' => EvT b tt ρ c ρ'
abbrev OA (b : Bool) (n : Nat) (ta : TA) : En → List D → En → Prop := fun ρ ds ρ' => ds.length = n ∧ EvA b ta ρ (ds.map Ar.d) ρ'
abbrev OI (b : Bool) (wi : TI) : En → List D → En → Prop := fun ρ ds ρ' => EvI b wi ρ ds ρ'
abbrev OO (b : Bool) (to : TO) : En → Option Int → En → Prop := fun ρ o ρ' => EvO b to ρ o ρ'
abbrev OR (b : Bool) (tr : L2.St → Hp → (Int → Int → Hp → Prop) → Prop) : En → Int × Int → En → Prop := fun ρ o ρ' => EvR b tr ρ o.1 o.2 ρ'
section
variable {S α γ δ : Type}
abbrev GE (z : Rz) (b : Bool) (rv : α → Rv) (te : TE) (ρ : S → En) (K : {β : Type} → S → (α → S → R β) → R β) : Prop := GG z (OE b rv te) te ρ K
abbrev GT (z : Rz) (b : Bool) (tt : TT) (ρ : S → En) (K : {β : Type} → S → (Bool → S → R β) → R β) : Prop := GG z (OT b tt) tt ρ K
abbrev GA (z : Rz) (b : Bool) (n : Nat) (ta : TA) (ρ : S → En) (K : {β : Type} → S → (List D → S → R β) → R β) : Prop := GG z (OA b n ta) ta ρ K
abbrev GI (z : Rz) (b : Bool) (wi : TI) (ρ : S → En) (K : {β : Type} → S → (List D → S → R β) → R β) : Prop := GG z (OI b wi) wi ρ K
abbrev GO (z : Rz) (b : Bool) (to : TO) (ρ : S → En) (K : {β : Type} → S → (Option Int → S → R β) → R β) : Prop := GG z (OO b to) to ρ K

/-! generic steps -/
variable {z : Rz} {Q1 Q2 Q3 : Type} {t1 : L2.St → Hp → Q1 → Prop} {t2 : L2.St → Hp → Q2 → Prop} {t3 : L2.St → Hp → Q3 → Prop} {O1 : En → α → En → Prop} {O2 : En → γ → En → Prop} {O3 : En → δ → En → Prop} {ρ : S → En}
  {K1 : {β : Type} → S → (α → S → R β) → R β} {K2 : {β : Type} → S → (γ → S → R β) → R β}
theorem gg_pure {a : α} (h : ∀ s, O1 (ρ s) a (ρ s)) : GG z O1 t1 ρ (fun s k => k a s) := fun s =>
  ⟨.ok (a, s), fun _ _ => rfl, fun q e => by cases e; exact h s, fun e h => by cases h⟩
theorem gg_map (f : α → R δ) (h1 : GG z O1 t1 ρ K1) (hf : ∀ a e, f a ≠ .ex e) (hO : ∀ r a r' c, O1 r a r' → f a = .ok c → O3 r c r') (hE : ∀ r e, EE z t1 r e → EE z t3 r e) : GG z O3 t3 ρ (fun s k => K1 s fun a s' => (f a).bind fun c => k c s') := fun s => by
  obtain ⟨m, e1, e2, e3⟩ := h1 s
  refine ⟨m.bind fun q => (f q.1).bind fun c => .ok (c, q.2), fun β k => ?_, fun q hq => ?_, fun e he => ?_⟩
  · rw [e1, R.bind_assoc]; congr 1; funext q; rw [R.bind_assoc]; rfl
  · obtain ⟨a, h2, h3⟩ := R.bind_eq_ok hq
    obtain ⟨c, h4, h5⟩ := R.bind_eq_ok h3
    cases h5
    exact hO _ _ _ _ (e2 _ h2) h4
  · rcases R.bind_eq_ex he with h2 | ⟨a, h2, h3⟩
    · exact hE _ _ (e3 _ h2)
    · rcases R.bind_eq_ex h3 with h4 | ⟨c, h4, h5⟩
      · exact absurd h4 (hf _ _)
      · cases h5
theorem gg_mapT (f : α → δ) (h1 : GG z O1 t1 ρ K1) (hO : ∀ r a r', O1 r a r' → O3 r (f a) r') (hE : ∀ r e, EE z t1 r e → EE z t3 r e) : GG z O3 t3 ρ (fun s k => K1 s fun a s' => k (f a) s') :=
  gg_map (fun a => .ok (f a)) h1 (fun a e h => by cases h) (fun r a r' c h e => by cases e; exact hO _ _ _ h) hE
theorem gg_bind (f : α → γ → R δ) (h1 : GG z O1 t1 ρ K1) (h2 : GG z O2 t2 ρ K2) (hf : ∀ a b e, f a b ≠ .ex e) (hO : ∀ r a r1 b r2 c, O1 r a r1 → O2 r1 b r2 → f a b = .ok c → O3 r c r2)
    (hE1 : ∀ r e, EE z t1 r e → EE z t3 r e) (hE2 : ∀ r a r1 e, O1 r a r1 → EE z t2 r1 e → EE z t3 r e) : GG z O3 t3 ρ (fun s k => K1 s fun a s' => K2 s' fun b s'' => (f a b).bind fun c => k c s'') := fun s => by
  obtain ⟨m, e1, e2, e3⟩ := h1 s
  have h2' := fun s => Classical.choose_spec (h2 s)
  let m2 : S → R (γ × S) := fun s => Classical.choose (h2 s)
  have h2'' : ∀ s, (∀ (β : Type) (k : γ → S → R β), @K2 β s k = (m2 s).bind fun q => k q.1 q.2) ∧ (∀ q, m2 s = .ok q → O2 (ρ s) q.1 (ρ q.2)) ∧ ∀ e, m2 s = .ex e → EE z t2 (ρ s) e := h2'
  refine ⟨m.bind fun q => (m2 q.2).bind fun p => (f q.1 p.1).bind fun c => .ok (c, p.2), fun β k => ?_, fun q hq => ?_, fun e he => ?_⟩
  · rw [e1, R.bind_assoc]; congr 1; funext q; rw [(h2'' q.2).1, R.bind_assoc]; congr 1; funext p; rw [R.bind_assoc]; rfl
  · obtain ⟨a, h3, h4⟩ := R.bind_eq_ok hq
    obtain ⟨b, h5, h6⟩ := R.bind_eq_ok h4
    obtain ⟨c, h7, h8⟩ := R.bind_eq_ok h6
    cases h8
    exact hO _ _ _ _ _ _ (e2 _ h3) ((h2'' _).2.1 _ h5) h7
  · rcases R.bind_eq_ex he with h3 | ⟨a, h3, h4⟩
    · exact hE1 _ _ (e3 _ h3)
    · rcases R.bind_eq_ex h4 with h5 | ⟨b, h5, h6⟩
      · exact hE2 _ _ _ _ (e2 _ h3) ((h2'' _).2.2 _ h5)
      · rcases R.bind_eq_ex h6 with h7 | ⟨c, h7, h8⟩
        · exact absurd h7 (hf _ _ _)
        · cases h8
theorem gg_bindT (f : α → γ → δ) (h1 : GG z O1 t1 ρ K1) (h2 : GG z O2 t2 ρ K2) (hO : ∀ r a r1 b r2, O1 r a r1 → O2 r1 b r2 → O3 r (f a b) r2)
    (hE1 : ∀ r e, EE z t1 r e → EE z t3 r e) (hE2 : ∀ r a r1 e, O1 r a r1 → EE z t2 r1 e → EE z t3 r e) : GG z O3 t3 ρ (fun s k => K1 s fun a s' => K2 s' fun b s'' => k (f a b) s'') :=
  gg_bind (fun a b => .ok (f a b)) h1 h2 (fun _ _ _ h => by cases h) (fun r a r1 b r2 c g1 g2 e => by cases e; exact hO _ _ _ _ _ g1 g2) hE1 hE2
/-- one of two ways -/
theorem gg_if {K0 : {β : Type} → S → (Bool → S → R β) → R β} {Q0 : Type} {t0 : L2.St → Hp → Q0 → Prop} {O0 : En → Bool → En → Prop} {K1 K2 : {β : Type} → S → (δ → S → R β) → R β} {O1 O2 : En → δ → En → Prop} (h0 : GG z O0 t0 ρ K0) (h1 : GG z O1 t1 ρ K1) (h2 : GG z O2 t2 ρ K2)
    (hO1 : ∀ r r1 c r2, O0 r true r1 → O1 r1 c r2 → O3 r c r2) (hO2 : ∀ r r1 c r2, O0 r false r1 → O2 r1 c r2 → O3 r c r2) (hE0 : ∀ r e, EE z t0 r e → EE z t3 r e) (hE1 : ∀ r r1 e, O0 r true r1 → EE z t1 r1 e → EE z t3 r e) (hE2 : ∀ r r1 e, O0 r false r1 → EE z t2 r1 e → EE z t3 r e) :
    GG z O3 t3 ρ (fun s k => K0 s fun c s' => (if c = true then K1 s' fun a s2 => R.ok (a, s2) else K2 s' fun a s2 => R.ok (a, s2)).bind fun q => k q.1 q.2) := fun s => by
  obtain ⟨m, e1, e2, e3⟩ := h0 s
  refine ⟨m.bind fun q => if q.1 = true then @K1 _ q.2 fun a s2 => .ok (a, s2) else @K2 _ q.2 fun a s2 => .ok (a, s2), fun β k => ?_, fun q hq => ?_, fun e he => ?_⟩
  · rw [e1, R.bind_assoc]
  · obtain ⟨⟨c, s1⟩, h3, h4⟩ := R.bind_eq_ok hq
    have o0 := e2 _ h3
    obtain ⟨m1, f1, f2, f3⟩ := h1 s1
    obtain ⟨m2, g1, g2, g3⟩ := h2 s1
    cases c with
    | true =>
      dsimp only at h4
      rw [if_pos rfl] at h4
      have h5 := (f1 _ _).symm.trans h4
      exact hO1 _ _ _ _ o0 (f2 _ (by rw [← h5]; cases m1 <;> rfl))
    | false =>
      dsimp only at h4
      rw [if_neg (by decide)] at h4
      have h5 := (g1 _ _).symm.trans h4
      exact hO2 _ _ _ _ o0 (g2 _ (by rw [← h5]; cases m2 <;> rfl))
  · rcases R.bind_eq_ex he with h3 | ⟨⟨c, s1⟩, h3, h4⟩
    · exact hE0 _ _ (e3 _ h3)
    · have o0 := e2 _ h3
      obtain ⟨m1, f1, f2, f3⟩ := h1 s1
      obtain ⟨m2, g1, g2, g3⟩ := h2 s1
      cases c with
      | true =>
        dsimp only at h4
        rw [if_pos rfl] at h4
        have h5 := (f1 _ _).symm.trans h4
        exact hE1 _ _ _ o0 (f3 _ (by rw [← h5]; cases m1 <;> rfl))
      | false =>
        dsimp only at h4
        rw [if_neg (by decide)] at h4
        have h5 := (g1 _ _).symm.trans h4
        exact hE2 _ _ _ o0 (g3 _ (by rw [← h5]; cases m2 <;> rfl))
/-- what changes nothing, where something may be changed -/
theorem gg_lift {P : En → α → En → Prop} {K : S → {β : Type} → Unit → (α → Unit → R β) → R β} (h : ∀ s : S, GG z O1 t1 (fun _ : Unit => ρ s) (K s)) (hO : ∀ r a r', O1 r a r' → P r a r') : GG z P t1 ρ (fun s k => K s () fun a _ => k a s) := fun s => by
  obtain ⟨m, e1, e2, e3⟩ := h s ()
  refine ⟨m.bind fun q => .ok (q.1, s), fun β k => ?_, fun q hq => ?_, fun e he => ?_⟩
  · rw [e1, R.bind_assoc]; rfl
  · obtain ⟨a, h3, h4⟩ := R.bind_eq_ok hq
    cases h4
    exact hO _ _ _ (e2 _ h3)
  · rcases R.bind_eq_ex he with h3 | ⟨a, h3, h4⟩
    · exact e3 _ h3
    · cases h4
end

/-! raising in a part -/
section
variable {z : Rz} {b : Bool} {ρ ρ1 : En} {e : Xc} {Q Q' : Type}
theorem ee_1 {ta : L2.St → Hp → Q' → Prop} (F : L2.St → Q → Q') (h : EE z ta ρ e) : EE z (fun σ H q => ta σ H (F σ q)) ρ e := fun G H σ x st nd w q => h G H σ x st nd w _
theorem ext_b {M : List Addr} {G H G' H' : Hp} (h : Ext (ws b ρ) G H G' H') : Ext (adr ρ) G H G' H' := by
  cases b with
  | false => exact Ext.up h
  | true => exact h
theorem ee_2 {tb : L2.St → Hp → Q' → Prop} {ta : TE} {r : Rv} (F : L2.St → V → Q → Q') (ha : Ev b ta ρ r ρ1) (h : EE z tb ρ1 e) : EE z (fun σ H q => ta σ H fun x H1 => tb σ H1 (F σ x q)) ρ e := fun G H σ x st nd w q =>
  ha G H σ x st nd _ fun v G1 H1 x1 s1 a1 r1 => h G1 H1 σ x1.gh s1 (by rw [a1]; exact nd) (fun cls d G' H' x2 s2 k2 => w cls d G' H' ((ext_b (M := []) x1).tr (by rw [← a1]; exact x2)) s2 k2) _
theorem ee_2T {tb : L2.St → Hp → Q' → Prop} {ta : TT} {c : Bool} (F : L2.St → Bool → Q → Q') (ha : EvT b ta ρ c ρ1) (h : EE z tb ρ1 e) : EE z (fun σ H q => ta σ H fun x H1 => tb σ H1 (F σ x q)) ρ e := fun G H σ x st nd w q =>
  ha G H σ x st nd _ fun G1 H1 x1 s1 a1 => h G1 H1 σ x1.gh s1 (by rw [a1]; exact nd) (fun cls d G' H' x2 s2 k2 => w cls d G' H' ((ext_b (M := []) x1).tr (by rw [← a1]; exact x2)) s2 k2) _
theorem ee_2A {tb : L2.St → Hp → Q' → Prop} {ta : TA} {as : List Ar} (F : L2.St → List V → Q → Q') (ha : EvA b ta ρ as ρ1) (h : EE z tb ρ1 e) : EE z (fun σ H q => ta σ H fun x H1 => tb σ H1 (F σ x q)) ρ e := fun G H σ x st nd w q =>
  ha G H σ x st nd _ fun v G1 H1 x1 s1 a1 r1 => h G1 H1 σ x1.gh s1 (by rw [a1]; exact nd) (fun cls d G' H' x2 s2 k2 => w cls d G' H' ((ext_b (M := []) x1).tr (by rw [← a1]; exact x2)) s2 k2) _
theorem ee_2O {tb : L2.St → Hp → Q' → Prop} {ta : TO} {o : Option Int} (F : L2.St → Option Int → Q → Q') (ha : EvO b ta ρ o ρ1) (h : EE z tb ρ1 e) : EE z (fun σ H q => ta σ H fun x H1 => tb σ H1 (F σ x q)) ρ e := fun G H σ x st nd w q =>
  ha G H σ x st nd _ fun G1 H1 x1 s1 a1 => h G1 H1 σ x1.gh s1 (by rw [a1]; exact nd) (fun cls d G' H' x2 s2 k2 => w cls d G' H' ((ext_b (M := []) x1).tr (by rw [← a1]; exact x2)) s2 k2) _
end

/-! ### rules with several kinds of data -/
def rOr (r r' : R2) : R2 := fun x y H Q => r x y H Q ∨ r' x y H Q
theorem OpR.or {X : Cx} {f : Value → Value → Sem Value} {r r' : R2} (h : OpR X f r) (h' : OpR X f r') : OpR X f (rOr r r') := fun pins s σ H x y v u Q I rx ry q => by
  rcases q with q | q
  · exact h pins s σ H x y v u Q I rx ry q
  · exact h' pins s σ H x y v u Q I rx ry q
def cOr (r r' : List V → Hp → VK → Prop) : List V → Hp → VK → Prop := fun vs H Q => r vs H Q ∨ r' vs H Q
theorem CallR.or {X : Cx} {f : Value} {r r' : List V → Hp → VK → Prop} (h : CallR X f r) (h' : CallR X f r') : CallR X f (cOr r r') := fun pins s σ H xs us Q I rs q => by
  rcases q with q | q
  · exact h pins s σ H xs us Q I rs q
  · exact h' pins s σ H xs us Q I rs q
section
variable {r r' : R2} {x y : PyData} {w : Rv} {K : PySem.W.Frag}
theorem o2_l (h : Op2 r x y w) : Op2 (rOr r r') x y w := fun G H v u e hv hw Q q => .inl (h G H v u e hv hw Q q)
theorem o2_r (h : Op2 r' x y w) : Op2 (rOr r r') x y w := fun G H v u e hv hw Q q => .inr (h G H v u e hv hw Q q)
theorem rok_fz {G H : Hp} {P : VK → Prop} {xs : List PyData} (h : ∀ Q : VK, (∀ u G' H', Ext [] G H G' H' → ROk G H G' H' u (.l xs) → Q u H') → P Q) (Q : VK) (q : ∀ u G' H', Ext [] G H G' H' → ROk G H G' H' u (.d (.list xs)) → Q u H') : P Q :=
  h Q fun v G' H' x ⟨p, vs, hv, h0, hg, hh, hd⟩ => by
    have x2 : Ext [] G H (upd G' p (.lst vs)) H' := ⟨x.gg.trans (Ex.new hg), fun c o hc => by
        by_cases hb : c = p
        · subst hb; rw [upd_same] at hc; rw [← hc]; exact hh
        · rw [upd_ne hb] at hc; exact x.gh c o hc, x.fr, x.th, fun c h1 h2 h3 => by
        rw [upd_ne (fun z => by subst z; exact h3 h0)]; exact x.nw c h1 h2 h3⟩
    refine q v _ H' x2 ?_
    rw [hv]
    exact Dq.lst upd_same (dqs_mono (Ex.new hg) hd)
theorem o2_fz {xs : List PyData} (h : Op2 r x y (.l xs)) : Op2 r x y (.d (.list xs)) := fun G H v u e hv hw => rok_fz (P := fun Q => r v u H Q) (h G H v u e hv hw)
structure OpM {α : Type} (rv : α → Rv) (r : R2) (f : D → D → R α) : Prop where
  ok : ∀ a b c, f a b = .ok c → Op2 r a b (rv c)
  ex : ∀ a b e, f a b ≠ .ex e
abbrev rvB (b : Bool) : Rv := .d (.bool b)
/-- a + b -/
def rAddM (K : PySem.W.Frag) : R2 := rOr (rI0 fun i j => .int (i + j)) (rOr rCat (rCatA K))
theorem op_addM {X : Cx} : OpR X (binaryOp .Add) (rAddM X.K) := OpR.or op_add (OpR.or op_cat op_catA)
theorem om_add : OpM Rv.d (rAddM K) addD where
  ok := fun a b c h => by
    unfold addD at h
    split at h
    · cases h; exact o2_l o2_I
    · split at h
      · cases h; exact o2_r (o2_l (o2_fz (o2_cat (by rw [sizeLine_eq]; omega))))
      · cases h
    · split at h
      · cases h; exact o2_r (o2_r (o2_catT (by rw [sizeLine_eq]; omega)))
      · cases h
    · cases h
  ex := fun a b e h => by unfold addD at h; split at h <;> first | cases h | (split at h <;> cases h)
theorem om_addL : OpM Rv.l (rAddM K) addL where
  ok := fun a b c h => by
    unfold addL at h
    split at h
    · split at h
      · cases h; exact o2_r (o2_l (o2_cat (by rw [sizeLine_eq]; omega)))
      · cases h
    · cases h
  ex := fun a b e h => by unfold addL at h; split at h <;> first | cases h | (split at h <;> cases h)
theorem om_sub : OpM Rv.d (rI0 fun i j => .int (i - j)) subD where
  ok := fun a b c h => by
    unfold subD at h
    split at h
    · cases h; exact o2_I
    · cases h
  ex := fun a b e h => by unfold subD at h; split at h <;> cases h
theorem tup_same (l : Addr) (items : Array Value) (n : Nat) (dd : Option Addr) (sl : Array (Option Value)) (x : Int) (u : Tok) (c0 : (decide (x < -(2 ^ 63)) || decide (x ≥ 2 ^ 63)) = false) (c1 : (items.isEmpty || x == 1) = true) :
    Meets (Builtin.«tuple.__mul__» ⟨[.ref l, .int x u], []⟩) (fun _ R s => s.heap.get? l = some { cls := .type "tuple", dict := dd, data := .seq items n, slots := sl } ∧ R (.ok (.ret (Value.ref l))) s) :=
  .of_wp fun prog w A R s h => by
    obtain ⟨hp, g, d, tk, os⟩ := s
    obtain ⟨hl, h⟩ := h
    have f1 := AutoSeq1.idx_int
    wp_walk using wpAny_loadPart' hl
    repeat (first
      | (refine wpAny_ite_false (decide_eq_false (by rw [c0]; exact Bool.false_ne_true)) ?_; wp_walk using wpAny_loadPart' hl)
      | (refine wpAny_ite_true (decide_eq_true c1) ?_; wp_walk using wpAny_loadPart' hl))
    exact ⟨_, rfl, h⟩
theorem tup_zero (l : Addr) (items : Array Value) (n : Nat) (dd : Option Addr) (sl : Array (Option Value)) (x : Int) (u : Tok) (c0 : (decide (x < -(2 ^ 63)) || decide (x ≥ 2 ^ 63)) = false) (c1 : (items.isEmpty || x == 1) = false) (c2 : (decide (x ≤ 0) || items.isEmpty) = true) :
    Meets (Builtin.«tuple.__mul__» ⟨[.ref l, .int x u], []⟩) (fun _ R s => s.heap.get? l = some { cls := .type "tuple", dict := dd, data := .seq items n, slots := sl } ∧
      R (.ok (.ret (Value.ref s.heap.objs.size))) { s with heap := s.heap.push { cls := Value.type "tuple", data := Data.seq #[] }, toks := s.toks }) :=
  .of_wp fun prog w A R s h => by
    obtain ⟨hp, g, d, tk, os⟩ := s
    obtain ⟨hl, h⟩ := h
    have f1 := AutoSeq1.idx_int
    wp_walk using wpAny_loadPart' hl
    repeat (first
      | (refine wpAny_ite_false (decide_eq_false (by rw [c0]; exact Bool.false_ne_true)) ?_; wp_walk using wpAny_loadPart' hl)
      | (refine wpAny_ite_false (decide_eq_false (by rw [c1]; exact Bool.false_ne_true)) ?_; wp_walk using wpAny_loadPart' hl)
      | (refine wpAny_ite_true (decide_eq_true c2) ?_; wp_walk using wpAny_loadPart' hl))
    exact ⟨_, rfl, h⟩
def rRepS (K : PySem.W.Frag) : R2 := fun x y H Q => ∃ l k xs, x = .ref l ∧ y = .int k ∧ SqT K H l xs ∧ (k = 1 ∨ xs = []) ∧ (-1000 ≤ k ∧ k ≤ 1000) ∧ Q (.ref l) H
def rRepZ (K : PySem.W.Frag) : R2 := fun x y H Q => ∃ l k xs, x = .ref l ∧ y = .int k ∧ SqT K H l xs ∧ xs ≠ [] ∧ (-1000 ≤ k ∧ k ≤ 0) ∧ ∀ p, H p = none → Q (.ref p) (upd H p (.tup []))
theorem op_repS {X : Cx} : OpR X (binaryOp .Mult) (rRepS X.K) := by
  intro pins s σ H x y v u Q I rx ry h
  obtain ⟨l, k, xs, rfl, rfl, hT, hk, hz, q⟩ := h
  cases rx
  obtain ⟨t, rfl⟩ := ry
  obtain ⟨its, r, ⟨⟨cls, dd, data, sl⟩, ho, hc, n, hd⟩, hs⟩ := I.tuple hT
  simp only at hc hd
  subst hc hd
  have c0 : (decide (k < -(2 ^ 63)) || decide (k ≥ 2 ^ 63)) = false := by
    rw [decide_eq_false (show ¬ k < -(2 ^ 63) by omega), decide_eq_false (show ¬ k ≥ 2 ^ 63 by omega)]; rfl
  have c1 : (its.toArray.isEmpty || k == 1) = true := by
    rcases hk with rfl | rfl
    · simp
    · cases r; rfl
  exact wpAny_binaryOp_repeat_ref (T := "tuple") (U := "int") (by decide) ⟨_, ho, rfl⟩ (fun s' => typeIs_int s' k t) noFill_tuple_mul F.fills_int_mul F.slot_int_rmul repeat_tuple F.slot_int_index.lookup
    (call_meets F.slot_int_rmul (typeIs_int s k t) F.entry_int_rmul (F.args_int_rmul_2 _ _) (int_rmul_tuple k t l its.toArray n dd sl)
      ⟨ho, rfl, ⟨_, ho, rfl⟩, call_meets F.slot_tuple_mul ⟨_, ho, rfl⟩ F.entry_tuple_mul (F.args_tuple_mul_2 _ _) (tup_same l its.toArray n dd sl k t c0 c1) ⟨ho, ⟨.ref l, H, I, rfl, q⟩⟩⟩)
theorem op_repZ {X : Cx} : OpR X (binaryOp .Mult) (rRepZ X.K) := by
  intro pins s σ H x y v u Q I rx ry h
  obtain ⟨l, k, xs, rfl, rfl, hT, hne, hz, q⟩ := h
  cases rx
  obtain ⟨t, rfl⟩ := ry
  obtain ⟨its, r, ⟨⟨cls, dd, data, sl⟩, ho, hc, n, hd⟩, hs⟩ := I.tuple hT
  simp only at hc hd
  subst hc hd
  have c0 : (decide (k < -(2 ^ 63)) || decide (k ≥ 2 ^ 63)) = false := by
    rw [decide_eq_false (show ¬ k < -(2 ^ 63) by omega), decide_eq_false (show ¬ k ≥ 2 ^ 63 by omega)]; rfl
  have c1 : (its.toArray.isEmpty || k == 1) = false := by
    cases r with
    | nil => exact absurd rfl hne
    | cons a b =>
      rw [show (k == 1) = false from beq_eq_false_iff_ne.mpr (by omega), Bool.or_false]
      rfl
  have c2 : (decide (k ≤ 0) || its.toArray.isEmpty) = true := by
    rw [decide_eq_true hz.2]; rfl
  refine wpAny_binaryOp_repeat_ref (T := "tuple") (U := "int") (by decide) ⟨_, ho, rfl⟩ (fun s' => typeIs_int s' k t) noFill_tuple_mul F.fills_int_mul F.slot_int_rmul repeat_tuple F.slot_int_index.lookup
    (call_meets F.slot_int_rmul (typeIs_int s k t) F.entry_int_rmul (F.args_int_rmul_2 _ _) (int_rmul_tuple k t l its.toArray n dd sl)
      ⟨ho, rfl, ⟨_, ho, rfl⟩, call_meets F.slot_tuple_mul ⟨_, ho, rfl⟩ F.entry_tuple_mul (F.args_tuple_mul_2 _ _) (tup_zero l its.toArray n dd sl k t c0 c1 c2) ⟨ho, ?_⟩⟩)
  refine ⟨.ref s.heap.objs.size, _, I.laid (t' := s.toks) (o := .tup []) (fun b ob q => Heap.get?_push_of_some _ q) (Nat.le_refl _) ?_, rfl, q _ (I.hok.fresh (Nat.le_refl _))⟩
  exact ⟨Nat.zero_le _, [], .nil, ⟨_, Heap.get?_push_size _ rfl, rfl, _, rfl⟩⟩
theorem o2_repS {xs : List PyData} {k : Int} (hk : k = 1 ∨ xs = []) (hz : -1000 ≤ k ∧ k ≤ 1000) : Op2 (rRepS K) (.tuple xs) (.int k) (.d (.tuple xs)) := fun G H v w e hv hw Q q => by
  cases hv with
  | tup ha hs =>
    cases hw
    refine ⟨_, _, _, rfl, rfl, .inl (.inl (e _ _ ha)), ?_, hz, q _ G H (Ext.refl e) (.tup ha hs)⟩
    rcases hk with hk | rfl
    · exact .inl hk
    · cases hs; exact .inr rfl
theorem o2_repZ {xs : List PyData} {k : Int} (hx : xs ≠ []) (hz : -1000 ≤ k ∧ k ≤ 0) : Op2 (rRepZ K) (.tuple xs) (.int k) (.d (.tuple [])) := fun G H v w e hv hw Q q => by
  cases hv with
  | tup ha hs =>
    cases hw
    refine ⟨_, _, _, rfl, rfl, .inl (.inl (e _ _ ha)), fun z => ?_, hz, fun p hp => q _ _ _ (Ext.new e hp) (.tup upd_same .nil)⟩
    subst z
    cases hs
    exact hx rfl
def rMulM (K : PySem.W.Frag) : R2 := rOr (rI CMul fun i j => .int (i * j)) (rOr (rI CMulW fun i j => .int (i * j)) (rOr rRep (rOr (rRepT K) (rOr (rRepS K) (rRepZ K)))))
theorem op_mulM {X : Cx} : OpR X (binaryOp .Mult) (rMulM X.K) := OpR.or op_mul (OpR.or op_mulW (OpR.or op_rep (OpR.or op_repT (OpR.or op_repS op_repZ))))
theorem o2_repT0 {xs : List PyData} {k : Int} (hk : 2 ≤ k ∧ k ≤ 1000) (hz : xs.length ≠ 0 ∧ xs.length ≤ 1000) : Op2 (rRepT K) (.tuple xs) (.int k) (.d (.tuple (List.replicate k.toNat xs).flatten)) := by
  have h := o2_repTm (K := K) (id : PyData → PyData) (xs := xs) (k := k) hk ⟨fun z => hz.1 (by rw [z]; rfl), hz.2⟩
  unfold eT at h
  rw [List.map_id, List.map_id] at h; exact h
theorem om_mul : OpM Rv.d (rMulM K) mulD where
  ok := fun a b c h => by
    unfold mulD at h
    split at h
    · split at h
      · rename_i hc
        cases h; exact o2_l (o2_C hc)
      · split at h
        · rename_i hc
          cases h; exact o2_r (o2_l (o2_C hc))
        · cases h
    · split at h
      · rename_i hc
        cases h; exact o2_r (o2_r (o2_l (o2_fz (o2_rep ⟨by omega, by omega⟩ (by rw [sizeLine_eq]; omega)))))
      · cases h
    · split at h
      · rename_i hc
        cases h; exact o2_r (o2_r (o2_r (o2_l (o2_repT0 hc.1 hc.2))))
      · split at h
        · rename_i hc
          cases h; exact o2_r (o2_r (o2_r (o2_r (o2_l (o2_repS hc.1 hc.2)))))
        · split at h
          · rename_i hc
            cases h; exact o2_r (o2_r (o2_r (o2_r (o2_r (o2_repZ hc.1 hc.2)))))
          · cases h
    · cases h
  ex := fun a b e h => by unfold mulD at h; split at h <;> first | cases h | (split at h <;> first | cases h | (split at h <;> first | cases h | (split at h <;> cases h)))
theorem om_mulL : OpM Rv.l (rMulM K) mulL where
  ok := fun a b c h => by
    unfold mulL at h
    split at h
    · split at h
      · rename_i hc
        cases h; exact o2_r (o2_r (o2_l (o2_rep ⟨by omega, by omega⟩ (by rw [sizeLine_eq]; omega))))
      · cases h
    · cases h
  ex := fun a b e h => by unfold mulL at h; split at h <;> first | cases h | (split at h <;> cases h)
end
end Kn

namespace Kn
open PySem L2

/-! ### expressions -/
section
variable {S α : Type} {z : Rz} {b : Bool} {rv : α → Rv} {ρ : S → En} {ta tb tc te : TE} {tt tu : TT} {K : PySem.W.Frag}
  {Ka Kb : {β : Type} → S → (D → S → R β) → R β} {Kv : {β : Type} → S → (α → S → R β) → R β} {Kw : {β : Type} → S → (α → S → R β) → R β} {Kc Kd : {β : Type} → S → (Bool → S → R β) → R β} {Kl : {β : Type} → S → (List D → S → R β) → R β}

theorem g_var {i : Nat} {d : D} (h : ∀ s, (ρ s)[i]? = some (.dat d)) : GE z b Rv.d (tVar i) ρ (fun s k => k d s) := gg_pure fun s => ev_var (h s)
theorem g_varS {i : Nat} {f : S → D} (h : ∀ s, (ρ s)[i]? = some (.dat (f s))) : GE z b Rv.d (tVar i) ρ (fun s k => k (f s) s) := fun s =>
  ⟨.ok (f s, s), fun _ _ => rfl, fun q e => by cases e; exact ev_var (h s), fun e h => by cases h⟩
theorem g_int {n : Int} : GE z b Rv.d (tC (.int n)) ρ (fun s k => k (.int n) s) := gg_pure fun s => ev_int
theorem g_bl {n : Bool} : GE z b Rv.d (tC (.bl n)) ρ (fun s k => k (.bool n) s) := gg_pure fun s => ev_bl
theorem g_non : GE z b Rv.d (tC .non) ρ (fun s k => k .none s) := gg_pure fun s => ev_non
theorem g_str {n : Str} : GE z b Rv.d (tC (.str n)) ρ (fun s k => k (.str n) s) := gg_pure fun s => ev_str
theorem g_op {r : R2} {f : D → D → R α} (ha : GE z b Rv.d ta ρ Ka) (hb : GE z b Rv.d tb ρ Kb) (hr : OpM rv r f) : GE z b rv (tOp r ta tb) ρ (fun s k => Ka s fun a s' => Kb s' fun c s'' => (f a c).bind fun x => k x s'') :=
  gg_bind f ha hb hr.ex (fun _ _ _ _ _ _ h1 h2 e => ev_op h1 h2 (hr.ok _ _ _ e)) (fun _ _ h => ee_1 (fun σ Q x H1 => tb σ H1 fun y H2 => r x y H2 Q) h) (fun _ _ _ _ h1 h2 => ee_2 (fun σ x Q y H2 => r x y H2 Q) h1 h2)
structure UnM (r : V → Hp → VK → Prop) (f : D → R D) : Prop where
  ok : ∀ a c, f a = .ok c → Op1 r a (.d c)
  ex : ∀ a e, f a ≠ .ex e
theorem g_un {r : V → Hp → VK → Prop} {f : D → R D} (ha : GE z b Rv.d ta ρ Ka) (hr : UnM r f) : GE z b Rv.d (tUn r ta) ρ (fun s k => Ka s fun a s' => (f a).bind fun x => k x s') :=
  gg_map f ha hr.ex (fun _ _ _ _ h1 e => ev_un h1 (hr.ok _ _ e)) (fun _ _ h => ee_1 (fun σ Q x H1 => r x H1 Q) h)
theorem um_neg : UnM (rU fun i => .int (-i)) negD where
  ok := fun a c h => by
    unfold negD at h
    split at h
    · cases h; exact o1_neg
    · cases h
  ex := fun a e h => by unfold negD at h; split at h <;> cases h
theorem g_bv (h : GE z b rvB te ρ Kc) : GE z b Rv.d te ρ (fun s k => Kc s fun c s' => k (.bool c) s') := gg_mapT (fun c => PyData.bool c) h (fun _ _ _ h => h) (fun _ _ h => h)
theorem g_vb (h : GE z b Rv.d te ρ Ka) : GE z b rvB te ρ (fun s k => Ka s fun d s' => (blM d).bind fun c => k c s') := gg_map blM h (fun a e h => by cases a <;> cases h) (fun r a r' c h e => by
    cases a <;> cases e
    exact h) (fun _ _ h => h)
theorem g_fz (h : GE z b Rv.l te ρ Kl) : GE z b Rv.d te ρ (fun s k => Kl s fun xs s' => k (.list xs) s') := gg_mapT (fun c => PyData.list c) h (fun _ _ _ h => ev_fz h) (fun _ _ h => h)
/-- tests -/
theorem gt_t (h : GE z b rvB te ρ Kc) : GT z b (tTest te) ρ (fun s k => Kc s fun c s' => k c s') := gg_mapT (fun c => c) h (fun _ _ _ h => et_t h) (fun _ _ h => ee_1 (fun σ (Q : Bool → Hp → Prop) (x : V) H' => ∃ k, x = .bl k ∧ Q k H') h)
theorem gt_B (h : GE z b rvB te ρ Kc) : GT z b (tB te) ρ (fun s k => Kc s fun c s' => k c s') := gg_mapT (fun c => c) h (fun _ _ _ h => et_B h) (fun _ _ h => ee_1 (fun σ (Q : Bool → Hp → Prop) (x : V) H1 => ∃ c, x = .bl c ∧ Q c H1) h)
theorem gt_not (h : GT z b tt ρ Kc) : GT z b (tNot tt) ρ (fun s k => Kc s fun c s' => k (!c) s') := gg_mapT (fun c => !c) h (fun _ _ _ h => et_not h) (fun _ _ h => ee_1 (fun σ (Q : Bool → Hp → Prop) c H1 => Q (!c) H1) h)
end
/-! two ways, nothing changed -/
section
variable {δ : Type} {z : Rz} {ρ : Unit → En} {Q1 Q2 Q3 Q0 : Type} {t0 : L2.St → Hp → Q0 → Prop} {t1 : L2.St → Hp → Q1 → Prop} {t2 : L2.St → Hp → Q2 → Prop} {t3 : L2.St → Hp → Q3 → Prop} {O0 : En → Bool → En → Prop} {O1 O2 O3 : En → δ → En → Prop}
  {K0 : {β : Type} → Unit → (Bool → Unit → R β) → R β} {K1 K2 : {β : Type} → Unit → (δ → Unit → R β) → R β}
theorem gg_if0 (h0 : GG z O0 t0 ρ K0) (h1 : GG z O1 t1 ρ K1) (h2 : GG z O2 t2 ρ K2)
    (hO1 : ∀ r r1 c r2, O0 r true r1 → O1 r1 c r2 → O3 r c r2) (hO2 : ∀ r r1 c r2, O0 r false r1 → O2 r1 c r2 → O3 r c r2) (hE0 : ∀ r e, EE z t0 r e → EE z t3 r e) (hE1 : ∀ r r1 e, O0 r true r1 → EE z t1 r1 e → EE z t3 r e) (hE2 : ∀ r r1 e, O0 r false r1 → EE z t2 r1 e → EE z t3 r e) :
    GG z O3 t3 ρ (fun _ k => K0 () fun c _ => (if c = true then K1 () fun a _ => R.ok a else K2 () fun a _ => R.ok a).bind fun a => k a ()) := fun s => by
  obtain ⟨m, e1, e2, e3⟩ := gg_if h0 h1 h2 hO1 hO2 hE0 hE1 hE2 s
  refine ⟨m, fun β k => ?_, e2, e3⟩
  rw [← e1]
  show @K0 β () _ = @K0 β s _
  cases s
  congr 1; funext c u
  obtain ⟨m1, f1, _⟩ := h1 u
  obtain ⟨m2, f2, _⟩ := h2 u
  have a1 : ∀ (β : Type) (k : δ → Unit → R β), @K1 β () k = m1.bind fun q => k q.1 q.2 := f1
  have a2 : ∀ (β : Type) (k : δ → Unit → R β), @K2 β () k = m2.bind fun q => k q.1 q.2 := f2
  have b1 : ∀ (β : Type) (k : δ → Unit → R β), @K1 β u k = m1.bind fun q => k q.1 q.2 := f1
  have b2 : ∀ (β : Type) (k : δ → Unit → R β), @K2 β u k = m2.bind fun q => k q.1 q.2 := f2
  cases c with
  | true => rw [if_pos rfl, if_pos rfl, a1, b1, R.bind_assoc, R.bind_assoc]; rfl
  | false => rw [if_neg (by decide), if_neg (by decide), a2, b2, R.bind_assoc, R.bind_assoc]; rfl
end
section
variable {z : Rz} {b : Bool} {ρ ρ1 ρ2 : En} {ta tb te : TE} {tt tu : TT} {r : Rv} {c d : Bool} {e : Xc} {n : Nat}
theorem ev_andT (h : Ev b ta ρ (.d (.bool true)) ρ1) (h2 : Ev b tb ρ1 r ρ2) : Ev b (tAndV ta tb) ρ r ρ2 := fun G H σ e st nd Q q =>
  h G H σ e st nd _ fun v G' H' x s a k => by
    cases k
    exact ⟨true, rfl, h2 G' H' σ x.gh s (by rw [a]; exact nd) Q fun v2 G2 H2 x2 s2 a2 r2 => q v2 G2 H2 (x.then x2 a) s2 (a2.trans a) (r2.back x)⟩
theorem ev_andF (h : Ev b ta ρ (.d (.bool false)) ρ1) : Ev b (tAndV ta tb) ρ (.d (.bool false)) ρ1 := fun G H σ e st nd Q q =>
  h G H σ e st nd _ fun v G' H' x s a k => by
    cases k
    exact ⟨false, rfl, q _ G' H' x s a (.bl _)⟩
theorem ev_orF (h : Ev b ta ρ (.d (.bool false)) ρ1) (h2 : Ev b tb ρ1 r ρ2) : Ev b (tOrV ta tb) ρ r ρ2 := fun G H σ e st nd Q q =>
  h G H σ e st nd _ fun v G' H' x s a k => by
    cases k
    exact ⟨false, rfl, h2 G' H' σ x.gh s (by rw [a]; exact nd) Q fun v2 G2 H2 x2 s2 a2 r2 => q v2 G2 H2 (x.then x2 a) s2 (a2.trans a) (r2.back x)⟩
theorem ev_orT (h : Ev b ta ρ (.d (.bool true)) ρ1) : Ev b (tOrV ta tb) ρ (.d (.bool true)) ρ1 := fun G H σ e st nd Q q =>
  h G H σ e st nd _ fun v G' H' x s a k => by
    cases k
    exact ⟨true, rfl, q _ G' H' x s a (.bl _)⟩
theorem ev_ifT (h : EvT b tt ρ true ρ1) (h1 : Ev b ta ρ1 r ρ2) : Ev b (tIf tt ta tb) ρ r ρ2 := ev_if h (fun _ => h1) (fun e => by cases e)
theorem ev_ifF (h : EvT b tt ρ false ρ1) (h1 : Ev b tb ρ1 r ρ2) : Ev b (tIf tt ta tb) ρ r ρ2 := ev_if h (fun e => by cases e) (fun _ => h1)
theorem ee_andV (h : Ev b ta ρ (.d (.bool true)) ρ1) (h2 : EE z tb ρ1 e) : EE z (tAndV ta tb) ρ e := fun G H σ x st nd w q =>
  h G H σ x st nd _ fun v G1 H1 x1 s1 a1 k => by
    cases k
    exact ⟨true, rfl, h2 G1 H1 σ x1.gh s1 (by rw [a1]; exact nd) (fun cls d G' H' x2 s2 k2 => w cls d G' H' ((ext_b (M := []) x1).tr (by rw [← a1]; exact x2)) s2 k2) _⟩
theorem ee_orV (h : Ev b ta ρ (.d (.bool false)) ρ1) (h2 : EE z tb ρ1 e) : EE z (tOrV ta tb) ρ e := fun G H σ x st nd w q =>
  h G H σ x st nd _ fun v G1 H1 x1 s1 a1 k => by
    cases k
    exact ⟨false, rfl, h2 G1 H1 σ x1.gh s1 (by rw [a1]; exact nd) (fun cls d G' H' x2 s2 k2 => w cls d G' H' ((ext_b (M := []) x1).tr (by rw [← a1]; exact x2)) s2 k2) _⟩
theorem ee_ifT (h : EvT b tt ρ true ρ1) (h2 : EE z ta ρ1 e) : EE z (tIf tt ta tb) ρ e := fun G H σ x st nd w q =>
  h G H σ x st nd _ fun G1 H1 x1 s1 a1 => h2 G1 H1 σ x1.gh s1 (by rw [a1]; exact nd) (fun cls d G' H' x2 s2 k2 => w cls d G' H' ((ext_b (M := []) x1).tr (by rw [← a1]; exact x2)) s2 k2) _
theorem ee_ifF (h : EvT b tt ρ false ρ1) (h2 : EE z tb ρ1 e) : EE z (tIf tt ta tb) ρ e := fun G H σ x st nd w q =>
  h G H σ x st nd _ fun G1 H1 x1 s1 a1 => h2 G1 H1 σ x1.gh s1 (by rw [a1]; exact nd) (fun cls d G' H' x2 s2 k2 => w cls d G' H' ((ext_b (M := []) x1).tr (by rw [← a1]; exact x2)) s2 k2) _
theorem ee_tand (h : EvT b tt ρ true ρ1) (h2 : EE z tu ρ1 e) : EE z (tAnd tt tu) ρ e := fun G H σ x st nd w q =>
  h G H σ x st nd _ fun G1 H1 x1 s1 a1 => h2 G1 H1 σ x1.gh s1 (by rw [a1]; exact nd) (fun cls d G' H' x2 s2 k2 => w cls d G' H' ((ext_b (M := []) x1).tr (by rw [← a1]; exact x2)) s2 k2) _
theorem ee_tor (h : EvT b tt ρ false ρ1) (h2 : EE z tu ρ1 e) : EE z (tOr tt tu) ρ e := fun G H σ x st nd w q =>
  h G H σ x st nd _ fun G1 H1 x1 s1 a1 => h2 G1 H1 σ x1.gh s1 (by rw [a1]; exact nd) (fun cls d G' H' x2 s2 k2 => w cls d G' H' ((ext_b (M := []) x1).tr (by rw [← a1]; exact x2)) s2 k2) _
end
section
variable {S α : Type} {z : Rz} {b : Bool} {rv : α → Rv} {ρ : S → En} {ta tb tc te : TE} {tt tu : TT} {K : PySem.W.Frag}
  {Ka Kb : {β : Type} → S → (D → S → R β) → R β} {Kv Kw : {β : Type} → S → (α → S → R β) → R β} {Kc Kd : {β : Type} → S → (Bool → S → R β) → R β}
theorem ee_tandF {e : Xc} {r r1 : En} {Q : Type} {t : L2.St → Hp → Q → Prop} (q0 : Q) (h : EvT b tt r false r1) (h2 : EE z (fun _ _ (_ : Unit) => False) r1 e) (G H : Hp) (σ : L2.St) (x : Ex G H) (st : StOk G H σ r) (nd : (adr r).Nodup)
    (w : ∀ cls d G' H', Ext (adr r) G H G' H' → StOk G' H' σ z.rx → EOk z.CA G' cls d e → z.W cls d σ H') (P : Bool → Hp → Prop) : tt σ H P :=
  h G H σ x st nd _ fun G1 H1 x1 s1 a1 => (h2 G1 H1 σ x1.gh s1 (by rw [a1]; exact nd) (fun cls d G' H' x2 s2 k2 => w cls d G' H' ((ext_b (M := []) x1).tr (by rw [← a1]; exact x2)) s2 k2) ()).elim
theorem ee_F {e : Xc} {r r1 : En} {c : Bool} (h : EvT b tt r c r1) (h2 : EE z (fun _ _ (_ : Unit) => False) r1 e) {Q : Type} (F : L2.St → Q → Bool → Hp → Prop) : EE z (fun σ H q => tt σ H (F σ q)) r e := fun G H σ x st nd w q =>
  h G H σ x st nd _ fun G1 H1 x1 s1 a1 => (h2 G1 H1 σ x1.gh s1 (by rw [a1]; exact nd) (fun cls d G' H' x2 s2 k2 => w cls d G' H' ((ext_b (M := []) x1).tr (by rw [← a1]; exact x2)) s2 k2) ()).elim
theorem ee_FV {e : Xc} {r r1 : En} {c : Rv} (h : Ev b ta r c r1) (h2 : EE z (fun _ _ (_ : Unit) => False) r1 e) {Q : Type} (F : L2.St → Q → V → Hp → Prop) : EE z (fun σ H q => ta σ H (F σ q)) r e := fun G H σ x st nd w q =>
  h G H σ x st nd _ fun v G1 H1 x1 s1 a1 k1 => (h2 G1 H1 σ x1.gh s1 (by rw [a1]; exact nd) (fun cls d G' H' x2 s2 k2 => w cls d G' H' ((ext_b (M := []) x1).tr (by rw [← a1]; exact x2)) s2 k2) ()).elim
abbrev OPure (v : α) : En → α → En → Prop := fun r c r' => c = v ∧ r = r'
abbrev tF : L2.St → Hp → Unit → Prop := fun _ _ _ => False
theorem gt_and (h : GT z b tt ρ Kc) (h2 : GT z b tu ρ Kd) : GT z b (tAnd tt tu) ρ (fun s k => Kc s fun c s' => (if c = true then Kd s' fun a s2 => R.ok (a, s2) else R.ok (false, s')).bind fun q => k q.1 q.2) :=
  gg_if (K2 := fun s k => k false s) (O2 := OPure false) (t2 := tF) h h2 (gg_pure fun s => ⟨rfl, rfl⟩) (fun r r1 c r2 h1 h2 => et_andT h1 h2) (fun r r1 c r2 h1 h2 => by rw [h2.1, ← h2.2]; exact et_andF h1)
    (fun r e h => ee_1 (fun σ (Q : Bool → Hp → Prop) c H1 => if c = true then tu σ H1 Q else Q false H1) h) (fun r r1 e h h2 => ee_tand h h2) (fun r r1 e h h2 => ee_F h h2 (fun σ (Q : Bool → Hp → Prop) c H1 => if c = true then tu σ H1 Q else Q false H1))
theorem gt_or (h : GT z b tt ρ Kc) (h2 : GT z b tu ρ Kd) : GT z b (tOr tt tu) ρ (fun s k => Kc s fun c s' => (if c = true then R.ok (true, s') else Kd s' fun a s2 => R.ok (a, s2)).bind fun q => k q.1 q.2) :=
  gg_if (K1 := fun s k => k true s) (O1 := OPure true) (t1 := tF) h (gg_pure fun s => ⟨rfl, rfl⟩) h2 (fun r r1 c r2 h1 h2 => by rw [h2.1, ← h2.2]; exact et_orT h1) (fun r r1 c r2 h1 h2 => et_orF h1 h2)
    (fun r e h => ee_1 (fun σ (Q : Bool → Hp → Prop) c H1 => if c = true then Q true H1 else tu σ H1 Q) h) (fun r r1 e h h2 => ee_F h h2 (fun σ (Q : Bool → Hp → Prop) c H1 => if c = true then Q true H1 else tu σ H1 Q)) (fun r r1 e h h2 => ee_tor h h2)
/-- a if c else b -/
theorem g_if (h : GT z b tt ρ Kc) (h1 : GE z b rv ta ρ Kv) (h2 : GE z b rv tb ρ Kw) : GE z b rv (tIf tt ta tb) ρ (fun s k => Kc s fun c s' => (if c = true then Kv s' fun a s2 => R.ok (a, s2) else Kw s' fun a s2 => R.ok (a, s2)).bind fun q => k q.1 q.2) :=
  gg_if h h1 h2 (fun r r1 c r2 h1 h2 => ev_ifT h1 h2) (fun r r1 c r2 h1 h2 => ev_ifF h1 h2) (fun r e h => ee_1 (fun σ (Q : VK) c H1 => if c = true then ta σ H1 Q else tb σ H1 Q) h) (fun r r1 e h h2 => ee_ifT h h2) (fun r r1 e h h2 => ee_ifF h h2)
theorem g_and (h : GE z b rvB ta ρ Kc) (h2 : GE z b rvB tb ρ Kd) : GE z b rvB (tAndV ta tb) ρ (fun s k => Kc s fun c s' => (if c = true then Kd s' fun a s2 => R.ok (a, s2) else R.ok (false, s')).bind fun q => k q.1 q.2) :=
  gg_if (K2 := fun s k => k false s) (O2 := OPure false) (t2 := tF) h h2 (gg_pure fun s => ⟨rfl, rfl⟩) (fun r r1 c r2 h1 h2 => ev_andT h1 h2) (fun r r1 c r2 h1 h2 => by rw [h2.1, ← h2.2]; exact ev_andF h1)
    (fun r e h => ee_1 (fun σ (Q : VK) (x : V) H1 => ∃ c, x = .bl c ∧ if c = true then tb σ H1 Q else Q (.bl false) H1) h) (fun r r1 e h h2 => ee_andV h h2) (fun r r1 e h h2 => ee_FV h h2 (fun σ (Q : VK) (x : V) H1 => ∃ c, x = .bl c ∧ if c = true then tb σ H1 Q else Q (.bl false) H1))
theorem g_or (h : GE z b rvB ta ρ Kc) (h2 : GE z b rvB tb ρ Kd) : GE z b rvB (tOrV ta tb) ρ (fun s k => Kc s fun c s' => (if c = true then R.ok (true, s') else Kd s' fun a s2 => R.ok (a, s2)).bind fun q => k q.1 q.2) :=
  gg_if (K1 := fun s k => k true s) (O1 := OPure true) (t1 := tF) h (gg_pure fun s => ⟨rfl, rfl⟩) h2 (fun r r1 c r2 h1 h2 => by rw [h2.1, ← h2.2]; exact ev_orT h1) (fun r r1 c r2 h1 h2 => ev_orF h1 h2)
    (fun r e h => ee_1 (fun σ (Q : VK) (x : V) H1 => ∃ c, x = .bl c ∧ if c = true then Q (.bl true) H1 else tb σ H1 Q) h) (fun r r1 e h h2 => ee_FV h h2 (fun σ (Q : VK) (x : V) H1 => ∃ c, x = .bl c ∧ if c = true then Q (.bl true) H1 else tb σ H1 Q)) (fun r r1 e h h2 => ee_orV h h2)
theorem g_not (h : GE z b rvB ta ρ Kc) : GE z b rvB (tNotV ta) ρ (fun s k => Kc s fun c s' => k (!c) s') := gg_mapT (fun c => !c) h (fun _ _ _ h => ev_not h) (fun _ _ h => ee_1 (fun σ (Q : VK) (x : V) H1 => ∃ c, x = .bl c ∧ Q (.bl (!c)) H1) h)
end
/-! the same, nothing changed -/
section
variable {α : Type} {z : Rz} {b : Bool} {rv : α → Rv} {ρ : Unit → En} {ta tb tc te : TE} {tt tu : TT} {K : PySem.W.Frag}
  {Ka Kb : {β : Type} → Unit → (D → Unit → R β) → R β} {Kv Kw : {β : Type} → Unit → (α → Unit → R β) → R β} {Kc Kd : {β : Type} → Unit → (Bool → Unit → R β) → R β}
theorem gt_and0 (h : GT z b tt ρ Kc) (h2 : GT z b tu ρ Kd) : GT z b (tAnd tt tu) ρ (fun _ k => Kc () fun c _ => (if c = true then Kd () fun a _ => R.ok a else R.ok false).bind fun a => k a ()) :=
  gg_if0 (K2 := fun s k => k false s) (O2 := OPure false) (t2 := tF) h h2 (gg_pure fun s => ⟨rfl, rfl⟩) (fun r r1 c r2 h1 h2 => et_andT h1 h2) (fun r r1 c r2 h1 h2 => by rw [h2.1, ← h2.2]; exact et_andF h1)
    (fun r e h => ee_1 (fun σ (Q : Bool → Hp → Prop) c H1 => if c = true then tu σ H1 Q else Q false H1) h) (fun r r1 e h h2 => ee_tand h h2) (fun r r1 e h h2 => ee_F h h2 (fun σ (Q : Bool → Hp → Prop) c H1 => if c = true then tu σ H1 Q else Q false H1))
theorem gt_or0 (h : GT z b tt ρ Kc) (h2 : GT z b tu ρ Kd) : GT z b (tOr tt tu) ρ (fun _ k => Kc () fun c _ => (if c = true then R.ok true else Kd () fun a _ => R.ok a).bind fun a => k a ()) :=
  gg_if0 (K1 := fun s k => k true s) (O1 := OPure true) (t1 := tF) h (gg_pure fun s => ⟨rfl, rfl⟩) h2 (fun r r1 c r2 h1 h2 => by rw [h2.1, ← h2.2]; exact et_orT h1) (fun r r1 c r2 h1 h2 => et_orF h1 h2)
    (fun r e h => ee_1 (fun σ (Q : Bool → Hp → Prop) c H1 => if c = true then Q true H1 else tu σ H1 Q) h) (fun r r1 e h h2 => ee_F h h2 (fun σ (Q : Bool → Hp → Prop) c H1 => if c = true then Q true H1 else tu σ H1 Q)) (fun r r1 e h h2 => ee_tor h h2)
theorem g_if0 (h : GT z b tt ρ Kc) (h1 : GE z b rv ta ρ Kv) (h2 : GE z b rv tb ρ Kw) : GE z b rv (tIf tt ta tb) ρ (fun _ k => Kc () fun c _ => (if c = true then Kv () fun a _ => R.ok a else Kw () fun a _ => R.ok a).bind fun a => k a ()) :=
  gg_if0 h h1 h2 (fun r r1 c r2 h1 h2 => ev_ifT h1 h2) (fun r r1 c r2 h1 h2 => ev_ifF h1 h2) (fun r e h => ee_1 (fun σ (Q : VK) c H1 => if c = true then ta σ H1 Q else tb σ H1 Q) h) (fun r r1 e h h2 => ee_ifT h h2) (fun r r1 e h h2 => ee_ifF h h2)
theorem g_and0 (h : GE z b rvB ta ρ Kc) (h2 : GE z b rvB tb ρ Kd) : GE z b rvB (tAndV ta tb) ρ (fun _ k => Kc () fun c _ => (if c = true then Kd () fun a _ => R.ok a else R.ok false).bind fun a => k a ()) :=
  gg_if0 (K2 := fun s k => k false s) (O2 := OPure false) (t2 := tF) h h2 (gg_pure fun s => ⟨rfl, rfl⟩) (fun r r1 c r2 h1 h2 => ev_andT h1 h2) (fun r r1 c r2 h1 h2 => by rw [h2.1, ← h2.2]; exact ev_andF h1)
    (fun r e h => ee_1 (fun σ (Q : VK) (x : V) H1 => ∃ c, x = .bl c ∧ if c = true then tb σ H1 Q else Q (.bl false) H1) h) (fun r r1 e h h2 => ee_andV h h2) (fun r r1 e h h2 => ee_FV h h2 (fun σ (Q : VK) (x : V) H1 => ∃ c, x = .bl c ∧ if c = true then tb σ H1 Q else Q (.bl false) H1))
theorem g_or0 (h : GE z b rvB ta ρ Kc) (h2 : GE z b rvB tb ρ Kd) : GE z b rvB (tOrV ta tb) ρ (fun _ k => Kc () fun c _ => (if c = true then R.ok true else Kd () fun a _ => R.ok a).bind fun a => k a ()) :=
  gg_if0 (K1 := fun s k => k true s) (O1 := OPure true) (t1 := tF) h (gg_pure fun s => ⟨rfl, rfl⟩) h2 (fun r r1 c r2 h1 h2 => by rw [h2.1, ← h2.2]; exact ev_orT h1) (fun r r1 c r2 h1 h2 => ev_orF h1 h2)
    (fun r e h => ee_1 (fun σ (Q : VK) (x : V) H1 => ∃ c, x = .bl c ∧ if c = true then Q (.bl true) H1 else tb σ H1 Q) h) (fun r r1 e h h2 => ee_FV h h2 (fun σ (Q : VK) (x : V) H1 => ∃ c, x = .bl c ∧ if c = true then Q (.bl true) H1 else tb σ H1 Q)) (fun r r1 e h h2 => ee_orV h h2)
end
end Kn

namespace Kn
open PySem L2

/-! ### the operations' rules -/
section
variable {K : PySem.W.Frag}
theorem om_fdiv : OpM Rv.d (rI CDiv fun i j => .int (i / j)) fdivD where
  ok := fun a b c h => by
    unfold fdivD at h
    split at h
    · split at h
      · rename_i hc
        cases h; exact o2_C hc
      · cases h
    · cases h
  ex := fun a b e h => by unfold fdivD at h; split at h <;> first | cases h | (split at h <;> cases h)
theorem om_mod : OpM Rv.d (rI (fun _ j => 0 < j) fun i j => .int (i % j)) modD where
  ok := fun a b c h => by
    unfold modD at h
    split at h
    · split at h
      · rename_i hc
        cases h; exact o2_C hc
      · cases h
    · cases h
  ex := fun a b e h => by unfold modD at h; split at h <;> first | cases h | (split at h <;> cases h)
theorem om_pow : OpM Rv.d (rI CPow fun i j => .int (i ^ j.toNat)) powD where
  ok := fun a b c h => by
    unfold powD at h
    split at h
    · split at h
      · rename_i hc
        cases h; exact o2_C hc
      · cases h
    · cases h
  ex := fun a b e h => by unfold powD at h; split at h <;> first | cases h | (split at h <;> cases h)
theorem om_lt : OpM rvB (rI0 fun i j => .bl (decide (i < j))) ltD where
  ok := fun a b c h => by
    unfold ltD at h
    split at h
    · cases h; exact o2_B
    · cases h
  ex := fun a b e h => by unfold ltD at h; split at h <;> cases h
theorem om_le : OpM rvB (rI0 fun i j => .bl (decide (i ≤ j))) leD where
  ok := fun a b c h => by
    unfold leD at h
    split at h
    · cases h; exact o2_B
    · cases h
  ex := fun a b e h => by unfold leD at h; split at h <;> cases h
theorem om_gt : OpM rvB (rI0 fun i j => .bl (decide (i > j))) gtD where
  ok := fun a b c h => by
    unfold gtD at h
    split at h
    · cases h; exact o2_B
    · cases h
  ex := fun a b e h => by unfold gtD at h; split at h <;> cases h
theorem om_ge : OpM rvB (rI0 fun i j => .bl (decide (i ≥ j))) geD where
  ok := fun a b c h => by
    unfold geD at h
    split at h
    · cases h; exact o2_B
    · cases h
  ex := fun a b e h => by unfold geD at h; split at h <;> cases h
def rEqX (K : PySem.W.Frag) : R2 := fun x y H Q => rEqD K x y H Q ∨ rEq x y H Q
def rNeX (K : PySem.W.Frag) : R2 := fun x y H Q => rNeD K x y H Q ∨ rNe x y H Q
theorem op_eqX {X : Cx} (hu : X.A.units + 64 < cLine) : OpR X (compareOp .Eq) (rEqX X.K) := fun pins s σ H x y v u Q I rx ry h => h.elim (op_eqD hu pins s σ H x y v u Q I rx ry) (op_eq pins s σ H x y v u Q I rx ry)
theorem op_neX {X : Cx} (hu : X.A.units + 64 < cLine) : OpR X (compareOp .NotEq) (rNeX X.K) := fun pins s σ H x y v u Q I rx ry h => h.elim (op_neD hu pins s σ H x y v u Q I rx ry) (op_ne pins s σ H x y v u Q I rx ry)
theorem eqv_str (a b : Str) : PyData.eqv (.str a) (.str b) = decide (V.str a = V.str b) := by
  show (a == b) = _
  by_cases h : a = b <;> simp [h]
theorem o2_eqX {x y : PyData} (h : (SeqAt.shaped x = true ∧ SeqAt.shaped y = true) ∨ bothS x y = true) : Op2 (rEqX K) x y (.d (.bool (PyData.eqv x y))) := by
  rcases h with ⟨h1, h2⟩ | h
  · exact fun G H v w e hv hw Q q => .inl (o2_eqD h1 h2 G H v w e hv hw Q q)
  · unfold bothS at h
    split at h
    · refine o2_val fun G H v w e hv hw Q q => .inr ?_
      cases hv; cases hw
      refine ⟨rfl, ?_⟩
      rw [← eqv_str]
      exact q _ (.bl _)
    · cases h
theorem o2_neX {x y : PyData} (h : (SeqAt.shaped x = true ∧ SeqAt.shaped y = true) ∨ bothS x y = true) : Op2 (rNeX K) x y (.d (.bool (!PyData.eqv x y))) := by
  rcases h with ⟨h1, h2⟩ | h
  · exact fun G H v w e hv hw Q q => .inl (o2_neD h1 h2 G H v w e hv hw Q q)
  · unfold bothS at h
    split at h
    · refine o2_val fun G H v w e hv hw Q q => .inr ?_
      cases hv; cases hw
      refine ⟨rfl, ?_⟩
      rw [← eqv_str]
      exact q _ (.bl _)
    · cases h
theorem om_eq : OpM rvB (rEqX K) eqD where
  ok := fun a b c h => by
    unfold eqD at h
    split at h
    · rename_i hc
      cases h; exact o2_eqX hc
    · cases h
  ex := fun a b e h => by unfold eqD at h; split at h <;> cases h
theorem om_ne : OpM rvB (rNeX K) neD where
  ok := fun a b c h => by
    unfold neD at h
    split at h
    · rename_i hc
      cases h; exact o2_neX hc
    · cases h
  ex := fun a b e h => by unfold neD at h; split at h <;> cases h
theorem o2_notBl {a b : Bool} : Op2 rNotB (.bool a) (.bool b) (.d (.bool (!decide (a = b)))) := o2_val fun G H v w e hv hw Q q => by
  cases hv; cases hw
  exact ⟨a, b, rfl, rfl, q _ (.bl _)⟩
def rIsM : R2 := rOr rIsNn rIsB
def rNoM : R2 := rOr rNoNn rNotB
theorem op_isM {X : Cx} : OpR X (compareOp .Is) rIsM := OpR.or op_isN op_isBl
theorem op_noM {X : Cx} : OpR X (compareOp .IsNot) rNoM := OpR.or op_notN op_notBl
theorem om_is : OpM rvB rIsM isM where
  ok := fun a b c h => by
    unfold isM at h
    split at h
    · cases h; exact o2_l o2_isN
    · cases h; exact o2_r o2_isBl
    · cases h
  ex := fun a b e h => by unfold isM at h; split at h <;> cases h
theorem om_no : OpM rvB rNoM noM where
  ok := fun a b c h => by
    unfold noM at h
    split at h
    · cases h; exact o2_l o2_noN
    · cases h; exact o2_r o2_notBl
    · cases h
  ex := fun a b e h => by unfold noM at h; split at h <;> cases h
theorem dq_flat {G : Hp} {v : V} {d : D} (h : Dq G v d) (hf : flatD d = true) : flatV v = true := by cases h <;> first | rfl | exact Bool.noConfusion hf
theorem dq_flatE {G : Hp} {v w : V} {c d : D} (h : Dq G v d) (hf : flatD d = true) (k : Dq G w c) (kf : flatD c = true) : eqV v w = PyData.eqv d c := by
  cases h <;> first | (cases k <;> first | rfl | exact Bool.noConfusion kf) | exact Bool.noConfusion hf
theorem dqs_flat {G : Hp} {w : V} {c : D} (k : Dq G w c) (kf : flatD c = true) : ∀ {vs : List V} {ds : List D}, DqA G vs ds → ds.all flatD = true → vs.all flatV = true ∧ inV w vs = ds.any fun y => PyData.eqv y c
  | _, _, .nil, _ => ⟨rfl, rfl⟩
  | _, _, .cons h t, z => by
    rw [List.all_cons, Bool.and_eq_true] at z
    obtain ⟨i1, i2⟩ := dqs_flat k kf t z.2
    refine ⟨by rw [List.all_cons, dq_flat h z.1, i1]; rfl, ?_⟩
    unfold inV at i2 ⊢
    rw [List.any_cons, List.any_cons, i2, dq_flatE h z.1 k kf]
def rInM (K : PySem.W.Frag) : R2 := rOr (rInD K) (rIn K false)
def rNiM (K : PySem.W.Frag) : R2 := rOr (rNotInD K) (rIn K true)
theorem op_inM {X : Cx} (hu : X.A.units + 65 < cLine) : OpR X (compareOp .In) (rInM X.K) := OpR.or (op_inD hu) op_in_seq
theorem op_niM {X : Cx} (hu : X.A.units + 65 < cLine) : OpR X (compareOp .NotIn) (rNiM X.K) := OpR.or (op_notInD hu) op_notIn_seq
theorem om_in : OpM rvB (rInM K) inD where
  ok := fun a b c h => by
    unfold inD at h
    split at h
    · split at h
      · rename_i ys hc
        cases h
        refine o2_l (o2_val fun G H v w eg hv hw Q q => ?_)
        exact ⟨_, _, dq_dp (dq_mono eg hv) (sh_lay hc.1), dq_dp (dq_mono eg hw) (sh_lay hc.2), hc.1, hc.2, q _ (.bl _)⟩
      · cases h
    · split at h
      · rename_i ys hc
        cases h
        refine o2_r (o2_val fun G H v w eg hv hw Q q => ?_)
        cases hw with
        | tup ha hs =>
          obtain ⟨i1, i2⟩ := dqs_flat hv hc.1 hs hc.2
          exact ⟨_, _, rfl, .inr (.inl (.inl (eg _ _ ha))), dq_flat hv hc.1, i1, by
            show Q (.bl (inV _ _)) H
            rw [i2]; exact q _ (.bl _)⟩
      · cases h
    · cases h
  ex := fun a b e h => by unfold inD at h; split at h <;> first | cases h | (split at h <;> cases h)
theorem om_ni : OpM rvB (rNiM K) niD where
  ok := fun a b c h => by
    unfold niD at h
    split at h
    · split at h
      · rename_i ys hc
        cases h
        refine o2_l (o2_val fun G H v w eg hv hw Q q => ?_)
        exact ⟨_, _, dq_dp (dq_mono eg hv) (sh_lay hc.1), dq_dp (dq_mono eg hw) (sh_lay hc.2), hc.1, hc.2, q _ (.bl _)⟩
      · cases h
    · split at h
      · rename_i ys hc
        cases h
        refine o2_r (o2_val fun G H v w eg hv hw Q q => ?_)
        cases hw with
        | tup ha hs =>
          obtain ⟨i1, i2⟩ := dqs_flat hv hc.1 hs hc.2
          exact ⟨_, _, rfl, .inr (.inl (.inl (eg _ _ ha))), dq_flat hv hc.1, i1, by
            show Q (.bl (!inV _ _)) H
            rw [i2]; exact q _ (.bl _)⟩
      · cases h
    · cases h
  ex := fun a b e h => by unfold niD at h; split at h <;> first | cases h | (split at h <;> cases h)
/-- xs[i] -/
def rIxM (K : PySem.W.Frag) : R2 := rOr (rIxL K) (rIxT K)
theorem ix_M {X : Cx} : IxR X (rIxM X.K) := ix_list.or ix_tup
theorem atM_ok {xs : List D} {i : Int} {d : D} (h : atM xs i = .ok d) : atI xs i = some d := by
  unfold atM at h
  split at h
  · rename_i e
    cases h; exact e
  · cases h
theorem atM_ex {xs : List D} {i : Int} {e : Xc} : atM xs i ≠ .ex e := fun h => by unfold atM at h; split at h <;> cases h
theorem om_ix : OpM Rv.d (rIxM K) ixD where
  ok := fun a b c h => by
    unfold ixD at h
    split at h
    · exact o2_l (o2_ixL (atM_ok h))
    · exact o2_r (o2_ixT (atM_ok h))
    · cases h
  ex := fun a b e h => by unfold ixD at h; split at h <;> first | cases h | exact atM_ex h
end

/-! ### arguments, displays, built-ins -/
structure RcM {α : Type} (rv : α → Rv) (r : List V → Hp → VK → Prop) (f : D → R α) : Prop where
  ok : ∀ d c, f d = .ok c → RcD r [.d d] (rv c)
  ex : ∀ d e, f d ≠ .ex e
structure RcM2 {α : Type} (rv : α → Rv) (r : List V → Hp → VK → Prop) (f : D → D → R α) : Prop where
  ok : ∀ d d' c, f d d' = .ok c → RcD r [.d d, .d d'] (rv c)
  ex : ∀ d d' e, f d d' ≠ .ex e
structure RkM {α : Type} (rv : α → Rv) (r : List V → List V → Hp → VK → Prop) (f : D → D → R α) : Prop where
  ok : ∀ d d' c, f d d' = .ok c → RcK r [.d d] [.d d'] (rv c)
  ex : ∀ d d' e, f d d' ≠ .ex e
section
variable {r r' : List V → Hp → VK → Prop} {as : List Ar} {w : Rv}
theorem rc_l (h : RcD r as w) : RcD (cOr r r') as w := fun G H σ vs e hv Q q => .inl (h G H σ vs e hv Q q)
theorem rc_r (h : RcD r' as w) : RcD (cOr r r') as w := fun G H σ vs e hv Q q => .inr (h G H σ vs e hv Q q)
end
section
variable {S α : Type} {z : Rz} {b : Bool} {n m : Nat} {rv : α → Rv} {ρ : S → En} {ta tb tc te : TE} {ts tr : TA} {tt tu : TT} {K : PySem.W.Frag}
  {Ka Kb : {β : Type} → S → (D → S → R β) → R β} {Kv Kw : {β : Type} → S → (α → S → R β) → R β} {Kc Kd : {β : Type} → S → (Bool → S → R β) → R β} {Kl : {β : Type} → S → (List D → S → R β) → R β}
theorem ga_nil : GA z b 0 tNil ρ (fun s k => k [] s) := gg_pure fun s => ⟨rfl, ea_nil⟩
theorem ga_cons (ha : GE z b Rv.d ta ρ Ka) (hr : GA z b n ts ρ Kl) : GA z b (n + 1) (tCons ta ts) ρ (fun s k => Ka s fun a s' => Kl s' fun r s'' => k (a :: r) s'') :=
  gg_bindT (fun a r => a :: r) ha hr (fun _ _ _ _ _ h1 h2 => ⟨by rw [List.length_cons, h2.1], ea_d h1 h2.2⟩) (fun _ _ h => ee_1 (fun σ (Q : List V → Hp → Prop) (x : V) (H1 : Hp) => ts σ H1 fun xs H2 => Q (x :: xs) H2) h) (fun _ _ _ _ h1 h2 => ee_2 (fun σ (x : V) (Q : List V → Hp → Prop) (xs : List V) (H2 : Hp) => Q (x :: xs) H2) h1 h2)
theorem g_tup (h : GA z b n ts ρ Kl) (hn : n ≤ 1000 := by exact Nat.le_of_ble_eq_true rfl) : GE z b Rv.d (tTup ts) ρ (fun s k => Kl s fun ds s' => k (.tuple ds) s') :=
  gg_mapT (fun ds => PyData.tuple ds) h (fun _ _ _ h => ev_tup h.2 (by rw [h.1]; exact hn)) (fun _ _ h => ee_1 (fun σ (Q : VK) (xs : List V) (H1 : Hp) => xs.length ≤ sizeLine ∧ ∀ p, H1 p = none → Q (.ref p) (upd H1 p (.tup xs))) h)
theorem g_lst (h : GA z b n ts ρ Kl) (hn : n ≤ 1000 := by exact Nat.le_of_ble_eq_true rfl) : GE z b Rv.l (tLst ts) ρ (fun s k => Kl s fun ds s' => k ds s') :=
  gg_mapT (fun ds => ds) h (fun _ _ _ h => ev_lst h.2 (by rw [h.1]; exact hn)) (fun _ _ h => ee_1 (fun σ (Q : VK) (xs : List V) (H1 : Hp) => xs.length ≤ sizeLine ∧ ∀ p, H1 p = none → Q (.ref p) (upd H1 p (.lst xs))) h)
theorem ee_c1 {e : Xc} {ρ : En} {Q : Type} {F : L2.St → Q → List V → Hp → Prop} (h : EE z ta ρ e) : EE z (fun σ H q => tCons ta tNil σ H (F σ q)) ρ e := ee_1 (fun σ q x H1 => F σ q [x] H1) h
theorem g_cb {r : List V → Hp → VK → Prop} {f : D → R α} (h : GE z b Rv.d te ρ Ka) (hr : RcM rv r f) : GE z b rv (tCB r (tCons te tNil)) ρ (fun s k => Ka s fun d s' => (f d).bind fun c => k c s') :=
  gg_map f h hr.ex (fun _ _ _ _ h1 e => ev_cb (ea_d h1 ea_nil) (hr.ok _ _ e)) (fun _ _ h => ee_1 (fun σ (Q : VK) (x : V) (H1 : Hp) => r [x] H1 Q) h)
theorem g_cb2 {r : List V → Hp → VK → Prop} {f : D → D → R α} (h : GE z b Rv.d ta ρ Ka) (h2 : GE z b Rv.d tb ρ Kb) (hr : RcM2 rv r f) : GE z b rv (tCB r (tCons ta (tCons tb tNil))) ρ (fun s k => Ka s fun d s' => Kb s' fun d' s'' => (f d d').bind fun c => k c s'') :=
  gg_bind f h h2 hr.ex (fun _ _ _ _ _ _ h1 h2 e => ev_cb (ea_d h1 (ea_d h2 ea_nil)) (hr.ok _ _ _ e)) (fun _ _ h => ee_1 (fun σ (Q : VK) (x : V) (H1 : Hp) => tb σ H1 fun (y : V) (H2 : Hp) => r [x, y] H2 Q) h) (fun _ _ _ _ h1 h2 => ee_2 (fun σ (x : V) (Q : VK) (y : V) (H2 : Hp) => r [x, y] H2 Q) h1 h2)
theorem g_ckw {r : List V → List V → Hp → VK → Prop} {f : D → D → R α} (h : GE z b Rv.d ta ρ Ka) (h2 : GE z b Rv.d tb ρ Kb) (hr : RkM rv r f) : GE z b rv (tCKw r (tCons ta tNil) (tCons tb tNil)) ρ (fun s k => Ka s fun d s' => Kb s' fun d' s'' => (f d d').bind fun c => k c s'') :=
  gg_bind f h h2 hr.ex (fun _ _ _ _ _ _ h1 h2 e => ev_ckw (ea_d h1 ea_nil) (ea_d h2 ea_nil) (hr.ok _ _ _ e)) (fun _ _ h => ee_1 (fun σ (Q : VK) (x : V) (H1 : Hp) => tb σ H1 fun (y : V) (H2 : Hp) => r [x] [y] H2 Q) h) (fun _ _ _ _ h1 h2 => ee_2 (fun σ (x : V) (Q : VK) (y : V) (H2 : Hp) => r [x] [y] H2 Q) h1 h2)
/-- isinstance(x, T), T a built-in type -/
theorem g_isi {t : String} (h : GE z b Rv.d te ρ Ka) (hk : ∀ d, kitB (tyN d) t = some (isTy d t)) : GE z b rvB (tCB (rIsi K) (tCons te (tCons (tC (.ty t)) tNil))) ρ (fun s k => Ka s fun d s' => (isiD d t).bind fun c => k c s') :=
  gg_map (fun d => isiD d t) h (fun a e h => by unfold isiD at h; split at h <;> cases h) (fun _ d _ _ h1 e => by
    unfold isiD at e
    split at e
    · rename_i hx
      cases e
      exact ev_cb (ea_d h1 (ea_v ev_c ea_nil)) (rc_isi hx (hk d))
    · cases e) (fun _ _ h => ee_1 (fun σ (Q : VK) (x : V) (H1 : Hp) => rIsi K [x, .ty t] H1 Q) h)
/-- list(range(..)) -/
theorem lrg_ok {m n : Int} {xs : List D} (h : lrg m n = .ok xs) : (-1000000 ≤ m ∧ m ≤ 1000000 ∧ -1000000 ≤ n ∧ n ≤ 1000000) ∧ xs = (rgI m (n - m).toNat).map .int := by
  unfold lrg at h
  split at h
  · rename_i hc
    cases h; exact ⟨hc, rfl⟩
  · cases h
theorem lrg_ex {m n : Int} {e : Xc} : lrg m n ≠ .ex e := fun h => by unfold lrg at h; split at h <;> cases h
theorem g_lrg1 (h : GE z b Rv.d te ρ Ka) : GE z b Rv.l (tLstRg (tRg1 te)) ρ (fun s k => Ka s fun d s' => (lrg1 d).bind fun c => k c s') :=
  gg_map lrg1 h (fun a e h => by unfold lrg1 at h; split at h <;> first | cases h | exact lrg_ex h) (fun _ d _ c h1 e => by
    unfold lrg1 at e
    split at e
    · obtain ⟨k1, rfl⟩ := lrg_ok e
      exact ev_listRg (er_1 h1) k1
    · cases e) (fun _ _ h => ee_1 (fun σ (Q : VK) (x : V) (H1 : Hp) => ∃ n, x = .int n ∧ RgOk 0 n ∧ ∀ q, H1 q = none → Q (.ref q) (upd H1 q (.lst (rgV 0 n)))) h)
theorem g_lrg2 (h : GE z b Rv.d ta ρ Ka) (h2 : GE z b Rv.d tb ρ Kb) : GE z b Rv.l (tLstRg (tRg2 ta tb)) ρ (fun s k => Ka s fun d s' => Kb s' fun d' s'' => (lrg2 d d').bind fun c => k c s'') :=
  gg_bind lrg2 h h2 (fun a b e h => by unfold lrg2 at h; split at h <;> first | cases h | exact lrg_ex h) (fun _ d _ d' _ c h1 h2 e => by
    unfold lrg2 at e
    split at e
    · obtain ⟨k1, rfl⟩ := lrg_ok e
      exact ev_listRg (er_2 h1 h2) k1
    · cases e) (fun _ _ h => ee_1 (fun σ (Q : VK) (x : V) (H1 : Hp) => tb σ H1 fun (y : V) (H2 : Hp) => ∃ i j, x = .int i ∧ y = .int j ∧ RgOk i j ∧ ∀ q, H2 q = none → Q (.ref q) (upd H2 q (.lst (rgV i j)))) h)
    (fun _ _ _ _ h1 h2 => ee_2 (fun σ (x : V) (Q : VK) (y : V) (H2 : Hp) => ∃ i j, x = .int i ∧ y = .int j ∧ RgOk i j ∧ ∀ q, H2 q = none → Q (.ref q) (upd H2 q (.lst (rgV i j)))) h1 h2)
theorem g_rev (h : GE z b Rv.d te ρ Ka) : GE z b Rv.l (tRevL K te) ρ (fun s k => Ka s fun d s' => (revL d).bind fun c => k c s') :=
  gg_map revL h (fun a e h => by cases a <;> cases h) (fun _ d _ c h1 e => by
    cases d <;> cases e
    exact ev_revL h1) (fun _ _ h => ee_1 (fun σ (Q : VK) (x : V) (H1 : Hp) => ∃ a xs, x = .ref a ∧ SqL K H1 a xs ∧ ∀ p, H1 p = none → Q (.ref p) (upd H1 p (.lst xs.reverse))) h)
/-! slices -/
structure SlM {α : Type} (rv : α → Rv) (r : V → Option Int → Option Int → Hp → VK → Prop) (f : D → Option Int → Option Int → R α) : Prop where
  ok : ∀ d lo hi c, f d lo hi = .ok c → ∀ (G H : Hp) (v : V), Ex G H → Dq G v d → ∀ Q : VK, (∀ u G' H', Ext [] G H G' H' → ROk G H G' H' u (rv c) → Q u H') → r v lo hi H Q
  ex : ∀ d lo hi e, f d lo hi ≠ .ex e
theorem go_n : GO z b tNoPart ρ (fun s k => k none s) := gg_pure fun s => eo_n
theorem go_s (h : GE z b Rv.d te ρ Ka) : GO z b (tPart te) ρ (fun s k => Ka s fun d s' => (ixO d).bind fun o => k o s') :=
  gg_map ixO h (fun a e h => by cases a <;> cases h) (fun _ d _ c h1 e => by
    cases d <;> cases e
    exact eo_s h1) (fun _ _ h => ee_1 (fun σ (Q : Option Int → Hp → Prop) (x : V) (H1 : Hp) => ∃ i, x = .int i ∧ Q (some i) H1) h)
end
end Kn

namespace Kn
open PySem L2

/-! ### three parts -/
section
variable {S α γ ε δ : Type} {z : Rz} {Q1 Q2 Q3 Q4 : Type} {t1 : L2.St → Hp → Q1 → Prop} {t2 : L2.St → Hp → Q2 → Prop} {t3 : L2.St → Hp → Q3 → Prop} {t4 : L2.St → Hp → Q4 → Prop} {O1 : En → α → En → Prop} {O2 : En → γ → En → Prop} {O3 : En → ε → En → Prop} {O4 : En → δ → En → Prop} {ρ : S → En}
  {K1 : {β : Type} → S → (α → S → R β) → R β} {K2 : {β : Type} → S → (γ → S → R β) → R β} {K3 : {β : Type} → S → (ε → S → R β) → R β}
theorem gg_bind3 (f : α → γ → ε → R δ) (h1 : GG z O1 t1 ρ K1) (h2 : GG z O2 t2 ρ K2) (h3 : GG z O3 t3 ρ K3) (hf : ∀ a b c e, f a b c ≠ .ex e) (hO : ∀ r a r1 b r2 c r3 d, O1 r a r1 → O2 r1 b r2 → O3 r2 c r3 → f a b c = .ok d → O4 r d r3)
    (hE1 : ∀ r e, EE z t1 r e → EE z t4 r e) (hE2 : ∀ r a r1 e, O1 r a r1 → EE z t2 r1 e → EE z t4 r e) (hE3 : ∀ r a r1 b r2 e, O1 r a r1 → O2 r1 b r2 → EE z t3 r2 e → EE z t4 r e) : GG z O4 t4 ρ (fun s k => K1 s fun a s1 => K2 s1 fun b s2 => K3 s2 fun c s3 => (f a b c).bind fun d => k d s3) := fun s => by
  obtain ⟨m, e1, e2, e3⟩ := h1 s
  let m2 : S → R (γ × S) := fun s => Classical.choose (h2 s)
  have h2'' : ∀ s, (∀ (β : Type) (k : γ → S → R β), @K2 β s k = (m2 s).bind fun q => k q.1 q.2) ∧ (∀ q, m2 s = .ok q → O2 (ρ s) q.1 (ρ q.2)) ∧ ∀ e, m2 s = .ex e → EE z t2 (ρ s) e := fun s => Classical.choose_spec (h2 s)
  let m3 : S → R (ε × S) := fun s => Classical.choose (h3 s)
  have h3'' : ∀ s, (∀ (β : Type) (k : ε → S → R β), @K3 β s k = (m3 s).bind fun q => k q.1 q.2) ∧ (∀ q, m3 s = .ok q → O3 (ρ s) q.1 (ρ q.2)) ∧ ∀ e, m3 s = .ex e → EE z t3 (ρ s) e := fun s => Classical.choose_spec (h3 s)
  refine ⟨m.bind fun q => (m2 q.2).bind fun p => (m3 p.2).bind fun o => (f q.1 p.1 o.1).bind fun c => .ok (c, o.2), fun β k => ?_, fun q hq => ?_, fun e he => ?_⟩
  · rw [e1, R.bind_assoc]; congr 1; funext q; rw [(h2'' q.2).1, R.bind_assoc]; congr 1; funext p; rw [(h3'' p.2).1, R.bind_assoc]; congr 1; funext o; rw [R.bind_assoc]; rfl
  · obtain ⟨a, h3, h4⟩ := R.bind_eq_ok hq
    obtain ⟨b, h5, h6⟩ := R.bind_eq_ok h4
    obtain ⟨c, h7, h8⟩ := R.bind_eq_ok h6
    obtain ⟨d, h9, h10⟩ := R.bind_eq_ok h8
    cases h10
    exact hO _ _ _ _ _ _ _ _ (e2 _ h3) ((h2'' _).2.1 _ h5) ((h3'' _).2.1 _ h7) h9
  · rcases R.bind_eq_ex he with h3 | ⟨a, h3, h4⟩
    · exact hE1 _ _ (e3 _ h3)
    · rcases R.bind_eq_ex h4 with h5 | ⟨b, h5, h6⟩
      · exact hE2 _ _ _ _ (e2 _ h3) ((h2'' _).2.2 _ h5)
      · rcases R.bind_eq_ex h6 with h7 | ⟨c, h7, h8⟩
        · exact hE3 _ _ _ _ _ _ (e2 _ h3) ((h2'' _).2.1 _ h5) ((h3'' _).2.2 _ h7)
        · rcases R.bind_eq_ex h8 with h9 | ⟨d, h9, h10⟩
          · exact absurd h9 (hf _ _ _ _)
          · cases h10
end
section
variable {S α : Type} {z : Rz} {b : Bool} {n m : Nat} {rv : α → Rv} {ρ : S → En} {ta tb tc te : TE} {ts tr : TA} {tl th : TO} {tt tu : TT} {K : PySem.W.Frag}
  {Ka Kb : {β : Type} → S → (D → S → R β) → R β} {Kv Kw : {β : Type} → S → (α → S → R β) → R β} {Kc Kd : {β : Type} → S → (Bool → S → R β) → R β} {Kl : {β : Type} → S → (List D → S → R β) → R β} {Ko Kp : {β : Type} → S → (Option Int → S → R β) → R β}
theorem ev_sl {r : V → Option Int → Option Int → Hp → VK → Prop} {ρ ρ1 ρ2 ρ3 : En} {d : D} {lo hi : Option Int} {w : Rv} (h : Ev b te ρ (.d d) ρ1) (h1 : EvO b tl ρ1 lo ρ2) (h2 : EvO b th ρ2 hi ρ3)
    (hr : ∀ (G H : Hp) (v : V), Ex G H → Dq G v d → ∀ Q : VK, (∀ u G' H', Ext [] G H G' H' → ROk G H G' H' u w → Q u H') → r v lo hi H Q) : Ev b (tSl r te tl th) ρ w ρ3 := fun G H σ e st nd Q q =>
  h G H σ e st nd _ fun v G1 H1 x1 s1 a1 k1 => h1 G1 H1 σ x1.gh s1 (by rw [a1]; exact nd) _ fun G2 H2 x2 s2 a2 => h2 G2 H2 σ x2.gh s2 (by rw [a2, a1]; exact nd) _ fun G3 H3 x3 s3 a3 => by
    have y3 := (x1.then x2 a1).then x3 (a2.trans a1)
    exact hr G3 H3 v x3.gh (dq_mono x3.gg (dq_mono x2.gg k1)) Q fun u G4 H4 x4 k4 => q u G4 H4 (y3.tr x4.up) (s3.mono x4) (a3.trans (a2.trans a1)) (k4.back y3)
theorem g_sl {r : V → Option Int → Option Int → Hp → VK → Prop} {f : D → Option Int → Option Int → R α} (h : GE z b Rv.d te ρ Ka) (h1 : GO z b tl ρ Ko) (h2 : GO z b th ρ Kp) (hr : SlM rv r f) :
    GE z b rv (tSl r te tl th) ρ (fun s k => Ka s fun d s1 => Ko s1 fun lo s2 => Kp s2 fun hi s3 => (f d lo hi).bind fun c => k c s3) :=
  gg_bind3 f h h1 h2 hr.ex (fun _ _ _ _ _ _ _ _ k1 k2 k3 e => ev_sl k1 k2 k3 (hr.ok _ _ _ _ e)) (fun _ _ h => ee_1 (fun σ (Q : VK) (x : V) (H1 : Hp) => tl σ H1 fun l H2 => th σ H2 fun u H3 => r x l u H3 Q) h)
    (fun _ _ _ _ k1 h => ee_2 (fun σ (x : V) (Q : VK) (l : Option Int) (H2 : Hp) => th σ H2 fun u H3 => r x l u H3 Q) k1 h)
    (fun r0 a r1 l r2 e k1 k2 h G H σ x st nd w q => k1 G H σ x st nd _ fun v G1 H1 x1 s1 a1 k3 => ee_2O (Q := VK) (fun σ (l : Option Int) (Q : VK) (u : Option Int) (H3 : Hp) => r v l u H3 Q) k2 h G1 H1 σ x1.gh s1 (by rw [a1]; exact nd) (fun cls d G' H' x2 s2 k2 => w cls d G' H' ((ext_b (M := []) x1).tr (by rw [← a1]; exact x2)) s2 k2) q)
def rSlM (K : PySem.W.Frag) : V → Option Int → Option Int → Hp → VK → Prop := fun x lo hi H Q => rSlL K x lo hi H Q ∨ rSlA K x lo hi H Q
theorem sl_M {X : Cx} : SlR X (rSlM X.K) := SlR.or sl_list sl_tupA
theorem sl_L {d : D} {lo hi : Option Int} {c : List D} (hc : slL d lo hi = .ok c) (G H : Hp) (v : V) (e : Ex G H) (hv : Dq G v d) (Q : VK) (q : ∀ u G' H', Ext [] G H G' H' → ROk G H G' H' u (.l c) → Q u H') : rSlL K v lo hi H Q := by
  cases hv <;> cases hc
  rename_i a vs xs ha hs
  refine ⟨_, _, rfl, .inl (.inl (e _ _ ha)), fun p hp => ?_⟩
  exact q _ _ _ (Ext.own e hp) ⟨p, _, rfl, hp, e.none hp, upd_same, cut_dq hs lo hi⟩
theorem sl_T {xs : List D} {lo hi : Option Int} (G H : Hp) (v : V) (e : Ex G H) (hv : Dq G v (.tuple xs)) (Q : VK) (q : ∀ u G' H', Ext [] G H G' H' → ROk G H G' H' u (.d (.tuple (cutD xs lo hi))) → Q u H') : rSlA K v lo hi H Q := by
  cases hv
  rename_i a vs ha hs
  refine ⟨_, _, rfl, .inl (.inl (e _ _ ha)), fun z => ?_, fun _ p hp => ?_⟩
  · have ec : cutD xs lo hi = xs := by
      unfold cutD
      rw [← hs.len, z.1, z.2, List.drop_zero]
      exact List.take_of_length_le (by rw [hs.len]; omega)
    exact q _ G H (Ext.refl e) (by rw [ec]; exact .tup ha hs)
  · have x4 : Ext [] G H (upd G p (.tup (cutV vs lo hi))) (upd H p (.tup (cutV vs lo hi))) := Ext.new e hp
    exact q _ _ _ x4 (.tup upd_same (dqs_mono x4.gg (cut_dq hs lo hi)))
theorem slm_L : SlM Rv.l (rSlM K) slL where
  ok := fun d lo hi c hc G H v e hv Q q => .inl (sl_L hc G H v e hv Q q)
  ex := fun d lo hi e h => by cases d <;> cases h
theorem slm : SlM Rv.d (rSlM K) slD where
  ok := fun d lo hi c hc G H v e hv Q q => by
    unfold slD at hc
    split at hc
    · cases hc
      exact .inl (rok_fz (P := fun Q => rSlL K v lo hi H Q) (sl_L (d := .list _) rfl G H v e hv) Q q)
    · cases hc
      exact .inr (sl_T G H v e hv Q q)
    · cases hc
  ex := fun d lo hi e h => by cases d <;> cases h

/-! ### the built-ins -/
theorem rcm_len : RcM Rv.d (rLen K) lnD where
  ok := fun d c h => by
    unfold lnD at h
    split at h
    · cases h; exact rc_lenL
    · cases h; exact rc_lenT
    · cases h
  ex := fun d e h => by cases d <;> cases h
def rSumM (K : PySem.W.Frag) : List V → Hp → VK → Prop := cOr (rSumI K) (rSumB K)
theorem kr_sumM {X : Cx} (hc : X.calm = true) : CallR X (.builtin "sum") (rSumM X.K) := CallR.or (kr_sumI hc) (kr_sumB hc)
theorem iSum_ok {xs : List D} {c : D} (h : iSum xs = .ok c) : (∃ l : List Int, xs = l.map .int ∧ c = .int l.sum) ∨ ∃ l : List Bool, xs = l.map .bool ∧ c = .int (l.map fun b => if b then (1 : Int) else 0).sum := by
  unfold iSum at h
  split at h
  · rename_i l e
    cases h; exact .inl ⟨l, of_intsOf e, rfl⟩
  · split at h
    · rename_i l e
      cases h; exact .inr ⟨l, of_boolsOf e, rfl⟩
    · cases h
theorem rcm_sum : RcM Rv.d (rSumM K) sumD where
  ok := fun d c h => by
    unfold sumD at h
    split at h
    · rcases iSum_ok h with ⟨l, rfl, rfl⟩ | ⟨l, rfl, rfl⟩
      · exact rc_l rc_sumL
      · exact rc_r rc_sumB
    · split at h
      · rename_i l e
        cases h; rw [of_intsOf e]; exact rc_l rc_sumT
      · cases h
    · cases h
  ex := fun d e h => by
    unfold sumD at h
    split at h
    · unfold iSum at h; split at h <;> first | cases h | (split at h <;> cases h)
    · split at h <;> cases h
    · cases h
theorem iMax_ok {xs : List D} {c : D} (h : iMax xs = .ok c) : ∃ l : List Int, xs = l.map .int ∧ 0 < l.length ∧ c = .int (maxD 0 l) := by
  unfold iMax at h
  split at h
  · rename_i l e
    split at h
    · rename_i hl
      cases h; exact ⟨l, of_intsOf e, hl, rfl⟩
    · cases h
  · cases h
theorem iMin_ok {xs : List D} {c : D} (h : iMin xs = .ok c) : ∃ l : List Int, xs = l.map .int ∧ 0 < l.length ∧ c = .int (minD 0 l) := by
  unfold iMin at h
  split at h
  · rename_i l e
    split at h
    · rename_i hl
      cases h; exact ⟨l, of_intsOf e, hl, rfl⟩
    · cases h
  · cases h
theorem rcm_max : RcM Rv.d (rMaxI K) maxM where
  ok := fun d c h => by
    unfold maxM at h
    split at h
    · obtain ⟨l, rfl, hl, rfl⟩ := iMax_ok h; exact rc_maxL hl
    · obtain ⟨l, rfl, hl, rfl⟩ := iMax_ok h; exact rc_maxT hl
    · cases h
  ex := fun d e h => by
    unfold maxM at h
    split at h <;> first | cases h | (unfold iMax at h; split at h <;> first | cases h | (split at h <;> cases h))
theorem rcm_min : RcM Rv.d (rMinI K) minM where
  ok := fun d c h => by
    unfold minM at h
    split at h
    · obtain ⟨l, rfl, hl, rfl⟩ := iMin_ok h; exact rc_minL hl
    · obtain ⟨l, rfl, hl, rfl⟩ := iMin_ok h; exact rc_minT hl
    · cases h
  ex := fun d e h => by
    unfold minM at h
    split at h <;> first | cases h | (unfold iMin at h; split at h <;> first | cases h | (split at h <;> cases h))
theorem rkm_max : RkM Rv.d (rMaxK K) maxK where
  ok := fun d d' c h => by
    unfold maxK at h
    split at h
    · unfold iMaxK at h
      split at h
      · rename_i e
        cases h; rw [of_intsOf e]; exact rk_maxL
      · cases h
    · unfold iMaxK at h
      split at h
      · rename_i e
        cases h; rw [of_intsOf e]; exact rk_maxT
      · cases h
    · cases h
  ex := fun d d' e h => by unfold maxK at h; split at h <;> first | cases h | (unfold iMaxK at h; split at h <;> cases h)
theorem rcm_max2 : RcM2 Rv.d rMax2 max2 where
  ok := fun d d' c h => by
    unfold max2 at h
    split at h
    · cases h; exact rc_max2
    · cases h
  ex := fun d d' e h => by unfold max2 at h; split at h <;> cases h
theorem rcm_min2 : RcM2 Rv.d rMin2 min2 where
  ok := fun d d' c h => by
    unfold min2 at h
    split at h
    · cases h; exact rc_min2
    · cases h
  ex := fun d d' e h => by unfold min2 at h; split at h <;> cases h
theorem rcm_sorted : RcM Rv.l (rSortedI K) srtL where
  ok := fun d c h => by
    unfold srtL at h
    split at h
    · split at h
      · rename_i e
        cases h; rw [of_intsOf e]; exact rc_sorted
      · cases h
    · cases h
  ex := fun d e h => by unfold srtL at h; split at h <;> first | cases h | (split at h <;> cases h)
def srtR2 : D → D → R (List D)
  | d, .bool true => srtRL d
  | _, _ => .bad
theorem rkm_sortedR : RkM Rv.l (rSortedKw K true [.bl true]) srtR2 where
  ok := fun d d' c h => by
    unfold srtR2 at h
    split at h
    · unfold srtRL at h
      split at h
      · split at h
        · rename_i e
          cases h; rw [of_intsOf e]; exact rk_sortedR
        · cases h
      · cases h
    · cases h
  ex := fun d d' e h => by
    unfold srtR2 at h
    split at h
    · unfold srtRL at h; split at h <;> first | cases h | (split at h <;> cases h)
    · cases h
theorem rcm_tup : RcM Rv.d (rTup K) tupD where
  ok := fun d c h => by
    unfold tupD at h
    split at h
    · cases h; exact rc_tupL
    · cases h; exact rc_tupT
    · cases h
  ex := fun d e h => by cases d <;> cases h
theorem rcm_lst : RcM Rv.l (rLst K) lstL where
  ok := fun d c h => by
    unfold lstL at h
    split at h
    · cases h; exact rc_lstL
    · cases h; exact rc_lstT
    · cases h
  ex := fun d e h => by cases d <;> cases h
theorem rcm_all : RcM rvB (rAll K) allD where
  ok := fun d c h => by
    unfold allD at h
    split at h
    · split at h
      · rename_i e
        cases h; rw [of_boolsOf e]; exact rc_all
      · cases h
    · cases h
  ex := fun d e h => by unfold allD at h; split at h <;> first | cases h | (split at h <;> cases h)
theorem rcm_any : RcM rvB (rAny K) anyD where
  ok := fun d c h => by
    unfold anyD at h
    split at h
    · split at h
      · rename_i e
        cases h; rw [of_boolsOf e]; exact rc_any
      · cases h
    · cases h
  ex := fun d e h => by unfold anyD at h; split at h <;> first | cases h | (split at h <;> cases h)
/-! ### what is walked -/
theorem gi_sq (h : GE z b Rv.d te ρ Ka) : GI z b (iSq K te) ρ (fun s k => Ka s fun d s' => (iterM d).bind fun xs => k xs s') :=
  gg_map iterM h (fun a e h => by cases a <;> cases h) (fun _ d _ c h1 e => by
    unfold iterM at e
    split at e
    · cases e; exact ei_sqL h1
    · cases e; exact ei_sqT h1
    · cases e) (fun _ _ h => ee_1 (fun σ (R : It → Hp → Prop) (x : V) (H1 : Hp) => ∃ a, x = .ref a ∧ (((∃ xs, SqL K H1 a xs) ∧ R (Itl K a) H1) ∨ ((∃ xs, SqT K H1 a xs) ∧ R (Itt K a) H1))) h)
theorem gi_r1 (h : GE z b Rv.d te ρ Ka) : GI z b (iRng1 (tCons te tNil)) ρ (fun s k => Ka s fun d s' => (rg1 d).bind fun xs => k xs s') :=
  gg_map rg1 h (fun a e h => by unfold rg1 at h; split at h <;> first | cases h | (split at h <;> cases h)) (fun _ d _ c h1 e => by
    unfold rg1 at e
    split at e
    · split at e
      · rename_i hc
        cases e
        unfold rgOk at hc
        rw [Bool.and_eq_true, decide_eq_true_eq, decide_eq_true_eq] at hc
        exact ei_r1 (ea_d h1 ea_nil) hc
      · cases e
    · cases e) (fun _ _ h => ee_1 (fun σ (R : It → Hp → Prop) (x : V) (H1 : Hp) => ∃ j : Int, [x] = [V.int j] ∧ -(2 ^ 62) ≤ j ∧ j < 2 ^ 62 ∧ R (Itr 0 j.toNat) H1) h)
theorem rgOk_is {n : Int} (hc : rgOk n = true) : n < 1000000000000 ∧ -1000000000000 < n := by
  unfold rgOk at hc
  rw [Bool.and_eq_true, decide_eq_true_eq, decide_eq_true_eq] at hc; exact hc
end
/-! ### a < b < c -/
section
variable {S : Type} {z : Rz} {b : Bool} {ρ : S → En} {ta tb tc : TE} {f g : D → D → R Bool} {r r' : R2} {Ka Kb : {β : Type} → S → (D → S → R β) → R β} {Kc : S → {β : Type} → Unit → (D → Unit → R β) → R β}
theorem ev_chF {ρ ρ1 ρ2 : En} {x y : D} (ha : Ev b ta ρ (.d x) ρ1) (hb : Ev b tb ρ1 (.d y) ρ2) (h1 : Op2 r x y (rvB false)) : Ev b (tChain r r' ta tb tc) ρ (rvB false) ρ2 := by
  intro G H σ e st nd Q q
  refine ha G H σ e st nd _ fun v G1 H1 x1 s1 a1 k1 => ?_
  refine hb G1 H1 σ x1.gh s1 (by rw [a1]; exact nd) _ fun w G2 H2 x2 s2 a2 k2 => ?_
  refine h1 G2 H2 v w x2.gh (dq_mono x2.gg k1) k2 _ fun uu G3 H3 x3 k3 => ?_
  have y2 := (x1.then x2 a1).tr x3.up
  cases k3
  exact ⟨false, rfl, q _ G3 H3 y2 (s2.mono x3) (a2.trans a1) (.bl _)⟩
theorem g_chain (ha : GE z b Rv.d ta ρ Ka) (hb : GE z b Rv.d tb ρ Kb) (hc : ∀ s, GE z false Rv.d tc (fun _ : Unit => ρ s) (Kc s)) (hf : OpM rvB r f) (hg : OpM rvB r' g) :
    GE z b rvB (tChain r r' ta tb tc) ρ (fun s k => Ka s fun x s1 => Kb s1 fun y s2 => (f x y).bind fun p => (if p = true then @Kc s2 _ () fun w _ => g y w else R.ok false).bind fun q => k q s2) := fun s => by
  obtain ⟨m, e1, e2, e3⟩ := ha s
  let m2 : S → R (D × S) := fun s => Classical.choose (hb s)
  have h2'' : ∀ s, (∀ (β : Type) (k : D → S → R β), @Kb β s k = (m2 s).bind fun q => k q.1 q.2) ∧ (∀ q, m2 s = .ok q → Ev b tb (ρ s) (.d q.1) (ρ q.2)) ∧ ∀ e, m2 s = .ex e → EE z tb (ρ s) e := fun s => Classical.choose_spec (hb s)
  refine ⟨m.bind fun q => (m2 q.2).bind fun p => (f q.1 p.1).bind fun c => (if c = true then @Kc p.2 _ () fun w _ => g p.1 w else R.ok false).bind fun d => .ok (d, p.2), fun β k => ?_, fun q hq => ?_, fun e he => ?_⟩
  · rw [e1, R.bind_assoc]; congr 1; funext q; rw [(h2'' q.2).1, R.bind_assoc]; congr 1; funext p; rw [R.bind_assoc]; congr 1; funext c; rw [R.bind_assoc]; rfl
  · obtain ⟨⟨x, s1⟩, h3, h4⟩ := R.bind_eq_ok hq
    obtain ⟨⟨y, s2⟩, h5, h6⟩ := R.bind_eq_ok h4
    obtain ⟨c, h7, h8⟩ := R.bind_eq_ok h6
    obtain ⟨d, h9, h10⟩ := R.bind_eq_ok h8
    cases h10
    have k1 := e2 _ h3
    have k2 := (h2'' _).2.1 _ h5
    cases c with
    | false =>
      cases h9
      exact ev_chF k1 k2 (hf.ok _ _ _ h7)
    | true =>
      rw [if_pos rfl] at h9
      obtain ⟨mc, c1, c2, c3⟩ := hc s2 ()
      have h9 := (c1 _ _).symm.trans h9
      obtain ⟨⟨w, u⟩, h11, h12⟩ := R.bind_eq_ok h9
      have k3 : Ev b tc (ρ s2) (.d w) (ρ s2) := Ev.up (c2 _ h11)
      have := ev_chain k1 k2 (hf.ok _ _ _ h7) k3 (hg.ok _ _ _ h12)
      exact this
  · rcases R.bind_eq_ex he with h3 | ⟨⟨x, s1⟩, h3, h4⟩
    · exact fun G H σ x st nd w q => (e3 _ h3) G H σ x st nd w _
    · have k1 := e2 _ h3
      rcases R.bind_eq_ex h4 with h5 | ⟨⟨y, s2⟩, h5, h6⟩
      · have k5 := (h2'' _).2.2 _ h5
        exact fun G H σ xx st nd w q => k1 G H σ xx st nd _ fun v G1 H1 x1 s1' a1 k3 => k5 G1 H1 σ x1.gh s1' (by rw [a1]; exact nd) (fun cls d G' H' x2 s2 k2 => w cls d G' H' ((ext_b (M := []) x1).tr (by rw [← a1]; exact x2)) s2 k2) _
      · have k2 := (h2'' _).2.1 _ h5
        rcases R.bind_eq_ex h6 with h7 | ⟨c, h7, h8⟩
        · exact absurd h7 (hf.ex _ _ _)
        · rcases R.bind_eq_ex h8 with h9 | ⟨d, h9, h10⟩
          · cases c with
            | false => cases h9
            | true =>
              rw [if_pos rfl] at h9
              obtain ⟨mc, c1, c2, c3⟩ := hc s2 ()
              have h9 := (c1 _ _).symm.trans h9
              rcases R.bind_eq_ex h9 with h11 | ⟨⟨w, u⟩, h11, h12⟩
              · intro G H σ xx st nd w Q
                refine k1 G H σ xx st nd _ fun v G1 H1 x1 s1' a1 k3 => ?_
                refine k2 G1 H1 σ x1.gh s1' (by rw [a1]; exact nd) _ fun w2 G2 H2 x2 s2' a2 k4 => ?_
                refine hf.ok _ _ _ h7 G2 H2 v w2 x2.gh (dq_mono x2.gg k3) k4 _ fun uu G3 H3 x3 k5 => ?_
                cases k5
                refine ⟨true, rfl, ?_⟩
                have y2 := (x1.then x2 a1).tr x3.up
                exact (c3 _ h11) G3 H3 σ x3.gh (s2'.mono x3) (by rw [a2, a1]; exact nd) (fun cls d G' H' x4 s4 k4 => w cls d G' H' ((ext_b (M := []) y2).tr (by rw [← a1, ← a2]; exact x4)) s4 k4) _
              · exact absurd h12 (hg.ex _ _ _)
          · cases h10
end
end Kn

namespace Kn
open PySem L2
section
variable {S α : Type} {z : Rz} {b : Bool} {n m : Nat} {rv : α → Rv} {ρ : S → En} {ta tb tc te : TE} {ts tr : TA} {tl th : TO} {tt tu : TT} {K : PySem.W.Frag}
  {Ka Kb : {β : Type} → S → (D → S → R β) → R β} {Kv Kw : {β : Type} → S → (α → S → R β) → R β} {Kc Kd : {β : Type} → S → (Bool → S → R β) → R β} {Kl : {β : Type} → S → (List D → S → R β) → R β} {Ko Kp : {β : Type} → S → (Option Int → S → R β) → R β}
theorem gi_r2 (h : GE z b Rv.d ta ρ Ka) (h2 : GE z b Rv.d tb ρ Kb) : GI z b (iRng2 (tCons ta (tCons tb tNil))) ρ (fun s k => Ka s fun d s' => Kb s' fun d' s'' => (rg2 d d').bind fun xs => k xs s'') :=
  gg_bind rg2 h h2 (fun a b e h => by unfold rg2 at h; split at h <;> first | cases h | (split at h <;> cases h)) (fun _ d _ d' _ c h1 h2 e => by
    unfold rg2 at e
    split at e
    · split at e
      · rename_i hc
        cases e
        exact ei_r2 (ea_d h1 (ea_d h2 ea_nil)) (rgOk_is hc.2) (rgOk_is hc.1)
      · cases e
    · cases e)
    (fun _ _ h => ee_1 (fun σ (R : It → Hp → Prop) (x : V) (H1 : Hp) => tb σ H1 fun y H2 => ∃ i j : Int, [x, y] = [V.int i, V.int j] ∧ (-(2 ^ 62) ≤ i ∧ i < 2 ^ 62 ∧ -(2 ^ 62) ≤ j ∧ j < 2 ^ 62) ∧ R (Itr i (j - i).toNat) H2) h)
    (fun _ _ _ _ h1 h2 => ee_2 (fun σ (x : V) (R : It → Hp → Prop) (y : V) (H2 : Hp) => ∃ i j : Int, [x, y] = [V.int i, V.int j] ∧ (-(2 ^ 62) ≤ i ∧ i < 2 ^ 62 ∧ -(2 ^ 62) ≤ j ∧ j < 2 ^ 62) ∧ R (Itr i (j - i).toNat) H2) h1 h2)
theorem gi_zip (h : GE z b Rv.d ta ρ Ka) (h2 : GE z b Rv.d tb ρ Kb) : GI z b (RZ.iZipA K (tCons ta (tCons tb tNil))) ρ (fun s k => Ka s fun d s' => Kb s' fun d' s'' => (zipM d d').bind fun xs => k xs s'') :=
  gg_bind zipM h h2 (fun a b e h => by unfold zipM at h; split at h <;> cases h) (fun _ d _ d' _ c h1 h2 e => by
    unfold zipM at e
    split at e
    · cases e; exact ei_zipL (ea_d h1 (ea_d h2 ea_nil))
    · cases e; exact ei_zipT (ea_d h1 (ea_d h2 ea_nil))
    · cases e)
    (fun _ _ h => ee_1 (fun σ (R : It → Hp → Prop) (x : V) (H1 : Hp) => tb σ H1 fun y H2 => ∃ a b xs ys, [x, y] = [V.ref a, V.ref b] ∧ ((SqL K H2 a xs ∧ SqL K H2 b ys ∧ R (Itz K a b) H2) ∨ (SqT K H2 a xs ∧ SqT K H2 b ys ∧ R (RZ.ItzT K a b) H2))) h)
    (fun _ _ _ _ h1 h2 => ee_2 (fun σ (x : V) (R : It → Hp → Prop) (y : V) (H2 : Hp) => ∃ a b xs ys, [x, y] = [V.ref a, V.ref b] ∧ ((SqL K H2 a xs ∧ SqL K H2 b ys ∧ R (Itz K a b) H2) ∨ (SqT K H2 a xs ∧ SqT K H2 b ys ∧ R (RZ.ItzT K a b) H2))) h1 h2)
theorem gi_enum (h : GE z b Rv.d te ρ Ka) : GI z b (iEnum K (tCons te tNil)) ρ (fun s k => Ka s fun d s' => (enumM d).bind fun xs => k xs s') :=
  gg_map enumM h (fun a e h => by cases a <;> cases h) (fun _ d _ c h1 e => by
    cases d <;> cases e
    exact ei_enum (ea_d h1 ea_nil)) (fun _ _ h => ee_1 (fun σ (R : It → Hp → Prop) (x : V) (H1 : Hp) => ∃ a xs, [x] = [V.ref a] ∧ SqL K H1 a xs ∧ R (Ite K a) H1) h)
end

/-! ### comprehensions -/
def pB (p : D → R Bool) (x : D) : Bool := match p x with
  | .ok b => b
  | _ => false
def fD (f : D → R D) (x : D) : D := match f x with
  | .ok d => d
  | _ => .none
theorem nox_ok {α : Type} {m : R α} {a : α} (h : m.nox = .ok a) : m = .ok a := by cases m <;> first | exact h | cases h
theorem nox_ex {α : Type} {m : R α} {e : Xc} : m.nox ≠ .ex e := fun h => by cases m <;> cases h
theorem lcG_ok {p : D → R Bool} {f : D → R D} : ∀ {xs ys : List D}, lcG xs p f = .ok ys → (∀ x ∈ xs, p x = .ok (pB p x) ∧ (pB p x = true → f x = .ok (fD f x))) ∧ ys = (xs.filter (pB p)).map (fD f)
  | [], ys, h => by cases h; exact ⟨fun x hx => by simp at hx, rfl⟩
  | x :: xs, ys, h => by
    obtain ⟨b, h1, h2⟩ := R.bind_eq_ok h
    have h1 := nox_ok h1
    have hp : pB p x = b := by unfold pB; rw [h1]
    cases b with
    | true =>
      rw [if_pos rfl] at h2
      obtain ⟨y, h3, h4⟩ := R.bind_eq_ok h2
      obtain ⟨zs, h5, h6⟩ := R.bind_eq_ok h4
      cases h6
      have h3 := nox_ok h3
      have hf : fD f x = y := by unfold fD; rw [h3]
      obtain ⟨i1, i2⟩ := lcG_ok h5
      refine ⟨fun w hw => ?_, by rw [List.filter_cons, if_pos hp, List.map_cons, hf, i2]⟩
      rcases List.mem_cons.mp hw with rfl | hw
      · exact ⟨by rw [hp]; exact h1, fun _ => by rw [hf]; exact h3⟩
      · exact i1 w hw
    | false =>
      rw [if_neg (by decide)] at h2
      obtain ⟨i1, i2⟩ := lcG_ok h2
      refine ⟨fun w hw => ?_, by rw [List.filter_cons, if_neg (by rw [hp]; decide), i2]⟩
      rcases List.mem_cons.mp hw with rfl | hw
      · exact ⟨by rw [hp]; exact h1, fun q => by rw [hp] at q; cases q⟩
      · exact i1 w hw
theorem lcM_ok {p : D → R Bool} {f : D → R D} {xs ys : List D} (h : lcM xs p f = .ok ys) : xs.length ≤ 1000000 ∧ lcG xs p f = .ok ys := by
  unfold lcM at h
  split at h
  · rename_i hl
    exact ⟨hl, h⟩
  · cases h
theorem lcG_ex {p : D → R Bool} {f : D → R D} {e : Xc} : ∀ {xs : List D}, lcG xs p f ≠ .ex e
  | [], h => by cases h
  | x :: xs, h => by
    rcases R.bind_eq_ex h with h1 | ⟨b, h1, h2⟩
    · exact nox_ex h1
    · cases b with
      | true =>
        rw [if_pos rfl] at h2
        rcases R.bind_eq_ex h2 with h3 | ⟨y, h3, h4⟩
        · exact nox_ex h3
        · rcases R.bind_eq_ex h4 with h5 | ⟨y, h5, h6⟩
          · exact lcG_ex h5
          · cases h6
      | false =>
        rw [if_neg (by decide)] at h2
        exact lcG_ex h2
theorem lcM_ex {p : D → R Bool} {f : D → R D} {xs : List D} {e : Xc} : lcM xs p f ≠ .ex e := fun h => by
  unfold lcM at h
  split at h
  · exact lcG_ex h
  · cases h
/-- one item -/
def LcH (g : TG) (vs : List Nat) (tt : TT) (te : TE) (ρw : En) (p : D → R Bool) (f : D → R D) : Prop := ∀ x b, p x = .ok b → (b = true → ∃ y, f x = .ok y) → ∃ bs, (Gv g x bs ∧ ∀ q ∈ bs, q.1 ∈ vs) ∧ EvT false tt (sets ρw bs) b (sets ρw bs) ∧
  ∀ y, b = true → f x = .ok y → Ev false te (sets ρw bs) (.d y) (sets ρw bs)
section
variable {S α : Type} {z : Rz} {b : Bool} {n m : Nat} {rv : α → Rv} {ρ : S → En} {ta tb tc te : TE} {wi : TI} {ts tr : TA} {tl th : TO} {tt tu : TT} {K : PySem.W.Frag} {ρw : En} {vs : List Nat} {g : TG}
  {Ka Kb : {β : Type} → S → (D → S → R β) → R β} {Kv Kw : {β : Type} → S → (α → S → R β) → R β} {Kc Kd : {β : Type} → S → (Bool → S → R β) → R β} {Kl : {β : Type} → S → (List D → S → R β) → R β}
theorem gt_yes : GT z b tYes ρ (fun s k => k true s) := gg_pure fun s G H σ e st nd Q q => q G H (Ext.refl e) st rfl
theorem u_ok {α : Type} {z : Rz} {O : En → α → En → Prop} {Q : Type} {t : L2.St → Hp → Q → Prop} {r : En} {Kx : {β : Type} → Unit → (α → Unit → R β) → R β} (h : GG z O t (fun _ : Unit => r) Kx) {a : α} (e : (@Kx α () fun a _ => R.ok a) = .ok a) : O r a r := by
  obtain ⟨m, e1, e2, e3⟩ := h ()
  have e := (e1 _ _).symm.trans e
  obtain ⟨⟨a', u⟩, h2, h3⟩ := R.bind_eq_ok e
  cases h3
  exact e2 _ h2
theorem lch_1 {j : Nat} {Kp : D → {β : Type} → Unit → (Bool → Unit → R β) → R β} {Kf : D → {β : Type} → Unit → (D → Unit → R β) → R β} (hj : j ∈ vs) (ht : ∀ x, GT z false tt (fun _ : Unit => ρw.set j (.dat x)) (Kp x)) (he : ∀ x, GE z false Rv.d te (fun _ : Unit => ρw.set j (.dat x)) (Kf x)) :
    LcH (gName j) vs tt te ρw (fun x => @Kp x _ () fun c _ => R.ok c) (fun x => @Kf x _ () fun d _ => R.ok d) := fun x b hb hf => by
  refine ⟨[(j, x)], ⟨gv_name, fun q hq => by rw [List.mem_singleton.mp hq]; exact hj⟩, u_ok (ht x) hb, fun y _ hy => u_ok (he x) hy⟩
theorem un2_ok {α : Type} {x : D} {f : D → D → R α} {a : α} (h : un2 x f = .ok a) : ∃ c d, x = .tuple [c, d] ∧ f c d = .ok a := by
  unfold un2 at h
  split at h
  · exact ⟨_, _, rfl, h⟩
  · cases h
theorem un3_ok {α : Type} {x : D} {f : D → D → D → R α} {a : α} (h : un3 x f = .ok a) : ∃ b c d, x = .tuple [b, c, d] ∧ f b c d = .ok a := by
  unfold un3 at h
  split at h
  · exact ⟨_, _, _, rfl, h⟩
  · cases h
theorem lch_2 {i j : Nat} {Kp : D → D → {β : Type} → Unit → (Bool → Unit → R β) → R β} {Kf : D → D → {β : Type} → Unit → (D → Unit → R β) → R β} (hj : i ∈ vs ∧ j ∈ vs) (ht : ∀ x y, GT z false tt (fun _ : Unit => (ρw.set i (.dat x)).set j (.dat y)) (Kp x y)) (he : ∀ x y, GE z false Rv.d te (fun _ : Unit => (ρw.set i (.dat x)).set j (.dat y)) (Kf x y)) :
    LcH (gTup K 2 (gCons (gName i) (gCons (gName j) gNil))) vs tt te ρw (fun q => un2 q fun x y => @Kp x y _ () fun c _ => R.ok c) (fun q => un2 q fun x y => @Kf x y _ () fun d _ => R.ok d) := fun q b hb hf => by
  obtain ⟨x, y, rfl, hb⟩ := un2_ok hb
  refine ⟨[(i, x), (j, y)], ⟨gv_tup2, fun q hq => by
    rcases List.mem_cons.mp hq with rfl | hq
    · exact hj.1
    · rw [List.mem_singleton.mp hq]; exact hj.2⟩, u_ok (ht x y) hb, fun w _ hy => u_ok (he x y) hy⟩
theorem lch_2y {i j : Nat} {Kf : D → D → {β : Type} → Unit → (D → Unit → R β) → R β} (hj : i ∈ vs ∧ j ∈ vs) (he : ∀ x y, GE z false Rv.d te (fun _ : Unit => (ρw.set i (.dat x)).set j (.dat y)) (Kf x y)) :
    LcH (gTup K 2 (gCons (gName i) (gCons (gName j) gNil))) vs tYes te ρw yesM (fun q => un2 q fun x y => @Kf x y _ () fun d _ => R.ok d) := fun q b hb hf => by
  cases hb
  obtain ⟨w, hw⟩ := hf rfl
  obtain ⟨x, y, rfl, hw⟩ := un2_ok hw
  refine ⟨[(i, x), (j, y)], ⟨gv_tup2, fun q hq => by
    rcases List.mem_cons.mp hq with rfl | hq
    · exact hj.1
    · rw [List.mem_singleton.mp hq]; exact hj.2⟩, fun G H σ e st nd Q q => q G H (Ext.refl e) st rfl, fun w _ hy => u_ok (he x y) hy⟩
theorem lch_12y {i j k : Nat} {Kf : D → D → D → {β : Type} → Unit → (D → Unit → R β) → R β} (hj : i ∈ vs ∧ j ∈ vs ∧ k ∈ vs) (he : ∀ x y w, GE z false Rv.d te (fun _ : Unit => ((ρw.set i (.dat x)).set j (.dat y)).set k (.dat w)) (Kf x y w)) :
    LcH (gTup K 2 (gCons (gName i) (gCons (gTup K 2 (gCons (gName j) (gCons (gName k) gNil))) gNil))) vs tYes te ρw yesM (fun q => un2 q fun x p => un2 p fun y w => @Kf x y w _ () fun d _ => R.ok d) := fun q b hb hf => by
  cases hb
  obtain ⟨w, hw⟩ := hf rfl
  obtain ⟨x, p, rfl, hw⟩ := un2_ok (x := q) hw
  obtain ⟨y, u, rfl, hw⟩ := un2_ok (x := p) hw
  refine ⟨[(i, x), (j, y), (k, u)], ⟨gv_tup12, fun q hq => by
    rcases List.mem_cons.mp hq with rfl | hq
    · exact hj.1
    · rcases List.mem_cons.mp hq with rfl | hq
      · exact hj.2.1
      · rw [List.mem_singleton.mp hq]; exact hj.2.2⟩, fun G H σ e st nd Q q => q G H (Ext.refl e) st rfl, fun w _ hy => u_ok (he x y u) hy⟩
theorem g_lc {p : D → R Bool} {f : D → R D} (hi : GI z b wi ρ Kl) (hH : ∀ s, LcH g vs tt te (wipeE (ρ s) vs) p f) : GE z b Rv.l (tLc wi g tt te vs) ρ (fun s k => Kl s fun xs s' => (lcM xs p f).bind fun ys => k ys s') := fun s => by
  obtain ⟨m, e1, e2, e3⟩ := hi s
  refine ⟨m.bind fun q => (lcM q.1 p f).bind fun ys => .ok (ys, q.2), fun β k => ?_, fun q hq => ?_, fun e he => ?_⟩
  · rw [e1, R.bind_assoc]; congr 1; funext q; rw [R.bind_assoc]; rfl
  · obtain ⟨⟨xs, s1⟩, h3, h4⟩ := R.bind_eq_ok hq
    obtain ⟨ys, h5, h6⟩ := R.bind_eq_ok h4
    cases h6
    obtain ⟨hl, h7⟩ := lcM_ok h5
    obtain ⟨k1, k2⟩ := lcG_ok h7
    have hx : ∀ x ∈ xs, ∃ bs, (Gv g x bs ∧ ∀ q ∈ bs, q.1 ∈ vs) ∧ EvT false tt (sets (wipeE (ρ s1) vs) bs) (pB p x) (sets (wipeE (ρ s1) vs) bs) ∧ ∀ y, pB p x = true → f x = .ok y → Ev false te (sets (wipeE (ρ s1) vs) bs) (.d y) (sets (wipeE (ρ s1) vs) bs) :=
      fun x hx => hH s1 x (pB p x) (k1 x hx).1 fun h => ⟨_, (k1 x hx).2 h⟩
    have hx' : ∀ x, ∃ bs, x ∈ xs → (Gv g x bs ∧ ∀ q ∈ bs, q.1 ∈ vs) ∧ EvT false tt (sets (wipeE (ρ s1) vs) bs) (pB p x) (sets (wipeE (ρ s1) vs) bs) ∧ ∀ y, pB p x = true → f x = .ok y → Ev false te (sets (wipeE (ρ s1) vs) bs) (.d y) (sets (wipeE (ρ s1) vs) bs) := fun x => by
      rcases Classical.em (x ∈ xs) with h | h
      · obtain ⟨bs, k⟩ := hx x h
        exact ⟨bs, fun _ => k⟩
      · exact ⟨[], fun q => absurd q h⟩
    let bs : D → List (Nat × D) := fun x => Classical.choose (hx' x)
    have hbs : ∀ x ∈ xs, (Gv g x (bs x) ∧ ∀ q ∈ bs x, q.1 ∈ vs) ∧ EvT false tt (sets (wipeE (ρ s1) vs) (bs x)) (pB p x) (sets (wipeE (ρ s1) vs) (bs x)) ∧ ∀ y, pB p x = true → f x = .ok y → Ev false te (sets (wipeE (ρ s1) vs) (bs x)) (.d y) (sets (wipeE (ρ s1) vs) (bs x)) := fun x h =>
      Classical.choose_spec (hx' x) h
    have hi' : EvI b wi (ρ s) (xs.map id) (ρ s1) := by rw [List.map_id]; exact e2 _ h3
    have := ev_lc xs id bs (pB p) (fD f) hi' (fun x h => (hbs x h).1) (fun x h => ⟨(hbs x h).2.1, fun hp => (hbs x h).2.2 _ hp ((k1 x h).2 hp)⟩) hl
    rw [← k2] at this
    exact this
  · rcases R.bind_eq_ex he with h3 | ⟨⟨xs, s1⟩, h3, h4⟩
    · exact ee_1 (fun σ (Q : VK) (J : It) (H1 : Hp) => ∀ D, H1 D = none → ∃ W : Nat → Nat → Hp → Prop, (∃ m, W 0 m (upd H1 D (.lst []))) ∧ ∀ i m H, W i m H → _) (e3 _ h3)
    · rcases R.bind_eq_ex h4 with h5 | ⟨ys, h5, h6⟩
      · exact absurd h5 lcM_ex
      · cases h6
/-- sorted({x: True for x in xs if t}, reverse=True) -/
def sdcM (xs : List D) (p : D → R Bool) : R (List D) := match intsOf xs with
  | some _ => (lcM xs p R.ok).bind fun ys => match intsOf ys with
    | some l => .ok ((srtD (nubI l)).map .int)
    | none => .bad
  | none => .bad
theorem fD_ok : fD R.ok = id := rfl
theorem filter_map_int (p : D → Bool) (l : List Int) : (l.map PyData.int).filter p = (l.filter fun i => p (.int i)).map .int := by rw [List.filter_map]; rfl
theorem map_int_inj {l l' : List Int} (h : l.map PyData.int = l'.map .int) : l = l' := by
  have := intsOf_map l
  rw [h, intsOf_map] at this
  exact (Option.some.inj this).symm
theorem g_sdc {j : Nat} {Kp : D → {β : Type} → Unit → (Bool → Unit → R β) → R β} (hi : GI z b wi ρ Kl) (hj : j ∈ vs) (hjl : ∀ s, Nat.blt j (ρ s).length = true) (hH : ∀ s x, GT z false tt (fun _ : Unit => (wipeE (ρ s) vs).set j (.dat x)) (Kp x)) :
    GE z b Rv.l (tCKw (rSortDR true) (tCons (tDc wi (gName j) tt (tVar j) (tC (.bl true)) vs) tNil) (tCons (tC (.bl true)) tNil)) ρ (fun s k => Kl s fun xs s' => (sdcM xs fun x => @Kp x _ () fun c _ => R.ok c).bind fun ys => k ys s') := fun s => by
  obtain ⟨m, e1, e2, e3⟩ := hi s
  generalize hp : (fun x => @Kp x _ () fun c _ => R.ok c) = p
  refine ⟨m.bind fun q => (sdcM q.1 p).bind fun ys => .ok (ys, q.2), fun β k => ?_, fun q hq => ?_, fun e he => ?_⟩
  · rw [e1, R.bind_assoc]; congr 1; funext q; rw [R.bind_assoc]; rfl
  · obtain ⟨⟨xs, s1⟩, h3, h4⟩ := R.bind_eq_ok hq
    obtain ⟨ys, h5, h6⟩ := R.bind_eq_ok h4
    cases h6
    unfold sdcM at h5
    split at h5
    · rename_i l hl0
      obtain ⟨zs, h7, h8⟩ := R.bind_eq_ok h5
      split at h8
      · rename_i l2 hl2
        cases h8
        have hxs := of_intsOf hl0
        have hzs := of_intsOf hl2
        dsimp only at hxs
        subst hxs
        obtain ⟨hl, h9⟩ := lcM_ok h7
        obtain ⟨k1, k2⟩ := lcG_ok h9
        rw [fD_ok, List.map_id, filter_map_int, hzs] at k2
        have k2 := map_int_inj k2
        subst k2
        refine ev_sortDC (p := fun i => pB p (.int i)) (e2 _ h3) hj (Nat.le_of_ble_eq_true (hjl s1)) (by rw [List.length_map] at hl; exact hl) fun x hx => ?_
        refine u_ok (hH s1 (.int x)) ?_
        have h10 := (k1 (.int x) (List.mem_map.mpr ⟨x, hx, rfl⟩)).1
        rw [← hp] at h10 ⊢
        exact h10
      · cases h8
    · cases h5
  · rcases R.bind_eq_ex he with h3 | ⟨⟨xs, s1⟩, h3, h4⟩
    · exact fun G H σ x st nd w q => (e3 _ h3) G H σ x st nd w _
    · rcases R.bind_eq_ex h4 with h5 | ⟨ys, h5, h6⟩
      · exfalso
        unfold sdcM at h5
        split at h5
        · rcases R.bind_eq_ex h5 with h7 | ⟨ys, h7, h8⟩
          · exact lcM_ex h7
          · split at h8 <;> cases h8
        · cases h5
      · cases h6
end
end Kn

namespace Kn
open PySem L2
/-! ### comprehensions whose items change the own list -/
theorem lcGS_cons {S : Type} {f : S → D → R (D × S)} {x : D} {xs : List D} {s : S} {ys : List D} {sf : S} (h : lcGS (x :: xs) s f = .ok (ys, sf)) : ∃ d s' rest, f s x = .ok (d, s') ∧ ys = d :: rest ∧ lcGS xs s' f = .ok (rest, sf) := by
  obtain ⟨⟨d, s'⟩, h1, h2⟩ := R.bind_eq_ok h
  obtain ⟨⟨r, s2⟩, h3, h4⟩ := R.bind_eq_ok h2
  cases h4
  exact ⟨d, s', r, nox_ok h1, rfl, h3⟩
theorem wipe_un {ρ : En} {j : Nat} : ∀ {vs : List Nat}, wipeE ρ vs = ρ → j ∈ vs → j < ρ.length → ρ[j]? = some .un := fun {vs} h hj hl => by
  rw [← h]
  clear h
  induction vs with
  | nil => simp at hj
  | cons w vs ih =>
    unfold wipeE
    by_cases hw : w = j
    · subst hw; rw [List.getElem?_set_self (by rw [wipeE_len]; exact hl)]
    · rw [List.getElem?_set_ne hw]
      rcases List.mem_cons.mp hj with h | h
      · exact absurd h.symm hw
      · exact ih h
theorem adr_setU {d : D} : ∀ (ρ : En) (j : Nat), ρ[j]? = some .un → adr (ρ.set j (.dat d)) = adr ρ := by
  intro ρ
  induction ρ with
  | nil => intro j h; simp at h
  | cons a r ih =>
    intro j h
    cases j with
    | zero => simp at h; subst h; rfl
    | succ j => rw [List.set_cons_succ, adr_cons, adr_cons, ih j (by simpa using h)]
section
variable {wi : TI} {te : TE} {vs : List Nat} {ρ : En}
theorem ev_lcGS {S : Type} {j : Nat} {f : S → D → R (D × S)} (C : S → En) {s0 sf : S} {xs ys : List D} (hi : EvI true wi ρ xs (C s0)) (hj : j ∈ vs) (hl : xs.length ≤ 1000000) (hjl : ∀ s, ∀ i ∈ vs, i < (C s).length)
    (hC : ∀ s, adr (C s) = adr (C s0) ∧ (C s).length = (C s0).length ∧ wipeE (C s) vs = C s)
    (hs : ∀ s x d s', f s x = .ok (d, s') → Ev true te ((C s).set j (.dat x)) (.d d) ((C s').set j (.dat x))) (hf : lcGS xs s0 f = .ok (ys, sf)) :
    Ev true (tLc wi (gName j) tYes te vs) ρ (.l ys) (C sf) := fun G H σ e st nd Q q =>
  hi G H σ e st nd _ fun J G1 H1 x1 s1 a1 hJ Dl hD => by
    have nd1 : (adr (C s0)).Nodup := by rw [a1]; exact nd
    have hD0 : H Dl = none := by
      cases z : H Dl with
      | none => rfl
      | some o => exact absurd hD (x1.th Dl (by rw [z]; simp))
    refine ⟨fun i m H' => i + m = xs.length ∧ ∃ s rest done G' acc, lcGS (xs.drop i) s f = .ok (rest, sf) ∧ done ++ rest = ys ∧ done.length = i ∧ Ext (adr (C s0)) G1 H1 G' H' ∧ StOk G' H' σ (C s) ∧ G' Dl = none ∧ H' Dl = some (.lst acc) ∧ DqA G' acc done,
      ⟨xs.length, by simp, s0, ys, [], G1, [], by rw [List.drop_zero]; exact hf, rfl, rfl, Ext.own x1.gh hD, ?_, x1.gh.none hD, upd_same, .nil⟩, fun i m H' hW => ?_⟩
    · exact s1.mono (Ext.own x1.gh hD)
    obtain ⟨hm, s, rest, done, G', acc, hrest, hys, hdl, x2, st2, gD, hDl, hacc⟩ := hW
    have hDa : Dl ∉ adr (C s0) := fun hmm => by
      rw [a1] at hmm
      obtain ⟨_, us, hu⟩ := st.own hmm
      rw [hD0] at hu; cases hu
    obtain ⟨hstop, hgo⟩ := hJ G' H' x2.gg x2.gh
    by_cases hlt : i < xs.length
    · obtain ⟨x, hx⟩ : ∃ x, xs[i]? = some x := ⟨xs[i], by simp [hlt]⟩
      obtain ⟨hgo1, hy⟩ := hgo i x hx
      have edrop : xs.drop i = x :: xs.drop (i + 1) := by
        rw [List.drop_eq_getElem_cons hlt]
        rw [List.getElem?_eq_getElem hlt] at hx
        rw [Option.some.inj hx]
      rw [edrop] at hrest
      obtain ⟨d, s', rest', hfx, rfl, hrest'⟩ := lcGS_cons hrest
      refine .inr ⟨hgo1, fun H3 => ∃ s rest done G' acc, lcGS (xs.drop (i + 1)) s f = .ok (rest, sf) ∧ done ++ rest = ys ∧ done.length = i + 1 ∧ Ext (adr (C s0)) G1 H1 G' H3 ∧ StOk G' H3 σ (C s) ∧ G' Dl = none ∧ H3 Dl = some (.lst acc) ∧ DqA G' acc done, fun H3 h3 => ⟨m - 1, by omega, by omega, h3⟩, fun v H3 hv => ?_⟩
      obtain ⟨G3, x3, hd3⟩ := hy v H3 hv
      obtain ⟨c1, c2, c3⟩ := hC s
      have st3 := st2.mono x3
      have sw : StOk G3 H3 (wipe σ vs) (C s) := by
        have := st3.wipe vs
        rwa [c3] at this
      have y3 : Ext (adr (C s0)) G1 H1 G3 H3 := x2.tr x3.up
      have D3 : H3 Dl = some (.lst acc) := x3.hh _ _ hDl
      have gD3 : G3 Dl = none := x3.nw Dl (by simp) gD (by rw [hDl]; simp)
      have hset : ∀ (k : Nat), k ∉ vs → ((wipe σ vs).set j (some v))[k]? = σ[k]? := fun k hk => by
        rw [List.getElem?_set_ne (fun z => hk (by rw [← z]; exact hj)), wipe_out hk]
      refine ⟨wipe_ext (by rw [List.length_set, wipe_length]) fun k hk => by rw [hset k hk, wipe_out hk], ?_⟩
      have s4 : StOk G3 H3 ((wipe σ vs).set j (some v)) ((C s).set j (.dat x)) := sw.set (s := .dat x) hd3 j
      have ad4 : adr ((C s).set j (.dat x)) = adr (C s0) := by
        rw [adr_setU _ _ (wipe_un c3 hj (hjl s j hj))]; exact c1
      refine hs s x d s' hfx G3 H3 _ x3.gh s4 (by rw [ad4]; exact nd1) _ fun w G5 H5 x5 s5 a5 k5 => ?_
      have x5' : Ext (adr (C s0)) G3 H3 G5 H5 := by
        have : Ext (adr ((C s).set j (.dat x))) G3 H3 G5 H5 := x5
        rwa [ad4] at this
      have D5 : H5 Dl = some (.lst acc) := x5'.fr _ _ hDa D3
      have gD5 : G5 Dl = none := x5'.nw Dl hDa gD3 (by rw [D3]; simp)
      have y5 : Ext (adr (C s0)) G1 H1 G5 H5 := y3.tr x5'
      obtain ⟨d1, d2, d3⟩ := hC s'
      have s6 : StOk G5 H5 σ (C s') := by
        refine s5.unwipe (by rw [List.length_set, wipe_length]) hset (fun k hk => ?_) (by rw [List.length_set]) st3 (fun k hk => ?_) (fun k p ys hk => ?_) (fun k r hk => ?_) x5'.gg
        · rw [List.getElem?_set_ne (fun z => hk (by rw [← z]; exact hj))]
        · rw [wipe_un d3 hk (hjl s' k hk), wipe_un c3 hk (hjl s k hk)]
        · rw [wipe_un c3 hk (hjl s k hk)]; simp
        · rw [wipe_un c3 hk (hjl s k hk)]; simp
      have x6 : Ext [Dl] G5 H5 G5 (upd H5 Dl (.lst (acc ++ [w]))) := Ext.set x5'.gh (by simp) gD5
      refine ⟨acc, D5, ?_, s', rest', done ++ [d], G5, acc ++ [w], hrest', by rw [List.append_assoc]; exact hys, by rw [List.length_append, hdl]; rfl, ?_, ?_, gD5, upd_same, ?_⟩
      · rw [hacc.len, hdl, sizeLine_eq]
        omega
      · exact y5.trans x6 fun c hc => .inr (by rw [List.mem_singleton.mp hc]; exact hD)
      · have keep : ∀ {σ : List (Option V)} {ρ : En}, StOk G5 H5 σ ρ → Dl ∉ adr ρ → StOk G5 (upd H5 Dl (.lst (acc ++ [w]))) σ ρ := by
          intro σ ρ h
          induction h with
          | nil => intro _; exact .nil
          | @cons o s σ ρ h t ih =>
            intro hp
            rw [adr_cons] at hp
            refine .cons ?_ (ih fun z => hp (List.mem_append_right _ z))
            rcases h with h | ⟨v, h1, h2⟩
            · exact .inl h
            · refine .inr ⟨v, h1, ?_⟩
              cases s with
              | un => trivial
              | dat d => exact h2
              | dc es => exact h2
              | va u => exact h2
              | kl K ns => exact h2
              | mu q zs =>
                obtain ⟨k1, k2, vs, k3, k4⟩ := h2
                refine ⟨k1, k2, vs, ?_, k4⟩
                rw [upd_ne (fun z => hp (List.mem_append_left _ (by simp [adr1, z])))]; exact k3
              | rg r => exact rg_keep h2 (Ex.refl _) (fun a ha => upd_ne fun z => hp (List.mem_append_left _ (by subst z; exact ha))) fun a ha => (h2.2.1 a ha).1
        exact keep s6 (by rw [d1]; exact hDa)
      · exact (dqs_mono x5'.gg (dqs_mono x3.gg hacc)).app (.cons k5 .nil)
    · have ei : i = xs.length := by omega
      refine .inl ⟨by rw [ei]; exact hstop, ?_⟩
      rw [ei, List.drop_length] at hrest
      cases hrest
      rw [List.append_nil] at hys
      subst hys
      have x0 : Ext (ws true ρ) G H G' H' := Ext.tr x1 (show Ext (adr ρ) G1 H1 G' H' by rw [← a1]; exact x2)
      exact q _ G' H' x0 st2 ((hC _).1.trans a1) ⟨Dl, acc, rfl, hD0, gD, hDl, hacc⟩
end
theorem lcGS_ex {S : Type} {f : S → D → R (D × S)} {e : Xc} : ∀ {xs : List D} {s : S}, lcGS xs s f ≠ .ex e
  | [], s, h => by cases h
  | x :: xs, s, h => by
    rcases R.bind_eq_ex h with h1 | ⟨b, h1, h2⟩
    · exact nox_ex h1
    · rcases R.bind_eq_ex h2 with h3 | ⟨y, h3, h4⟩
      · exact lcGS_ex h3
      · cases h4
section
variable {S α : Type} {z : Rz} {b : Bool} {n m : Nat} {rv : α → Rv} {ρ : S → En} {ta tb tc te : TE} {wi : TI} {ts tk tr : TA} {tl th : TO} {tt tu : TT} {K : PySem.W.Frag} {ρw : En} {vs : List Nat} {g : TG} {dvs : List V} {dds : List D}
  {Ka Kb : {β : Type} → S → (D → S → R β) → R β} {Kv Kw : {β : Type} → S → (α → S → R β) → R β} {Kc Kd : {β : Type} → S → (Bool → S → R β) → R β} {Kl Km : {β : Type} → S → (List D → S → R β) → R β}
theorem s_ok {α : Type} {z : Rz} {O : En → α → En → Prop} {Q : Type} {t : L2.St → Hp → Q → Prop} {r : S → En} {Kx : {β : Type} → S → (α → S → R β) → R β} (h : GG z O t r Kx) {s s' : S} {a : α} (e : (@Kx (α × S) s fun a s' => R.ok (a, s')) = .ok (a, s')) : O (r s) a (r s') := by
  obtain ⟨m, e1, e2, e3⟩ := h s
  have e := (e1 _ _).symm.trans e
  obtain ⟨⟨a', u⟩, h2, h3⟩ := R.bind_eq_ok e
  cases h3
  exact e2 _ h2
theorem g_lcS {j : Nat} {Kf : D → {β : Type} → S → (D → S → R β) → R β} (hi : GI z true wi ρ Kl) (hj : j ∈ vs) (hjl0 : ∀ s, (vs.all fun i => Nat.blt i (ρ s).length) = true) (hC : ∀ s s0, adr (ρ s) = adr (ρ s0) ∧ (ρ s).length = (ρ s0).length ∧ wipeE (ρ s) vs = ρ s)
    (hs : ∀ x, GE z true Rv.d te (fun s => (ρ s).set j (.dat x)) (Kf x)) :
    GE z true Rv.l (tLc wi (gName j) tYes te vs) ρ (fun s k => Kl s fun xs s' => (lcMS xs s' fun o x => @Kf x _ o fun d o' => R.ok (d, o')).bind fun q => k q.1 q.2) := fun s => by
  have hjl : ∀ s, ∀ i ∈ vs, i < (ρ s).length := fun s i hi => Nat.le_of_ble_eq_true (List.all_eq_true.mp (hjl0 s) i hi)
  obtain ⟨m, e1, e2, e3⟩ := hi s
  refine ⟨m.bind fun q => lcMS q.1 q.2 fun o x => @Kf x _ o fun d o' => R.ok (d, o'), fun β k => ?_, fun q hq => ?_, fun e he => ?_⟩
  · rw [e1, R.bind_assoc]
  · obtain ⟨⟨xs, s1⟩, h3, h4⟩ := R.bind_eq_ok hq
    unfold lcMS at h4
    split at h4
    · rename_i hl
      exact ev_lcGS ρ (e2 _ h3) hj hl hjl (fun s => hC s s1) (fun s x d s' h => s_ok (hs x) h) h4
    · cases h4
  · rcases R.bind_eq_ex he with h3 | ⟨⟨xs, s1⟩, h3, h4⟩
    · exact fun G H σ x st nd w q => (e3 _ h3) G H σ x st nd w _
    · exfalso
      unfold lcMS at h4
      split at h4
      · exact lcGS_ex h4
      · cases h4
/-! ### an own list read as data -/
theorem g_bor {z' : Rz} (i : Nat) {p : S → Addr} {xs : S → List D} {chk : α → Bool} {K' : S → {β : Type} → Unit → (α → Unit → R β) → R β} (hi : ∀ s, (ρ s)[i]? = some (.mu (p s) (xs s))) (hc : ∀ a, chk a = true → rvNoL (rv a) = true)
    (h : ∀ s, GE z' false rv te (fun _ : Unit => (ρ s).set i (.dat (.list (xs s)))) (K' s)) : GE z b rv te ρ (fun s k => (borR chk (@K' s _ () fun a _ => R.ok a)).bind fun a => k a s) := fun s => by
  refine ⟨(borR chk (@K' s _ () fun a _ => R.ok a)).bind fun a => .ok (a, s), fun β k => ?_, fun q hq => ?_, fun e he => ?_⟩
  · rw [R.bind_assoc]; rfl
  · obtain ⟨a, h3, h4⟩ := R.bind_eq_ok hq
    cases h4
    unfold borR at h3
    split at h3
    · rename_i d hd
      split at h3
      · rename_i hk
        cases h3
        exact ev_bor i (hi s) (u_ok (h s) hd) (hc _ hk)
      · cases h3
    · cases h3
  · rcases R.bind_eq_ex he with h3 | ⟨a, h3, h4⟩
    · unfold borR at h3
      split at h3
      · split at h3 <;> cases h3
      · cases h3
    · cases h4
theorem gt_bor {z' : Rz} (i : Nat) {p : S → Addr} {xs : S → List D} {K' : S → {β : Type} → Unit → (Bool → Unit → R β) → R β} (hi : ∀ s, (ρ s)[i]? = some (.mu (p s) (xs s)))
    (h : ∀ s, GT z' false tt (fun _ : Unit => (ρ s).set i (.dat (.list (xs s)))) (K' s)) : GT z b tt ρ (fun s k => (borB (@K' s _ () fun a _ => R.ok a)).bind fun a => k a s) := fun s => by
  refine ⟨(borB (@K' s _ () fun a _ => R.ok a)).bind fun a => .ok (a, s), fun β k => ?_, fun q hq => ?_, fun e he => ?_⟩
  · rw [R.bind_assoc]; rfl
  · obtain ⟨a, h3, h4⟩ := R.bind_eq_ok hq
    cases h4
    unfold borB borR at h3
    split at h3
    · rename_i d hd
      split at h3
      · cases h3
        exact et_bor i (hi s) (u_ok (h s) hd)
      · cases h3
    · cases h3
  · rcases R.bind_eq_ex he with h3 | ⟨a, h3, h4⟩
    · unfold borB borR at h3
      split at h3
      · split at h3 <;> cases h3
      · cases h3
    · cases h4
/-! ### calls -/
def spM {α : Type} (CA : Str → Addr) (rv : α → Rv) (F : List D → R α) : Sp := fun vs H Q E => ∃ (G : Hp) (ds : List D), Ex G H ∧ DqA G vs ds ∧
  ((∃ a, F ds = .ok a ∧ ∀ v G' H', Ext [] G H G' H' → ROk G H G' H' v (rv a) → Q v H') ∨ (∃ e, F ds = .ex e ∧ ∀ cls d G' H', Ext [] G H G' H' → EOk CA G' cls d e → E cls d H'))
theorem Wk.uns : ∀ {ρ : En} {n : Nat}, ρ.length = n → Wk ρ (List.replicate n .un)
  | [], 0, _ => trivial
  | s :: ρ, n + 1, h => ⟨.inl rfl, Wk.uns (by simpa using h)⟩
  | [], n + 1, h => by cases h
  | s :: ρ, 0, h => by cases h
theorem g_call {F : List D → R α} (h : GA z b n ts ρ Kl) (hw : ∀ s, Wk (ρ s) z.rx) (hdv : ∀ G, DqA G dvs dds := by exact fun _ => .nil) : GE z b rv (tCallSD (spM z.CA rv F) dvs (WE z.W) ts) ρ (fun s k => Kl s fun ds s' => (F (ds ++ dds)).bind fun a => k a s') := fun s => by
  obtain ⟨m, e1, e2, e3⟩ := h s
  refine ⟨m.bind fun q => (F (q.1 ++ dds)).bind fun a => .ok (a, q.2), fun β k => ?_, fun q hq => ?_, fun e he => ?_⟩
  · rw [e1, R.bind_assoc]; congr 1; funext q; rw [R.bind_assoc]; rfl
  · obtain ⟨⟨ds, s1⟩, h3, h4⟩ := R.bind_eq_ok hq
    obtain ⟨a, h5, h6⟩ := R.bind_eq_ok h4
    cases h6
    intro G H σ x st nd Q q
    exact (e2 _ h3).2 G H σ x st nd _ fun vs G1 H1 x1 s2 a1 k1 => ⟨G1, _, x1.gh, (as_data k1).app (hdv G1), .inl ⟨a, h5, fun v G2 H2 x2 k2 => q v G2 H2 (x1.tr x2.up) (s2.mono x2) a1 (k2.back x1)⟩⟩
  · rcases R.bind_eq_ex he with h3 | ⟨⟨ds, s1⟩, h3, h4⟩
    · exact fun G H σ x st nd w q => (e3 _ h3) G H σ x st nd w _
    · rcases R.bind_eq_ex h4 with h5 | ⟨a, h5, h6⟩
      · intro G H σ x st nd w Q
        exact (e2 _ h3).2 G H σ x st nd _ fun vs G1 H1 x1 s2 a1 k1 => ⟨G1, _, x1.gh, (as_data k1).app (hdv G1), .inr ⟨e, h5, fun cls d G2 H2 x2 k2 => w cls d G2 H2 ((ext_b (M := []) x1).tr x2.up) ((hw s1).st (s2.mono x2)) k2⟩⟩
      · cases h6
/-- keywords -/
def tCallKS (sp : Sp) (gV : List V → List V → List V) (E : L2.St → XK) (t tk : TA) : TE := fun σ H Q => t σ H fun vs H1 => tk σ H1 fun zs H2 => sp (gV vs zs) H2 Q (E σ)
theorem g_callK {F : List D → R α} {π : List Nat} {n' m' : Nat} (h : GA z b n ts ρ Kl) (h2 : GA z b m tk ρ Km) (hw : ∀ s, Wk (ρ s) z.rx) : GE z b rv (tCallKS (spM z.CA rv F) (pk n' m' π) (WE z.W) ts tk) ρ (fun s k => Kl s fun ds s' => Km s' fun es s'' => (F (pk n' m' π ds es)).bind fun a => k a s'') := fun s => by
  obtain ⟨m, e1, e2, e3⟩ := h s
  let m2 : S → R (List D × S) := fun s => Classical.choose (h2 s)
  have h2'' : ∀ s, (∀ (β : Type) (k : List D → S → R β), @Km β s k = (m2 s).bind fun q => k q.1 q.2) ∧ (∀ q, m2 s = .ok q → (q.1.length = _ ∧ EvA b tk (ρ s) (q.1.map Ar.d) (ρ q.2))) ∧ ∀ e, m2 s = .ex e → EE z tk (ρ s) e := fun s => Classical.choose_spec (h2 s)
  refine ⟨m.bind fun q => (m2 q.2).bind fun p => (F (pk n' m' π q.1 p.1)).bind fun a => .ok (a, p.2), fun β k => ?_, fun q hq => ?_, fun e he => ?_⟩
  · rw [e1, R.bind_assoc]; congr 1; funext q; rw [(h2'' q.2).1, R.bind_assoc]; congr 1; funext p; rw [R.bind_assoc]; rfl
  · obtain ⟨⟨ds, s1⟩, h3, h4⟩ := R.bind_eq_ok hq
    obtain ⟨⟨es, s2⟩, h5, h6⟩ := R.bind_eq_ok h4
    obtain ⟨a, h7, h8⟩ := R.bind_eq_ok h6
    cases h8
    intro G H σ x st nd Q q
    exact (e2 _ h3).2 G H σ x st nd _ fun vs G1 H1 x1 s2 a1 k1 => ((h2'' _).2.1 _ h5).2 G1 H1 σ x1.gh s2 (by rw [a1]; exact nd) _ fun zs G2 H2 x2 s3 a2 k2 =>
      ⟨G2, _, x2.gh, pk_dqs (as_data (k1.mono x2.gg)) (as_data k2), .inl ⟨a, h7, fun v G3 H3 x3 k3 => q v G3 H3 ((x1.then x2 a1).tr x3.up) (s3.mono x3) (a2.trans a1) ((k3.back x2).back x1)⟩⟩
  · rcases R.bind_eq_ex he with h3 | ⟨⟨ds, s1⟩, h3, h4⟩
    · exact fun G H σ x st nd w q => (e3 _ h3) G H σ x st nd w _
    · rcases R.bind_eq_ex h4 with h5 | ⟨⟨es, s2⟩, h5, h6⟩
      · exact fun G H σ x st nd w Q => (e2 _ h3).2 G H σ x st nd _ fun vs G1 H1 x1 s2 a1 k1 => ((h2'' _).2.2 _ h5) G1 H1 σ x1.gh s2 (by rw [a1]; exact nd) (fun cls d G' H' x2 s3 k2 => w cls d G' H' ((ext_b (M := []) x1).tr (by rw [← a1]; exact x2)) s3 k2) _
      · rcases R.bind_eq_ex h6 with h7 | ⟨a, h7, h8⟩
        · intro G H σ x st nd w Q
          exact (e2 _ h3).2 G H σ x st nd _ fun vs G1 H1 x1 s3 a1 k1 => ((h2'' _).2.1 _ h5).2 G1 H1 σ x1.gh s3 (by rw [a1]; exact nd) _ fun zs G2 H2 x2 s4 a2 k2 =>
            ⟨G2, _, x2.gh, pk_dqs (as_data (k1.mono x2.gg)) (as_data k2), .inr ⟨e, h7, fun cls d G3 H3 x3 k3 => w cls d G3 H3 ((ext_b (M := []) (x1.then x2 a1)).tr x3.up) ((hw s2).st (s4.mono x3)) k3⟩⟩
        · cases h8
/-- f(own, ..): the first argument is changed -/
def RO (rv : α → Rv) (F : List D → List D → R (α × List D)) : List PyData → List PyData → Rv → List PyData → Prop := fun xs ds r ys => ∃ a, F xs ds = .ok (a, ys) ∧ r = rv a
theorem g_callO {F : List D → List D → R (α × List D)} {i : Nat} {p : Addr} {ρ : List D → En} {Kl : {β : Type} → List D → (List D → List D → R β) → R β} (hi : ∀ s, (ρ s)[i]? = some (.mu p s)) (hset : ∀ s s', (ρ s).set i (.mu p s') = ρ s') (h : GA z true n ts ρ Kl) (hdv : ∀ G, DqA G dvs dds := by exact fun _ => .nil) :
    GE z true rv (tCallSD (spO (RO rv F)) dvs (WE z.W) (tCons (tVar i) ts)) ρ (fun s k => Kl s fun ds s' => (F s' (ds ++ dds)).nox.bind fun q => k q.1 q.2) := fun s => by
  obtain ⟨m, e1, e2, e3⟩ := h s
  refine ⟨m.bind fun q => (F q.2 (q.1 ++ dds)).nox, fun β k => ?_, fun q hq => ?_, fun e he => ?_⟩
  · rw [e1, R.bind_assoc]
  · obtain ⟨⟨ds, s1⟩, h3, h4⟩ := R.bind_eq_ok hq
    obtain ⟨a, ys⟩ := q
    have h4 := nox_ok h4
    have hA : EvA true (tCons (tVar i) ts) (ρ s) (Ar.o i :: ds.map Ar.d) (ρ s1) := ea_o (hi s) (e2 _ h3).2
    have := ev_callO (R := RO rv F) (E := fun _ _ _ => False) (dvs := dvs) (dds := dds) hdv hA (hi s1) ⟨a, h4, rfl⟩
    rw [hset] at this
    exact this
  · rcases R.bind_eq_ex he with h3 | ⟨⟨ds, s1⟩, h3, h4⟩
    · intro G H σ x st nd w q
      obtain ⟨k, _⟩ := st.muget (hi s)
      exact ⟨.ref p, k, (e3 _ h3) G H σ x st nd w _⟩
    · exact absurd h4 nox_ex
/-- f(script, ..) -/
def RK (rv : α → Rv) (F : List Int → List D → R α) : List Int → List PyData → Rv → Prop := fun ns ds r => ∃ a, F ns ds = .ok a ∧ r = rv a
theorem g_callS {F : List Int → List D → R α} {i : Nat} {ns : List Int} (hi : ∀ s, (ρ s)[i]? = some (.kl K ns)) (h : GA z b n ts ρ Kl) :
    GE z b rv (tCallSD (spK K (RK rv F)) [] (WE z.W) (tCons (tVar i) ts)) ρ (fun s k => Kl s fun ds s' => (F ns ds).nox.bind fun a => k a s') := fun s => by
  obtain ⟨m, e1, e2, e3⟩ := h s
  refine ⟨m.bind fun q => (F ns q.1).nox.bind fun a => .ok (a, q.2), fun β k => ?_, fun q hq => ?_, fun e he => ?_⟩
  · rw [e1, R.bind_assoc]; congr 1; funext q; rw [R.bind_assoc]; rfl
  · obtain ⟨⟨ds, s1⟩, h3, h4⟩ := R.bind_eq_ok hq
    obtain ⟨a, h5, h6⟩ := R.bind_eq_ok h4
    cases h6
    exact ev_callS (E := fun _ _ _ => False) (ea_k (ev_k (hi s)) (e2 _ h3).2) ⟨a, nox_ok h5, rfl⟩
  · rcases R.bind_eq_ex he with h3 | ⟨⟨ds, s1⟩, h3, h4⟩
    · intro G H σ x st nd w q
      obtain ⟨v, h5, h6⟩ := st.get (hi s) (by simp)
      exact ⟨v, h5, (e3 _ h3) G H σ x st nd w _⟩
    · rcases R.bind_eq_ex h4 with h5 | ⟨a, h5, h6⟩
      · exact absurd h5 nox_ex
      · cases h6
theorem g_lenK {i : Nat} {ns : List Int} (hi : ∀ s, (ρ s)[i]? = some (.kl K ns)) : GE z b Rv.d (tCB (rLen K) (tCons (tVar i) tNil)) ρ (fun s k => k (.int ns.length) s) := gg_pure fun s => ev_cb (ea_k (ev_k (hi s)) ea_nil) rc_lenK
def ixK (ns : List Int) : D → R D
  | .int i => match atI ns i with
    | some n => .ok (.int n)
    | none => .bad
  | _ => .bad
theorem g_ixK {i : Nat} {ns : List Int} (hi : ∀ s, (ρ s)[i]? = some (.kl K ns)) (h : GE z b Rv.d te ρ Ka) : GE z b Rv.d (tOp (rIxL K) (tVar i) te) ρ (fun s k => Ka s fun d s' => (ixK ns d).bind fun c => k c s') := fun s => by
  obtain ⟨m, e1, e2, e3⟩ := h s
  refine ⟨m.bind fun q => (ixK ns q.1).bind fun a => .ok (a, q.2), fun β k => ?_, fun q hq => ?_, fun e he => ?_⟩
  · rw [e1, R.bind_assoc]; congr 1; funext q; rw [R.bind_assoc]; rfl
  · obtain ⟨⟨d, s1⟩, h3, h4⟩ := R.bind_eq_ok hq
    obtain ⟨a, h5, h6⟩ := R.bind_eq_ok h4
    cases h6
    have k2 := e2 _ h3
    clear h3
    dsimp only at h5 k2
    unfold ixK at h5
    split at h5
    · split at h5
      · rename_i hn
        cases h5
        exact ev_ixK (ev_k (hi s)) k2 hn
      · cases h5
    · cases h5
  · rcases R.bind_eq_ex he with h3 | ⟨⟨d, s1⟩, h3, h4⟩
    · intro G H σ x st nd w q
      obtain ⟨v, h5, h6⟩ := st.get (hi s) (by simp)
      exact ⟨v, h5, (e3 _ h3) G H σ x st nd w _⟩
    · rcases R.bind_eq_ex h4 with h5 | ⟨a, h5, h6⟩
      · unfold ixK at h5; split at h5 <;> first | cases h5 | (split at h5 <;> cases h5)
      · cases h6
end
end Kn

namespace Kn
open PySem L2
/-! ### statements -/
def OwR (ow : Option (Nat × (List D → Sl))) (o : List D) (ρ' : En) : Prop := match ow with
  | none => True
  | some f => ρ'[f.1]? = some (f.2 o)
section
variable {N L M2 S α : Type}
def DOk (z : Rz) (eN : N → Addr → En) (eL : L → Addr → En) (ρ : En) (G H : Hp) (D : Ends) : R (Ct N L) → Prop
  | .ok (.nx s) => ∀ p ρ' G' H' σ', Stp ρ G H ρ' G' H' σ' → Wk ρ' (eN s p) → D.nx σ' H'
  | .ok (.rt r o) => ∀ v ρ' G' H' σ', Stp ρ G H ρ' G' H' σ' → RtOk ρ H G' H' v r → OwR z.ow o ρ' → D.rt v H'
  | .ok (.bk s) => ∀ p ρ' G' H' σ', Stp ρ G H ρ' G' H' σ' → Wk ρ' (eL s p) → D.bk σ' H'
  | .ok (.ct s) => ∀ p ρ' G' H' σ', Stp ρ G H ρ' G' H' σ' → Wk ρ' (eL s p) → D.ct σ' H'
  | .ex e => ∀ cls d G' H' σ', Ext (adr ρ) G H G' H' → StOk G' H' σ' z.rx → EOk z.CA G' cls d e → z.W cls d σ' H'
  | .bad => False
def SvM (z : Rz) (t : TS) (ρ : En) (m : R (Ct N L)) (eN : N → Addr → En) (eL : L → Addr → En) : Prop := ∀ (G H : Hp) (σ : L2.St), Ex G H → StOk G H σ ρ → (adr ρ).Nodup → ∀ D : Ends, DOk z eN eL ρ G H D m → t D σ H
theorem Stp.ext {ρ ρ1 : En} {G H G1 H1 G2 H2 : Hp} {σ1 : L2.St} (s : Stp ρ G H ρ1 G1 H1 σ1) (x : Ext (adr ρ1) G1 H1 G2 H2) : Ext (adr ρ) G H G2 H2 := s.x.trans x s.a
theorem DOk.step {z : Rz} {eN : N → Addr → En} {eL : L → Addr → En} {ρ ρ1 : En} {G H G1 H1 : Hp} {σ1 : L2.St} {D : Ends} {m : R (Ct N L)} (h : DOk z eN eL ρ G H D m) (s : Stp ρ G H ρ1 G1 H1 σ1) : DOk z eN eL ρ1 G1 H1 D m := by
  match m, h with
  | .ok (.nx a), h => exact fun p ρ' G' H' σ' k w => h p ρ' G' H' σ' (s.trans k) w
  | .ok (.rt r o), h => exact fun v ρ' G' H' σ' k w o => h v ρ' G' H' σ' (s.trans k) (w.via s) o
  | .ok (.bk a), h => exact fun p ρ' G' H' σ' k w => h p ρ' G' H' σ' (s.trans k) w
  | .ok (.ct a), h => exact fun p ρ' G' H' σ' k w => h p ρ' G' H' σ' (s.trans k) w
  | .ex e, h => exact fun cls d G' H' σ' k w o => h cls d G' H' σ' (s.ext k) w o
variable {z : Rz} {b : Bool} {rv : α → Rv} {ρs : S → En} {s0 : S} {ρ ρ1 : En} {t u : TS} {te tb : TE} {tt : TT} {ta : TA} {wi : TI} {g : TG} {eN : N → Addr → En} {eL : L → Addr → En} {eJ : M2 → Addr → En} {m : R (Ct N L)} {K : PySem.W.Frag}
  {Ka Kb : {β : Type} → S → (PySem.PyData → S → R β) → R β} {Kc : {β : Type} → S → (Bool → S → R β) → R β} {Kl : {β : Type} → S → (List PySem.PyData → S → R β) → R β}
theorem m_env (ρ' : En) (h : SvM z t ρ' m eN eL) (e : ρ = ρ' := by rfl) : SvM z t ρ m eN eL := by rw [e]; exact h
theorem m_last (h : SvM z (tSeq t tNext) ρ m eN eL) : SvM z t ρ m eN eL := h
theorem m_nx {s : N} (p : Addr := 0) (w : Wk ρ (eN s p)) (hM : m = .ok (.nx s) := by rfl) : SvM z tNext ρ m eN eL := fun G H σ e st nd D h => by
  subst hM
  exact h p ρ G H σ (Stp.refl e st nd) w
theorem m_brk {s : L} (p : Addr := 0) (w : Wk ρ (eL s p)) (hM : m = .ok (.bk s) := by rfl) : SvM z tBreak ρ m eN eL := fun G H σ e st nd D h => by
  subst hM
  exact h p ρ G H σ (Stp.refl e st nd) w
theorem m_ct {s : L} (p : Addr := 0) (w : Wk ρ (eL s p)) (hM : m = .ok (.ct s) := by rfl) : SvM z tCont ρ m eN eL := fun G H σ e st nd D h => by
  subst hM
  exact h p ρ G H σ (Stp.refl e st nd) w
/-- one statement that runs through -/
theorem m_step {β : Type} {n : R β} {P : β → En → Prop} {k : β → R (Ct N L)} (hok : ∀ a, n = .ok a → Sv t ρ { nx := P a })
    (hex : ∀ e, n = .ex e → ∀ (G H : Hp) (σ : L2.St), Ex G H → StOk G H σ ρ → (adr ρ).Nodup → (∀ cls d G' H' σ', Ext (adr ρ) G H G' H' → StOk G' H' σ' z.rx → EOk z.CA G' cls d e → z.W cls d σ' H') → ∀ D, t D σ H)
    (hk : ∀ a ρ', P a ρ' → SvM z u ρ' (k a) eN eL) (hM : m = n.bind k) : SvM z (tSeq t u) ρ m eN eL := fun G H σ e st nd D h => by
  subst hM
  cases n with
  | ok a => exact hok a rfl G H σ e st nd { D with nx := u D } (fun ρ' G' H' σ' s w => hk a ρ' w G' H' σ' s.x.gh s.s s.n D (DOk.step (m := k a) h s)) (fun _ _ _ _ _ _ _ _ w => w.elim) (fun _ _ _ _ _ w => w.elim) (fun _ _ _ _ _ w => w.elim)
  | ex x => exact hex x rfl G H σ e st nd h _
  | bad => exact h.elim
theorem gg_m {O : En → α → En → Prop} {Q : Type} {tq : L2.St → Hp → Q → Prop} {Kx : {β : Type} → S → (α → S → R β) → R β} (h : GG z O tq ρs Kx) (s0 : S) : ∃ n : R (α × S), (∀ (β : Type) (k : α → S → R β), @Kx β s0 k = n.bind fun q => k q.1 q.2) ∧ (∀ q, n = .ok q → O (ρs s0) q.1 (ρs q.2)) ∧ ∀ e, n = .ex e → EE z tq (ρs s0) e := h s0
/-- from an expression to a statement -/
theorem m_of {rv : α → Rv} {P : α → S → En → Prop} {Kx : {β : Type} → S → (α → S → R β) → R β} {k : α → S → R (Ct N L)} (h : GE z b rv te ρs Kx) (hok : ∀ a s, Ev b te (ρs s0) (rv a) (ρs s) → Sv t (ρs s0) { nx := P a s })
    (hex : ∀ e, EE z te (ρs s0) e → ∀ (G H : Hp) (σ : L2.St), Ex G H → StOk G H σ (ρs s0) → (adr (ρs s0)).Nodup → (∀ cls d G' H' σ', Ext (adr (ρs s0)) G H G' H' → StOk G' H' σ' z.rx → EOk z.CA G' cls d e → z.W cls d σ' H') → ∀ D, t D σ H)
    (hk : ∀ a s ρ', P a s ρ' → SvM z u ρ' (k a s) eN eL) (hM : m = Kx s0 k) : SvM z (tSeq t u) (ρs s0) m eN eL := by
  obtain ⟨n, e1, e2, e3⟩ := h s0
  exact m_step (n := n) (P := fun q => P q.1 q.2) (k := fun q => k q.1 q.2) (fun q hq => hok _ _ (e2 _ hq)) (fun e he => hex e (e3 _ he)) (fun q ρ' w => hk _ _ _ w) (hM.trans (e1 _ _))
theorem m_asg {i : Nat} {k : D → S → R (Ct N L)} (h : GE z b Rv.d te ρs Ka) (hk : ∀ d s, SvM z u ((ρs s).set i (.dat d)) (k d s) eN eL) (hM : m = Ka s0 k := by rfl) : SvM z (tSeq (tAsg te (gName i)) u) (ρs s0) m eN eL :=
  m_of (P := fun d s ρ' => ρ' = (ρs s).set i (.dat d)) h (fun a s k => sv_asg k rfl) (fun e he G H σ x st nd w D => he G H σ x st nd (fun cls d G' H' => w cls d G' H' σ) _) (fun a s ρ' w => by rw [w]; exact hk a s) hM
theorem m_asgL {i : Nat} {k : List D → S → R (Ct N L)} (h : GE z b Rv.l te ρs Kl) (hk : ∀ xs s p, p ∉ adr (ρs s) → SvM z u ((ρs s).set i (.mu p xs)) (k xs s) eN eL) (hM : m = Kl s0 k := by rfl) : SvM z (tSeq (tAsg te (gName i)) u) (ρs s0) m eN eL :=
  m_of (P := fun xs s ρ' => ∃ p, p ∉ adr (ρs s) ∧ ρ' = (ρs s).set i (.mu p xs)) h (fun a s k => sv_asgL k fun p hp => ⟨p, hp, rfl⟩) (fun e he G H σ x st nd w D => he G H σ x st nd (fun cls d G' H' => w cls d G' H' σ) _) (fun a s ρ' ⟨p, hp, w⟩ => by rw [w]; exact hk a s p hp) hM
theorem m_drop {k : α → S → R (Ct N L)} {Kv : {β : Type} → S → (α → S → R β) → R β} (h : GE z b rv te ρs Kv) (hk : ∀ d s, SvM z u (ρs s) (k d s) eN eL) (hM : m = Kv s0 k := by rfl) : SvM z (tSeq (tDrop te) u) (ρs s0) m eN eL :=
  m_of (P := fun d s ρ' => ρ' = ρs s) h (fun a s k => sv_drop k rfl) (fun e he G H σ x st nd w D => he G H σ x st nd (fun cls d G' H' => w cls d G' H' σ) _) (fun a s ρ' w => by rw [w]; exact hk a s) hM
/-- a, b = e -/
theorem m_unp {i j : Nat} {k : D → D → S → R (Ct N L)} (h : GE z b Rv.d te ρs Ka) (hk : ∀ x y s, SvM z u (((ρs s).set i (.dat x)).set j (.dat y)) (k x y s) eN eL) (hM : m = Ka s0 (fun d s => un2 d fun x y => k x y s) := by rfl) :
    SvM z (tSeq (tAsg te (gTup K 2 (gCons (gName i) (gCons (gName j) gNil)))) u) (ρs s0) m eN eL := by
  obtain ⟨n, e1, e2, e3⟩ := h s0
  refine m_step (n := n.bind fun q => un2 q.1 fun x y => .ok (x, y, q.2)) (P := fun q ρ' => ρ' = ((ρs q.2.2).set i (.dat q.1)).set j (.dat q.2.1)) (k := fun q => k q.1 q.2.1 q.2.2) (fun q hq => ?_) (fun e he => ?_) (fun q ρ' w => by rw [w]; exact hk _ _ _) ?_
  · obtain ⟨⟨d, s⟩, h1, h2⟩ := R.bind_eq_ok hq
    obtain ⟨x, y, rfl, h3⟩ := un2_ok h2
    cases h3
    exact sv_unp (e2 _ h1) rfl
  · rcases R.bind_eq_ex he with h1 | ⟨⟨d, s⟩, h1, h2⟩
    · exact fun G H σ x st nd w D => (e3 _ h1) G H σ x st nd (fun cls d G' H' => w cls d G' H' σ) _
    · unfold un2 at h2
      split at h2 <;> cases h2
  · refine (hM.trans (e1 _ _)).trans ?_
    rw [R.bind_assoc]
    congr 1; funext q
    unfold un2
    split <;> rfl
/-- a, b = x, y -/
theorem m_par {i j : Nat} {k : D → D → S → R (Ct N L)} (h1 : GE z b Rv.d te ρs Ka) (h2 : GE z b Rv.d tb ρs Kb) (hk : ∀ x y s, SvM z u (((ρs s).set i (.dat x)).set j (.dat y)) (k x y s) eN eL) (hM : m = Ka s0 (fun x s => Kb s fun y s' => k x y s') := by rfl) :
    SvM z (tSeq (tPar i j (tCons te (tCons tb tNil))) u) (ρs s0) m eN eL := by
  have h : GA z b 2 (tCons te (tCons tb tNil)) ρs (fun s k => Ka s fun a s' => Kb s' fun c s'' => k [a, c] s'') := ga_cons h1 (ga_cons h2 ga_nil)
  obtain ⟨n, e1, e2, e3⟩ := h s0
  refine m_step (n := n.bind fun q => match q.1 with | [x, y] => .ok (x, y, q.2) | _ => .bad) (P := fun q ρ' => ρ' = ((ρs q.2.2).set i (.dat q.1)).set j (.dat q.2.1)) (k := fun q => k q.1 q.2.1 q.2.2) (fun q hq => ?_) (fun e he => ?_) (fun q ρ' w => by rw [w]; exact hk _ _ _) ?_
  · obtain ⟨⟨d, s⟩, h1, h2⟩ := R.bind_eq_ok hq
    have h3 := (e2 _ h1).2
    dsimp only at h2 h3
    split at h2
    · cases h2
      exact sv_par h3 rfl
    · cases h2
  · rcases R.bind_eq_ex he with h1 | ⟨⟨d, s⟩, h1, h2⟩
    · exact fun G H σ x st nd w D => (e3 _ h1) G H σ x st nd (fun cls d G' H' => w cls d G' H' σ) _
    · dsimp only at h2
      split at h2 <;> cases h2
  · have := e1 _ fun ds s => match ds with | [x, y] => k x y s | _ => .bad
    rw [hM]
    refine Eq.trans this ?_
    rw [R.bind_assoc]
    congr 1; funext q
    split <;> rfl
/-- x += e, ints -/
def augD (f : Int → Int → Int) : D → D → R D
  | .int i, .int j => .ok (.int (f i j))
  | _, _ => .bad
theorem m_aug {i : Nat} {f : Int → Int → Int} {d0 : D} {k : D → S → R (Ct N L)} (hi : (ρs s0)[i]? = some (.dat d0)) (h : GE z b Rv.d te ρs Ka) (hk : ∀ d s, SvM z u ((ρs s).set i (.dat d)) (k d s) eN eL) (hM : m = Ka s0 (fun d s => (augD f d0 d).bind fun c => k c s) := by rfl) :
    SvM z (tSeq (tAug i te (ipI f)) u) (ρs s0) m eN eL := by
  obtain ⟨n, e1, e2, e3⟩ := h s0
  refine m_step (n := n.bind fun q => (augD f d0 q.1).bind fun c => .ok (c, q.2)) (P := fun q ρ' => ρ' = (ρs q.2).set i (.dat q.1)) (k := fun q => k q.1 q.2) (fun q hq => ?_) (fun e he => ?_) (fun q ρ' w => by rw [w]; exact hk _ _) ?_
  · obtain ⟨⟨d, s⟩, h1, h2⟩ := R.bind_eq_ok hq
    obtain ⟨c, h3, h4⟩ := R.bind_eq_ok h2
    cases h4
    have k2 := e2 _ h1
    dsimp only at h3 k2
    unfold augD at h3
    split at h3
    · cases h3
      exact sv_aug hi k2 rfl
    · cases h3
  · rcases R.bind_eq_ex he with h1 | ⟨⟨d, s⟩, h1, h2⟩
    · intro G H σ x st nd w D
      obtain ⟨v, v1, v2⟩ := st.get hi (by simp)
      exact ⟨v, v1, (e3 _ h1) G H σ x st nd (fun cls d G' H' => w cls d G' H' σ) _⟩
    · rcases R.bind_eq_ex h2 with h3 | ⟨c, h3, h4⟩
      · unfold augD at h3; split at h3 <;> cases h3
      · cases h4
  · refine (hM.trans (e1 _ _)).trans ?_
    rw [R.bind_assoc]
    congr 1; funext q
    rw [R.bind_assoc]; rfl
/-- x += e, an own list -/
theorem m_augL {i : Nat} {p : Addr} {xs : List D} {ys : S → List D} {k : List D → S → R (Ct N L)} (hi0 : (ρs s0)[i]? = some (.mu p xs)) (hi : ∀ s, (ρs s)[i]? = some (.mu p (ys s))) (h : GE z b Rv.d te ρs Ka) (hk : ∀ d s, SvM z u ((ρs s).set i (.mu p d)) (k d s) eN eL) (hM : m = Ka s0 (fun d s => (extM (ys s) d).bind fun c => k c s) := by rfl) :
    SvM z (tSeq (tAug i te rExt2) u) (ρs s0) m eN eL := by
  obtain ⟨n, e1, e2, e3⟩ := h s0
  refine m_step (n := n.bind fun q => (extM (ys q.2) q.1).bind fun c => .ok (c, q.2)) (P := fun q ρ' => ρ' = (ρs q.2).set i (.mu p q.1)) (k := fun q => k q.1 q.2) (fun q hq => ?_) (fun e he => ?_) (fun q ρ' w => by rw [w]; exact hk _ _) ?_
  · obtain ⟨⟨d, s⟩, h1, h2⟩ := R.bind_eq_ok hq
    obtain ⟨c, h3, h4⟩ := R.bind_eq_ok h2
    cases h4
    have k2 := e2 _ h1
    dsimp only at h3 k2
    unfold extM at h3
    split at h3
    · split at h3
      · rename_i hl
        cases h3
        exact sv_augL hi0 k2 (hi s) hl rfl
      · cases h3
    · cases h3
  · rcases R.bind_eq_ex he with h1 | ⟨⟨d, s⟩, h1, h2⟩
    · intro G H σ x st nd w D
      obtain ⟨m1, _⟩ := st.muget hi0
      exact ⟨_, m1, (e3 _ h1) G H σ x st nd (fun cls d G' H' => w cls d G' H' σ) _⟩
    · rcases R.bind_eq_ex h2 with h3 | ⟨c, h3, h4⟩
      · unfold extM at h3; split at h3 <;> first | cases h3 | (split at h3 <;> cases h3)
      · cases h4
  · refine (hM.trans (e1 _ _)).trans ?_
    rw [R.bind_assoc]
    congr 1; funext q
    rw [R.bind_assoc]; rfl
/-- x[j] = e, an own list -/
theorem m_setix {i : Nat} {p : Addr} {ys : S → List D} {k : List D → S → R (Ct N L)} {Kb : S → {β : Type} → Unit → (PySem.PyData → Unit → R β) → R β} (hi : ∀ s, (ρs s)[i]? = some (.mu p (ys s))) (h : GE z b Rv.d te ρs Ka) (hj : ∀ s, GE z false Rv.d tb (fun _ : Unit => ρs s) (Kb s)) (hk : ∀ d s, SvM z u ((ρs s).set i (.mu p d)) (k d s) eN eL)
    (hM : m = Ka s0 (fun d s => (@Kb s _ () fun j _ => R.ok j).nox.bind fun j => (setM (ys s) j d).bind fun c => k c s) := by rfl) :
    SvM z (tSeq (tAsg te (gSub (tVar i) tb rSetL)) u) (ρs s0) m eN eL := by
  obtain ⟨n, e1, e2, e3⟩ := h s0
  refine m_step (n := n.bind fun q => (@Kb q.2 _ () fun j _ => R.ok j).nox.bind fun j => (setM (ys q.2) j q.1).bind fun c => .ok (c, q.2)) (P := fun q ρ' => ρ' = (ρs q.2).set i (.mu p q.1)) (k := fun q => k q.1 q.2) (fun q hq => ?_) (fun e he => ?_) (fun q ρ' w => by rw [w]; exact hk _ _) ?_
  · obtain ⟨⟨d, s⟩, h1, h2⟩ := R.bind_eq_ok hq
    obtain ⟨j, h3, h4⟩ := R.bind_eq_ok h2
    obtain ⟨c, h5, h6⟩ := R.bind_eq_ok h4
    cases h6
    have k2 := e2 _ h1
    have k3 := u_ok (hj s) (nox_ok h3)
    dsimp only at h5 k2
    unfold setM at h5
    split at h5
    · split at h5
      · rename_i hk
        cases h5
        exact ev_setix k2 k3 (hi s) hk rfl
      · cases h5
    · cases h5
  · rcases R.bind_eq_ex he with h1 | ⟨⟨d, s⟩, h1, h2⟩
    · exact fun G H σ x st nd w D => (e3 _ h1) G H σ x st nd (fun cls d G' H' => w cls d G' H' σ) _
    · rcases R.bind_eq_ex h2 with h3 | ⟨j, h3, h4⟩
      · exact absurd h3 nox_ex
      · rcases R.bind_eq_ex h4 with h5 | ⟨c, h5, h6⟩
        · unfold setM at h5; split at h5 <;> first | cases h5 | (split at h5 <;> cases h5)
        · cases h6
  · refine (hM.trans (e1 _ _)).trans ?_
    rw [R.bind_assoc]
    congr 1; funext q
    rw [R.bind_assoc]
    congr 1; funext j
    rw [R.bind_assoc]; rfl
theorem bind_unit {α β : Type} (n : R α) (k : α → R β) : n.bind k = (n.bind fun c => R.ok ((), c)).bind fun c => k c.2 := by cases n <;> rfl
/-- a method of an own list, as a statement -/
theorem m_meth {α β : Type} {i : Nat} {p : Addr} {f : S → α → R (β × List D)} {Kv : {β : Type} → S → (α → S → R β) → R β} {O : En → α → En → Prop} {tq : L2.St → Hp → (List V → Hp → Prop) → Prop} {k : List D → S → R (Ct N L)} {tm : TE} (h : GG z O tq ρs Kv)
    (hok : ∀ a s c, O (ρs s0) a (ρs s) → f s a = .ok c → ∃ r, Ev true tm (ρs s0) r ((ρs s).set i (.mu p c.2))) (hE : ∀ e, EE z tq (ρs s0) e → EE z tm (ρs s0) e) (hf : ∀ s a e, f s a ≠ .ex e)
    (hk : ∀ d s, SvM z u ((ρs s).set i (.mu p d)) (k d s) eN eL) (hM : m = Kv s0 (fun a s => (f s a).bind fun c => k c.2 s)) : SvM z (tSeq (tDrop tm) u) (ρs s0) m eN eL := by
  obtain ⟨n, e1, e2, e3⟩ := h s0
  refine m_step (n := n.bind fun q => (f q.2 q.1).bind fun c => .ok (c.2, q.2)) (P := fun q ρ' => ρ' = (ρs q.2).set i (.mu p q.1)) (k := fun q => k q.1 q.2) (fun q hq => ?_) (fun e he => ?_) (fun q ρ' w => by rw [w]; exact hk _ _) ?_
  · obtain ⟨⟨d, s⟩, h1, h2⟩ := R.bind_eq_ok hq
    obtain ⟨c, h3, h4⟩ := R.bind_eq_ok h2
    cases h4
    obtain ⟨r, hr⟩ := hok _ _ _ (e2 _ h1) h3
    exact sv_drop hr rfl
  · rcases R.bind_eq_ex he with h1 | ⟨⟨d, s⟩, h1, h2⟩
    · exact fun G H σ x st nd w D => (hE _ (e3 _ h1)) G H σ x st nd (fun cls d G' H' => w cls d G' H' σ) _
    · rcases R.bind_eq_ex h2 with h3 | ⟨c, h3, h4⟩
      · exact absurd h3 (hf _ _ _)
      · cases h4
  · refine (hM.trans (e1 _ _)).trans ?_
    rw [R.bind_assoc]
    congr 1; funext q
    rw [R.bind_assoc]; rfl
theorem own_tyV {i : Nat} {p : Addr} {xs : List D} {ρ : En} {G H : Hp} {σ : L2.St} (st : StOk G H σ ρ) (hi : ρ[i]? = some (.mu p xs)) : σ[i]? = some (some (.ref p)) ∧ tyV K "list" (.ref p) H := by
  obtain ⟨m1, m2, vs, m3, m4⟩ := st.muget hi
  exact ⟨m1, .inl ⟨rfl, vs, .inl (.inl m3)⟩⟩
theorem ee_bm {i : Nat} {p : Addr} {xs : List D} {r : V → List V → Hp → VK → Prop} {e : Xc} {ρ : En} (hi : ρ[i]? = some (.mu p xs)) (h : EE z ta ρ e) : EE z (tBM K "list" r (tVar i) ta) ρ e := fun G H σ x st nd w Q => by
  obtain ⟨m1, m2⟩ := own_tyV (K := K) st hi
  exact ⟨_, m1, m2, h G H σ x st nd w _⟩
/-- x.append(e) -/
theorem m_app {i : Nat} {p : Addr} {ys : S → List D} {k : List D → S → R (Ct N L)} (hi : ∀ s, (ρs s)[i]? = some (.mu p (ys s))) (h : GE z b Rv.d te ρs Ka) (hk : ∀ d s, SvM z u ((ρs s).set i (.mu p d)) (k d s) eN eL)
    (hM : m = Ka s0 (fun d s => (appM (ys s) d).bind fun c => k c s) := by rfl) : SvM z (tSeq (tDrop (tBM K "list" rAppend (tVar i) (tCons te tNil))) u) (ρs s0) m eN eL :=
  m_meth (f := fun s d => (appM (ys s) d).bind fun c => .ok ((), c)) (gg_mapT (O3 := OE b Rv.d te) (t3 := tCons te tNil) (fun d => d) h (fun _ _ _ h => h) (fun _ _ h => ee_1 (fun σ (Q : List V → Hp → Prop) (x : V) (H1 : Hp) => Q [x] H1) h))
    (fun a s c h1 h2 => by
      obtain ⟨ys', h3, h4⟩ := R.bind_eq_ok h2
      cases h4
      unfold appM at h3
      split at h3
      · rename_i hl
        cases h3
        exact ⟨_, ev_append h1 ⟨_, hi s0⟩ (hi s) hl⟩
      · cases h3) (fun e h => ee_bm (hi s0) h) (fun s a e h => by
      rcases R.bind_eq_ex h with h | ⟨c, h1, h2⟩
      · unfold appM at h; split at h <;> cases h
      · cases h2) hk (hM.trans (congrArg (Ka s0) (by funext d s; exact bind_unit _ _)))
/-- x.pop(e) -/
theorem m_popAt {i : Nat} {p : Addr} {ys : S → List D} {k : List D → S → R (Ct N L)} (hi : ∀ s, (ρs s)[i]? = some (.mu p (ys s))) (h : GE z b Rv.d te ρs Ka) (hk : ∀ d s, SvM z u ((ρs s).set i (.mu p d)) (k d s) eN eL)
    (hM : m = Ka s0 (fun d s => (popAtM (ys s) d).bind fun c => k c.2 s) := by rfl) : SvM z (tSeq (tDrop (tBM K "list" rPopAt (tVar i) (tCons te tNil))) u) (ρs s0) m eN eL :=
  m_meth (f := fun s d => popAtM (ys s) d) (gg_mapT (O3 := OE b Rv.d te) (t3 := tCons te tNil) (fun d => d) h (fun _ _ _ h => h) (fun _ _ h => ee_1 (fun σ (Q : List V → Hp → Prop) (x : V) (H1 : Hp) => Q [x] H1) h))
    (fun a s c h1 h2 => by
      unfold popAtM at h2
      split at h2
      · split at h2
        · rename_i hl
          split at h2
          · rename_i hk
            split at h2
            · rename_i hx
              cases h2
              exact ⟨_, ev_popAt h1 ⟨_, hi s0⟩ (hi s) hk hx hl⟩
            · cases h2
          · cases h2
        · cases h2
      · cases h2) (fun e h => ee_bm (hi s0) h) (fun s a e h => by
      unfold popAtM at h
      split at h
      · split at h
        · split at h
          · split at h <;> cases h
          · cases h
        · cases h
      · cases h) hk hM
/-- x.remove(e) -/
theorem m_rem {i : Nat} {p : Addr} {ys : S → List D} {k : List D → S → R (Ct N L)} (hi : ∀ s, (ρs s)[i]? = some (.mu p (ys s))) (h : GE z b Rv.d te ρs Ka) (hk : ∀ d s, SvM z u ((ρs s).set i (.mu p d)) (k d s) eN eL)
    (hM : m = Ka s0 (fun d s => (remM (ys s) d).bind fun c => k c s) := by rfl) : SvM z (tSeq (tDrop (tBM K "list" rRemI (tVar i) (tCons te tNil))) u) (ρs s0) m eN eL :=
  m_meth (f := fun s d => (remM (ys s) d).bind fun c => .ok ((), c)) (gg_mapT (O3 := OE b Rv.d te) (t3 := tCons te tNil) (fun d => d) h (fun _ _ _ h => h) (fun _ _ h => ee_1 (fun σ (Q : List V → Hp → Prop) (x : V) (H1 : Hp) => Q [x] H1) h))
    (fun a s c h1 h2 => by
      obtain ⟨ys', h3, h4⟩ := R.bind_eq_ok h2
      cases h4
      unfold remM at h3
      split at h3
      · split at h3
        · rename_i l hl
          split at h3
          · rename_i hm
            cases h3
            have hys := of_intsOf hl
            obtain ⟨j, hj, hno, he⟩ := erase_at hm
            rw [← he]
            exact ⟨_, ev_remove h1 ⟨_, hi s0⟩ (by rw [hi s, hys]) hj hno⟩
          · cases h3
        · cases h3
      · cases h3) (fun e h => ee_bm (hi s0) h) (fun s a e h => by
      rcases R.bind_eq_ex h with h | ⟨c, h1, h2⟩
      · unfold remM at h
        split at h
        · split at h
          · split at h <;> cases h
          · cases h
        · cases h
      · cases h2) hk (hM.trans (congrArg (Ka s0) (by funext d s; exact bind_unit _ _)))
/-- x.insert(j, e) -/
theorem m_ins {i : Nat} {p : Addr} {ys : S → List D} {k : List D → S → R (Ct N L)} {r0 : V → List V → Hp → VK → Prop} (hi : ∀ s, (ρs s)[i]? = some (.mu p (ys s))) (h : GE z b Rv.d te ρs Ka) (h2 : GE z b Rv.d tb ρs Kb) (hk : ∀ d s, SvM z u ((ρs s).set i (.mu p d)) (k d s) eN eL)
    (hM : m = Ka s0 (fun j s => Kb s fun d s' => (insM (ys s') j d).bind fun c => k c s') := by rfl)
    (hr0 : r0 = fun x vs H Q => ∃ (l : Addr) (zs : List V) (i : Int) (y : V), x = .ref l ∧ vs = [.int i, y] ∧ H l = some (.lst zs) ∧ zs.length < sizeLine ∧ 0 ≤ i ∧ i < 2 ^ 63 ∧ Q .non (upd H l (.lst (zs.take i.toNat ++ [y] ++ zs.drop i.toNat))) := by rfl) : SvM z (tSeq (tDrop (tBM K "list" r0 (tVar i) (tCons te (tCons tb tNil)))) u) (ρs s0) m eN eL :=
  m_meth (f := fun s q => (insM (ys s) q.1 q.2).bind fun c => .ok ((), c)) (O := fun r (q : D × D) r' => ∃ r1, Ev b te r (.d q.1) r1 ∧ Ev b tb r1 (.d q.2) r') (tq := tCons te (tCons tb tNil))
    (gg_bindT (fun j d => (j, d)) h h2 (fun _ _ _ _ _ h1 h2 => ⟨_, h1, h2⟩) (fun _ _ h => ee_1 (fun σ (Q : List V → Hp → Prop) (x : V) (H1 : Hp) => tb σ H1 fun y H2 => Q [x, y] H2) h) (fun _ _ _ _ h1 h2 => ee_2 (fun σ (x : V) (Q : List V → Hp → Prop) (y : V) (H2 : Hp) => Q [x, y] H2) h1 h2))
    (fun a s c h1 h2 => by
      obtain ⟨ys', h3, h4⟩ := R.bind_eq_ok h2
      cases h4
      obtain ⟨j, d⟩ := a
      obtain ⟨r1, k1, k2⟩ := h1
      dsimp only at h3 k1 k2
      unfold insM at h3
      split at h3
      · split at h3
        · rename_i hl
          cases h3
          exact ⟨_, ev_insert hr0 k1 k2 ⟨_, hi s0⟩ (hi s) hl.2.2 ⟨hl.1, hl.2.1⟩⟩
        · cases h3
      · cases h3) (fun e h => ee_bm (hi s0) h) (fun s a e h => by
      rcases R.bind_eq_ex h with h | ⟨c, h1, h2⟩
      · unfold insM at h; split at h <;> first | cases h | (split at h <;> cases h)
      · cases h2) hk (hM.trans (congrArg (Ka s0) (by funext j s; exact congrArg (Kb s) (by funext d s'; exact bind_unit _ _))))
/-! ways -/
theorem m_if {m1 m2 : S → R (Ct N L)} (hc : GT z b tt ρs Kc) (h1 : ∀ s, SvM z t (ρs s) (m1 s) eN eL) (h2 : ∀ s, SvM z u (ρs s) (m2 s) eN eL) (hM : m = Kc s0 (fun c s => if c = true then m1 s else m2 s) := by rfl) : SvM z (tIfS tt t u) (ρs s0) m eN eL := fun G H σ e st nd D h => by
  obtain ⟨n, e1, e2, e3⟩ := hc s0
  have hM := hM.trans (e1 _ _)
  subst hM
  cases n with
  | ok q =>
    obtain ⟨c, s⟩ := q
    refine (e2 _ rfl) G H σ e st nd _ fun G1 H1 x1 s1 a1 => ?_
    have nd1 : (adr (ρs s)).Nodup := by rw [a1]; exact nd
    have st1 : Stp (ρs s0) G H (ρs s) G1 H1 σ := stp_ev x1 a1 (fun q hq => .inl hq) s1 nd1
    cases c with
    | true => exact h1 s G1 H1 σ x1.gh s1 nd1 D (DOk.step (m := m1 s) h st1)
    | false => exact h2 s G1 H1 σ x1.gh s1 nd1 D (DOk.step (m := m2 s) h st1)
  | ex x => exact (e3 x rfl) G H σ e st nd (fun cls d G' H' => h cls d G' H' σ) _
  | bad => exact h.elim
theorem Stp.wk' {G H G' H' : Hp} {σ' : L2.St} {ρ2 : En} (s : Stp ρ G H ρ1 G' H' σ') (w : Wk ρ1 ρ2) : Stp ρ G H ρ2 G' H' σ' := s.wk w
theorem m_seqJ {mj : R (Ct M2 L)} {k : M2 → R (Ct N L)} (h1 : SvM z t ρ mj eJ eL) (h2 : ∀ s p, SvM z u (eJ s p) (k s) eN eL) (hM : m = sq mj k := by rfl) : SvM z (tSeq t u) ρ m eN eL := fun G H σ e st nd D h => by
  subst hM
  refine h1 G H σ e st nd { D with nx := u D } ?_
  match mj, h with
  | .ok (.nx s), h =>
    intro p ρ' G' H' σ' s1 w
    have s2 := s1.wk w
    exact h2 s p G' H' σ' s2.x.gh s2.s s2.n D (DOk.step (m := k s) h s2)
  | .ok (.rt r o), h => exact h
  | .ok (.bk s), h => exact h
  | .ok (.ct s), h => exact h
  | .ex x, h => exact h
/-- the block of the test is left -/
theorem m_exit {mx : R (Ct Empty L)} (h : SvM z t ρ mx (fun s => Empty.elim s) eL) (hM : m = exit mx := by rfl) : SvM z t ρ m eN eL := fun G H σ e st nd D hD => by
  subst hM
  refine h G H σ e st nd D ?_
  match mx, hD with
  | .ok (.nx s), hD => exact s.elim
  | .ok (.rt r o), hD => exact hD
  | .ok (.bk s), hD => exact hD
  | .ok (.ct s), hD => exact hD
  | .ex x, hD => exact hD
/-- if t: .. (left); the rest -/
theorem m_ifX {m1 : S → R (Ct Empty L)} {m2 : S → R (Ct N L)} (hc : GT z b tt ρs Kc) (h1 : ∀ s, SvM z t (ρs s) (m1 s) (fun s => Empty.elim s) eL) (h2 : ∀ s, SvM z u (ρs s) (m2 s) eN eL) (hM : m = Kc s0 (fun c s => if c = true then exit (m1 s) else m2 s) := by rfl) :
    SvM z (tSeq (tIfS tt t tNext) u) (ρs s0) m eN eL := fun G H σ e st nd D h =>
  m_if (t := fun D => t { D with nx := u D }) (u := u) (m1 := fun s => exit (m1 s)) (m2 := m2) hc (fun s G H σ e st nd D h => by
    refine h1 s G H σ e st nd _ ?_
    match m1 s, h with
    | .ok (.nx s), hD => exact s.elim
    | .ok (.rt r o), hD => exact hD
    | .ok (.bk s), hD => exact hD
    | .ok (.ct s), hD => exact hD
    | .ex x, hD => exact hD) h2 hM G H σ e st nd D h
/-! the way out -/
theorem m_ret {o : S → List D} (h : GE z b Rv.d te ρs Ka) (how : ∀ s, OwR z.ow (o s) (ρs s)) (hM : m = Ka s0 (fun d s => .ok (.rt (.d d) (o s))) := by rfl) : SvM z (tRet te) (ρs s0) m eN eL := fun G H σ e st nd D hD => by
  obtain ⟨n, e1, e2, e3⟩ := h s0
  have hM := hM.trans (e1 _ _)
  subst hM
  cases n with
  | ok q => exact sv_ret (E := { rt := fun r ρ' => r = .d q.1 ∧ ρ' = ρs q.2 }) (e2 _ rfl) ⟨rfl, rfl⟩ G H σ e st nd D (fun _ _ _ _ _ w => w.elim) (fun r v ρ' G' H' σ' s w k => by
      obtain ⟨rfl, rfl⟩ := k
      exact hD v _ G' H' σ' s w (how _)) (fun _ _ _ _ _ w => w.elim) (fun _ _ _ _ _ w => w.elim)
  | ex x => exact (e3 x rfl) G H σ e st nd (fun cls d G' H' => hD cls d G' H' σ) _
  | bad => exact hD.elim
theorem m_retL {o : S → List D} (h : GE z b Rv.l te ρs Kl) (how : ∀ s, OwR z.ow (o s) (ρs s)) (hM : m = Kl s0 (fun d s => .ok (.rt (.l d) (o s))) := by rfl) : SvM z (tRet te) (ρs s0) m eN eL := fun G H σ e st nd D hD => by
  obtain ⟨n, e1, e2, e3⟩ := h s0
  have hM := hM.trans (e1 _ _)
  subst hM
  cases n with
  | ok q => exact sv_retL (E := { rt := fun r ρ' => r = .l q.1 ∧ ρ' = ρs q.2 }) (e2 _ rfl) ⟨rfl, rfl⟩ G H σ e st nd D (fun _ _ _ _ _ w => w.elim) (fun r v ρ' G' H' σ' s w k => by
      obtain ⟨rfl, rfl⟩ := k
      exact hD v _ G' H' σ' s w (how _)) (fun _ _ _ _ _ w => w.elim) (fun _ _ _ _ _ w => w.elim)
  | ex x => exact (e3 x rfl) G H σ e st nd (fun cls d G' H' => hD cls d G' H' σ) _
  | bad => exact hD.elim
theorem m_retO {i : Nat} {p : Addr} {xs o : List D} (hi : ρ[i]? = some (.mu p xs)) (how : OwR z.ow o ρ) (hM : m = .ok (.rt (.l xs) o) := by rfl) : SvM z (tRet (tVar i)) ρ m eN eL := fun G H σ e st nd D hD => by
  subst hM
  exact sv_retO (E := { rt := fun r ρ' => r = .l xs ∧ ρ' = ρ }) hi ⟨rfl, rfl⟩ G H σ e st nd D (fun _ _ _ _ _ w => w.elim) (fun r v ρ' G' H' σ' s w k => by
      obtain ⟨rfl, rfl⟩ := k
      exact hD v _ G' H' σ' s w how) (fun _ _ _ _ _ w => w.elim) (fun _ _ _ _ _ w => w.elim)
theorem m_retN {o : List D} (how : OwR z.ow o ρ) (hM : m = .ok (.rt (.d .none) o) := by rfl) : SvM z tRetN ρ m eN eL := fun G H σ e st nd D hD => by
  subst hM
  exact hD .non ρ G H σ (Stp.refl e st nd) .non how
end
end Kn

namespace Kn
open PySem PySem.Spec PyProof.Rows L2
/-! ### loops -/
section
variable {N L S I : Type} {z : Rz} {b : Bool} {ρs : S → En} {s0 : S} {ρ ρ1 : En} {t u : TS} {te : TE} {tt : TT} {wi : TI} {g : TG} {eN : N → Addr → En} {eL : L → Addr → En} {eI : I → Addr → En} {m : R (Ct N L)} {K : PySem.W.Frag}
  {Kl : {β : Type} → S → (List PySem.PyData → S → R β) → R β}
def BdM (z : Rz) (g : TG) (t : TS) (ρ : En) (x : D) (m : R (Ct N L)) (eN : N → Addr → En) (eL : L → Addr → En) : Prop := m = .bad ∨ ∃ bs, Gv g x bs ∧ SvM z t (sets ρ bs) m eN eL
theorem bd_1 {j : Nat} {x : D} (h : SvM z t (ρ.set j (.dat x)) m eN eL) : BdM z (gName j) t ρ x m eN eL := .inr ⟨[(j, x)], gv_name, h⟩
theorem bd_2 {i j : Nat} {x : D} {f : D → D → R (Ct N L)} (h : ∀ a c, SvM z t ((ρ.set i (.dat a)).set j (.dat c)) (f a c) eN eL) (hM : m = un2 x f := by rfl) : BdM z (gTup K 2 (gCons (gName i) (gCons (gName j) gNil))) t ρ x m eN eL := by
  subst hM
  unfold un2
  split
  · exact .inr ⟨[(i, _), (j, _)], gv_tup2, h _ _⟩
  · exact .inl rfl
theorem bd_12 {i j k : Nat} {x : D} {f : D → D → D → R (Ct N L)} (h : ∀ a c d, SvM z t (((ρ.set i (.dat a)).set j (.dat c)).set k (.dat d)) (f a c d) eN eL) (hM : m = un2 x (fun a q => un2 q fun c d => f a c d) := by rfl) :
    BdM z (gTup K 2 (gCons (gName i) (gCons (gTup K 2 (gCons (gName j) (gCons (gName k) gNil))) gNil))) t ρ x m eN eL := by
  subst hM
  unfold un2
  split
  · dsimp only
    split
    · exact .inr ⟨[(i, _), (j, _), (k, _)], gv_tup12, h _ _ _⟩
    · exact .inl rfl
  · exact .inl rfl
theorem forM_cons {x : D} {xs : List D} {c : I} {body : I → D → R (Ct I I)} : (forM (x :: xs) c body : R (Ct I L)) = (body c x).bind fun r => match r with
    | .nx s' => forM xs s' body
    | .ct s' => forM xs s' body
    | .bk s' => .ok (.nx s')
    | .rt r o => .ok (.rt r o) := rfl
theorem m_for {i0 : S → I} {body : I → D → R (Ct I I)} {m : R (Ct I L)} (hi : GI z b wi ρs Kl) (p0 : Addr := 0) (h0 : ∀ s, Wk (ρs s) (eI (i0 s) p0)) (hb : ∀ c p x, BdM z g t (eI c p) x (body c x) eI eI) (hM : m = Kl s0 (fun xs s => forM xs (i0 s) body) := by rfl) : SvM z (tFor wi g t) (ρs s0) m eI eL := fun G H σ e st nd D hD => by
  obtain ⟨n, e1, e2, e3⟩ := hi s0
  have hM := hM.trans (e1 _ _)
  subst hM
  cases n with
  | ok q =>
    obtain ⟨xs, s⟩ := q
    refine (e2 _ rfl) G H σ e st nd _ fun J G1 H1 x1 s1 a1 hJ => ?_
    have nd1 : (adr (ρs s)).Nodup := by rw [a1]; exact nd
    have st0 : Stp (ρs s0) G H (ρs s) G1 H1 σ := stp_ev x1 a1 (fun q hq => .inl hq) s1 nd1
    have hD : DOk z eI eL (ρs s0) G H D (forM xs (i0 s) body) := hD
    generalize ht : (forM xs (i0 s) body : R (Ct I L)) = total at hD
    refine ⟨fun i mm σ' H' => i + mm = xs.length ∧ ∃ c p G', Stp (ρs s0) G H (eI c p) G' H' σ' ∧ Ex G1 G' ∧ forM (xs.drop i) c body = total, ⟨xs.length, by simp, i0 s, p0, G1, st0.wk (h0 s), Ex.refl _, by rw [List.drop_zero]; exact ht⟩, fun i mm σ' H' hW => ?_⟩
    obtain ⟨hm, c, p, G', sp, eg, hc⟩ := hW
    obtain ⟨hstop, hgo⟩ := hJ G' H' eg sp.x.gh
    by_cases hlt : i < xs.length
    · obtain ⟨x, hx⟩ : ∃ x, xs[i]? = some x := ⟨xs[i], by simp [hlt]⟩
      have edrop : xs.drop i = x :: xs.drop (i + 1) := by
        rw [List.drop_eq_getElem_cons hlt]
        rw [List.getElem?_eq_getElem hlt] at hx
        rw [Option.some.inj hx]
      rw [edrop, forM_cons] at hc
      obtain ⟨hgo1, hy⟩ := hgo i x hx
      refine .inr ⟨hgo1, fun σ3 H3 => ∃ c p G3, Stp (ρs s0) G H (eI c p) G3 H3 σ3 ∧ Ex G1 G3 ∧ forM (xs.drop (i + 1)) c body = total, fun σ3 H3 h3 => ⟨mm - 1, by omega, by omega, h3⟩, fun v H2 hv => ?_⟩
      obtain ⟨G2, x2, hd2⟩ := hy v H2 hv
      rcases hb c p x with hbad | ⟨bs, hg, hs⟩
      · rw [hbad] at hc
        subst hc
        exact hD.elim
      refine hg G2 H2 σ' (eI c p) v x2.gh (sp.s.mono x2) hd2 _ fun σ2 s2 _ _ => ?_
      have st2 : Stp (ρs s0) G H (sets (eI c p) bs) G2 H2 σ2 := ⟨sp.x.trans (x2.up (M := adr (eI c p))) sp.a, fun q hq => sp.a q (adr_sets hq), s2, nd_sets sp.n⟩
      have eg2 : Ex G1 G2 := eg.trans x2.gg
      refine hs G2 H2 σ2 x2.gh s2 (nd_sets sp.n) _ ?_
      generalize body c x = r at hc
      match r, hc with
      | .ok (.nx s'), hc => exact fun p3 ρ3 G3 H3 σ3 s3 w => ⟨s', p3, G3, (st2.trans s3).wk w, eg2.trans s3.x.gg, hc⟩
      | .ok (.ct s'), hc => exact fun p3 ρ3 G3 H3 σ3 s3 w => ⟨s', p3, G3, (st2.trans s3).wk w, eg2.trans s3.x.gg, hc⟩
      | .ok (.bk s'), hc =>
        have hc : R.ok (.nx s') = total := hc
        subst hc
        exact fun p3 ρ3 G3 H3 σ3 s3 w => hD p3 _ G3 H3 σ3 (st2.trans s3) w
      | .ok (.rt r o), hc =>
        have hc : R.ok (.rt r o) = total := hc
        subst hc
        exact fun v ρ3 G3 H3 σ3 s3 w o => hD v ρ3 G3 H3 σ3 (st2.trans s3) (w.via st2) o
      | .ex y, hc =>
        have hc : R.ex y = total := hc
        subst hc
        exact fun cls d G3 H3 σ3 x3 s3 k3 => hD cls d G3 H3 σ3 (st2.ext x3) s3 k3
      | .bad, hc =>
        have hc : R.bad = total := hc
        subst hc
        exact hD.elim
    · have ei : i = xs.length := by omega
      rw [ei, List.drop_length] at hc
      have hc : R.ok (.nx c) = total := hc
      subst hc
      refine .inl ⟨by rw [ei]; exact hstop, hD p _ G' H' σ' sp (Wk.refl _)⟩
  | ex x => exact (e3 x rfl) G H σ e st nd (fun cls d G' H' => hD cls d G' H' σ) _
  | bad => exact hD.elim
theorem m_while {i0 : I} {fuel : Nat} {body : I → R (Ct I I)} {m : R (Ct I L)} {Kc : I → {β : Type} → Unit → (Bool → Unit → R β) → R β} (p0 : Addr := 0) (h0 : Wk ρ (eI i0 p0)) (hc : ∀ c p, GT z false tt (fun _ : Unit => eI c p) (Kc c)) (hb : ∀ c p, SvM z t (eI c p) (body c) eI eI)
    (hM : m = whileM fuel i0 (fun c => @Kc c _ () fun b _ => R.ok b) body := by rfl) : SvM z (tWhile tt t) ρ m eI eL := fun G H σ e st nd D hD => by
  subst hM
  generalize ht : (whileM fuel i0 (fun c => @Kc c _ () fun b _ => R.ok b) body : R (Ct I L)) = total at hD
  refine ⟨fun mm σ' H' => ∃ c p G', Stp ρ G H (eI c p) G' H' σ' ∧ whileM mm c (fun c => @Kc c _ () fun b _ => R.ok b) body = total, ⟨fuel, i0, p0, G, (Stp.refl e st nd).wk h0, ht⟩, fun mm σ' H' hW => ?_⟩
  obtain ⟨c, p, G', sp, hw⟩ := hW
  cases mm with
  | zero =>
    have hw : R.bad = total := hw
    subst hw
    exact hD.elim
  | succ mm =>
    obtain ⟨n, e1, e2, e3⟩ := hc c p ()
    have hw : (@Kc c _ () fun b _ => R.ok b).bind (fun b => if b = true then (body c).bind fun r => match r with
      | .nx s' => whileM mm s' (fun c => @Kc c _ () fun b _ => R.ok b) body
      | .ct s' => whileM mm s' (fun c => @Kc c _ () fun b _ => R.ok b) body
      | .bk s' => .ok (.nx s')
      | .rt r o => .ok (.rt r o) else .ok (.nx c)) = total := hw
    have e1 : (@Kc c _ () fun b _ => R.ok b) = n.bind fun q => R.ok q.1 := e1 _ _
    rw [e1, R.bind_assoc] at hw
    cases n with
    | ok q =>
      obtain ⟨v, u⟩ := q
      refine (e2 _ rfl) G' H' σ' sp.x.gh sp.s sp.n _ fun G3 H3 x3 s3 a3 => ?_
      have st3 : Stp ρ G H (eI c p) G3 H3 σ' := sp.trans (stp_ev x3 rfl (fun q hq => .inl hq) s3 sp.n)
      cases v with
      | false =>
        have hw : R.ok (.nx c) = total := hw
        subst hw
        exact hD p _ G3 H3 σ' st3 (Wk.refl _)
      | true =>
        have hw : ((body c).bind fun r => match r with
          | .nx s' => whileM mm s' (fun c => @Kc c _ () fun b _ => R.ok b) body
          | .ct s' => whileM mm s' (fun c => @Kc c _ () fun b _ => R.ok b) body
          | .bk s' => .ok (.nx s')
          | .rt r o => .ok (.rt r o)) = total := hw
        refine ⟨fun σ4 H4 => ∃ c p G', Stp ρ G H (eI c p) G' H4 σ4 ∧ whileM mm c (fun c => @Kc c _ () fun b _ => R.ok b) body = total, fun σ4 H4 h => ⟨mm, Nat.lt_succ_self _, h⟩, ?_⟩
        refine hb c p G3 H3 σ' x3.gh s3 sp.n _ ?_
        generalize body c = r at hw
        match r, hw with
        | .ok (.nx s'), hw => exact fun p3 ρ3 G4 H4 σ4 s4 w => ⟨s', p3, G4, (st3.trans s4).wk w, hw⟩
        | .ok (.ct s'), hw => exact fun p3 ρ3 G4 H4 σ4 s4 w => ⟨s', p3, G4, (st3.trans s4).wk w, hw⟩
        | .ok (.bk s'), hw =>
          have hw : R.ok (.nx s') = total := hw
          subst hw
          exact fun p3 ρ3 G4 H4 σ4 s4 w => hD p3 _ G4 H4 σ4 (st3.trans s4) w
        | .ok (.rt r o), hw =>
          have hw : R.ok (.rt r o) = total := hw
          subst hw
          exact fun v ρ3 G4 H4 σ4 s4 w o => hD v ρ3 G4 H4 σ4 (st3.trans s4) (w.via st3) o
        | .ex y, hw =>
          have hw : R.ex y = total := hw
          subst hw
          exact fun cls d G4 H4 σ4 x4 s4 k4 => hD cls d G4 H4 σ4 (st3.ext x4) s4 k4
        | .bad, hw =>
          have hw : R.bad = total := hw
          subst hw
          exact hD.elim
    | ex y =>
      have hw : R.ex y = total := hw
      subst hw
      exact (e3 y rfl) G' H' σ' sp.x.gh sp.s sp.n (fun cls d G4 H4 x4 s4 k4 => hD cls d G4 H4 σ' (sp.ext x4) s4 k4) _
    | bad =>
      have hw : R.bad = total := hw
      subst hw
      exact hD.elim
end
/-! ### calls by name -/
structure CalM (P : Program) (w : World) (K : PySem.W.Frag) (mg : Str → Option Value) (base : Heap) (dvs : List V) (x : Str) (k : Nat) (ps : List Str) (sp : Sp) (f : Addr) (fd : FuncData) : Prop where
  m : mg x = some (.ref f)
  kp : PySem.W.keepIn K (.ref f) = true
  g : FnOkG P w K mg base (L2.CX P w) k f fd ps sp
  b : ∃ ds, Vals dvs ds ∧ Binds K fd ps ds
section
variable {X : Cx} {dvs : List V} {k j : Nat} {x : Str} {ps : List Str} {sp : Sp} {p pos : Pos} {e : Expr} {es : List Expr} {t tk : TA} {f : Addr} {fd : FuncData} {W : WX}
theorem pe_calM (C : CalM X.prog X.w X.K X.mg X.base dvs x k ps sp f fd) (hr : RoomG j X.A) (hk : k ≤ j) (tx : Takes X W) (hg : Gl X x) (ha : PA X (e :: es) t) (hdb : (x == ("__debug__" : Str)) = false := by decide)
    (he : starEach (e :: es) X.env = (false, eval e X.env) :: starEach es X.env := by rfl) (hpl : (backTo pos (starEach es X.env)).any (·.1) = false := by rfl) : PE X (.Call (.Name x p) (e :: es) [] pos) (tCallSD sp dvs (WE W) t) := by
  obtain ⟨ds, h1, h2⟩ := C.b
  exact pe_callSG C.g (hr.mono hk) hg C.m C.kp h2 h1 (passAt tx) ha hdb he hpl
theorem pe_calM0 (C : CalM X.prog X.w X.K X.mg X.base dvs x k ps sp f fd) (hr : RoomG j X.A) (hk : k ≤ j) (tx : Takes X W) (hg : Gl X x) (hdb : (x == ("__debug__" : Str)) = false := by decide) : PE X (.Call (.Name x p) [] [] pos) (tCallSD sp dvs (WE W) tNil) := by
  obtain ⟨ds, h1, h2⟩ := C.b
  refine ⟨fun pins s σ H Q I h => ?_⟩
  refine wpAny_Call_Name_kw (ld_glob I hg C.m ?_ hdb)
  exact PySem.W.callWith_K0 I.kIn C.kp (run_fnSG (us := []) (vs := []) C.g (hr.mono hk) h2 h1 (passAt tx σ) I .nil h)
variable {n m : Nat} {π : List Nat} {ks : List Str} {kws : List Keyword}
theorem run_fnkS {pins : List (Addr × Obj)} {σ : L2.St} {H : Hp} {s : Shared} {Q : VK} {us ws : List Value} {vs zs : List V} {CX : CXT} {E : L2.St → XK} {g : List Value → List Value → List Value} {gV : List V → List V → List V} (F : FnOkG X.prog X.w X.K X.mg X.base CX k f fd ps sp) (hr : RoomG k X.A) (hb : KBinds X.K fd ps ks g gV) (hx : PassesAt CX X σ (E σ))
    (I : Inv X pins σ H s) (r : Vals vs us) (rz : Vals zs ws) (h : sp (gV vs zs) H Q (E σ)) : wpAny (model X.prog X.w) X.A (call (.ref f) us (ks.zip ws)) (EP X pins σ Q) X.xe s := by
  have r2 := hb.rel r rz
  have hl : (g us ws).length = ps.length := by rw [← r2.length]; exact F.len _ _ _ _ h
  refine wpAny_call (codeAny_mono (goG F hr hx I (hb.to s us ws I.kIn hl) r2 h) ?_)
  rintro (e | (_ | _ | _ | u)) s2 z <;> exact z
theorem pe_calMK (C : CalM X.prog X.w X.K X.mg X.base dvs x k ps sp f fd) (hr : RoomG j X.A) (hk : k ≤ j) (tx : Takes X W) (hb : KBinds X.K fd ps ks (pk n m π) (pk n m π)) (hg : Gl X x) (ha : PA X (e :: es) t) (hkw : PK X kws tk)
    (hall : (backToKw pos (keywordEach kws X.env)).all (·.1.isSome) = true := by rfl) (hks : (backToKw pos (keywordEach kws X.env)).filterMap (·.1) = ks := by rfl)
    (hdb : (x == ("__debug__" : Str)) = false := by decide) (he : starEach (e :: es) X.env = (false, eval e X.env) :: starEach es X.env := by rfl)
    (hpl : ((backTo pos (starEach (e :: es) X.env)).any (·.1) || (backToKw pos (keywordEach kws X.env)).any (·.1.isNone)) = false := by rfl) : PE X (.Call (.Name x p) (e :: es) kws pos) (tCallKS sp (pk n m π) (WE W) t tk) := by
  refine ⟨fun pins s σ H Q I h => ?_⟩
  refine wpAny_Call_Name_kw (ld_glob I hg C.m ?_ hdb)
  refine PySem.W.callWith_KW (h₀ := X.base) I.ok.mod.kin C.kp hall (thn (ha.run pos pins s σ H _ I h) fun us s1 ⟨vs, H1, I1, r, q⟩ => ?_) hpl he
  refine thn (hkw.run pos pins s1 σ H1 _ I1 q) fun ws s2 ⟨zs, H2, I2, rz, q2⟩ => ⟨I2.kIn, ?_⟩
  rw [hks]
  exact run_fnkS C.g (hr.mono hk) hb (passAt tx σ) I2 r rz q2
theorem pe_calMK0 (C : CalM X.prog X.w X.K X.mg X.base dvs x k ps sp f fd) (hr : RoomG j X.A) (hk : k ≤ j) (tx : Takes X W) (hb : KBinds X.K fd ps ks (pk n m π) (pk n m π)) (hg : Gl X x) (hkw : PK X kws tk)
    (hall : (backToKw pos (keywordEach kws X.env)).all (·.1.isSome) = true := by rfl) (hks : (backToKw pos (keywordEach kws X.env)).filterMap (·.1) = ks := by rfl)
    (hdb : (x == ("__debug__" : Str)) = false := by decide) (hpl : ((backTo pos (starEach [] X.env)).any (·.1) || (backToKw pos (keywordEach kws X.env)).any (·.1.isNone)) = false := by rfl) :
    PE X (.Call (.Name x p) [] kws pos) (tCallKS sp (pk n m π) (WE W) tNil tk) := by
  refine ⟨fun pins s σ H Q I h => ?_⟩
  refine wpAny_Call_Name_kw (ld_glob I hg C.m ?_ hdb)
  refine PySem.W.callWith_KW0 (h₀ := X.base) I.ok.mod.kin C.kp hall (thn (hkw.run pos pins s σ H _ I h) fun ws s2 ⟨zs, H2, I2, rz, q2⟩ => ⟨I2.kIn, ?_⟩) hpl
  rw [hks]
  exact run_fnkS (us := []) (vs := []) C.g (hr.mono hk) hb (passAt tx σ) I2 .nil rz q2
end
/-! ### arguments by number -/
section
variable {α : Type}
def A0 (f : R α) : List D → R α
  | [] => f
  | _ => .bad
def A1 (f : D → R α) : List D → R α
  | [a] => f a
  | _ => .bad
def A2 (f : D → D → R α) : List D → R α
  | [a, b] => f a b
  | _ => .bad
def A3 (f : D → D → D → R α) : List D → R α
  | [a, b, c] => f a b c
  | _ => .bad
def A4 (f : D → D → D → D → R α) : List D → R α
  | [a, b, c, d] => f a b c d
  | _ => .bad
def A5 (f : D → D → D → D → D → R α) : List D → R α
  | [a, b, c, d, e] => f a b c d e
  | _ => .bad
theorem A0_ne {f : R α} {ds : List D} (h : A0 f ds ≠ .bad) : ds = [] := by
  unfold A0 at h
  split at h
  · rfl
  · exact absurd rfl h
theorem A1_ne {f : D → R α} {ds : List D} (h : A1 f ds ≠ .bad) : ∃ a, ds = [a] := by
  unfold A1 at h
  split at h
  · exact ⟨_, rfl⟩
  · exact absurd rfl h
theorem A2_ne {f : D → D → R α} {ds : List D} (h : A2 f ds ≠ .bad) : ∃ a b, ds = [a, b] := by
  unfold A2 at h
  split at h
  · exact ⟨_, _, rfl⟩
  · exact absurd rfl h
theorem A3_ne {f : D → D → D → R α} {ds : List D} (h : A3 f ds ≠ .bad) : ∃ a b c, ds = [a, b, c] := by
  unfold A3 at h
  split at h
  · exact ⟨_, _, _, rfl⟩
  · exact absurd rfl h
theorem A4_ne {f : D → D → D → D → R α} {ds : List D} (h : A4 f ds ≠ .bad) : ∃ a b c d, ds = [a, b, c, d] := by
  unfold A4 at h
  split at h
  · exact ⟨_, _, _, _, rfl⟩
  · exact absurd rfl h
theorem A5_ne {f : D → D → D → D → D → R α} {ds : List D} (h : A5 f ds ≠ .bad) : ∃ a b c d e, ds = [a, b, c, d, e] := by
  unfold A5 at h
  split at h
  · exact ⟨_, _, _, _, _, rfl⟩
  · exact absurd rfl h
end
/-! ### a def's body -/
section
variable {N : List Str} {t : TS} {CA : Str → Addr} {vs : List V} {H : Hp} {Q : VK} {E : XK}
abbrev zD (CA : Str → Addr) (E : XK) (n : Nat) : Rz := ⟨CA, fun cls d _ H => E cls d H, List.replicate n .un, none⟩
abbrev zO (CA : Str → Addr) (n : Nat) (p : Addr) : Rz := ⟨CA, fun _ _ _ _ => False, List.replicate n .un, some (0, fun o => .mu p o)⟩
abbrev zB (CA : Str → Addr) (n : Nat) : Rz := ⟨CA, fun _ _ _ _ => False, List.replicate n .un, none⟩
theorem st_slots0 {G : Hp} {ds : List D} (hd : DqA G vs ds) : StOk G H (L2.start N vs) (slots0 N.length ds) := by
  unfold L2.start slots0
  rw [hd.len]
  exact st_app (st_uns _) (st_dats hd)
theorem adr_slots0 {n : Nat} {ds : List D} : adr (slots0 n ds) = [] := by unfold slots0; rw [adr_app, adr_dats, adr_uns]; rfl
theorem bodyM {F : List D → R D} (h : spM CA Rv.d F vs H Q E) (k : ∀ ds, F ds ≠ .bad → ∃ M, F ds = outD M ∧ SvM (zD CA E N.length) t (slots0 N.length ds) M (fun _ _ => List.replicate N.length .un) (fun s => Empty.elim s)) : t { nx := fun _ H' => Q .non H', rt := Q } (L2.start N vs) H := by
  obtain ⟨G, ds, e, hd, hr⟩ := h
  have hb : F ds ≠ .bad := by
    rcases hr with ⟨a, h1, _⟩ | ⟨x, h1, _⟩ <;> rw [h1] <;> intro z <;> cases z
  obtain ⟨r, hF, k⟩ := k ds hb
  refine k G H _ e (st_slots0 hd) (by rw [adr_slots0]; exact List.nodup_nil) _ ?_
  match r, hF with
  | .ok (.nx s), hF =>
    rcases hr with ⟨a, h1, q⟩ | ⟨x, h1, _⟩
    · rw [h1] at hF; cases hF
      exact fun _ ρ' G' H' σ' s w => q _ G' H' (by have x := s.x; rwa [adr_slots0] at x) .non
    · rw [h1] at hF; cases hF
  | .ok (.rt r o), hF =>
    rcases hr with ⟨a, h1, q⟩ | ⟨x, h1, _⟩
    · rw [h1] at hF
      cases r with
      | d d =>
        cases hF
        exact fun v ρ' G' H' σ' s w o => q v G' H' (by have x := s.x; rwa [adr_slots0] at x) w
      | l xs => cases hF
      | va v => cases hF
      | o v => cases hF
      | e es => cases hF
    · rw [h1] at hF
      cases r <;> cases hF
  | .ex y, hF =>
    rcases hr with ⟨a, h1, q⟩ | ⟨x, h1, q⟩
    · rw [h1] at hF; cases hF
    · rw [h1] at hF; cases hF
      exact fun cls d G' H' σ' x' s' k' => q cls d G' H' (by rwa [adr_slots0] at x') k'
  | .bad, hF =>
    rcases hr with ⟨a, h1, _⟩ | ⟨x, h1, _⟩ <;> rw [h1] at hF <;> cases hF
theorem bodyL {F : List D → R (List D)} (h : spM CA Rv.l F vs H Q E) (k : ∀ ds, F ds ≠ .bad → ∃ M, F ds = outL M ∧ SvM (zD CA E N.length) t (slots0 N.length ds) M (fun _ _ => List.replicate N.length .un) (fun s => Empty.elim s)) : t { nx := fun _ H' => Q .non H', rt := Q } (L2.start N vs) H := by
  obtain ⟨G, ds, e, hd, hr⟩ := h
  have hb : F ds ≠ .bad := by
    rcases hr with ⟨a, h1, _⟩ | ⟨x, h1, _⟩ <;> rw [h1] <;> intro z <;> cases z
  obtain ⟨r, hF, k⟩ := k ds hb
  refine k G H _ e (st_slots0 hd) (by rw [adr_slots0]; exact List.nodup_nil) _ ?_
  match r, hF with
  | .ok (.nx s), hF => rcases hr with ⟨a, h1, q⟩ | ⟨x, h1, _⟩ <;> rw [h1] at hF <;> cases hF
  | .ok (.rt r o), hF =>
    rcases hr with ⟨a, h1, q⟩ | ⟨x, h1, _⟩
    · rw [h1] at hF
      cases r with
      | d d => cases hF
      | l xs =>
        cases hF
        exact fun v ρ' G' H' σ' s w o => q v G' H' (by have x := s.x; rwa [adr_slots0] at x) (by
          obtain ⟨p, vs, e1, e2, e3⟩ := w
          exact ⟨p, vs, e1, e2.resolve_left (by rw [adr_slots0]; simp), e3⟩)
      | va v => cases hF
      | o v => cases hF
      | e es => cases hF
    · rw [h1] at hF
      cases r <;> cases hF
  | .ex y, hF =>
    rcases hr with ⟨a, h1, q⟩ | ⟨x, h1, q⟩
    · rw [h1] at hF; cases hF
    · rw [h1] at hF; cases hF
      exact fun cls d G' H' σ' x' s' k' => q cls d G' H' (by rwa [adr_slots0] at x') k'
  | .bad, hF =>
    rcases hr with ⟨a, h1, _⟩ | ⟨x, h1, _⟩ <;> rw [h1] at hF <;> cases hF
theorem lenM {α : Type} {rv : α → Rv} {F : List D → R α} {n : Nat} (h : ∀ ds, F ds ≠ .bad → ds.length = n) : ∀ vs H Q E, spM CA rv F vs H Q E → vs.length = n := fun vs H Q E q => by
  obtain ⟨G, ds, e, hd, hr⟩ := q
  rw [hd.len]
  exact h ds (by rcases hr with ⟨a, h1, _⟩ | ⟨x, h1, _⟩ <;> rw [h1] <;> intro z <;> cases z)
/-- a def that changes its first argument -/
theorem bodyMO {α : Type} {rv : α → Rv} {F : List D → List D → R (α × List D)} {out : R (Ct (List D) Empty) → R (α × List D)} (hout : ∀ M a ys, out M = .ok (a, ys) → (M = .ok (.nx ys) ∧ rv a = .d .none) ∨ ∃ d, M = .ok (.rt (.d d) ys) ∧ rv a = .d d) (h : spO (RO rv F) vs H Q E)
    (k : ∀ p xs ds, F xs ds ≠ .bad → ∃ M, F xs ds = out M ∧ SvM (zO CA N.length p) t (slotsO N.length p xs ds) M (fun ys _ => (List.replicate N.length .un).set 0 (.mu p ys)) (fun s => Empty.elim s)) (hN : 0 < N.length) : t { nx := fun _ H' => Q .non H', rt := Q } (L2.start N vs) H := by
  obtain ⟨G, p, us, ws, xs, ds, r, ys, e, rfl, hp, hg, hus, hd, ⟨a, hF, rfl⟩, q⟩ := h
  have hst : StOk G H (L2.start N (.ref p :: ws)) (slotsO N.length p xs ds) := by
    unfold L2.start slotsO
    refine .cons (.inr ⟨_, rfl, rfl, hg, us, hp, hus⟩) ?_
    have e1 : N.length - (V.ref p :: ws).length = N.length - 1 - ds.length := by rw [List.length_cons, hd.len]; omega
    rw [e1]
    exact st_app (st_uns _) (st_dats hd)
  have ha : adr (slotsO N.length p xs ds) = [p] := by unfold slotsO; rw [adr_cons, adr_app, adr_dats, adr_uns]; rfl
  obtain ⟨M, hM, k⟩ := k p xs ds (by rw [hF]; intro z; cases z)
  rw [hF] at hM
  refine k G H _ e hst (by rw [ha]; simp) _ ?_
  rcases hout M a ys hM.symm with ⟨rfl, hr⟩ | ⟨d, rfl, hr⟩
  · intro _ ρ' G' H' σ' s w
    have s := s.wk w
    have hi : ((List.replicate N.length Sl.un).set 0 (.mu p ys))[0]? = some (.mu p ys) := List.getElem?_set_self (by rw [List.length_replicate]; exact hN)
    obtain ⟨_, n2, us', n3, n4⟩ := s.s.muget hi
    refine q _ G' H' us' (by have x := s.x; rwa [ha] at x) n3 n2 n4 ?_
    rw [hr]; exact .non
  · intro v ρ' G' H' σ' s w o
    obtain ⟨_, n2, us', n3, n4⟩ := s.s.muget (show ρ'[0]? = some (.mu p ys) from o)
    refine q v G' H' us' (by have x := s.x; rwa [ha] at x) n3 n2 n4 ?_
    rw [hr]; exact w
theorem outDO_is (M : R (Ct (List D) Empty)) (a : D) (ys : List D) (h : outDO M = .ok (a, ys)) : (M = .ok (.nx ys) ∧ Rv.d a = .d .none) ∨ ∃ d, M = .ok (.rt (.d d) ys) ∧ Rv.d a = .d d := by
  match M, h with
  | .ok (.nx s), h => cases h; exact .inl ⟨rfl, rfl⟩
  | .ok (.rt (.d d) o), h => cases h; exact .inr ⟨_, rfl, rfl⟩
  | .ok (.rt (.l d) o), h => cases h
  | .ok (.rt (.va d) o), h => cases h
  | .ok (.rt (.o d) o), h => cases h
  | .ok (.rt (.e d) o), h => cases h
  | .ex e, h => cases h
  | .bad, h => cases h
theorem lenMO {α : Type} {rv : α → Rv} {F : List D → List D → R (α × List D)} {n : Nat} (h : ∀ xs ds, F xs ds ≠ .bad → ds.length + 1 = n) : ∀ vs H Q E, spO (RO rv F) vs H Q E → vs.length = n := lenO fun xs ds r ys ⟨a, e, _⟩ => h xs ds (by rw [e]; intro z; cases z)
/-- a def over the script -/
theorem bodyMS {K : PySem.W.Frag} {F : List Int → List D → R D} (h : spK K (RK Rv.d F) vs H Q E) (k : ∀ ns ds, F ns ds ≠ .bad → ∃ M, F ns ds = outD M ∧ SvM (zB CA N.length) t (slotsK K N.length ns ds) M (fun _ _ => List.replicate N.length .un) (fun s => Empty.elim s)) : t { nx := fun _ H' => Q .non H', rt := Q } (L2.start N vs) H :=
  bodyK h fun ns ds r ⟨a, hF, hr⟩ => by
    subst hr
    obtain ⟨M, hM, k⟩ := k ns ds (by rw [hF]; intro z; cases z)
    rw [hF] at hM
    intro G H σ e st nd D d1 d2 d3 d4
    refine k G H σ e st nd D ?_
    match M, hM with
    | .ok (.nx s), hM => cases hM; exact fun _ ρ' G' H' σ' s w => d1 ρ' G' H' σ' s rfl
    | .ok (.rt (.d d) o), hM => cases hM; exact fun v ρ' G' H' σ' s w o => d2 (.d a) v ρ' G' H' σ' s w rfl
    | .ok (.rt (.l d) o), hM => cases hM
    | .ok (.rt (.va d) o), hM => cases hM
    | .ok (.rt (.o d) o), hM => cases hM
    | .ok (.rt (.e d) o), hM => cases hM
    | .ex e, hM => cases hM
    | .bad, hM => cases hM
theorem lenMS {α : Type} {K : PySem.W.Frag} {rv : α → Rv} {F : List Int → List D → R α} {n : Nat} (h : ∀ ns ds, F ns ds ≠ .bad → ds.length + 1 = n) : ∀ vs H Q E, spK K (RK rv F) vs H Q E → vs.length = n := lenK fun ns ds r ⟨a, e, _⟩ => h ns ds (by rw [e]; intro z; cases z)
end
theorem m_bad {N L : Type} {z : Rz} {ρ : En} {t : TS} {eN : N → Addr → En} {eL : L → Addr → En} {m : R (Ct N L)} (hM : m = .bad := by rfl) : SvM z t ρ m eN eL := fun G H σ e st nd D hD => by subst hM; exact hD.elim
theorem spBad {α : Type} {CA : Str → Addr} {rv : α → Rv} {F : List D → R α} {vs : List V} {H : Hp} {Q : VK} {E : XK} (hF : ∀ ds, F ds = .bad) (h : spM CA rv F vs H Q E) : False := by
  obtain ⟨G, ds, e, hd, ⟨a, h1, _⟩ | ⟨x, h1, _⟩⟩ := h <;> rw [hF] at h1 <;> cases h1
theorem spBadO {α : Type} {rv : α → Rv} {F : List D → List D → R (α × List D)} {vs : List V} {H : Hp} {Q : VK} {E : XK} (hF : ∀ xs ds, F xs ds = .bad) (h : spO (RO rv F) vs H Q E) : False := by
  obtain ⟨G, p, us, ws, xs, ds, r, ys, e, rfl, hp, hg, hus, hd, ⟨a, h1, rfl⟩, q⟩ := h
  rw [hF] at h1; cases h1
theorem law_to {K : PySem.W.Frag} {f : List Int → R D} (hl : ∀ ns : List Int, ns.length ≤ 63 → f ns = .ok (.bool true)) {vs : List V} {H : Hp} {Q : VK} {E : XK} (h : spK K R_law vs H Q E) : spK K (RK Rv.d fun ns ds => A0 (f ns) ds) vs H Q E := by
  obtain ⟨G, a, ws, ns, ds, r, e, h1, h2, h3, ⟨rfl, h4, rfl⟩, q⟩ := h
  exact ⟨G, a, ws, ns, [], _, e, h1, h2, h3, ⟨_, hl ns h4, rfl⟩, q⟩
/-! ### an own list becomes data -/
theorem fz_core {ρ : En} {i : Nat} {p : Addr} {xs : List D} {G H : Hp} {σ : L2.St} (hi : ρ[i]? = some (.mu p xs)) (e : Ex G H) (st : StOk G H σ ρ) (nd : (adr ρ).Nodup) :
    ∃ G2, Ex G2 H ∧ StOk G2 H σ (ρ.set i (.dat (.list xs))) ∧ (adr (ρ.set i (.dat (.list xs)))).Nodup ∧ (∀ {ρ' G' H' σ'}, Stp (ρ.set i (.dat (.list xs))) G2 H ρ' G' H' σ' → Stp ρ G H ρ' G' H' σ') ∧
      (∀ {G' H'}, Ext (adr (ρ.set i (.dat (.list xs)))) G2 H G' H' → Ext (adr ρ) G H G' H') ∧ ∀ q ∈ adr (ρ.set i (.dat (.list xs))), q ∈ adr ρ := by
  have key : Sv (fun D σ H => D.nx σ H) (ρ.set i (.dat (.list xs))) { nx := fun _ => True } := fun G H σ e st nd D d1 _ _ _ => d1 _ G H σ (Stp.refl e st nd) trivial
  obtain ⟨m1, m2, vs, m3, m4⟩ := st.muget hi
  have hsub : ∀ q ∈ adr (ρ.set i (.dat (.list xs))), q ∈ adr ρ := fun q hq => by
    rcases adr_set hq with hq | hq
    · simp [adr1] at hq
    · exact hq
  have hnp : p ∉ adr (ρ.set i (.dat (.list xs))) := fun hq => by
    have key : ∀ {ρ : En} {i : Nat}, (adr ρ).Nodup → ρ[i]? = some (.mu p xs) → p ∉ adr (ρ.set i (.dat (.list xs))) := by
      intro ρ
      induction ρ with
      | nil => intro i _ h; simp at h
      | cons s r ih =>
        intro i n h1 h2
        rw [adr_cons] at n
        obtain ⟨n1, n2, n3⟩ := List.nodup_append.mp n
        cases i with
        | zero =>
          simp at h1; subst h1
          rw [List.set_cons_zero, adr_cons] at h2
          exact n3 p (by simp [adr1]) p (by simpa [adr1] using h2) rfl
        | succ i =>
          have h1' : r[i]? = some (.mu p xs) := by simpa using h1
          rw [List.set_cons_succ, adr_cons] at h2
          rcases List.mem_append.mp h2 with h2 | h2
          · exact n3 p h2 p (mem_adr h1') rfl
          · exact ih n2 h1' h2
    exact key nd hi hq
  have st2 : StOk (upd G p (.lst vs)) H σ (ρ.set i (.dat (.list xs))) := by
    have q1 := (st.un' i).fz (o := .lst vs) m2 (by
      intro hq
      have h2 : adr (ρ.set i .un) = adr (ρ.set i (.dat (.list xs))) := by
        have : ∀ (ρ : En) (i : Nat), adr (ρ.set i .un) = adr (ρ.set i (.dat (.list xs))) := by
          intro ρ
          induction ρ with
          | nil => intro i; rfl
          | cons s r ih =>
            intro i
            cases i with
            | zero => rw [List.set_cons_zero, List.set_cons_zero, adr_cons, adr_cons]; rfl
            | succ i => rw [List.set_cons_succ, List.set_cons_succ, adr_cons, adr_cons, ih]
        exact this ρ i
      rw [h2] at hq; exact hnp hq)
    rw [StOk.iff] at q1 ⊢
    obtain ⟨l, k⟩ := q1
    refine ⟨by rw [List.length_set] at l ⊢; exact l, fun j o s h1 h2 => ?_⟩
    by_cases hj : i = j
    · subst hj
      have hlt : i < ρ.length := (List.getElem?_eq_some_iff.mp hi).1
      rw [List.getElem?_set_self hlt] at h2
      rw [m1] at h1
      have h1 := Option.some.inj h1
      have h2 := Option.some.inj h2
      subst h1; subst h2
      exact .inr ⟨_, rfl, .lst upd_same (dqs_mono (Ex.new m2) m4)⟩
    · exact k j o s h1 (by rw [List.getElem?_set_ne hj] at h2 ⊢; exact h2)
  have xt : ∀ {G' H'}, Ext (adr (ρ.set i (.dat (.list xs)))) (upd G p (.lst vs)) H G' H' → Ext (adr ρ) G H G' H' := fun s =>
    ⟨(Ex.new m2).trans s.gg, s.gh, fun c o hc h => s.fr c o (fun z => hc (hsub c z)) h, s.th, fun c hc h1 h2 => by
      have hcp : c ≠ p := fun z => hc (by rw [z]; exact mem_adr hi)
      exact s.nw c (fun z => hc (hsub c z)) (by rw [upd_ne hcp]; exact h1) h2⟩
  exact ⟨_, fun c o hc => by
    by_cases hb : c = p
    · subst hb; rw [upd_same] at hc; rw [← hc]; exact m3
    · rw [upd_ne hb] at hc; exact e c o hc, st2, nd_set0 rfl nd, fun s => ⟨xt s.x, fun q hq => (s.a q hq).imp (hsub q) id, s.s, s.n⟩, xt, hsub⟩
theorem m_fz {N L : Type} {z : Rz} {ρ : En} {t : TS} {eN : N → Addr → En} {eL : L → Addr → En} {m : R (Ct N L)} (i : Nat) {p : Addr} {xs : List D} (hi : ρ[i]? = some (.mu p xs)) (h : SvM z t (ρ.set i (.dat (.list xs))) m eN eL) : SvM z t ρ m eN eL := fun G H σ e st nd D hD => by
  obtain ⟨G2, e2, st2, nd2, k1, k2, k3⟩ := fz_core hi e st nd
  refine h G2 H σ e2 st2 nd2 D ?_
  match m, hD with
  | .ok (.nx s), hD => exact fun p ρ' G' H' σ' s w => hD p ρ' G' H' σ' (k1 s) w
  | .ok (.rt r o), hD => exact fun v ρ' G' H' σ' s w o => hD v ρ' G' H' σ' (k1 s) (w.sub k3) o
  | .ok (.bk s), hD => exact fun p ρ' G' H' σ' s w => hD p ρ' G' H' σ' (k1 s) w
  | .ok (.ct s), hD => exact fun p ρ' G' H' σ' s w => hD p ρ' G' H' σ' (k1 s) w
  | .ex x, hD => exact fun cls d G' H' σ' x s k => hD cls d G' H' σ' (k2 x) s k
end Kn

namespace Kn
open PySem PySem.Spec PyProof.Rows L2
/-! ### xs[::k] -/
def stepIx (k : Int) (n : Nat) : List Nat := sliceRange (sliceBounds none none (some k) n).1 (sliceBounds none none (some k) n).2.1 (sliceBounds none none (some k) n).2.2
def cutK {α : Type} (k : Int) (xs : List α) : List α := (stepIx k xs.length).filterMap fun i => xs[i]?
theorem cutK_mem {α : Type} {k : Int} {xs : List α} {x : α} (h : x ∈ cutK k xs) : x ∈ xs := by
  obtain ⟨i, _, e⟩ := List.mem_filterMap.mp h
  exact List.mem_of_getElem? e
theorem cutK_map {α β : Type} (f : α → β) (k : Int) (xs : List α) : cutK k (xs.map f) = (cutK k xs).map f := by
  unfold cutK
  rw [List.length_map, List.map_filterMap]
  congr 1
  funext i
  rw [List.getElem?_map]
theorem pick_vals {xs : List V} {us : List Value} (r : Vals xs us) : ∀ l : List Nat, Vals (l.filterMap fun i => xs[i]?) (l.filterMap fun i => us[i]?)
  | [] => .nil
  | i :: l => by
    cases e : xs[i]? with
    | none =>
      rw [List.filterMap_cons_none e, List.filterMap_cons_none (r.none_of e)]
      exact pick_vals r l
    | some x =>
      obtain ⟨u, e2, rx⟩ := r.get e
      rw [List.filterMap_cons_some e, List.filterMap_cons_some e2]
      exact .cons rx (pick_vals r l)
theorem pick_dqs {G : Hp} {vs : List V} {ds : List PyData} (h : DqA G vs ds) : ∀ l : List Nat, DqA G (l.filterMap fun i => vs[i]?) (l.filterMap fun i => ds[i]?)
  | [] => .nil
  | i :: l => by
    cases e : vs[i]? with
    | none =>
      have e2 : ds[i]? = none := by
        cases z : ds[i]? with
        | none => rfl
        | some d => obtain ⟨v, h1, _⟩ := h.get' z; rw [e] at h1; cases h1
      rw [List.filterMap_cons_none e, List.filterMap_cons_none e2]
      exact pick_dqs h l
    | some x =>
      obtain ⟨d, e2, hd⟩ := h.get e
      rw [List.filterMap_cons_some e, List.filterMap_cons_some e2]
      exact .cons hd (pick_dqs h l)
theorem pick_le {α : Type} (k : Int) (hk : 0 < k) (xs : List α) : (cutK k xs).length ≤ xs.length := by
  unfold cutK
  refine Nat.le_trans (List.length_filterMap_le _ _) ?_
  unfold stepIx sliceRange sliceBounds
  simp only [Option.getD_some, hk, gt_iff_lt, if_true, List.length_map, List.length_range]
  split
  · have := ceilDiv_le ((xs.length : Int) - 0) k (by omega) (by omega)
    omega
  · simp
def tStep (K : PySem.W.Frag) (k : Int) (te : TE) : TE := fun σ H Q => te σ H fun x H1 => ∃ a xs, x = .ref a ∧ SqL K H1 a xs ∧ ∀ p, H1 p = none → Q (.ref p) (upd H1 p (.lst (cutK k xs)))
section
variable {X : Cx}
theorem pe_stepL {e : Expr} {te : TE} {k : Int} {j : Nat} {p1 p3 pos : Pos} (hk : 0 < k) (he : PE X e te) : PE X (.Subscript e (.Slice none none (some (.Constant (.int k) j p1)) p3) pos) (tStep X.K k te) := by
  refine ⟨fun pins s σ H Q I hyp => ?_⟩
  refine Subscript_ (thn (he.run pins s σ H _ I hyp) fun v sa ⟨x, Ha, Ia, ra, qa⟩ => ?_)
  obtain ⟨a, xs, rfl, hx, qq⟩ := qa
  cases ra
  have part : PO X (some (.Constant (.int k) j p1)) (tPart (tC (.int k))) := po_some pe_int
  refine wpAny_Slice (thn (po_none.run pins sa σ Ha (fun o Hb => o = none ∧ Hb = Ha) Ia ⟨rfl, rfl⟩) fun vl sb ⟨l, Hb, Ib, pl, el, eb⟩ => ?_)
  subst el eb
  refine thn (po_none.run pins sb σ Hb (fun o Hc => o = none ∧ Hc = Hb) Ib ⟨rfl, rfl⟩) fun vu sc ⟨u, Hc, Ic, pu, eu, ec⟩ => ?_
  subst eu ec
  refine thn (part.run pins sc σ Hc (fun o Hd => o = some k ∧ Hd = Hc) Ic ⟨k, rfl, rfl, rfl⟩) fun vs sd ⟨o, Hd, Id, ps, eo, ed⟩ => ?_
  subst eo ed
  have Ie : Inv X pins σ Hd { sd with heap := sd.heap.push { cls := .type "slice", data := .fields #[vl, vu, vs] } } := Id.kept (t' := sd.toks) fun b ob q => Heap.get?_push_of_some _ q
  obtain ⟨its, r, ht, hz⟩ := Ie.list hx
  have hlen := r.length
  refine tail_any (ops := [.ref a, .ref sd.heap.objs.size]) ht.isList.typeIs (PySem.slot_list_getitem.lookup) ?_ (by with_unfolding_all rfl)
  refine wpAny_getItem_list_slice ht.isList (Heap.IsSliceOf.new _ vl vu vs) pl pu ps (by intro h; have := Option.some.inj h; omega) ?_ (by rw [List.size_toArray]; omega)
  have epick : slicePick its.toArray none none (some k) = ((stepIx k xs.length).filterMap fun i => its[i]?).toArray := by
    unfold slicePick stepIx
    rw [List.size_toArray, ← hlen]
    simp
  rw [epick]
  refine ⟨.ref _, _, Ie.laid (t' := sd.toks) (o := .lst (cutK k xs)) (fun b ob q => Heap.get?_push_of_some _ q) (Nat.le_refl _) ?_, rfl, qq _ (Ie.hok.fresh (Nat.le_refl _))⟩
  exact ⟨Nat.le_trans (pick_le k hk xs) hz, _, 0, pick_vals r _, Heap.get?_push_size _ rfl⟩
end
section
variable {S : Type} {z : Rz} {b : Bool} {ρ : S → En} {te : TE} {Ka : {β : Type} → S → (D → S → R β) → R β}
def stepL (k : Int) : D → R (List D)
  | .list xs => .ok (cutK k xs)
  | _ => .bad
theorem ev_step {K : PySem.W.Frag} {b : Bool} {ρ ρ1 : En} {k : Int} {xs : List PyData} (h : Ev b te ρ (.d (.list xs)) ρ1) : Ev b (tStep K k te) ρ (.l (cutK k xs)) ρ1 := fun G H σ e st nd Q q =>
  h G H σ e st nd _ fun v G1 H1 x1 s1 a1 k1 => by
    cases k1 with
    | lst ha hs =>
      rename_i a vs
      refine ⟨a, vs, rfl, .inl (.inl (x1.gh _ _ ha)), fun p hp => ?_⟩
      have xo : Ext [] G1 H1 G1 (upd H1 p (.lst (cutK k vs))) := Ext.own x1.gh hp
      have hc : DqA G1 (cutK k vs) (cutK k xs) := by
        unfold cutK
        rw [hs.len]
        exact pick_dqs hs _
      refine q _ _ _ (x1.tr xo.up) (s1.mono xo) a1 ⟨p, _, rfl, ?_, x1.gh.none hp, upd_same, hc⟩
      cases zz : H p with
      | none => rfl
      | some o => exact absurd hp (x1.th p (by rw [zz]; simp))
theorem g_step {K : PySem.W.Frag} {k : Int} (h : GE z b Rv.d te ρ Ka) : GE z b Rv.l (tStep K k te) ρ (fun s c => Ka s fun d s' => (stepL k d).bind fun x => c x s') :=
  gg_map (stepL k) h (fun a e h => by cases a <;> cases h) (fun _ d _ c h1 e => by
    cases d <;> cases e
    exact ev_step h1) (fun _ _ h => ee_1 (fun σ (Q : VK) (x : V) (H1 : Hp) => ∃ a xs, x = .ref a ∧ SqL K H1 a xs ∧ ∀ p, H1 p = none → Q (.ref p) (upd H1 p (.lst (cutK k xs)))) h)
end
theorem ip_ext2 {X : Cx} : PIp X .Add rExt2 := fun pins s σ H x y v u Q I rx ry h => iop_ext pins s σ H x y v u Q I rx ry h
/-! ### a dict of the module: texts to numbers -/
def LDct (K : PySem.W.Frag) (w : World) (mg : Str → Option Value) (x : Str) (kv : List (Str × Int)) : Prop :=
  ∃ (d : Addr) (es : Array DictEntry) (n : Nat), mg x = some (.ref d) ∧ KDict K w d es n ∧ ∀ q ∈ kv, ∃ t, PySem.W.nsIn K d q.1 = some (some (.int q.2 t))
def KvAt (kv : List (Str × Int)) (z : Str) : Option Int := (kv.find? fun q => q.1 == z).map (·.2)
theorem kvAt_mem {kv : List (Str × Int)} {z : Str} {i : Int} (h : KvAt kv z = some i) : (z, i) ∈ kv := by
  unfold KvAt at h
  obtain ⟨q, h1, h2⟩ := Option.map_eq_some_iff.mp h
  have h3 := List.find?_some h1
  have h4 := List.mem_of_find?_eq_some h1
  rw [← eq_of_beq h3, ← h2]; exact h4
def kdNi (kv : List (Str × Int)) : D → R Bool
  | .str z => match KvAt kv z with
    | some _ => .ok false
    | none => .bad
  | _ => .bad
def kdIx (kv : List (Str × Int)) : D → R D
  | .str z => match KvAt kv z with
    | some i => .ok (.int i)
    | none => .bad
  | _ => .bad
def rNiL (K : PySem.W.Frag) (w : World) : R2 := fun x y H Q => ∃ z d es n i t, x = .str z ∧ y = .ref d ∧ KDict K w d es n ∧ PySem.W.nsIn K d z = some (some (.int i t)) ∧ Q (.bl false) H
theorem op_niL {X : Cx} : OpR X (compareOp .NotIn) (rNiL X.K X.w) := fun pins s σ H x y v u Q I rx ry h => by
  obtain ⟨z, d, es, n, i, t, rfl, rfl, hd, e, q⟩ := h
  exact op_notIn_kd hd pins s σ H _ _ v u Q I rx ry ⟨z, _, rfl, rfl, e, q⟩
section
variable {S : Type} {z : Rz} {b : Bool} {ρ : S → En} {te : TE} {Ka : {β : Type} → S → (D → S → R β) → R β} {K : PySem.W.Frag} {w : World} {d : Addr} {es : Array DictEntry} {n : Nat} {kv : List (Str × Int)}
theorem g_niL (hd : KDict K w d es n) (hk : ∀ q ∈ kv, ∃ t, PySem.W.nsIn K d q.1 = some (some (.int q.2 t))) (h : GE z b Rv.d te ρ Ka) : GE z b rvB (tOp (rNiL K w) te (tC (.ref d))) ρ (fun s c => Ka s fun a s' => (kdNi kv a).bind fun x => c x s') :=
  gg_map (kdNi kv) h (fun a e h => by
    cases a with
    | str z => simp only [kdNi] at h; cases hz : KvAt kv z <;> rw [hz] at h <;> exact absurd h (by simp)
    | _ => cases h) (fun _ a _ c h1 e => by
    cases a with
    | str z =>
      simp only [kdNi] at e
      cases hz : KvAt kv z with
      | none => rw [hz] at e; cases e
      | some i =>
        rw [hz] at e
        cases e
        obtain ⟨t, ht⟩ := hk _ (kvAt_mem hz)
        exact fun G H σ e st nd Q q => h1 G H σ e st nd _ fun v G1 H1 x1 s1 a1 k1 => by
          cases k1 with
          | str => exact ⟨z, d, es, n, i, t, rfl, rfl, hd, ht, q _ G1 H1 x1 s1 a1 (.bl _)⟩
    | _ => cases e) (fun _ _ h => ee_1 (fun σ (Q : VK) (x : V) (H1 : Hp) => rNiL K w x (.ref d) H1 Q) h)
theorem g_ixL (hd : KDict K w d es n) (hk : ∀ q ∈ kv, ∃ t, PySem.W.nsIn K d q.1 = some (some (.int q.2 t))) (h : GE z b Rv.d te ρ Ka) : GE z b Rv.d (tOp (rIxD K w) (tC (.ref d)) te) ρ (fun s c => Ka s fun a s' => (kdIx kv a).bind fun x => c x s') :=
  gg_map (kdIx kv) h (fun a e h => by
    cases a with
    | str z => simp only [kdIx] at h; cases hz : KvAt kv z <;> rw [hz] at h <;> exact absurd h (by simp)
    | _ => cases h) (fun _ a _ c h1 e => by
    cases a with
    | str z =>
      simp only [kdIx] at e
      cases hz : KvAt kv z with
      | none => rw [hz] at e; cases e
      | some i =>
        rw [hz] at e
        cases e
        obtain ⟨t, ht⟩ := hk _ (kvAt_mem hz)
        exact fun G H σ e st nd Q q => h1 G H σ e st nd _ fun v G1 H1 x1 s1 a1 k1 => by
          cases k1 with
          | str => exact ⟨d, z, .int i, rfl, rfl, ⟨es, n, _, hd.at_, hd.lit, ht, ⟨t, rfl⟩⟩, q _ G1 H1 x1 s1 a1 (.int _)⟩
    | _ => cases e) (fun _ _ h => ee_1 (fun σ (Q : VK) (x : V) (H1 : Hp) => rIxD K w (.ref d) x H1 Q) h)
end
/-! ### xs.index(c) of a number -/
def indI (c : Int) : D → R D
  | .list ds => if SeqAt.shaped (.list ds) = true then match ds.findIdx? (fun z => PyData.eqv z (.int c)) with
    | some j => .ok (.int j)
    | none => .bad
    else .bad
  | _ => .bad
section
variable {S : Type} {z : Rz} {b : Bool} {ρ : S → En} {ta : TE} {Ka : {β : Type} → S → (D → S → R β) → R β} {K : PySem.W.Frag}
def tIdx (K : PySem.W.Frag) (c : Int) (ta : TE) : TE := tBM K "list" (rIndexD K) ta (tCons (tC (.int c)) tNil)
theorem ev_idx {b : Bool} {ρ ρ1 : En} {c : Int} {ds : List PyData} {j : Nat} (h : Ev b ta ρ (.d (.list ds)) ρ1) (hs : SeqAt.shaped (.list ds) = true) (hj : ds.findIdx? (fun z => PyData.eqv z (.int c)) = some j) : Ev b (tIdx K c ta) ρ (.d (.int j)) ρ1 := fun G H σ e st nd Q q =>
  h G H σ e st nd _ fun v G1 H1 x1 s1 a1 k1 => by
    obtain ⟨hl, h1, h2⟩ := List.findIdx?_eq_some_iff_getElem.mp hj
    have hd : Dp K H1 v (.list ds) := dq_dp (dq_mono x1.gh k1) (sh_lay hs)
    cases k1 with
    | lst ha hvs =>
      refine ⟨.inl ⟨rfl, _, .inl (.inl (x1.gh _ _ ha))⟩, ⟨_, _, .int c, ds, j, ds[j], rfl, rfl, hd, .int c, hs, ?_, List.getElem?_eq_getElem hl, h1, fun m zz hm hz => ?_, q _ G1 H1 x1 s1 a1 (.int _)⟩⟩
      · unfold SeqAt.shaped; rfl
      · have h3 := h2 m hm
        rw [List.getElem?_eq_getElem (by omega)] at hz
        rw [← Option.some.inj hz]
        simpa using h3
theorem g_idx {c : Int} (h : GE z b Rv.d ta ρ Ka) : GE z b Rv.d (tIdx K c ta) ρ (fun s k => Ka s fun d s' => (indI c d).bind fun x => k x s') :=
  gg_map (indI c) h (fun a e h => by
    cases a with
    | list ds =>
      simp only [indI] at h
      split at h
      · split at h <;> cases h
      · cases h
    | _ => cases h) (fun _ d _ x h1 e => by
    cases d with
    | list ds =>
      simp only [indI] at e
      split at e
      · rename_i hs
        split at e
        · rename_i j hj
          cases e
          exact ev_idx h1 hs hj
        · cases e
      · cases e
    | _ => cases e) (fun _ _ h => ee_1 (fun σ (Q : VK) (x : V) (H1 : Hp) => tyV K "list" x H1 ∧ rIndexD K x [.int c] H1 Q) h)
theorem pe_idx {X : Cx} {o : Expr} {c : Int} {kk : Nat} {p1 apos cpos : Pos} {to : TE} (hr : X.A.units + 65 < cLine) (ho : PE X o to)
    (hbase : attributeBase o "index" X.env (eval o X.env) = eval o X.env := by rfl) (hline : (apos.endLine == cpos.line) = true := by rfl) : PE X (.Call (.Attribute o "index" apos) [.Constant (.int c) kk p1] [] cpos) (tIdx X.K c to) :=
  pe_bm PySem.F.plainAttrs_list PySem.F.slot_list_index PySem.F.type_list_index (mt_indexD hr) ho (pa_cons pe_int pa_nil) hbase (hline := hline)
end
end Kn

namespace Kn
open PySem PySem.Spec PyProof.Rows L2
/-! ### str(data) -/
def isSeqD : D → Bool
  | .list _ => true
  | .tuple _ => true
  | _ => false
def okStr (d : D) : Bool := isSeqD d && d.canLay0 && d.showable && decide (d.depth ≤ 100) && decide (d.shown.length ≤ sizeLine)
def strD (d : D) : R D := if okStr d = true then .ok (.str d.shown) else .bad
def rStr (K : PySem.W.Frag) : List V → Hp → VK → Prop := fun vs H Q => ∃ (v : V) (d : D), vs = [v] ∧ Dp K H v d ∧ okStr d = true ∧ Q (.str d.shown) H
section
variable {X : Cx}
theorem kr_str (hg : X.A.guards = some []) (hu : X.A.units + 200 < cLine) : CallR X (.type "str") (rStr X.K) := fun pins s σ H xs us Q I r h => by
  obtain ⟨v, d, rfl, hd, ok, q⟩ := h
  obtain ⟨u, rfl, rv⟩ := vals1 r
  unfold okStr at ok
  simp only [Bool.and_eq_true, decide_eq_true_eq] at ok
  obtain ⟨⟨⟨⟨k1, k2⟩, k3⟩, k4⟩, k5⟩ := ok
  obtain ⟨as, hr⟩ := Dp.reads I d v u hd rv
  have isr : ∃ a, u = .ref a := by
    cases hr <;> first | exact ⟨_, rfl⟩ | cases k1
  obtain ⟨a, rfl⟩ := isr
  exact str_of_reads hr k3 (PyData.noDict_hsm (PyData.hasDict_of_canLay _ k2)) hg (by omega) (fun _ _ e => e) (fun h' u tk kp => ⟨.str d.shown, H, I.kept kp, ⟨u, rfl⟩, q⟩) k5
end
theorem rcm_str {K : PySem.W.Frag} : RcM Rv.d (rStr K) strD where
  ok := fun d c h => by
    unfold strD at h
    split at h
    · rename_i ok
      cases h
      refine rc_val fun G H σ vs e hv Q q => ?_
      obtain ⟨v, rfl, h⟩ := as1 hv
      have k2 : d.canLay0 = true := by
        unfold okStr at ok
        simp only [Bool.and_eq_true, decide_eq_true_eq] at ok
        exact ok.1.1.1.2
      exact ⟨v, d, rfl, dq_dp (dq_mono e h) k2, ok, q _ (.str _)⟩
    · cases h
  ex := fun d e h => by
    unfold strD at h
    split at h <;> cases h
/-! ### how long the text is -/
structure Shw (n m : Nat) (d : D) : Prop where
  lay : d.canLay0 = true
  shw : d.showable = true
  dep : d.depth ≤ n
  len : d.shown.length ≤ m
theorem strD_ok {n m : Nat} {d : D} (h : Shw n m d) (hs : isSeqD d = true) (hn : n ≤ 100) (hm : m ≤ sizeLine) : strD d = .ok (.str d.shown) := by
  unfold strD okStr
  have h1 := h.dep
  have h2 := h.len
  rw [hs, h.lay, h.shw, decide_eq_true (by omega : d.depth ≤ 100), decide_eq_true (by omega : d.shown.length ≤ sizeLine)]
  rfl
theorem shw_int {i : Int} (h : i.natAbs < 2 ^ 60) : Shw 0 61 (.int i) where
  lay := rfl
  shw := by
    unfold PyData.showable
    exact decide_eq_true (by
      have : i.natAbs.log2 < 60 ∨ i.natAbs = 0 := by
        by_cases z : i.natAbs = 0
        · exact .inr z
        · exact .inl ((Nat.log2_lt z).mpr h)
      rcases this with z | z
      · omega
      · rw [z]; decide)
  dep := by unfold PyData.depth; exact Nat.le_refl _
  len := by
    unfold PyData.shown
    show (Str.ofString (toString i)).length ≤ 61
    rw [PySem.ofString_length]
    refine int_text_length_le (by decide) ?_
    by_cases z : i.natAbs = 0
    · rw [z]; decide
    · exact (Nat.log2_lt z).mpr h
theorem piled_le {ts : List Str} {m : Nat} (h : ∀ t ∈ ts, t.length ≤ m) : piled ts ≤ ts.length * (m + 2) := by
  induction ts with
  | nil => exact Nat.zero_le _
  | cons t ts ih =>
    rw [piled_cons, List.length_cons, Nat.succ_mul]
    have := h t (List.mem_cons_self ..)
    have := ih fun u hu => h u (List.mem_cons_of_mem _ hu)
    omega
theorem listText_le {ts : List Str} {m c : Nat} (h : ∀ t ∈ ts, t.length ≤ m) (hc : ts.length ≤ c) : (listText ts).length ≤ c * (m + 2) + 3 := by
  have hp := piled_le h
  have hq : ts.length * (m + 2) ≤ c * (m + 2) := Nat.mul_le_mul_right _ hc
  unfold listText
  rw [Str.length_append]
  have e1 : (("]" : String) : Str).length = 1 := rfl
  rw [e1]
  cases ts with
  | nil => show 1 + 1 ≤ _; omega
  | cons t ts =>
    show (textFrom 1 (("[" : Str) ++ (if 0 > 0 then ", " else "" : String) ++ t) ts).length + 1 ≤ _
    rw [textFrom_length_pos _ _ _ (by decide), Str.length_append, Str.length_append]
    have e2 : ((("[" : String) : Str)).length = 1 := rfl
    have e3 : ((if 0 > 0 then ", " else "" : String) : Str).length = 0 := rfl
    rw [e2, e3]
    rw [piled_cons] at hp
    omega
theorem tupleText_le {ts : List Str} {m c : Nat} (h : ∀ t ∈ ts, t.length ≤ m) (hc : ts.length ≤ c) : (tupleText ts).length ≤ c * (m + 2) + 3 := by
  have hp := piled_le h
  have hq : ts.length * (m + 2) ≤ c * (m + 2) := Nat.mul_le_mul_right _ hc
  unfold tupleText
  rw [Str.length_append, Str.length_append]
  have e1 : (("(" : String) : Str).length = 1 := rfl
  have e2 : ((if ts.length == 1 then ",)" else ")" : String) : Str).length ≤ 2 := by split <;> decide
  rw [e1]
  by_cases z : ts = []
  · subst z
    have : (Str.join ", " ([] : List Str)).length = 0 := rfl
    omega
  · have := join_length_add ts z
    omega
theorem shownAll_map : ∀ ds : List D, PyData.shownAll ds = ds.map PyData.shown
  | [] => by unfold PyData.shownAll; rfl
  | d :: ds => by unfold PyData.shownAll; rw [shownAll_map ds]; rfl
theorem layAll_of : ∀ {ds : List D}, (∀ d ∈ ds, d.canLay0 = true) → PyData.canLayAll0 ds = true
  | [], _ => by unfold PyData.canLayAll0; rfl
  | d :: ds, h => by unfold PyData.canLayAll0; rw [h d (List.mem_cons_self ..), layAll_of fun x hx => h x (List.mem_cons_of_mem _ hx)]; rfl
theorem shwAll_of : ∀ {ds : List D}, (∀ d ∈ ds, d.showable = true) → PyData.showableAll ds = true
  | [], _ => by unfold PyData.showableAll; rfl
  | d :: ds, h => by unfold PyData.showableAll; rw [h d (List.mem_cons_self ..), shwAll_of fun x hx => h x (List.mem_cons_of_mem _ hx)]; rfl
theorem depAll_le {n : Nat} : ∀ {ds : List D}, (∀ d ∈ ds, d.depth ≤ n) → PyData.depthAll ds ≤ n
  | [], _ => by unfold PyData.depthAll; exact Nat.zero_le _
  | d :: ds, h => by
    unfold PyData.depthAll
    exact Nat.max_le.mpr ⟨h d (List.mem_cons_self ..), depAll_le fun x hx => h x (List.mem_cons_of_mem _ hx)⟩
theorem shw_list {n m c : Nat} {ds : List D} (h : ∀ d ∈ ds, Shw n m d) (hc : ds.length ≤ c) : Shw (n + 1) (c * (m + 2) + 3) (.list ds) where
  lay := by unfold PyData.canLay0; exact layAll_of fun d hd => (h d hd).lay
  shw := by unfold PyData.showable; exact shwAll_of fun d hd => (h d hd).shw
  dep := by unfold PyData.depth; have := depAll_le fun d hd => (h d hd).dep; omega
  len := by
    unfold PyData.shown
    rw [shownAll_map]
    refine listText_le (fun t ht => ?_) (by rw [List.length_map]; exact hc)
    obtain ⟨d, hd, rfl⟩ := List.mem_map.mp ht
    exact (h d hd).len
theorem shw_tup {n m c : Nat} {ds : List D} (h : ∀ d ∈ ds, Shw n m d) (hc : ds.length ≤ c) : Shw (n + 1) (c * (m + 2) + 3) (.tuple ds) where
  lay := by unfold PyData.canLay0; exact layAll_of fun d hd => (h d hd).lay
  shw := by unfold PyData.showable; exact shwAll_of fun d hd => (h d hd).shw
  dep := by unfold PyData.depth; have := depAll_le fun d hd => (h d hd).dep; omega
  len := by
    unfold PyData.shown
    rw [shownAll_map]
    refine tupleText_le (fun t ht => ?_) (by rw [List.length_map]; exact hc)
    obtain ⟨d, hd, rfl⟩ := List.mem_map.mp ht
    exact (h d hd).len
theorem Shw.mono {n n' m m' : Nat} {d : D} (h : Shw n m d) (h1 : n ≤ n') (h2 : m ≤ m') : Shw n' m' d := ⟨h.lay, h.shw, Nat.le_trans h.dep h1, Nat.le_trans h.len h2⟩
/-! ### xs or [n] -/
def orLD (n : Int) : D → R D
  | .list [] => .ok (.list [.int n])
  | .list (x :: xs) => .ok (.list (x :: xs))
  | .tuple [] => .ok (.list [.int n])
  | .tuple (x :: xs) => .ok (.tuple (x :: xs))
  | _ => .bad
section
variable {b : Bool} {ρ ρ1 ρ2 : En} {ta tb : TE} {K : PySem.W.Frag} {r : Rv}
theorem ev_orvT {d : D} (h : Ev b ta ρ (.d d) ρ1) (hd : (∃ x xs, d = .list (x :: xs)) ∨ ∃ x xs, d = .tuple (x :: xs)) : Ev b (tOrT K ta tb) ρ (.d d) ρ1 := fun G H σ e st nd Q q =>
  h G H σ e st nd _ fun v G1 H1 x1 s1 a1 k1 => by
    refine ⟨true, ?_, by rw [if_pos rfl]; exact q v G1 H1 x1 s1 a1 k1⟩
    rcases hd with ⟨x, xs, rfl⟩ | ⟨x, xs, rfl⟩
    · cases k1 with
      | lst ha hs => cases hs with
        | cons h1 h2 => exact .inl ⟨_, .inl (.inl (x1.gh _ _ ha)), rfl⟩
    · cases k1 with
      | tup ha hs => cases hs with
        | cons h1 h2 => exact .inr (.inl ⟨_, .inl (.inl (x1.gh _ _ ha)), rfl⟩)
theorem ev_orvF {d : D} (h : Ev b ta ρ (.d d) ρ1) (hd : d = .list [] ∨ d = .tuple []) (h2 : Ev b tb ρ1 r ρ2) : Ev b (tOrT K ta tb) ρ r ρ2 := fun G H σ e st nd Q q =>
  h G H σ e st nd _ fun v G1 H1 x1 s1 a1 k1 => by
    refine ⟨false, ?_, ?_⟩
    · rcases hd with rfl | rfl
      · cases k1 with
        | lst ha hs => cases hs with
          | nil => exact .inl ⟨_, .inl (.inl (x1.gh _ _ ha)), rfl⟩
      · cases k1 with
        | tup ha hs => cases hs with
          | nil => exact .inr (.inl ⟨_, .inl (.inl (x1.gh _ _ ha)), rfl⟩)
    · rw [if_neg (by decide)]
      exact h2 G1 H1 σ x1.gh s1 (by rw [a1]; exact nd) Q fun v2 G2 H2 x2 s2 a2 r2 => q v2 G2 H2 (x1.then x2 a1) s2 (a2.trans a1) (r2.back x1)
theorem ev_orL {d c : D} {n : Int} (h : Ev b ta ρ (.d d) ρ1) (e : orLD n d = .ok c) : Ev b (tOrT K ta (tLst (tCons (tC (.int n)) tNil))) ρ (.d c) ρ1 := by
  have hb : Ev b (tLst (tCons (tC (.int n)) tNil)) ρ1 (.d (.list [.int n])) ρ1 := ev_fz (ev_lst (ds := [.int n]) (ea_d ev_int ea_nil) (Nat.le_of_ble_eq_true rfl))
  unfold orLD at e
  split at e
  · cases e; exact ev_orvF h (.inl rfl) hb
  · cases e; exact ev_orvT h (.inl ⟨_, _, rfl⟩)
  · cases e; exact ev_orvF h (.inr rfl) hb
  · cases e; exact ev_orvT h (.inr ⟨_, _, rfl⟩)
  · cases e
end
section
variable {S : Type} {z : Rz} {b : Bool} {ρ : S → En} {te : TE} {Ka : {β : Type} → S → (D → S → R β) → R β}
theorem g_orL {K : PySem.W.Frag} {n : Int} (h : GE z b Rv.d te ρ Ka) : GE z b Rv.d (tOrT K te (tLst (tCons (tC (.int n)) tNil))) ρ (fun s c => Ka s fun d s' => (orLD n d).bind fun x => c x s') :=
  gg_map (orLD n) h (fun a e h => by unfold orLD at h; split at h <;> cases h) (fun _ d _ c h1 e => ev_orL h1 e)
    (fun _ _ h => ee_1 (fun σ (Q : VK) (x : V) (H1 : Hp) => ∃ k, TruV K x H1 k ∧ if k = true then Q x H1 else tLst (tCons (tC (.int n)) tNil) σ H1 Q) h)
end
/-! ### int(flag), int(number) -/
def intM : D → R D
  | .int i => .ok (.int i)
  | .bool k => .ok (.int (if k then 1 else 0))
  | _ => .bad
def rInt1 : List V → Hp → VK → Prop := fun xs H Q => (∃ i, xs = [V.int i] ∧ Q (.int i) H) ∨ ∃ k, xs = [V.bl k] ∧ Q (.int (if k then 1 else 0)) H
theorem kr_int1 {X : Cx} : CallR X (.type "int") rInt1 := call_int1
theorem rcm_int1 : RcM Rv.d rInt1 intM where
  ok := fun d c h => by
    unfold intM at h
    split at h
    · cases h
      refine rc_val fun G H σ vs e hv Q q => ?_
      obtain ⟨v, rfl, h⟩ := as1 hv
      cases h
      exact .inl ⟨_, rfl, q _ (.int _)⟩
    · cases h
      refine rc_val fun G H σ vs e hv Q q => ?_
      obtain ⟨v, rfl, h⟩ := as1 hv
      cases h
      exact .inr ⟨_, rfl, q _ (.int _)⟩
    · cases h
  ex := fun d e h => by cases d <;> cases h
end Kn

namespace Kn
open PySem PySem.Spec PyProof.Rows L2
/-! ### the mirror's operations on encoded data -/
section
variable {α β γ : Type} {N M L : Type}
theorem q_ok_bind (a : α) (f : α → R β) : (R.ok a).bind f = f a := Eq.trans rfl rfl
theorem q_ex_bind (e : Xc) (f : α → R β) : (R.ex e : R α).bind f = .ex e := Eq.trans rfl rfl
theorem q_bad_bind (f : α → R β) : (R.bad : R α).bind f = .bad := Eq.trans rfl rfl
theorem q_ok_nox (a : α) : (R.ok a).nox = .ok a := Eq.trans rfl rfl
theorem q_sq_nx (s : M) (k : M → R (Ct N L)) : sq (.ok (.nx s)) k = k s := Eq.trans rfl rfl
theorem q_sq_rt (r : Rv) (o : List PyData) (k : M → R (Ct N L)) : sq (.ok (.rt r o)) k = .ok (.rt r o) := Eq.trans rfl rfl
theorem q_sq_bk (s : L) (k : M → R (Ct N L)) : sq (.ok (.bk s)) k = .ok (.bk s) := Eq.trans rfl rfl
theorem q_sq_ct (s : L) (k : M → R (Ct N L)) : sq (.ok (.ct s)) k = .ok (.ct s) := Eq.trans rfl rfl
theorem q_sq_ex (e : Xc) (k : M → R (Ct N L)) : sq (.ex e : R (Ct M L)) k = .ex e := Eq.trans rfl rfl
theorem q_exit_rt (r : Rv) (o : List PyData) : (exit (.ok (.rt r o)) : R (Ct N L)) = .ok (.rt r o) := Eq.trans rfl rfl
theorem q_exit_bk (s : L) : (exit (.ok (.bk s)) : R (Ct N L)) = .ok (.bk s) := Eq.trans rfl rfl
theorem q_exit_ct (s : L) : (exit (.ok (.ct s)) : R (Ct N L)) = .ok (.ct s) := Eq.trans rfl rfl
theorem q_exit_ex (e : Xc) : (exit (.ex e : R (Ct Empty L)) : R (Ct N L)) = .ex e := Eq.trans rfl rfl
theorem q_outD_rt (d : D) (o : List D) : outD (.ok (.rt (.d d) o)) = .ok d := Eq.trans rfl rfl
theorem q_outD_nx (u : Unit) : outD (.ok (.nx u)) = .ok .none := Eq.trans rfl rfl
theorem q_outD_ex (e : Xc) : outD (.ex e) = .ex e := Eq.trans rfl rfl
theorem q_outO_rt (d : D) (o : List D) : outO (.ok (.rt (.o d) o)) = .ok d := Eq.trans rfl rfl
theorem q_outO_ex (e : Xc) : outO (.ex e) = .ex e := Eq.trans rfl rfl
theorem q_outL_rt (d : List D) (o : List D) : outL (.ok (.rt (.l d) o)) = .ok d := Eq.trans rfl rfl
theorem q_outL_ex (e : Xc) : outL (.ex e) = .ex e := Eq.trans rfl rfl
theorem q_outDO_rt (d : D) (o : List D) : outDO (.ok (.rt (.d d) o)) = .ok (d, o) := Eq.trans rfl rfl
theorem q_outDO_nx (o : List D) : outDO (.ok (.nx o)) = .ok (.none, o) := Eq.trans rfl rfl
theorem q_outDO_ex (e : Xc) : outDO (.ex e) = .ex e := Eq.trans rfl rfl
theorem q_outLO_rt (d : List D) (o : List D) : outLO (.ok (.rt (.l d) o)) = .ok (d, o) := Eq.trans rfl rfl
theorem q_outLO_ex (e : Xc) : outLO (.ex e) = .ex e := Eq.trans rfl rfl
theorem q_un2_t {α : Type} (a b : D) (f : D → D → R α) : un2 (.tuple [a, b]) f = f a b := Eq.trans rfl rfl
theorem q_un3_t {α : Type} (a b c : D) (f : D → D → D → R α) : un3 (.tuple [a, b, c]) f = f a b c := Eq.trans rfl rfl
end
section
variable {α β γ S L : Type}
@[simp] theorem addD_i (i j : Int) : addD (.int i) (.int j) = .ok (.int (i + j)) := Eq.trans rfl rfl
@[simp] theorem subD_i (i j : Int) : subD (.int i) (.int j) = .ok (.int (i - j)) := Eq.trans rfl rfl
@[simp] theorem negD_i (i : Int) : negD (.int i) = .ok (.int (-i)) := Eq.trans rfl rfl
@[simp] theorem ltD_i (i j : Int) : ltD (.int i) (.int j) = .ok (decide (i < j)) := Eq.trans rfl rfl
@[simp] theorem leD_i (i j : Int) : leD (.int i) (.int j) = .ok (decide (i ≤ j)) := Eq.trans rfl rfl
@[simp] theorem gtD_i (i j : Int) : gtD (.int i) (.int j) = .ok (decide (j < i)) := Eq.trans rfl rfl
@[simp] theorem geD_i (i j : Int) : geD (.int i) (.int j) = .ok (decide (j ≤ i)) := Eq.trans rfl rfl
@[simp] theorem max2_i (i j : Int) : max2 (.int i) (.int j) = .ok (.int (max i j)) := Eq.trans rfl rfl
@[simp] theorem min2_i (i j : Int) : min2 (.int i) (.int j) = .ok (.int (min i j)) := Eq.trans rfl rfl
theorem mulD_i (i j : Int) (h : (-(2 ^ 64) < i ∧ i < 2 ^ 64) ∨ (-(2 ^ 64) < j ∧ j < 2 ^ 64)) : mulD (.int i) (.int j) = .ok (.int (i * j)) := if_pos h
theorem mulD_big {i j : Int} (h : i.natAbs.log2 + j.natAbs.log2 < 1000000) : mulD (.int i) (.int j) = .ok (.int (i * j)) := by
  simp only [mulD]
  rw [if_pos h]
  split <;> rfl
theorem fdivD_i (i j : Int) (h : 0 < j ∧ j < 1073741824) : fdivD (.int i) (.int j) = .ok (.int (i / j)) := if_pos h
theorem modD_i (i j : Int) (h : 0 < j) : modD (.int i) (.int j) = .ok (.int (i % j)) := if_pos h
theorem powD_i (i j : Int) (h : 0 ≤ j ∧ j ≤ 1000000 ∧ i.natAbs < 2 ^ 64) : powD (.int i) (.int j) = .ok (.int (i ^ j.toNat)) := if_pos h
theorem augD_i (f : Int → Int → Int) (i j : Int) : augD f (.int i) (.int j) = .ok (.int (f i j)) := Eq.trans rfl rfl
@[simp] theorem isM_in (i : Int) : isM (.int i) .none = .ok false := Eq.trans rfl rfl
@[simp] theorem isM_nn : isM .none .none = .ok true := Eq.trans rfl rfl
@[simp] theorem isM_tn (l : List D) : isM (.tuple l) .none = .ok false := Eq.trans rfl rfl
@[simp] theorem isM_ln (l : List D) : isM (.list l) .none = .ok false := Eq.trans rfl rfl
@[simp] theorem noM_in (i : Int) : noM (.int i) .none = .ok true := Eq.trans rfl rfl
@[simp] theorem noM_nn : noM .none .none = .ok false := Eq.trans rfl rfl
@[simp] theorem noM_tn (l : List D) : noM (.tuple l) .none = .ok true := Eq.trans rfl rfl
@[simp] theorem noM_ln (l : List D) : noM (.list l) .none = .ok true := Eq.trans rfl rfl
@[simp] theorem isM_bb (a b : Bool) : isM (.bool a) (.bool b) = .ok (decide (a = b)) := Eq.trans rfl rfl
@[simp] theorem blM_b (b : Bool) : blM (.bool b) = .ok b := Eq.trans rfl rfl
@[simp] theorem yesM_d (d : D) : yesM d = .ok true := Eq.trans rfl rfl
@[simp] theorem ixO_i (i : Int) : ixO (.int i) = .ok (some i) := Eq.trans rfl rfl
@[simp] theorem lnD_l (xs : List D) : lnD (.list xs) = .ok (.int xs.length) := Eq.trans rfl rfl
@[simp] theorem lnD_t (xs : List D) : lnD (.tuple xs) = .ok (.int xs.length) := Eq.trans rfl rfl
@[simp] theorem iterM_l (xs : List D) : iterM (.list xs) = .ok xs := Eq.trans rfl rfl
@[simp] theorem iterM_t (xs : List D) : iterM (.tuple xs) = .ok xs := Eq.trans rfl rfl
@[simp] theorem tupD_l (xs : List D) : tupD (.list xs) = .ok (.tuple xs) := Eq.trans rfl rfl
@[simp] theorem tupD_t (xs : List D) : tupD (.tuple xs) = .ok (.tuple xs) := Eq.trans rfl rfl
@[simp] theorem lstL_l (xs : List D) : lstL (.list xs) = .ok xs := Eq.trans rfl rfl
@[simp] theorem lstL_t (xs : List D) : lstL (.tuple xs) = .ok xs := Eq.trans rfl rfl
@[simp] theorem revL_l (xs : List D) : revL (.list xs) = .ok xs.reverse := Eq.trans rfl rfl
@[simp] theorem slD_l (e : α → D) (xs : List α) (lo hi : Option Int) : slD (.list (xs.map e)) lo hi = .ok (.list ((cutA xs lo hi).map e)) := by show R.ok (PyData.list (cutD _ _ _)) = _; rw [cut_map]
@[simp] theorem slD_t (e : α → D) (xs : List α) (lo hi : Option Int) : slD (.tuple (xs.map e)) lo hi = .ok (.tuple ((cutA xs lo hi).map e)) := by show R.ok (PyData.tuple (cutD _ _ _)) = _; rw [cut_map]
@[simp] theorem slL_l (e : α → D) (xs : List α) (lo hi : Option Int) : slL (.list (xs.map e)) lo hi = .ok ((cutA xs lo hi).map e) := by show R.ok (cutD _ _ _) = _; rw [cut_map]
@[simp] theorem sumD_l (l : List Int) : sumD (.list (l.map .int)) = .ok (.int l.sum) := by unfold sumD iSum; simp
@[simp] theorem sumD_t (l : List Int) : sumD (.tuple (l.map .int)) = .ok (.int l.sum) := by unfold sumD; simp
theorem intsOf_bools : ∀ l : List Bool, l ≠ [] → intsOf (l.map .bool) = none
  | b :: l, _ => rfl
@[simp] theorem sumD_b (l : List Bool) : sumD (.list (l.map .bool)) = .ok (.int (l.map fun b => if b then (1 : Int) else 0).sum) := by
  cases l with
  | nil => rfl
  | cons b l =>
    simp only [sumD, Kn.iSum]
    rw [intsOf_bools (b :: l) (by simp), boolsOf_map]
@[simp] theorem maxK_l (l : List Int) (d : Int) : maxK (.list (l.map .int)) (.int d) = .ok (.int (maxD d l)) := by unfold maxK iMaxK; simp
@[simp] theorem maxK_t (l : List Int) (d : Int) : maxK (.tuple (l.map .int)) (.int d) = .ok (.int (maxD d l)) := by unfold maxK iMaxK; simp
theorem maxM_l {l : List Int} (h : 0 < l.length) : maxM (.list (l.map .int)) = .ok (.int (maxD 0 l)) := by unfold maxM iMax; simp [h]
theorem maxM_t {l : List Int} (h : 0 < l.length) : maxM (.tuple (l.map .int)) = .ok (.int (maxD 0 l)) := by unfold maxM iMax; simp [h]
theorem minM_l {l : List Int} (h : 0 < l.length) : minM (.list (l.map .int)) = .ok (.int (minD 0 l)) := by unfold minM iMin; simp [h]
theorem minM_t {l : List Int} (h : 0 < l.length) : minM (.tuple (l.map .int)) = .ok (.int (minD 0 l)) := by unfold minM iMin; simp [h]
@[simp] theorem srtL_l (l : List Int) : srtL (.list (l.map .int)) = .ok ((srt l).map .int) := by unfold srtL; simp
@[simp] theorem srtRL_l (l : List Int) : srtRL (.list (l.map .int)) = .ok ((srtD l).map .int) := by unfold srtRL; simp
@[simp] theorem srtR2_l (l : List Int) : srtR2 (.list (l.map .int)) (.bool true) = .ok ((srtD l).map .int) := srtRL_l l
@[simp] theorem allD_l (l : List Bool) : allD (.list (l.map .bool)) = .ok (l.all id) := by unfold allD; simp
@[simp] theorem anyD_l (l : List Bool) : anyD (.list (l.map .bool)) = .ok (l.any id) := by unfold anyD; simp
theorem addD_l (e : α → D) (a b : List α) (h : a.length + b.length ≤ 1000000) : addD (.list (a.map e)) (.list (b.map e)) = .ok (.list ((a ++ b).map e)) := by unfold addD; simp [h]
theorem addD_t (e : α → D) (a b : List α) (h : a.length + b.length ≤ 1000000) : addD (.tuple (a.map e)) (.tuple (b.map e)) = .ok (.tuple ((a ++ b).map e)) := by unfold addD; simp [h]
theorem addL_l (e : α → D) (a b : List α) (h : a.length + b.length ≤ 1000000) : addL (.list (a.map e)) (.list (b.map e)) = .ok ((a ++ b).map e) := by unfold addL; simp [h]
theorem zipD_map (e : α → D) (f : β → D) : ∀ (xs : List α) (ys : List β), zipD (xs.map e) (ys.map f) = (xs.zip ys).map (eP e f)
  | [], ys => by cases ys <;> rfl
  | x :: xs, [] => rfl
  | x :: xs, y :: ys => by show _ :: zipD (xs.map e) (ys.map f) = _; rw [zipD_map e f xs ys]; rfl
@[simp] theorem zipM_l (e : α → D) (f : β → D) (xs : List α) (ys : List β) : zipM (.list (xs.map e)) (.list (ys.map f)) = .ok ((xs.zip ys).map (eP e f)) := by show R.ok (zipD _ _) = _; rw [zipD_map]
@[simp] theorem zipM_t (e : α → D) (f : β → D) (xs : List α) (ys : List β) : zipM (.tuple (xs.map e)) (.tuple (ys.map f)) = .ok ((xs.zip ys).map (eP e f)) := by show R.ok (zipD _ _) = _; rw [zipD_map]
theorem atM_m (e : α → D) {xs : List α} {i : Int} {d : α} (h : atI xs i = some d) : atM (xs.map e) i = .ok (e d) := by unfold atM; rw [show L2.atI (xs.map e) i = some (e d) from at_map e h]
theorem ixD_l (e : α → D) {xs : List α} {i : Int} {d : α} (h : atI xs i = some d) : ixD (.list (xs.map e)) (.int i) = .ok (e d) := atM_m e h
theorem ixD_t (e : α → D) {xs : List α} {i : Int} {d : α} (h : atI xs i = some d) : ixD (.tuple (xs.map e)) (.int i) = .ok (e d) := atM_m e h
theorem at0 (x : α) (l : List α) : atI (x :: l) 0 = some x := atI_nat (j := 0) rfl
theorem at1 (x y : α) (l : List α) : atI (x :: y :: l) 1 = some y := atI_nat (j := 1) rfl
@[simp] theorem ixD_l0 (x : D) (l : List D) : ixD (.list (x :: l)) (.int 0) = .ok x := by show atM _ _ = _; unfold atM; rw [at0]
@[simp] theorem ixD_t0 (x : D) (l : List D) : ixD (.tuple (x :: l)) (.int 0) = .ok x := by show atM _ _ = _; unfold atM; rw [at0]
@[simp] theorem ixD_l1 (x y : D) (l : List D) : ixD (.list (x :: y :: l)) (.int 1) = .ok y := by show atM _ _ = _; unfold atM; rw [at1]
@[simp] theorem ixD_t1 (x y : D) (l : List D) : ixD (.tuple (x :: y :: l)) (.int 1) = .ok y := by show atM _ _ = _; unfold atM; rw [at1]
@[simp] theorem ixD_lm0 (e : α → D) (x : α) (l : List α) : ixD (.list ((x :: l).map e)) (.int 0) = .ok (e x) := ixD_l0 ..
@[simp] theorem ixD_tm0 (e : α → D) (x : α) (l : List α) : ixD (.tuple ((x :: l).map e)) (.int 0) = .ok (e x) := ixD_t0 ..
theorem eqD_m [DecidableEq α] {e : α → D} {n : Nat} (h : EqT e n) (hn : n ≤ 64) (a b : α) : eqD (e a) (e b) = .ok (decide (a = b)) := by
  unfold eqD; rw [if_pos (.inl ⟨h.sh hn a, h.sh hn b⟩), h.eq]
theorem neD_m [DecidableEq α] {e : α → D} {n : Nat} (h : EqT e n) (hn : n ≤ 64) (a b : α) : neD (e a) (e b) = .ok (!decide (a = b)) := by
  unfold neD; rw [if_pos (.inl ⟨h.sh hn a, h.sh hn b⟩), h.eq]
@[simp] theorem eqD_b (a b : Bool) : eqD (.bool a) (.bool b) = .ok (decide (a = b)) := eqD_m eq_bool (by decide) a b
@[simp] theorem neD_b (a b : Bool) : neD (.bool a) (.bool b) = .ok (!decide (a = b)) := neD_m eq_bool (by decide) a b
@[simp] theorem stepL_l (k : Int) (e : α → D) (xs : List α) : stepL k (.list (xs.map e)) = .ok ((cutK k xs).map e) := by show R.ok (cutK k (xs.map e)) = _; rw [cutK_map]
@[simp] theorem eqD_i (a b : Int) : eqD (.int a) (.int b) = .ok (decide (a = b)) := eqD_m eq_int (by decide) a b
@[simp] theorem neD_i (a b : Int) : neD (.int a) (.int b) = .ok (!decide (a = b)) := neD_m eq_int (by decide) a b
theorem inD_m [DecidableEq α] {e : α → D} {n : Nat} (h : EqT e n) (hn : n + 1 ≤ 64) (a : α) (l : List α) : inD (e a) (.list (l.map e)) = .ok (decide (a ∈ l)) := by
  show (if SeqAt.shaped (e a) = true ∧ SeqAt.shaped (.list (l.map e)) = true then R.ok _ else R.bad) = _
  rw [if_pos ⟨h.sh (by omega) a, (eq_L h).sh hn l⟩, any_mem h]
theorem niD_m [DecidableEq α] {e : α → D} {n : Nat} (h : EqT e n) (hn : n + 1 ≤ 64) (a : α) (l : List α) : niD (e a) (.list (l.map e)) = .ok (!decide (a ∈ l)) := by
  show (if SeqAt.shaped (e a) = true ∧ SeqAt.shaped (.list (l.map e)) = true then R.ok _ else R.bad) = _
  rw [if_pos ⟨h.sh (by omega) a, (eq_L h).sh hn l⟩, any_mem h]
@[simp] theorem inD_i (a : Int) (l : List Int) : inD (.int a) (.list (l.map .int)) = .ok (decide (a ∈ l)) := inD_m eq_int (by decide) a l
@[simp] theorem niD_i (a : Int) (l : List Int) : niD (.int a) (.list (l.map .int)) = .ok (!decide (a ∈ l)) := niD_m eq_int (by decide) a l
theorem sh_s {a : Str} (h : (PyData.str a).canLay0 = true) : SeqAt.shaped (.str a) = true := by
  unfold SeqAt.shaped
  rw [Bool.and_eq_true]
  exact ⟨h, rfl⟩
theorem eqS_i (a b : Str) : PyData.eqv (.str a) (.str b) = decide (a = b) := by
  show (a == b) = _
  by_cases h : a = b <;> simp [h]
@[simp] theorem eqD_s (a b : Str) : eqD (.str a) (.str b) = .ok (decide (a = b)) := by
  unfold eqD; rw [if_pos (.inr rfl), eqS_i]
@[simp] theorem neD_s (a b : Str) : neD (.str a) (.str b) = .ok (!decide (a = b)) := by
  unfold neD; rw [if_pos (.inr rfl), eqS_i]
@[simp] theorem isiD_i (i : Int) (n : String) : isiD (.int i) n = .ok (isTyN "int" n) := Eq.trans rfl rfl
@[simp] theorem isiD_l (l : List D) (n : String) : isiD (.list l) n = .ok (isTyN "list" n) := Eq.trans rfl rfl
@[simp] theorem isiD_t (l : List D) (n : String) : isiD (.tuple l) n = .ok (isTyN "tuple" n) := Eq.trans rfl rfl
theorem rg1_i {n : Int} (h : n < 1000000000000 ∧ -1000000000000 < n) : rg1 (.int n) = .ok ((rgI 0 n.toNat).map .int) := by unfold rg1 rgOk; simp [h]
theorem rg2_i {m n : Int} (h : n < 1000000000000 ∧ -1000000000000 < n) (h2 : m < 1000000000000 ∧ -1000000000000 < m) : rg2 (.int m) (.int n) = .ok ((rgI m (n - m).toNat).map .int) := by unfold rg2 rgOk; simp [h, h2]
theorem lrg2_i {m n : Int} (h : -1000000 ≤ m ∧ m ≤ 1000000 ∧ -1000000 ≤ n ∧ n ≤ 1000000) : lrg2 (.int m) (.int n) = .ok ((rgI m (n - m).toNat).map .int) := if_pos h
theorem lrg1_i {n : Int} (h : -1000000 ≤ n ∧ n ≤ 1000000) : lrg1 (.int n) = .ok ((rgI 0 n.toNat).map .int) := by
  show lrg 0 n = _; unfold lrg; rw [if_pos ⟨by decide, by decide, h⟩, Int.sub_zero]
theorem un2_P (e : α → D) (f : β → D) (p : α × β) (g : D → D → R γ) : un2 (eP e f p) g = g (e p.1) (f p.2) := Eq.trans rfl rfl
/-- own lists -/
@[simp] theorem noL_i (i : Int) : noL (.int i) = true := Eq.trans rfl rfl
@[simp] theorem noL_b (i : Bool) : noL (.bool i) = true := Eq.trans rfl rfl
@[simp] theorem noL_s (i : Str) : noL (.str i) = true := Eq.trans rfl rfl
@[simp] theorem noL_n : noL .none = true := Eq.trans rfl rfl
@[simp] theorem noLs_i (l : List Int) : noLs (l.map .int) = true := noLs_ints l
@[simp] theorem noL_ti (l : List Int) : noL (.tuple (l.map .int)) = true := noLs_ints l
@[simp] theorem bor_i (i : Int) : bor (.ok (.int i)) = .ok (.int i) := Eq.trans rfl rfl
@[simp] theorem bor_b (i : Bool) : bor (.ok (.bool i)) = .ok (.bool i) := Eq.trans rfl rfl
theorem bor_d {d : D} (h : noL d = true) : bor (.ok d) = .ok d := if_pos h
theorem borL_d {d : List D} (h : noLs d = true) : borL (.ok d) = .ok d := if_pos h
@[simp] theorem borB_ok (b : Bool) : borB (.ok b) = .ok b := Eq.trans rfl rfl
theorem appM_m (e : α → D) {xs : List α} (x : α) (h : xs.length ≤ 1000000) : appM (xs.map e) (e x) = .ok ((xs ++ [x]).map e) := by unfold appM; simp [h]
theorem popAt0 (x : D) (l : List D) : popAtM (x :: l) (.int 0) = .ok (x, l) := by
  simp only [popAtM]
  rw [if_pos (by decide), show L2.ixN (x :: l).length 0 = some 0 from ix_ok (n := (x :: l).length) (j := 0) (by decide) (by simp only [List.length_cons]; omega)]
  rfl
theorem setM_m (e : α → D) {xs : List α} {i : Int} (x : α) (h0 : 0 ≤ i) (h : i < xs.length) : setM (xs.map e) (.int i) (e x) = .ok ((xs.set i.toNat x).map e) := by
  simp only [setM]
  rw [List.length_map, show L2.ixN xs.length i = some i.toNat from ix_ok h0 (by omega)]
  simp [List.map_set]
theorem setM0 (x y : D) (l : List D) : setM (x :: l) (.int 0) y = .ok (y :: l) := by
  simp only [setM]
  rw [show L2.ixN (x :: l).length 0 = some 0 from ix_ok (n := (x :: l).length) (j := 0) (by decide) (by simp only [List.length_cons]; omega)]
  rfl
theorem remM_i {l : List Int} {i : Int} (h : i ∈ l) : remM (l.map .int) (.int i) = .ok ((l.erase i).map .int) := by unfold remM; simp [h]
theorem extM_m (e : α → D) (a b : List α) (h : a.length + b.length ≤ 1000000) : extM (a.map e) (.list (b.map e)) = .ok ((a ++ b).map e) := by unfold extM; simp [h]
/-- comprehensions -/
theorem lcG_m {P : D → R Bool} {F : D → R D} (e : α → D) (e' : β → D) (p : α → Bool) (g : α → β) : ∀ (xs : List α), (∀ x ∈ xs, P (e x) = .ok (p x)) → (∀ x ∈ xs, p x = true → F (e x) = .ok (e' (g x))) → lcG (xs.map e) P F = .ok (((xs.filter p).map g).map e')
  | [], _, _ => rfl
  | x :: xs, hp, hf => by
    have ih := lcG_m e e' p g xs (fun y hy => hp y (List.mem_cons_of_mem _ hy)) (fun y hy => hf y (List.mem_cons_of_mem _ hy))
    show ((P (e x)).nox.bind _) = _
    rw [hp x List.mem_cons_self]
    show (if p x = true then _ else _) = _
    cases h : p x with
    | true => rw [hf x List.mem_cons_self h, if_pos rfl, ih]; simp [h]
    | false => rw [if_neg (by decide), ih]; simp [h]
theorem lcM_m {P : D → R Bool} {F : D → R D} {e : α → D} {xs : List α} (e' : β → D) (p : α → Bool) (g : α → β) (hl : xs.length ≤ 1000000) (hp : ∀ x ∈ xs, P (e x) = .ok (p x)) (hf : ∀ x ∈ xs, p x = true → F (e x) = .ok (e' (g x))) : lcM (xs.map e) P F = .ok (((xs.filter p).map g).map e') := by
  unfold lcM; rw [List.length_map, if_pos hl]; exact lcG_m e e' p g xs hp hf
/-- .. without a test -/
theorem lcM_g {P : D → R Bool} {F : D → R D} {e : α → D} {xs : List α} (e' : β → D) (g : α → β) (hl : xs.length ≤ 1000000) (hp : ∀ x ∈ xs, P (e x) = .ok true) (hf : ∀ x ∈ xs, F (e x) = .ok (e' (g x))) : lcM (xs.map e) P F = .ok ((xs.map g).map e') := by
  rw [lcM_m e' (fun _ => true) g hl hp (fun x hx _ => hf x hx), List.filter_eq_self.mpr fun _ _ => rfl]
/-- .. without a term -/
theorem lcM_f {P : D → R Bool} {F : D → R D} {e : α → D} {xs : List α} (p : α → Bool) (hl : xs.length ≤ 1000000) (hp : ∀ x ∈ xs, P (e x) = .ok (p x)) (hf : ∀ x ∈ xs, F (e x) = .ok (e x)) : lcM (xs.map e) P F = .ok ((xs.filter p).map e) := by
  rw [lcM_m e p id hl hp (fun x hx _ => hf x hx), List.map_id]
theorem lcM_id {P : D → R Bool} {F : D → R D} {xs : List D} (e' : β → D) (g : D → β) (hl : xs.length ≤ 1000000) (hp : ∀ x ∈ xs, P x = .ok true) (hf : ∀ x ∈ xs, F x = .ok (e' (g x))) : lcM xs P F = .ok ((xs.map g).map e') := by
  have h := lcM_g (e := id) (xs := xs) e' g hl hp hf
  rwa [List.map_id] at h
theorem lcGS_m {f : S → D → R (D × S)} {σ : Type} (C : σ → S) (e : α → D) (e' : β → D) (g : σ → α → β × σ) (I : σ → Prop) : ∀ (xs : List α) (o : σ), I o → (∀ x ∈ xs, ∀ o, I o → f (C o) (e x) = .ok (e' (g o x).1, C (g o x).2) ∧ I (g o x).2) → lcGS (xs.map e) (C o) f = .ok ((mapS g o xs).1.map e', C (mapS g o xs).2)
  | [], o, _, _ => rfl
  | x :: xs, o, h0, hf => by
    obtain ⟨h1, h2⟩ := hf x List.mem_cons_self o h0
    show (f (C o) (e x)).nox.bind _ = _
    rw [h1]
    show ((lcGS (xs.map e) (C (g o x).2) f).bind _) = _
    rw [lcGS_m C e e' g I xs _ h2 fun y hy => hf y (List.mem_cons_of_mem _ hy)]
    rfl
theorem lcMS_m {f : S → D → R (D × S)} {σ : Type} (C : σ → S) {e : α → D} (e' : β → D) (g : σ → α → β × σ) (I : σ → Prop) {xs : List α} {o : σ} (hl : xs.length ≤ 1000000) (h0 : I o) (hf : ∀ x ∈ xs, ∀ o, I o → f (C o) (e x) = .ok (e' (g o x).1, C (g o x).2) ∧ I (g o x).2) : lcMS (xs.map e) (C o) f = .ok ((mapS g o xs).1.map e', C (mapS g o xs).2) := by
  unfold lcMS; rw [List.length_map, if_pos hl]; exact lcGS_m C e e' g I xs o h0 hf
/-- sorted({x: True for ..}, reverse=True) -/
theorem sdcM_i {P : D → R Bool} {l : List Int} (p : Int → Bool) (hl : l.length ≤ 1000000) (hp : ∀ x ∈ l, P (.int x) = .ok (p x)) : sdcM (l.map .int) P = .ok ((srtD (nubI (l.filter p))).map .int) := by
  unfold sdcM
  rw [intsOf_map]
  show ((lcM _ P R.ok).bind _) = _
  rw [lcM_f (e := .int) p hl hp fun _ _ => rfl]
  simp
/-- loops -/
theorem forM_fold {σ : Type} {f : S → D → R (Ct S S)} {e : α → D} (C : σ → S) (g : σ → α → σ) : ∀ (xs : List α) (s : σ), (∀ x ∈ xs, ∀ s, f (C s) (e x) = .ok (.nx (C (g s x)))) → (forM (xs.map e) (C s) f : R (Ct S L)) = .ok (.nx (C (xs.foldl g s)))
  | [], s, _ => rfl
  | x :: xs, s, h => by
    show ((f (C s) (e x)).bind _) = _
    rw [h x List.mem_cons_self]
    exact forM_fold C g xs _ fun y hy => h y (List.mem_cons_of_mem _ hy)
/-- .. with what holds all along -/
theorem forM_foldI {σ : Type} {f : S → D → R (Ct S S)} {e : α → D} (C : σ → S) (g : σ → α → σ) (I : σ → Prop) : ∀ (xs : List α) (s : σ), I s → (∀ x ∈ xs, ∀ s, I s → f (C s) (e x) = .ok (.nx (C (g s x))) ∧ I (g s x)) → (forM (xs.map e) (C s) f : R (Ct S L)) = .ok (.nx (C (xs.foldl g s))) ∧ I (xs.foldl g s)
  | [], s, h0, _ => ⟨rfl, h0⟩
  | x :: xs, s, h0, h => by
    obtain ⟨h1, h2⟩ := h x List.mem_cons_self s h0
    show ((f (C s) (e x)).bind _) = _ ∧ _
    rw [h1]
    exact forM_foldI C g I xs _ h2 fun y hy => h y (List.mem_cons_of_mem _ hy)
theorem forM_at {σ : Type} {f : S → D → R (Ct S S)} {e : α → D} (C : σ → S) (g : σ → α → σ) (I : σ → Prop) (s : σ) {xs : List α} {c0 : S} (hs : c0 = C s) (h0 : I s) (h : ∀ x ∈ xs, ∀ s, I s → f (C s) (e x) = .ok (.nx (C (g s x))) ∧ I (g s x)) : (forM (xs.map e) c0 f : R (Ct S L)) = .ok (.nx (C (xs.foldl g s))) := by
  rw [hs]; exact (forM_foldI C g I xs s h0 h).1
/-- .. that knows what is left -/
theorem forM_re {σ : Type} {f : S → D → R (Ct S S)} {e : α → D} (C : σ → S) (g : σ → α → σ) (I : List α → σ → Prop) : ∀ (xs : List α) (s : σ), I xs s → (∀ x r s, I (x :: r) s → f (C s) (e x) = .ok (.nx (C (g s x))) ∧ I r (g s x)) → (forM (xs.map e) (C s) f : R (Ct S L)) = .ok (.nx (C (xs.foldl g s))) ∧ I [] (xs.foldl g s)
  | [], s, h0, _ => ⟨rfl, h0⟩
  | x :: xs, s, h0, h => by
    obtain ⟨h1, h2⟩ := h x xs s h0
    show ((f (C s) (e x)).bind _) = _ ∧ _
    rw [h1]
    exact forM_re C g I xs _ h2 h
theorem forM_ra {σ : Type} {f : S → D → R (Ct S S)} {e : α → D} (C : σ → S) (g : σ → α → σ) (I : List α → σ → Prop) (s : σ) {xs : List α} {c0 : S} (hs : c0 = C s) (h0 : I xs s) (h : ∀ x r s, I (x :: r) s → f (C s) (e x) = .ok (.nx (C (g s x))) ∧ I r (g s x)) : (forM (xs.map e) c0 f : R (Ct S L)) = .ok (.nx (C (xs.foldl g s))) := by
  rw [hs]; exact (forM_re C g I xs s h0 h).1
theorem forM_inv {f : S → D → R (Ct S S)} (I : S → Prop) : ∀ (xs : List D) (s : S), I s → (∀ x ∈ xs, ∀ s, I s → ∃ s', f s x = .ok (.nx s') ∧ I s') → ∃ s', (forM xs s f : R (Ct S L)) = .ok (.nx s') ∧ I s'
  | [], s, h0, _ => ⟨s, rfl, h0⟩
  | x :: xs, s, h0, h => by
    obtain ⟨s1, h1, h2⟩ := h x List.mem_cons_self s h0
    obtain ⟨s2, h3, h4⟩ := forM_inv I xs s1 h2 fun y hy => h y (List.mem_cons_of_mem _ hy)
    refine ⟨s2, ?_, h4⟩
    show ((f s x).bind _) = _
    rw [h1]; exact h3
/-- .. that knows what is left -/
theorem forM_rinv {f : S → D → R (Ct S S)} {e : α → D} (I : List α → S → Prop) : ∀ (xs : List α) (s : S), I xs s → (∀ x r s, I (x :: r) s → x ∈ xs → ∃ s', f s (e x) = .ok (.nx s') ∧ I r s') → ∃ s', (forM (xs.map e) s f : R (Ct S L)) = .ok (.nx s') ∧ I [] s'
  | [], s, h0, _ => ⟨s, rfl, h0⟩
  | x :: xs, s, h0, h => by
    obtain ⟨s1, h1, h2⟩ := h x xs s h0 List.mem_cons_self
    obtain ⟨s2, h3, h4⟩ := forM_rinv I xs s1 h2 fun y r s hs hy => h y r s hs (List.mem_cons_of_mem _ hy)
    refine ⟨s2, ?_, h4⟩
    show ((f s (e x)).bind _) = _
    rw [h1]; exact h3
theorem for_outL {f : S → D → R (Ct S S)} {k : S → R (Ct Unit Empty)} {e : α → D} {xs : List α} {s : S} {P : R (List D) → Prop} (I : List α → S → Prop) (h0 : I xs s) (h : ∀ x r s, I (x :: r) s → x ∈ xs → ∃ s', f s (e x) = .ok (.nx s') ∧ I r s') (hk : ∀ s, I [] s → P (outL (k s))) : P (outL (sq (forM (xs.map e) s f) k)) := by
  obtain ⟨s', h1, i⟩ := forM_rinv (L := Empty) I xs s h0 h
  rw [h1]; exact hk s' i
theorem for_eqR {N : Type} {f : S → D → R (Ct S S)} {k : S → R (Ct N L)} {e : α → D} {xs : List α} {s : S} {r : R (Ct N L)} (I : List α → S → Prop) (h0 : I xs s) (h : ∀ x r s, I (x :: r) s → x ∈ xs → ∃ s', f s (e x) = .ok (.nx s') ∧ I r s') (hk : ∀ s, I [] s → k s = r) : sq (forM (xs.map e) s f) k = r := by
  obtain ⟨s', h1, i⟩ := forM_rinv (L := L) I xs s h0 h
  rw [h1]; exact hk s' i
theorem for_outDOR {f : S → D → R (Ct S S)} {k : S → R (Ct (List D) Empty)} {e : α → D} {xs : List α} {s : S} {P : R (D × List D) → Prop} (I : List α → S → Prop) (h0 : I xs s) (h : ∀ x r s, I (x :: r) s → x ∈ xs → ∃ s', f s (e x) = .ok (.nx s') ∧ I r s') (hk : ∀ s, I [] s → P (outDO (k s))) : P (outDO (sq (forM (xs.map e) s f) k)) := by
  obtain ⟨s', h1, i⟩ := forM_rinv (L := Empty) I xs s h0 h
  rw [h1]; exact hk s' i
theorem for_outR {f : S → D → R (Ct S S)} {k : S → R (Ct Unit Empty)} {e : α → D} {xs : List α} {s : S} {P : R D → Prop} (I : List α → S → Prop) (h0 : I xs s) (h : ∀ x r s, I (x :: r) s → x ∈ xs → ∃ s', f s (e x) = .ok (.nx s') ∧ I r s') (hk : ∀ s, I [] s → P (outD (k s))) : P (outD (sq (forM (xs.map e) s f) k)) := by
  obtain ⟨s', h1, i⟩ := forM_rinv (L := Empty) I xs s h0 h
  rw [h1]; exact hk s' i
/-- the same, standing ahead of what follows -/
theorem for_out {f : S → D → R (Ct S S)} {k : S → R (Ct Unit Empty)} {xs : List D} {s : S} {r : R D} (I : S → Prop) (h0 : I s) (h : ∀ x ∈ xs, ∀ s, I s → ∃ s', f s x = .ok (.nx s') ∧ I s') (hk : ∀ s, I s → outD (k s) = r) : outD (sq (forM xs s f) k) = r := by
  obtain ⟨s', e, i⟩ := forM_inv (L := Empty) I xs s h0 h
  rw [e]; exact hk s' i
theorem for_at {N : Type} {f : S → D → R (Ct S S)} {k : S → R (Ct N L)} {xs : List D} {s : S} {P : N → Prop} (I : S → Prop) (h0 : I s) (h : ∀ x ∈ xs, ∀ s, I s → ∃ s', f s x = .ok (.nx s') ∧ I s') (hk : ∀ s, I s → ∃ n, k s = .ok (.nx n) ∧ P n) : ∃ n, sq (forM xs s f) k = .ok (.nx n) ∧ P n := by
  obtain ⟨s', e, i⟩ := forM_inv (L := L) I xs s h0 h
  rw [e]; exact hk s' i
theorem for_eq {N : Type} {f : S → D → R (Ct S S)} {k : S → R (Ct N L)} {xs : List D} {s : S} {r : R (Ct N L)} (I : S → Prop) (h0 : I s) (h : ∀ x ∈ xs, ∀ s, I s → ∃ s', f s x = .ok (.nx s') ∧ I s') (hk : ∀ s, I s → k s = r) : sq (forM xs s f) k = r := by
  obtain ⟨s', e, i⟩ := forM_inv (L := L) I xs s h0 h
  rw [e]; exact hk s' i
theorem for_outDO {f : S → D → R (Ct S S)} {k : S → R (Ct (List D) Empty)} {xs : List D} {s : S} {P : R (D × List D) → Prop} (I : S → Prop) (h0 : I s) (h : ∀ x ∈ xs, ∀ s, I s → ∃ s', f s x = .ok (.nx s') ∧ I s') (hk : ∀ s, I s → P (outDO (k s))) : P (outDO (sq (forM xs s f) k)) := by
  obtain ⟨s', e, i⟩ := forM_inv (L := Empty) I xs s h0 h
  rw [e]; exact hk s' i
/-- .. or is left -/
theorem forM_rt {f : S → D → R (Ct S S)} (I : S → Prop) (Q : Rv → List D → Prop) : ∀ (xs : List D) (s : S), I s → (∀ x ∈ xs, ∀ s, I s → (∃ s', f s x = .ok (.nx s') ∧ I s') ∨ ∃ r o, f s x = .ok (.rt r o) ∧ Q r o) → (∃ s', (forM xs s f : R (Ct S L)) = .ok (.nx s') ∧ I s') ∨ ∃ r o, (forM xs s f : R (Ct S L)) = .ok (.rt r o) ∧ Q r o
  | [], s, h0, _ => .inl ⟨s, rfl, h0⟩
  | x :: xs, s, h0, h => by
    rcases h x List.mem_cons_self s h0 with ⟨s1, h1, h2⟩ | ⟨r, o, h1, h2⟩
    · rcases forM_rt I Q xs s1 h2 fun y hy => h y (List.mem_cons_of_mem _ hy) with ⟨s2, h3, h4⟩ | ⟨r, o, h3, h4⟩
      · refine .inl ⟨s2, ?_, h4⟩
        show ((f s x).bind _) = _
        rw [h1]; exact h3
      · refine .inr ⟨r, o, ?_, h4⟩
        show ((f s x).bind _) = _
        rw [h1]; exact h3
    · refine .inr ⟨r, o, ?_, h2⟩
      show ((f s x).bind _) = _
      rw [h1]; rfl
theorem for_outDO2 {f : S → D → R (Ct S S)} {k : S → R (Ct (List D) Empty)} {xs : List D} {s : S} {P : R (D × List D) → Prop} (I : S → Prop) (Q : Rv → List D → Prop) (h0 : I s) (h : ∀ x ∈ xs, ∀ s, I s → (∃ s', f s x = .ok (.nx s') ∧ I s') ∨ ∃ r o, f s x = .ok (.rt r o) ∧ Q r o) (hk : ∀ s, I s → P (outDO (k s))) (hr : ∀ r o, Q r o → P (outDO (.ok (.rt r o)))) : P (outDO (sq (forM xs s f) k)) := by
  rcases forM_rt (L := Empty) I Q xs s h0 h with ⟨s', e, i⟩ | ⟨r, o, e, i⟩
  · rw [e]; exact hk s' i
  · rw [e]; exact hr r o i
theorem for_out2 {f : S → D → R (Ct S S)} {k : S → R (Ct Unit Empty)} {xs : List D} {s : S} {P : R D → Prop} (I : S → Prop) (Q : Rv → List D → Prop) (h0 : I s) (h : ∀ x ∈ xs, ∀ s, I s → (∃ s', f s x = .ok (.nx s') ∧ I s') ∨ ∃ r o, f s x = .ok (.rt r o) ∧ Q r o) (hk : ∀ s, I s → P (outD (k s))) (hr : ∀ r o, Q r o → P (outD (.ok (.rt r o)))) : P (outD (sq (forM xs s f) k)) := by
  rcases forM_rt (L := Empty) I Q xs s h0 h with ⟨s', e, i⟩ | ⟨r, o, e, i⟩
  · rw [e]; exact hk s' i
  · rw [e]; exact hr r o i
/-- .. that holds nothing -/
theorem forM_unit {f : Unit → D → R (Ct Unit Unit)} (xs : List D) (h : ∀ x ∈ xs, f () x = .ok (.nx ())) : (forM xs () f : R (Ct Unit L)) = .ok (.nx ()) := by
  obtain ⟨_, h, _⟩ := forM_inv (L := L) (fun _ => True) xs () trivial (f := f) fun x hx _ _ => ⟨(), h x hx, trivial⟩
  exact h
/-- .. that is left at the first find -/
theorem forM_find {f : Unit → D → R (Ct Unit Unit)} {e : α → D} (p : α → Bool) (r : α → Rv) : ∀ (xs : List α), (∀ x ∈ xs, f () (e x) = if p x = true then .ok (.rt (r x) []) else .ok (.nx ())) → (forM (xs.map e) () f : R (Ct Unit L)) = match xs.find? p with
    | some x => .ok (.rt (r x) [])
    | none => .ok (.nx ())
  | [], _ => rfl
  | x :: xs, h => by
    show ((f () (e x)).bind _) = _
    rw [h x List.mem_cons_self, List.find?_cons]
    cases hp : p x with
    | true => rfl
    | false => exact forM_find p r xs fun y hy => h y (List.mem_cons_of_mem _ hy)
theorem whileM_inv {t : S → R Bool} {f : S → R (Ct S S)} (I : S → Prop) (μ : S → Nat) (p : S → Bool) (ht : ∀ s, I s → t s = .ok (p s)) (hf : ∀ s, I s → p s = true → ∃ s', f s = .ok (.nx s') ∧ I s' ∧ μ s' < μ s) : ∀ (n : Nat) (s : S), I s → μ s < n → ∃ s', (whileM n s t f : R (Ct S L)) = .ok (.nx s') ∧ I s' ∧ p s' = false
  | 0, s, _, h => by omega
  | n + 1, s, h0, h => by
    cases hp : p s with
    | false =>
      refine ⟨s, ?_, h0, hp⟩
      show ((t s).bind _) = _
      rw [ht s h0, hp]; rfl
    | true =>
      obtain ⟨s1, h1, h2, h3⟩ := hf s h0 hp
      obtain ⟨s2, h4, h5⟩ := whileM_inv I μ p ht hf n s1 h2 (by omega)
      refine ⟨s2, ?_, h5⟩
      show ((t s).bind _) = _
      rw [ht s h0, hp]
      show ((f s).bind _) = _
      rw [h1]; exact h4
/-- one of three -/
theorem pick3 (x y z : D) (c : Int) : ∃ v, ixD (.list [x, y, z]) (.int (c % 3)) = .ok v ∧ (v = x ∨ v = y ∨ v = z) := by
  have h1 := Int.emod_nonneg c (b := 3) (by decide)
  have h2 := Int.emod_lt_of_pos c (b := 3) (by decide)
  have h3 : c % 3 = 0 ∨ c % 3 = 1 ∨ c % 3 = 2 := by omega
  rcases h3 with h | h | h <;> rw [h]
  · exact ⟨x, ixD_l0 _ _, .inl rfl⟩
  · exact ⟨y, ixD_l1 _ _ _, .inr (.inl rfl)⟩
  · refine ⟨z, ?_, .inr (.inr rfl)⟩
    exact ixD_l id (xs := [x, y, z]) (i := ((2 : Nat) : Int)) (atI_nat (j := 2) rfl)
theorem sgn_sum (l : List Int) : ((l.map fun x => decide (0 < x)).map fun b => if b = true then (1 : Int) else 0).sum = cntP l := by
  induction l with
  | nil => rfl
  | cons x l ih =>
    rw [cntP_cons, List.map_cons, List.map_cons, List.sum_cons, ih]
    unfold sgn
    by_cases hx : 0 < x
    · rw [if_pos (by simpa using hx), if_pos hx]
    · rw [if_neg (by simpa using hx), if_neg hx]
/-- a test that always holds says no -/
theorem ifB {b c : Prop} [Decidable b] [Decidable c] {x y : R α} (h : b ↔ c) : (if b then x else y) = if c then x else y := by
  by_cases hb : b
  · rw [if_pos hb, if_pos (h.mp hb)]
  · rw [if_neg hb, if_neg fun hc => hb (h.mpr hc)]
end
end Kn

namespace Kn
open PySem PySem.Spec PyProof.Rows L2
/-! ### own exceptions: raised -/
abbrev bmVE : List Value := [.type "ValueError", .type "Exception", .type "BaseException", .type "object"]
structure ExcF (K : PySem.W.Frag) (mg : Str → Option Value) (CA : Str → Addr) (x : Str) : Prop where
  g : mg x = some (.ref (CA x))
  q : PySem.W.excIn K (CA x) bmVE "ValueError.__new__" = true
  k : PySem.W.keepIn K (.ref (CA x)) = true
  b : PySem.W.subIn K (.ref (CA x)) (.type "BaseException") = some true
  t : PySem.W.typeIn K (.ref (CA x)) = some (.type "type")
def tRz (C : Addr) (W : WX) : TS := fun _ σ H => W (.ref C) none σ H
theorem ps_rz {X : Cx} {W : WX} {CA : Str → Addr} {x m : Str} {j : Nat} {p p2 pos pos' : Pos} (hc : X.calm = true) (tk : Takes X W) (F : ExcF X.K X.mg CA x) (hg : Gl X x) (hdb : (x == ("__debug__" : Str)) = false := by decide) :
    PS X (.Raise (some (.Call (.Name x p) [.Constant (.str m) j p2] [] pos)) none pos') (tRz (CA x) W) :=
  ps_raise hc tk (pmk_own PySem.F.excBase_ValueError F.q F.g F.k (raises_own F.b F.t) hg (hdb := hdb))
section
variable {N L : Type} {z : Rz} {ρ : En} {eN : N → Addr → En} {eL : L → Addr → En}
theorem m_rz {x : Str} {m : R (Ct N L)} (hw : Wk ρ z.rx) (hM : m = .ex ⟨x, []⟩ := by rfl) : SvM z (tRz (z.CA x) z.W) ρ m eN eL := fun G H σ e st nd D h => by
  subst hM
  exact h (.ref (z.CA x)) none G H σ (Ext.refl e) (hw.st st) ⟨rfl, .inl ⟨rfl, rfl⟩⟩
end
/-! ### an object that stood before is tracked -/
theorem Inv.track {X : Cx} {pins : List (Addr × Obj)} {σ : L2.St} {H : Hp} {s : Shared} {a : Addr} {oe : Obj} {o : HO} (I : Inv X pins σ H s) (ha : s.heap.get? a = some oe) (nc : ∀ v, oe.data ≠ .cell v) (na : H a = none) (nL : a ≠ X.env.locals)
    (n0 : X.s_0.heap.get? a = none) (np : ∀ p ∈ X.pn ++ pins, p.1 ≠ a) (ho : ObjOk X.prog X.w (upd H a o) s.heap a o) : Inv X pins σ (upd H a o) s where
  ok := I.ok
  os := I.os
  bare := I.bare
  base := by
    have ne : ∀ {b : Addr} {ob : Obj}, X.s_0.heap.get? b = some ob → b ≠ a := fun q z => by rw [z, n0] at q; cases q
    have nh : ∀ {b : Addr} {u : HO}, H b = some u → b ≠ a := fun q z => by rw [z, na] at q; cases q
    refine ⟨I.base.keep, I.base.slot, fun b ob q n hx => ?_, I.base.there, fun b xs q => ?_, fun b ob u q => ?_, fun b ps q => ?_⟩
    · rw [upd_ne (ne q)]; exact I.base.free b ob q n hx
    · have h1 := I.base.tups b xs q; rw [upd_ne (nh h1)]; exact h1
    · have h1 := I.base.frzs b ob u q; rw [upd_ne (nh h1)]; exact h1
    · obtain ⟨more, h1⟩ := I.base.tbls b ps q
      exact ⟨more, by rw [upd_ne (nh h1)]; exact h1⟩
  loc := I.loc
  cell := I.cell
  free := by rw [upd_ne (Ne.symm nL)]; exact I.free
  freeC := fun y c e => by
    have hne : c ≠ a := fun z => by
      obtain ⟨v, ob, q, d⟩ := I.cell y c e
      rw [z, ha] at q
      cases q
      exact nc v (by first | exact d | exact d.2)
    rw [upd_ne hne]; exact I.freeC y c e
  pin := fun p hp => by
    obtain ⟨h1, h2, h3⟩ := I.pin p hp
    exact ⟨h1, by rw [upd_ne (np p hp)]; exact h2, h3⟩
  hok := fun b u e => by
    by_cases hb : b = a
    · subst hb; rw [upd_same] at e; cases e; exact ho
    · rw [upd_ne hb] at e
      exact (I.hok b u e).stay (fun c v _ q => q) (fun c q => by rw [upd_ne (ne_of_none q na)]; exact q) fun c xs q => by rw [upd_ne (ne_of_none q na)]; exact q
  len := I.len
theorem excO_ok {P : Program} {w : World} {H : Hp} {h : Heap} {a C : Addr} {d : Option Addr} {oe : Obj} {vs : Array Value} (ha : h.get? a = some oe) (hz : Zc (.ref C) d oe) (hd : oe.data = .fields vs) : ObjOk P w H h a (ExcO a C d) :=
  ⟨⟨oe, vs, ha, hz, hd⟩, ⟨oe, ha⟩, fun h1 h2 ⟨o, v, q1, q2, q3⟩ k => ⟨o, v, k o q1, q2, q3⟩⟩
/-! ### try: .. except X as n: m = n -/
def wSet (K : PySem.W.Frag) (c : Value) (i j : Nat) (D : Ends) : WX := fun cls d σ H =>
  ∃ C : Addr, cls = .ref C ∧ PySem.W.exmOne K cls c = some true ∧ ∀ a, H a = none → D.nx (((σ.set i (some (.ref a))).set j (some (.ref a))).set i none) (upd H a (ExcO a C d))
def tTry (K : PySem.W.Frag) (c : Value) (i j : Nat) (tb : WX → TS) : TS := fun D σ H => tb (wSet K c i j D) D σ H
theorem Inv.suitePin {X : Cx} {pins pn2 : List (Addr × Obj)} {σ : L2.St} {H : Hp} {s : Shared} {a : Addr} {q : Addr × Obj} (I : Inv (X.suite a (q :: (X.pn ++ pins))) pn2 σ H s) (ok : X.Ok) : Inv X (q :: pins) σ H s :=
  ⟨ok, I.os, I.bare, I.base, I.loc, I.cell, I.free, I.freeC, fun p hp => I.pin p (List.mem_append_left _ (by
    rcases List.mem_append.mp hp with h | h
    · exact List.mem_cons_of_mem _ (List.mem_append_left _ h)
    · rcases List.mem_cons.mp h with h | h
      · rw [h]; exact List.mem_cons_self
      · exact List.mem_cons_of_mem _ (List.mem_append_right _ h))), I.hok, I.len⟩
theorem Inv.dropPin {X : Cx} {pins : List (Addr × Obj)} {σ : L2.St} {H : Hp} {s : Shared} {q : Addr × Obj} (I : Inv X (q :: pins) σ H s) : Inv X pins σ H s :=
  ⟨I.ok, I.os, I.bare, I.base, I.loc, I.cell, I.free, I.freeC, fun p hp => I.pin p (by
    rcases List.mem_append.mp hp with h | h
    · exact List.mem_append_left _ h
    · exact List.mem_append_right _ (List.mem_cons_of_mem _ h)), I.hok, I.len⟩
section
variable {X : Cx} {x n : Str} {c : Value} {i j : Nat} {body suite : List Stmt} {b₀ : Stmt} {np pos pos' : Pos} {tb : WX → TS}
theorem ps_trySet (noex : X.ex = []) (same : X.stack = X.env :: X.outer) (frame : X.env.frame = some X.env.locals) (dis : X.N.Nodup) (at_n : X.N[i]? = some n) (loc_n : X.env.kindOf n = some .local) (cls_x : Names X x c)
    (walk : ∀ (W : WX) (pn : List (Addr × Obj)) (xe : Value → Shared → Prop), Takes (X.tr pn xe) W → PassesOwn (model X.prog X.w) X.A X.env xe → PSs (X.tr pn xe) body (tb W))
    (keep : ∀ (a : Addr) (pn : List (Addr × Obj)) (pins : List (Addr × Obj)) (s : Shared) (σ : L2.St) (H : Hp), Inv (X.suite a pn) pins σ H s → σ[i]? = some (some (.ref a)) →
      wpAny (model X.prog X.w) (X.suite a pn).A (execs (b₀ :: suite) X.env) (fun f s2 => f = .next ∧ Inv (X.suite a pn) pins (σ.set j (some (.ref a))) H s2) (X.suite a pn).xe s) :
    PS X (.Try body [.ExceptHandler (some (.Name x np)) (some n) (b₀ :: suite) pos'] [] [] pos) (tTry X.K c i j tb) := by
  constructor
  intro pins s σ H D I want
  have ok := I.ok
  have frames : X.A.frames = some (X.env :: X.outer) := by rw [ok.frames, same]
  refine wpAny_Try_except ?_
  have run := (walk (wSet X.K c i j D) (X.pn ++ pins) (fun e s1 => wpAny (model X.prog X.w) X.A (noteFrame e X.env) (fun _ s2 => wpAny (model X.prog X.w) X.A (setFlight e none) (fun _ s3 =>
    wpAny (model X.prog X.w) X.A (handleBy e X.env [.ExceptHandler (some (.Name x np)) (some n) (b₀ :: suite) pos']) (SP X pins D) X.xe s3) X.xe s2) X.xe s1) ?caught PassesOwn.looking).run [] s σ H D (I.toTry _) want
  case caught =>
    rintro u s2 ⟨a, B, sI, pins2, σ2, H2, cls, d, rfl, J0, nb, up, sky, na, os, ag, C, rfl, hb1, hyes⟩
    have J : Inv X pins σ2 H2 sI := J0.ofTry ok
    rw [show (X.tr (X.pn ++ pins) _).stack = X.env :: X.outer from same] at sky
    show wpAny (model X.prog X.w) X.A (noteFrame (.ref a) X.env) _ _ _
    refine Sky.land Zc.steady frames frame sky ?_
    intro h3 fl3 up3
    have J3 : Inv X pins σ2 H2 { s2 with heap := h3 } := J.landed nb fl3.1 (up.trans up3) os ag
    obtain ⟨oe3, vs3, he3, hz3, hd3⟩ := fl3.there
    have off : ∀ {h : Heap} {o : Obj} {vs : Array Value}, h.FunFrames B (X.env :: X.outer) → h.get? a = some o → o.data = .fields vs → a ∉ frs (X.env :: X.outer) := by
      intro h o vs ff e dd hm
      obtain ⟨_, o2, e2, no⟩ := ff.mem hm
      rw [e] at e2
      cases e2
      exact no _ dd
    have nfr := off fl3.2.2.1 he3 hd3
    have nL : a ≠ X.env.locals := by
      intro z
      exact nfr (List.mem_filterMap.mpr ⟨X.env, List.mem_cons_self, by rw [frame, z]⟩)
    have nF : a ∉ X.fs := by
      intro hm
      obtain ⟨e, he, q⟩ := List.mem_filterMap.mp hm
      exact nfr (List.mem_filterMap.mpr ⟨e, List.mem_cons_of_mem _ he, q⟩)
    have nS : a ∉ frs X.stack := by rw [same]; exact nfr
    have noB : B.get? a = none := fl3.2.1
    have n0 : X.s_0.heap.get? a = none := by
      cases e : X.s_0.heap.get? a with
      | none => rfl
      | some o =>
        by_cases hx : a ∈ X.ex
        · rw [noex] at hx; cases hx
        · obtain ⟨o2, e2⟩ := J.base.there a o e hx
          rw [nb a o2 e2 nS] at noB
          cases noB
    have np2 : ∀ p ∈ X.pn ++ pins, p.1 ≠ a := by
      intro p hp z
      have e := (J.pin p hp).1
      rw [z] at e
      rw [nb a p.2 e nS] at noB
      cases noB
    have S3 := J3.suite he3 hd3 na nL nF
    refine wpAny_handleBy_cons (codeAny_handlers_test ?_) (by intro q; cases q)
    have type_a : PySem.W.Looks (model X.prog X.w) h3 (typeOf (.ref a)) (.ref C) := fun A Q E s k q => wpAny_typeOf_ref (k _ _ he3) (by rw [hz3.1]; exact q)
    have match_a := PySem.W.exm_one (M := model X.prog X.w) (J3.kIn) type_a hb1
    have test : ∀ {Q : Value → Shared → Prop} {E : Value → Shared → Prop}, Q c { s2 with heap := h3 } → wpAny (model X.prog X.w) (X.A.mark (some (.ref a))) (eval (.Name x np) X.env) Q E { s2 with heap := h3 } := by
      intro Q E q
      obtain ⟨hg, hdbg, hm | ⟨hm, hv, hnn⟩⟩ := cls_x
      · exact ld_glob (X := X.suite a ((a, oe3) :: (X.pn ++ pins))) S3 hg hm q hdbg
      · exact ld_blt (X := X.suite a ((a, oe3) :: (X.pn ++ pins))) S3 hg hm hv q hnn hdbg
    refine test (match_a.here ?_)
    refine codeAny_handlers_suite_as ?_
    refine HandSPX.lands_againZ fl3 ?_
    intro h4 fl4 up4
    have J4 : Inv X pins σ2 H2 { s2 with heap := h4 } := J.landed nb fl4.1 ((up.trans up3).trans up4) os ag
    obtain ⟨oe4, vs4, he4, hz4, hd4⟩ := fl4.there
    have S4 := J4.suite he4 hd4 na nL nF
    have hi2 : i < σ2.length := by rw [J.len]; exact (List.getElem?_eq_some_iff.mp at_n).1
    refine store_ok (X := X.suite a ((a, oe4) :: (X.pn ++ pins))) (v := .ref a) S4 dis at_n (.inl loc_n) rfl ?_ (.inr loc_n)
    intro s5 S5
    refine wpAny_mono (keep a _ [] s5 _ H2 S5 (List.getElem?_set_self hi2)) ?_ (fun _ _ z => False.elim z)
    rintro f s6 ⟨rfl, S6⟩
    refine gone_ok (Kn.Inv.suitePin S6 ok) dis at_n loc_n ?_
    intro s7 J7
    have pin7 := (J7.pin (a, oe4) (List.mem_append_right _ List.mem_cons_self))
    have nc : ∀ v, oe4.data ≠ .cell v := fun v z => by rw [hd4] at z; cases z
    exact ⟨_, _, Kn.Inv.track (Kn.Inv.dropPin J7) pin7.1 nc na nL n0 np2 (excO_ok pin7.1 hz4 hd4), hyes a na⟩
  refine wpAny_mono run ?_ (fun _ _ z => z)
  rintro (_ | _ | _ | u) s2 z
  all_goals first
    | exact (let ⟨_, _, J, q⟩ := z; wpAny_execs_nil ⟨_, _, Inv.ofTry J ok, q⟩)
    | exact (let ⟨_, _, J, q⟩ := z; ⟨_, _, Inv.ofTry J ok, q⟩)
    | exact (let ⟨_, _, _, J, rv, q⟩ := z; ⟨_, _, _, Inv.ofTry J ok, rv, q⟩)
end
/-- the suite's own statement: m = n -/
theorem keep_asg {X : Cx} {i j : Nat} {body : List Stmt} (asg : ∀ (a : Addr) (pn : List (Addr × Obj)), PSs (X.suite a pn) body (tSeq (tAsg (tVar i) (gName j)) tNext)) :
    ∀ (a : Addr) (pn : List (Addr × Obj)) (pins : List (Addr × Obj)) (s : Shared) (σ : L2.St) (H : Hp), Inv (X.suite a pn) pins σ H s → σ[i]? = some (some (.ref a)) →
      wpAny (model X.prog X.w) (X.suite a pn).A (execs body X.env) (fun f s2 => f = .next ∧ Inv (X.suite a pn) pins (σ.set j (some (.ref a))) H s2) (X.suite a pn).xe s := by
  intro a pn pins s σ H I hσ
  have r := (asg a pn).run pins s σ H { nx := fun σ2 H2 => σ2 = σ.set j (some (.ref a)) ∧ H2 = H, rt := fun _ _ => False } I ⟨_, hσ, rfl, rfl⟩
  refine wpAny_mono r ?_ (fun _ _ z => z)
  rintro (_ | _ | _ | u) s2 z
  · obtain ⟨_, _, J, rfl, rfl⟩ := z
    exact ⟨rfl, J⟩
  · exact (let ⟨_, _, _, q⟩ := z; q.elim)
  · exact (let ⟨_, _, _, q⟩ := z; q.elim)
  · exact (let ⟨_, _, _, _, _, q⟩ := z; q.elim)
/-! ### the mirror of try -/
def tryM {N L : Type} (names : List Str) (mb : R (Ct N L)) (f : Xc → N) : R (Ct N L) := match mb with
  | .ok c => .ok c
  | .ex e => if e.cls ∈ names then .ok (.nx (f e)) else .bad
  | .bad => .bad
def excD (CA : Str → Addr) (e : Xc) : D := .dict ((.str e.cls, .int (CA e.cls)) :: e.fd)
section
variable {N L : Type} {z : Rz} {ρ : En} {eN : N → Addr → En} {eL : L → Addr → En}
theorem dq_exc {CA : Str → Addr} {G : Hp} {H : Hp} {a : Addr} {d : Option Addr} {e : Xc} {cls : Value} (x : Ex G H) (ha : H a = none) (h : EOk CA G cls d e) : Dq (upd G a (ExcO a (CA e.cls) d)) (.ref a) (excD CA e) := by
  obtain ⟨_, h⟩ := h
  rcases h with ⟨rfl, hf⟩ | ⟨dd, ws, rfl, hd, hw⟩
  · unfold excD Xc.fd
    rw [hf]
    exact .exc upd_same
  · have hne : dd ≠ a := fun q => by
      have := x _ _ hd
      rw [q, ha] at this; cases this
    exact .excF upd_same (by rw [upd_ne hne]; exact hd) (dqf_mono (Ex.new (x.none ha)) hw)
theorem m_try {K : PySem.W.Frag} {c : Value} {i j : Nat} {names : List Str} {rx : En} {f : Xc → N} {ρ2 : D → En} {tb : WX → TS} {mb m : R (Ct N L)} (hE : ∀ x ∈ names, PySem.W.exmOne K (.ref (z.CA x)) c = some true)
    (hk : Wk ρ rx) (hb : ∀ W, SvM ⟨z.CA, W, rx, z.ow⟩ (tb W) ρ mb eN eL) (hr : ∀ d, ((rx.set i .un).set j (.dat d)).set i .un = ρ2 d) (had : ∀ d, adr (ρ2 d) = adr rx) (hw : ∀ e, Wk (ρ2 (excD z.CA e)) (eN (f e) 0))
    (hM : m = tryM names mb f := by rfl) : SvM z (tTry K c i j tb) ρ m eN eL := fun G H σ e st nd D h => by
  subst hM
  refine hb (wSet K c i j D) G H σ e st nd D ?_
  cases mb with
  | bad => exact h
  | ok k => cases k <;> exact h
  | ex x =>
    have h : DOk z eN eL ρ G H D (if x.cls ∈ names then .ok (.nx (f x)) else .bad) := h
    by_cases hx : x.cls ∈ names
    · rw [if_pos hx] at h
      intro cls d G1 H1 σ1 x1 s1 ex
      obtain ⟨rfl, hd⟩ := id ex
      refine ⟨_, rfl, hE _ hx, fun a ha => ?_⟩
      have xo : Ext [] G1 H1 (upd G1 a (ExcO a (z.CA x.cls) d)) (upd H1 a (ExcO a (z.CA x.cls) d)) := Ext.new x1.gh ha
      refine h 0 (ρ2 (excD z.CA x)) _ _ _ ⟨x1.tr xo.up, fun q hq => ?_, ?_, ?_⟩ (hw x)
      · rw [had] at hq
        exact .inl (hk.sub.subset hq)
      · rw [← hr]
        exact StOk.un i (StOk.set (show VOk _ _ (.ref a) (.dat (excD z.CA x)) from dq_exc x1.gh ha ex) j (StOk.un i (s1.mono xo)))
      · rw [had]
        exact nd.sublist hk.sub
    · rw [if_neg hx] at h
      exact h.elim
end
/-! ### isinstance of an exception -/
def rIsX (K : PySem.W.Frag) (u : Value) : List V → Hp → VK → Prop := fun vs H Q => ∃ (a D : Addr) (d : Option Addr) (c : V) (b : Bool), vs = [.ref a, c] ∧ H a = some (ExcO a D d) ∧ (d = none ∨ ∃ dd ws, d = some dd ∧ H dd = some (.xd ws)) ∧ ExcC K D ∧
  (∀ w, RelV c w → w = u) ∧ PySem.W.kitOne K (.ref D) u = some b ∧ Q (.bl b) H
theorem excO_at {P : Program} {w : World} {H : Hp} {h : Heap} {a C : Addr} {d : Option Addr} (hok : HOk P w H h) (ha : H a = some (ExcO a C d)) : ∃ (oe : Obj) (vs : Array Value), h.get? a = some oe ∧ Zc (.ref C) d oe ∧ oe.data = .fields vs := (hok a _ ha).1
theorem inst_exc {P : Program} {w : World} {H : Hp} {h : Heap} {a C : Addr} {d : Option Addr} (hok : HOk P w H h) (ha : H a = some (ExcO a C d)) (hd : d = none ∨ ∃ dd ws, d = some dd ∧ H dd = some (.xd ws)) : ∃ oe od, PySem.W.InstAt h a oe C od := by
  obtain ⟨⟨oc, odc, oda, osl⟩, vs, e, hz, hv⟩ := excO_at hok ha
  obtain ⟨h1, h2⟩ := hz
  dsimp only at h1 h2 hv
  subst h1 h2 hv
  rcases hd with rfl | ⟨dd, ws, rfl, hx⟩
  · exact ⟨_, none, e, rfl, rfl, trivial⟩
  · obtain ⟨mA, ⟨o, es, ep, e1, e2, _⟩, _⟩ := hok dd _ hx
    exact ⟨_, some o, e, rfl, rfl, e1⟩
theorem call_isX {X : Cx} {u : Value} : CallR X (.builtin "isinstance") (rIsX X.K u) := by
  intro pins s σ H xs us Q I r h
  obtain ⟨a, D, d, c, b, rfl, ha, hd, C, hcv, e, q⟩ := h
  cases r with
  | cons rx rr =>
    cases rr with
    | cons rt rr =>
      cases rr
      cases rx
      have ec := hcv _ rt
      subst ec
      obtain ⟨oe, od, J⟩ := inst_exc I.hok ha hd
      have hcl : (PySem.W.clsIn X.K D).isSome = true := by
        have := C.hd
        unfold PySem.W.hasDictIn at this
        cases hq : PySem.W.clsIn X.K D with
        | some _ => rfl
        | none => rw [hq] at this; cases this
      exact PySem.W.kia_one (PySem.W.kitx_exc hcl C.hg C.hk C.hs C.ha C.hn C.ht C.hm) I.kIn J e (fun z => nomatch z) fun tk => ⟨.bl b, H, I.kept (t' := tk) fun _ _ z => z, rfl, q⟩
def isxD (CA : Str → Addr) (tab : List (Str × Bool)) : D → R Bool
  | .dict ((.str n, .int c) :: _) => match tab.lookup n with
    | some b => if c = (CA n : Int) then .ok b else .bad
    | none => .bad
  | _ => .bad
theorem dq_is_exc {G : Hp} {v : V} {n : Str} {c : Int} {fs : List (PyData × PyData)} (h : Dq G v (.dict ((.str n, .int c) :: fs))) : ∃ (a C : Addr) (d : Option Addr), v = .ref a ∧ c = (C : Int) ∧ G a = some (ExcO a C d) ∧ ((d = none ∧ fs = []) ∨ ∃ dd ws, d = some dd ∧ G dd = some (.xd ws) ∧ DqF G ws fs) := by
  cases h with
  | exc h => exact ⟨_, _, none, rfl, rfl, h, .inl ⟨rfl, rfl⟩⟩
  | excF h k hs => exact ⟨_, _, some _, rfl, rfl, h, .inr ⟨_, _, rfl, k, hs⟩⟩
section
variable {S : Type} {z : Rz} {b : Bool} {ρ : S → En} {te : TE} {Ka : {β : Type} → S → (D → S → R β) → R β} {K : PySem.W.Frag}
theorem g_isx {CA : Str → Addr} {tab : List (Str × Bool)} {u : Value} {c : V} (h : GE z b Rv.d te ρ Ka) (hc : ∀ w, RelV c w → w = u) (hT : ∀ q ∈ tab, ExcC K (CA q.1) ∧ PySem.W.kitOne K (.ref (CA q.1)) u = some q.2) :
    GE z b rvB (tCB (rIsX K u) (tCons te (tCons (tC c) tNil))) ρ (fun s k => Ka s fun d s' => (isxD CA tab d).bind fun c => k c s') :=
  gg_map (isxD CA tab) h (fun a e h => by unfold isxD at h; split at h <;> first | cases h | (split at h <;> first | cases h | (split at h <;> cases h))) (fun _ d _ r h1 e => by
    unfold isxD at e
    split at e
    · rename_i n k fs
      split at e
      · rename_i v ev
        split at e
        · rename_i hk
          cases e
          have hm : (n, r) ∈ tab := by
            clear hT
            induction tab with
            | nil => cases ev
            | cons q tab ih =>
              obtain ⟨m, b⟩ := q
              rw [List.lookup_cons] at ev
              by_cases hq : n = m
              · subst hq
                simp at ev
                rw [ev]; exact List.mem_cons_self
              · rw [show (n == m) = false from beq_eq_false_iff_ne.mpr hq] at ev
                exact List.mem_cons_of_mem _ (ih ev)
          obtain ⟨t1, t2⟩ := hT _ hm
          refine ev_cb (ea_d h1 (ea_v ev_c ea_nil)) (rc_val fun G H σ vs e hv Q q => ?_)
          cases hv with
          | cons h1 t => cases t with
            | cons h2 t =>
              cases t
              have h2' : _ = c := h2
              subst h2'
              obtain ⟨a, C, d, rfl, hC, hG, hd⟩ := dq_is_exc h1
              have hC : C = CA n := by rw [hk] at hC; exact (Int.ofNat.inj hC).symm
              subst hC
              refine ⟨a, _, d, _, _, rfl, e _ _ hG, ?_, t1, hc, t2, q _ (.bl _)⟩
              rcases hd with ⟨h, _⟩ | ⟨dd, ws, h, h', _⟩
              · exact .inl h
              · exact .inr ⟨dd, ws, h, e _ _ h'⟩
        · cases e
      · cases e
    · cases e) (fun _ _ h => ee_1 (fun σ (Q : VK) (x : V) (H1 : Hp) => rIsX K u [x, c] H1 Q) h)
end
/-! ### error.f -/
def isF (f : Str) : PyData → Bool
  | .str g => decide (f = g)
  | _ => false
def atxD (CA : Str → Addr) (names : List Str) (f : Str) : D → R D
  | .dict ((.str n, .int c) :: fs) => if n ∈ names ∧ c = (CA n : Int) then match fs.find? (fun q => isF f q.1) with
    | some q => .ok q.2
    | none => .bad else .bad
  | _ => .bad
def tXfT (K : PySem.W.Frag) (f : Str) (te : TE) : TE := fun σ H Q => te σ H fun x H1 => ∃ (a C dd : Addr) (ws : List (Str × V)) (v : V), x = .ref a ∧ H1 a = some (ExcO a C (some dd)) ∧ H1 dd = some (.xd ws) ∧ XfC K C ∧ PySem.W.findIn K (.ref C) f = some none ∧ ws.lookup f = some v ∧ Q v H1
theorem pe_xfT {X : Cx} {e : Expr} {te : TE} {pos : Pos} {n : Str} (he : PE X e te) (hb : attributeBase e n X.env (eval e X.env) = eval e X.env := by rfl) : PE X (.Attribute e n pos) (tXfT X.K n te) := by
  refine ⟨fun pins s σ H Q I h => ?_⟩
  refine attr_of hb (thn (he.run pins s σ H _ I h) ?_)
  rintro u s1 ⟨x, H1, I1, rx, a, C, dd, ws, v, rfl, ha, hd, T, hno, l, q⟩
  obtain rfl : u = Value.ref a := rx
  obtain ⟨⟨oc, odc, oda, osl⟩, vs, e1, hz, hv⟩ := excO_at I1.hok ha
  obtain ⟨h1, h2⟩ := hz
  dsimp only at h1 h2 hv
  subst h1 h2 hv
  obtain ⟨mA, hns, hr⟩ := I1.hok dd _ hd
  obtain ⟨od, ho, hl⟩ := lookIn_ns hns
  obtain ⟨w, hu, ru⟩ := RelO.some_of (v := v) (o := mA n) (by rw [← l]; exact hr n)
  have J : PySem.W.InstAt s1.heap a _ C (some od) := ⟨e1, rfl, rfl, ho⟩
  exact HandSPX.exc_get I1.kIn J T.ga T.gg T.exC (PySem.W.findObj_own T.hdC hno rfl (by rw [hl, hu])) (handed_of ru) ⟨v, H1, I1.tok _, ru, q⟩
theorem dqf_find {G : Hp} {f : Str} : ∀ {ws : List (Str × V)} {fs : List (PyData × PyData)} {q : PyData × PyData}, DqF G ws fs → fs.find? (fun q => isF f q.1) = some q → ∃ v, ws.lookup f = some v ∧ Dq G v q.2
  | _, _, _, .nil, h => by cases h
  | _, _, q, .cons (f := g) (v := v) (d := d) (ws := ws) (fs := fs) hd hs, h => by
    rw [List.find?_cons] at h
    rw [List.lookup_cons]
    by_cases hg : f = g
    · subst hg
      rw [show isF f (((PyData.str f, d) : PyData × PyData).1) = true from decide_eq_true rfl] at h
      cases h
      exact ⟨v, by simp, hd⟩
    · rw [show isF f (((PyData.str g, d) : PyData × PyData).1) = false from decide_eq_false hg] at h
      rw [show (f == g) = false from beq_eq_false_iff_ne.mpr hg]
      exact dqf_find hs h
section
variable {S : Type} {z : Rz} {b : Bool} {ρ : S → En} {te : TE} {Ka : {β : Type} → S → (D → S → R β) → R β} {K : PySem.W.Frag}
theorem g_atx {CA : Str → Addr} {names : List Str} {f : Str} (h : GE z b Rv.d te ρ Ka) (hT : ∀ x ∈ names, XfC K (CA x) ∧ PySem.W.findIn K (.ref (CA x)) f = some none) :
    GE z b Rv.d (tXfT K f te) ρ (fun s k => Ka s fun d s' => (atxD CA names f d).bind fun c => k c s') :=
  gg_map (atxD CA names f) h (fun a e h => by unfold atxD at h; split at h <;> first | cases h | (split at h <;> first | cases h | (split at h <;> cases h))) (fun _ d _ r h1 e => by
    unfold atxD at e
    split at e
    · rename_i n k fs
      split at e
      · rename_i hn
        split at e
        · rename_i q eq
          cases e
          obtain ⟨t1, t2⟩ := hT _ hn.1
          intro G H σ ex st nd Q qq
          refine h1 G H σ ex st nd _ fun v G1 H1 x1 s1 a1 k1 => ?_
          obtain ⟨a, C, d, rfl, hC, hG, hd⟩ := dq_is_exc (show Dq G1 v _ from k1)
          have hC : C = CA n := by rw [hn.2] at hC; exact (Int.ofNat.inj hC).symm
          subst hC
          rcases hd with ⟨rfl, rfl⟩ | ⟨dd, ws, rfl, h', hw⟩
          · cases eq
          · obtain ⟨v, hv1, hv2⟩ := dqf_find hw eq
            exact ⟨a, _, dd, ws, v, rfl, x1.gh _ _ hG, x1.gh _ _ h', t1, t2, hv1, qq _ _ _ x1 s1 a1 hv2⟩
        · cases e
      · cases e
    · cases e) (fun _ _ h => ee_1 (fun σ (Q : VK) (x : V) (H1 : Hp) => ∃ (a C dd : Addr) (ws : List (Str × V)) (v : V), x = .ref a ∧ H1 a = some (ExcO a C (some dd)) ∧ H1 dd = some (.xd ws) ∧ XfC K C ∧ PySem.W.findIn K (.ref C) f = some none ∧ ws.lookup f = some v ∧ Q v H1) h)
end
theorem bt_ValueError : bootBuiltins "ValueError" = some (.type "ValueError") := by decide +kernel
end Kn

namespace Kn
open PySem PySem.Spec PyProof.Rows L2
/-! ### own exceptions with fields -/
structure BaseF (K : PySem.W.Frag) (C : Addr) : Prop where
  sg : PySem.W.specialIn K (.ref C) "__getattribute__" = some (some (.builtin "type.__getattribute__"))
  ty : PySem.W.typeIn K (.ref C) = some (.type "type")
  rd : PySem.W.readsIn K C (.type "type") = true
  fc : PySem.W.findCls K (.ref C) (.type "type") "__init__" = some (.val (.builtin "ValueError.__init__"))
theorem pe_kinit {X : Cx} {x : Str} {C : Addr} {e : Expr} {es : List Expr} {ta : TA} {p1 p2 pos : Pos} {pl : Sem Bool} (hg : Gl X x) (hm : X.mg x = some (.ref C)) (B : BaseF X.K C) (ha : PA X (e :: es) ta) (hdb : (x == ("__debug__" : Str)) = false := by decide)
    (hc : eval (.Call (.Attribute (.Name x p1) "__init__" p2) (e :: es) [] pos) X.env = (do
      let ov ← eval (.Name x p1) X.env
      standAt p2.atName
      let (f, first) ← holding [ov] (getMethod ov "__init__" pl)
      callWith pos f first (backTo pos (starEach (e :: es) X.env)) (backToKw pos (keywordEach [] X.env))) := by rfl)
    (he : starEach (e :: es) X.env = (false, eval e X.env) :: starEach es X.env := by rfl) (hpl : (backTo pos (starEach es X.env)).any (·.1) = false := by rfl) :
    PE X (.Call (.Attribute (.Name x p1) "__init__" p2) (e :: es) [] pos) (tVeI X.K ta) := by
  constructor
  intro pins s σ H Q I want
  refine PySem.W.methodCall_KW (ld_glob I hg hm ?_ hdb) hc
  obtain ⟨m, fr⟩ := I.fr
  refine PySem.W.method_of_cls fr I.ok.mod.kin B.sg (PySem.W.cls_val fr I.ok.mod.kin B.ty B.rd B.fc (by decide +kernel) ?_)
  show wpAny _ _ (callWith pos (Value.builtin "ValueError.__init__") [] (backTo pos (starEach (e :: es) X.env)) []) _ _ _
  refine PyProof.Rows.callWith_method1 (thn (ha.run pos pins _ σ H _ (I.tok _) want) ?_) he hpl
  rintro us s1 ⟨vs, H1, I1, rel, a, C1, ws, rfl, hl, T, ea, q⟩
  cases rel with
  | cons ra rest =>
    cases ra
    refine oinit_ok T I1 ea ?_ (fun s2 J => ⟨.non, H1, J, rfl, q⟩)
    rw [← Paired.length rest, sizeLine_eq]
    omega
/-! ### __init__ of one field, of three -/
def sp1 (C : Addr) (f : Str) : Sp := fun vs H Q _ => ∃ (a : Addr) (x : V), vs = [.ref a, x] ∧ H a = some (exo a C none) ∧ ∀ dx, H dx = none → dx ≠ a → Q .non (upd (upd H dx (exd dx [(f, x)])) a (exo a C (some dx)))
def sp3 (C : Addr) (f g k : Str) : Sp := fun vs H Q _ => ∃ (a : Addr) (x y z : V), vs = [.ref a, x, y, z] ∧ H a = some (exo a C none) ∧ ∀ dx, H dx = none → dx ≠ a →
  Q .non (upd (upd (upd (upd H dx (exd dx [(f, x)])) a (exo a C (some dx))) dx (exd dx [(g, y), (f, x)])) dx (exd dx [(k, z), (g, y), (f, x)]))
theorem init1 {K : PySem.W.Frag} {C : Addr} {f m : Str} {N : List Str} {vs : List V} {H : Hp} {Q : VK} {E : XK} (T : OexC K C) (hno : PySem.W.findIn K (.ref C) f = some none) (h : sp1 C f vs H Q E) :
    tSeq (tDrop (tVeI K (tCons (tVar 0) (tCons (tC (.str m)) tNil)))) (tSeq (tOst K f (tVar 0) (tVar 1)) tNext) { nx := fun _ H' => Q .non H', rt := Q } (start N vs) H := by
  obtain ⟨a, x, rfl, ha, h⟩ := h
  exact ⟨.ref a, rfl, a, C, [.str m], rfl, Nat.le_of_ble_eq_true rfl, T, ha, ⟨x, rfl, ⟨.ref a, rfl, a, C, rfl, T, hno, .inl ⟨ha, fun dx h1 h2 => h dx h1 h2⟩⟩⟩⟩
theorem init3 {K : PySem.W.Frag} {C : Addr} {f g k m : Str} {N : List Str} {vs : List V} {H : Hp} {Q : VK} {E : XK} (T : OexC K C) (hf : PySem.W.findIn K (.ref C) f = some none) (hg : PySem.W.findIn K (.ref C) g = some none) (hk : PySem.W.findIn K (.ref C) k = some none) (h : sp3 C f g k vs H Q E) :
    tSeq (tDrop (tVeI K (tCons (tVar 0) (tCons (tC (.str m)) tNil)))) (tSeq (tOst K f (tVar 0) (tVar 1)) (tSeq (tOst K g (tVar 0) (tVar 2)) (tSeq (tOst K k (tVar 0) (tVar 3)) tNext))) { nx := fun _ H' => Q .non H', rt := Q } (start N vs) H := by
  obtain ⟨a, x, y, z, rfl, ha, h⟩ := h
  refine ⟨.ref a, rfl, a, C, [.str m], rfl, Nat.le_of_ble_eq_true rfl, T, ha, ⟨x, rfl, ⟨.ref a, rfl, a, C, rfl, T, hf, .inl ⟨ha, fun dx h1 h2 => ?_⟩⟩⟩⟩
  refine ⟨y, rfl, ⟨.ref a, rfl, a, C, rfl, T, hg, .inr ⟨dx, [(f, x)], upd_same, ?_, Nat.le_of_ble_eq_true rfl, ?_⟩⟩⟩
  · rw [upd_ne h2, upd_same]
  refine ⟨z, rfl, ⟨.ref a, rfl, a, C, rfl, T, hk, .inr ⟨dx, [(g, y), (f, x)], ?_, upd_same, Nat.le_of_ble_eq_true rfl, h dx h1 h2⟩⟩⟩
  rw [upd_ne (Ne.symm h2), upd_same]
/-! ### raise X(e, ..) -/
structure RzF (P : Program) (w : World) (K : PySem.W.Frag) (mg : Str → Option Value) (base : Heap) (CA : Str → Addr) (x : Str) (k : Nat) (ps : List Str) (sp : Sp) (dvs : List V) (fI : Addr) (fd : FuncData) : Prop where
  g : mg x = some (.ref (CA x))
  T : OexC K (CA x)
  iC : PySem.W.findIn K (.ref (CA x)) "__init__" = some (some (.ref fI))
  tI : PySem.W.typeIn K (.ref fI) = some (.type "function")
  F : FnOk P w K mg base CX0 k fI fd ps sp
  b : ∃ ds, Vals dvs ds ∧ Binds K fd ps ds
def tRzF (C : Addr) (sp : Sp) (dvs : List V) (W : WX) (ta : TA) : TS := fun _ σ H => tMkO C sp dvs ta σ H fun cls d H2 => W cls d σ H2
theorem ps_rzF {X : Cx} {W : WX} {CA : Str → Addr} {x : Str} {j k : Nat} {ps : List Str} {sp : Sp} {dvs : List V} {fI : Addr} {fd : FuncData} {p pos pos' : Pos} {e : Expr} {es : List Expr} {ta : TA} (hc : X.calm = true) (tk : Takes X W)
    (R : RzF X.prog X.w X.K X.mg X.base CA x k ps sp dvs fI fd) (hr : RoomG j X.A) (hk : k + 1 ≤ j) (hg : Gl X x) (ha : PA X (e :: es) ta) (hdb : (x == ("__debug__" : Str)) = false := by decide)
    (he : starEach (e :: es) X.env = (false, eval e X.env) :: starEach es X.env := by rfl) (hpl : (backTo pos (starEach es X.env)).any (·.1) = false := by rfl) :
    PS X (.Raise (some (.Call (.Name x p) (e :: es) [] pos)) none pos') (tRzF (CA x) sp dvs W ta) := by
  obtain ⟨ds, h1, h2⟩ := R.b
  exact ps_raise hc tk (pmk_oex R.T R.iC R.tI R.F (hr.mono hk).r h2 h1 pass0 hg R.g ha hdb he hpl)
theorem heap_end {H : Hp} {a dx : Addr} {o u v : HO} (ha : H a = none) (hne : dx ≠ a) (H2 : Hp) (h2 : ∀ b, b ≠ a → b ≠ dx → H2 b = H b) : upd (L2.del H2 a) dx u = upd H dx u := by
  funext b
  by_cases hb : b = dx
  · subst hb; rw [upd_same, upd_same]
  · rw [upd_ne hb, upd_ne hb]
    by_cases hb2 : b = a
    · subst hb2; rw [del_same, ha]
    · rw [del_ne hb2]; exact h2 b hb2 hb
section
variable {S N L : Type} {z : Rz} {b : Bool} {n : Nat} {ρs : S → En} {s0 : S} {ta : TA} {eN : N → Addr → En} {eL : L → Addr → En} {Kl : {β : Type} → S → (List D → S → R β) → R β} {m : R (Ct N L)}
/-- what the arguments come to -/
def rzM {N L : Type} (x : Str) (g : List D → Option (List (Str × D))) (ds : List D) : R (Ct N L) := match g ds with
  | some fs => .ex ⟨x, fs⟩
  | none => .bad
theorem m_rzF {x : Str} {sp : Sp} {dvs : List V} {g : List D → Option (List (Str × D))} (h : GA z b n ta ρs Kl) (hw : ∀ s, Wk (ρs s) z.rx)
    (hsp : ∀ (G H : Hp) (vs : List V) (ds : List D) (fs : List (Str × D)), DqA G vs ds → g ds = some fs → ∀ Q : XK, (∀ dx ws, H dx = none → DqF G ws ((⟨x, fs⟩ : Xc).fd) → Q (.ref (z.CA x)) (some dx) (upd H dx (.xd ws))) →
      vs.length ≤ 1000 ∧ ∀ a, H a = none → sp (.ref a :: (vs ++ dvs)) (upd H a (exo a (z.CA x) none)) (fun v H2 => v = .non ∧ ∃ (d : Addr) (fs : List (Str × V)), H2 a = some (exo a (z.CA x) (some d)) ∧ H2 d = some (exd d fs) ∧ H d = none ∧ Q (.ref (z.CA x)) (some d) (upd (L2.del H2 a) d (.xd fs))) (fun _ _ _ => False))
    (hM : m = Kl s0 (fun ds _ => rzM x g ds) := by rfl) : SvM z (tRzF (z.CA x) sp dvs z.W ta) (ρs s0) m eN eL := fun G H σ e st nd D hD => by
  subst hM
  obtain ⟨m1, e1, e2, e3⟩ := h s0
  have e1 : Kl s0 (fun ds _ => (rzM x g ds : R (Ct N L))) = m1.bind fun q => rzM x g q.1 := e1 _ _
  rw [e1] at hD
  cases hm : m1 with
  | bad => rw [hm] at hD; exact hD.elim
  | ex y =>
    rw [hm] at hD
    exact e3 y hm G H σ e st nd (fun cls d G' H' => hD cls d G' H' σ) _
  | ok q =>
    rw [hm] at hD
    have hD : DOk z eN eL (ρs s0) G H D (rzM x g q.1) := hD
    obtain ⟨_, ev⟩ := e2 q hm
    refine ev G H σ e st nd _ fun vs G1 H1 x1 s1 a1 k1 => ?_
    cases hg : g q.1 with
    | none => unfold rzM at hD; rw [hg] at hD; exact hD.elim
    | some fs =>
      unfold rzM at hD
      rw [hg] at hD
      refine hsp G1 H1 vs q.1 fs (as_data k1) hg (fun cls d H2 => z.W cls d σ H2) fun dx ws hdx hws => ?_
      have xo : Ext [] G1 H1 (upd G1 dx (.xd ws)) (upd H1 dx (.xd ws)) := Ext.new x1.gh hdx
      exact hD _ _ _ _ _ ((ext_b (M := []) x1).tr xo.up) ((hw q.2).st (s1.mono xo)) ⟨rfl, .inr ⟨dx, ws, rfl, upd_same, dqf_mono (Ex.new (x1.gh.none hdx)) hws⟩⟩
end
def g1 (f : Str) : List D → Option (List (Str × D))
  | [d] => some [(f, d)]
  | _ => none
def g3 (f g k : Str) : List D → Option (List (Str × D))
  | [d, e, c] => some [(k, c), (g, e), (f, d)]
  | _ => none
def g2 (f g k : Str) : List D → Option (List (Str × D))
  | [d, e] => some [(k, .none), (g, e), (f, d)]
  | _ => none
section
variable {C : Addr} {x : Str}
theorem hsp1 {f : Str} : ∀ (G H : Hp) (vs : List V) (ds : List D) (fs : List (Str × D)), DqA G vs ds → g1 f ds = some fs → ∀ Q : XK, (∀ dx ws, H dx = none → DqF G ws ((⟨x, fs⟩ : Xc).fd) → Q (.ref C) (some dx) (upd H dx (.xd ws))) →
      vs.length ≤ 1000 ∧ ∀ a, H a = none → sp1 C f (.ref a :: (vs ++ [])) (upd H a (exo a C none)) (fun v H2 => v = .non ∧ ∃ (d : Addr) (fs : List (Str × V)), H2 a = some (exo a C (some d)) ∧ H2 d = some (exd d fs) ∧ H d = none ∧ Q (.ref C) (some d) (upd (L2.del H2 a) d (.xd fs))) (fun _ _ _ => False) := by
  intro G H vs ds fs hv hg Q hQ
  unfold g1 at hg
  split at hg
  · cases hg
    cases hv with
    | cons h1 t =>
      cases t
      refine ⟨Nat.le_of_ble_eq_true rfl, fun a ha => ⟨a, _, rfl, upd_same, fun dx hdx hne => ⟨rfl, dx, _, upd_same, by rw [upd_ne hne, upd_same], ?_, ?_⟩⟩⟩
      · rw [upd_ne hne] at hdx; exact hdx
      · rw [upd_ne hne] at hdx
        rw [heap_end (o := exo a C none) (v := exo a C none) ha hne _ fun b h1 h2 => by rw [upd_ne h1, upd_ne h2, upd_ne h1]]
        exact hQ dx _ hdx (.cons h1 .nil)
  · cases hg
theorem hsp3 {f g k : Str} : ∀ (G H : Hp) (vs : List V) (ds : List D) (fs : List (Str × D)), DqA G vs ds → g3 f g k ds = some fs → ∀ Q : XK, (∀ dx ws, H dx = none → DqF G ws ((⟨x, fs⟩ : Xc).fd) → Q (.ref C) (some dx) (upd H dx (.xd ws))) →
      vs.length ≤ 1000 ∧ ∀ a, H a = none → sp3 C f g k (.ref a :: (vs ++ [])) (upd H a (exo a C none)) (fun v H2 => v = .non ∧ ∃ (d : Addr) (fs : List (Str × V)), H2 a = some (exo a C (some d)) ∧ H2 d = some (exd d fs) ∧ H d = none ∧ Q (.ref C) (some d) (upd (L2.del H2 a) d (.xd fs))) (fun _ _ _ => False) := by
  intro G H vs ds fs hv hg Q hQ
  unfold g3 at hg
  split at hg
  · cases hg
    cases hv with
    | cons h1 t => cases t with
      | cons h2 t => cases t with
        | cons h3 t =>
          cases t
          refine ⟨Nat.le_of_ble_eq_true rfl, fun a ha => ⟨a, _, _, _, rfl, upd_same, fun dx hdx hne => ⟨rfl, dx, _, by rw [upd_ne (Ne.symm hne), upd_ne (Ne.symm hne), upd_same], upd_same, ?_, ?_⟩⟩⟩
          · rw [upd_ne hne] at hdx; exact hdx
          · rw [upd_ne hne] at hdx
            rw [heap_end (o := exo a C none) (v := exo a C none) ha hne _ fun b h1 h2 => by rw [upd_ne h2, upd_ne h2, upd_ne h1, upd_ne h2, upd_ne h1]]
            exact hQ dx _ hdx (.cons h3 (.cons h2 (.cons h1 .nil)))
  · cases hg
theorem hsp2 {f g k : Str} : ∀ (G H : Hp) (vs : List V) (ds : List D) (fs : List (Str × D)), DqA G vs ds → g2 f g k ds = some fs → ∀ Q : XK, (∀ dx ws, H dx = none → DqF G ws ((⟨x, fs⟩ : Xc).fd) → Q (.ref C) (some dx) (upd H dx (.xd ws))) →
      vs.length ≤ 1000 ∧ ∀ a, H a = none → sp3 C f g k (.ref a :: (vs ++ [V.non])) (upd H a (exo a C none)) (fun v H2 => v = .non ∧ ∃ (d : Addr) (fs : List (Str × V)), H2 a = some (exo a C (some d)) ∧ H2 d = some (exd d fs) ∧ H d = none ∧ Q (.ref C) (some d) (upd (L2.del H2 a) d (.xd fs))) (fun _ _ _ => False) := by
  intro G H vs ds fs hv hg Q hQ
  unfold g2 at hg
  split at hg
  · cases hg
    cases hv with
    | cons h1 t => cases t with
      | cons h2 t =>
        cases t
        refine ⟨Nat.le_of_ble_eq_true rfl, fun a ha => ⟨a, _, _, _, rfl, upd_same, fun dx hdx hne => ⟨rfl, dx, _, by rw [upd_ne (Ne.symm hne), upd_ne (Ne.symm hne), upd_same], upd_same, ?_, ?_⟩⟩⟩
        · rw [upd_ne hne] at hdx; exact hdx
        · rw [upd_ne hne] at hdx
          rw [heap_end (o := exo a C none) (v := exo a C none) ha hne _ fun b h1 h2 => by rw [upd_ne h2, upd_ne h2, upd_ne h1, upd_ne h2, upd_ne h1]]
          exact hQ dx _ hdx (.cons .non (.cons h2 (.cons h1 .nil)))
  · cases hg
end
end Kn

/-! try: .. except X as n: (a suite that reads n and returns) -/
namespace Kn
open PySem PySem.Spec PyProof.Rows L2
theorem Inv.suiteT {X : Cx} {pins : List (Addr × Obj)} {σ : L2.St} {H : Hp} {s : Shared} (I : Inv X pins σ H s) (a : Addr) : Inv (X.suite a (X.pn ++ pins)) [] σ H s :=
  ⟨I.ok.suite _ _, I.os, I.bare, I.base, I.loc, I.cell, I.free, I.freeC, fun p hp => I.pin p (by rw [List.append_nil] at hp; exact hp), I.hok, I.len⟩
theorem Inv.unsuiteT {X : Cx} {pins pn2 : List (Addr × Obj)} {σ : L2.St} {H : Hp} {s : Shared} {a : Addr} (I : Inv (X.suite a (X.pn ++ pins)) pn2 σ H s) (ok : X.Ok) : Inv X pins σ H s :=
  ⟨ok, I.os, I.bare, I.base, I.loc, I.cell, I.free, I.freeC, fun p hp => I.pin p (List.mem_append_left _ hp), I.hok, I.len⟩
/-- the suite's ends: its name goes -/
def dEnd (i : Nat) (D : Ends) : Ends := { nx := fun σ H => D.nx (σ.set i none) H, rt := D.rt, bk := fun _ _ => False, ct := fun _ _ => False }
def wOne (K : PySem.W.Frag) (c : Value) (i : Nat) (ts : TS) (D : Ends) : WX := fun cls d σ H =>
  ∃ C : Addr, cls = .ref C ∧ PySem.W.exmOne K cls c = some true ∧ ∀ a, H a = none → ts (dEnd i D) (σ.set i (some (.ref a))) (upd H a (ExcO a C d))
def wTwo (K : PySem.W.Frag) (c c2 : Value) (i i2 : Nat) (ts ts2 : TS) (D : Ends) : WX := fun cls d σ H =>
  ∃ C : Addr, cls = .ref C ∧ ((PySem.W.exmOne K cls c = some true ∧ ∀ a, H a = none → ts (dEnd i D) (σ.set i (some (.ref a))) (upd H a (ExcO a C d))) ∨
    (PySem.W.exmOne K cls c = some false ∧ PySem.W.exmOne K cls c2 = some true ∧ ∀ a, H a = none → ts2 (dEnd i2 D) (σ.set i2 (some (.ref a))) (upd H a (ExcO a C d))))
def tTry1 (K : PySem.W.Frag) (c : Value) (i : Nat) (ts : TS) (tb : WX → TS) : TS := fun D σ H => tb (wOne K c i ts D) D σ H
def tTry2 (K : PySem.W.Frag) (c c2 : Value) (i i2 : Nat) (ts ts2 : TS) (tb : WX → TS) : TS := fun D σ H => tb (wTwo K c c2 i i2 ts ts2 D) D σ H
section
variable {X : Cx} {x n x2 n2 : Str} {c c2 : Value} {i i2 : Nat} {body suite suite2 : List Stmt} {b₀ b₁ : Stmt} {np pos pos' np2 pos2 : Pos} {tb : WX → TS} {ts ts2 : TS}
theorem ps_try1 (noex : X.ex = []) (same : X.stack = X.env :: X.outer) (frame : X.env.frame = some X.env.locals) (dis : X.N.Nodup) (at_n : X.N[i]? = some n) (loc_n : X.env.kindOf n = some .local) (cls_x : Names X x c)
    (walk : ∀ (W : WX) (pn : List (Addr × Obj)) (xe : Value → Shared → Prop), Takes (X.tr pn xe) W → PassesOwn (model X.prog X.w) X.A X.env xe → PSs (X.tr pn xe) body (tb W))
    (hsu : ∀ (a : Addr) (pn : List (Addr × Obj)), PSs (X.suite a pn) (b₀ :: suite) ts) :
    PS X (.Try body [.ExceptHandler (some (.Name x np)) (some n) (b₀ :: suite) pos'] [] [] pos) (tTry1 X.K c i ts tb) := by
  constructor
  intro pins s σ H D I want
  have ok := I.ok
  have frames : X.A.frames = some (X.env :: X.outer) := by rw [ok.frames, same]
  refine wpAny_Try_except ?_
  have run := (walk (wOne X.K c i ts D) (X.pn ++ pins) (fun e s1 => wpAny (model X.prog X.w) X.A (noteFrame e X.env) (fun _ s2 => wpAny (model X.prog X.w) X.A (setFlight e none) (fun _ s3 =>
    wpAny (model X.prog X.w) X.A (handleBy e X.env [.ExceptHandler (some (.Name x np)) (some n) (b₀ :: suite) pos']) (SP X pins D) X.xe s3) X.xe s2) X.xe s1) ?caught PassesOwn.looking).run [] s σ H D (I.toTry _) want
  case caught =>
    rintro u s2 ⟨a, B, sI, pins2, σ2, H2, cls, d, rfl, J0, nb, up, sky, na, os, ag, C, rfl, hch⟩
    have J : Inv X pins σ2 H2 sI := J0.ofTry ok
    rw [show (X.tr (X.pn ++ pins) _).stack = X.env :: X.outer from same] at sky
    show wpAny (model X.prog X.w) X.A (noteFrame (.ref a) X.env) _ _ _
    refine Sky.land Zc.steady frames frame sky ?_
    intro h3 fl3 up3
    have J3 : Inv X pins σ2 H2 { s2 with heap := h3 } := J.landed nb fl3.1 (up.trans up3) os ag
    obtain ⟨oe3, vs3, he3, hz3, hd3⟩ := fl3.there
    have off : ∀ {h : Heap} {o : Obj} {vs : Array Value}, h.FunFrames B (X.env :: X.outer) → h.get? a = some o → o.data = .fields vs → a ∉ frs (X.env :: X.outer) := by
      intro h o vs ff e dd hm
      obtain ⟨_, o2, e2, no⟩ := ff.mem hm
      rw [e] at e2
      cases e2
      exact no _ dd
    have nfr := off fl3.2.2.1 he3 hd3
    have nL : a ≠ X.env.locals := by
      intro z
      exact nfr (List.mem_filterMap.mpr ⟨X.env, List.mem_cons_self, by rw [frame, z]⟩)
    have nF : a ∉ X.fs := by
      intro hm
      obtain ⟨e, he, q⟩ := List.mem_filterMap.mp hm
      exact nfr (List.mem_filterMap.mpr ⟨e, List.mem_cons_of_mem _ he, q⟩)
    have nS : a ∉ frs X.stack := by rw [same]; exact nfr
    have noB : B.get? a = none := fl3.2.1
    have n0 : X.s_0.heap.get? a = none := by
      cases e : X.s_0.heap.get? a with
      | none => rfl
      | some o =>
        by_cases hx : a ∈ X.ex
        · rw [noex] at hx; cases hx
        · obtain ⟨o2, e2⟩ := J.base.there a o e hx
          rw [nb a o2 e2 nS] at noB
          cases noB
    have npp : ∀ p ∈ X.pn ++ pins, p.1 ≠ a := by
      intro p hp z
      have e := (J.pin p hp).1
      rw [z] at e
      rw [nb a p.2 e nS] at noB
      cases noB
    have S3 := J3.suite he3 hd3 na nL nF
    have type_a : PySem.W.Looks (model X.prog X.w) h3 (typeOf (.ref a)) (.ref C) := fun A Q E s k q => wpAny_typeOf_ref (k _ _ he3) (by rw [hz3.1]; exact q)
    have test1 : ∀ {Q : Value → Shared → Prop} {E : Value → Shared → Prop}, Q c { s2 with heap := h3 } → wpAny (model X.prog X.w) (X.A.mark (some (.ref a))) (eval (.Name x np) X.env) Q E { s2 with heap := h3 } := by
      intro Q E q
      obtain ⟨hg, hdbg, hm | ⟨hm, hv, hnn⟩⟩ := cls_x
      · exact ld_glob (X := X.suite a ((a, oe3) :: (X.pn ++ pins))) S3 hg hm q hdbg
      · exact ld_blt (X := X.suite a ((a, oe3) :: (X.pn ++ pins))) S3 hg hm hv q hnn hdbg
    obtain ⟨hb1, hyes⟩ := hch
    have match_a := PySem.W.exm_one (M := model X.prog X.w) (J3.kIn) type_a hb1
    refine wpAny_handleBy_cons (codeAny_handlers_test ?_) (by intro q; cases q)
    refine test1 (match_a.here ?_)
    refine codeAny_handlers_suite_as ?_
    refine HandSPX.lands_againZ fl3 ?_
    intro h4 fl4 up4
    have J4 : Inv X pins σ2 H2 { s2 with heap := h4 } := J.landed nb fl4.1 ((up.trans up3).trans up4) os ag
    obtain ⟨oe4, vs4, he4, hz4, hd4⟩ := fl4.there
    have nc : ∀ v, oe4.data ≠ .cell v := fun v z => by rw [hd4] at z; cases z
    have T4 := Kn.Inv.suiteT (Kn.Inv.track J4 he4 nc na nL n0 npp (excO_ok he4 hz4 hd4)) a
    have hi2 : i < σ2.length := by rw [J.len]; exact (List.getElem?_eq_some_iff.mp at_n).1
    refine store_ok (X := X.suite a (X.pn ++ pins)) (v := .ref a) T4 dis at_n (.inl loc_n) rfl ?_ (.inr loc_n)
    intro s5 S5
    refine wpAny_mono ((hsu a (X.pn ++ pins)).run [] s5 _ _ _ S5 (hyes a na)) ?_ (fun _ _ z => False.elim z)
    rintro (_ | _ | _ | u) s6 z
    · obtain ⟨σ6, H6, S6, q6⟩ := z
      refine gone_ok (Kn.Inv.unsuiteT S6 ok) dis at_n loc_n fun s7 J7 => ?_
      exact ⟨_, _, J7, q6⟩
    · obtain ⟨_, _, _, q6⟩ := z
      exact q6.elim
    · obtain ⟨_, _, _, q6⟩ := z
      exact q6.elim
    · obtain ⟨v6, σ6, H6, S6, rv, q6⟩ := z
      refine gone_ok (Kn.Inv.unsuiteT S6 ok) dis at_n loc_n fun s7 J7 => ?_
      exact ⟨_, _, _, J7, rv, q6⟩
  refine wpAny_mono run ?_ (fun _ _ z => z)
  rintro (_ | _ | _ | u) s2 z
  all_goals first
    | exact (let ⟨_, _, J, q⟩ := z; wpAny_execs_nil ⟨_, _, Inv.ofTry J ok, q⟩)
    | exact (let ⟨_, _, J, q⟩ := z; ⟨_, _, Inv.ofTry J ok, q⟩)
    | exact (let ⟨_, _, _, J, rv, q⟩ := z; ⟨_, _, _, Inv.ofTry J ok, rv, q⟩)
theorem ps_try2 (noex : X.ex = []) (same : X.stack = X.env :: X.outer) (frame : X.env.frame = some X.env.locals) (dis : X.N.Nodup) (at_n : X.N[i]? = some n) (loc_n : X.env.kindOf n = some .local) (cls_x : Names X x c)
    (at_n2 : X.N[i2]? = some n2) (loc_n2 : X.env.kindOf n2 = some .local) (cls_x2 : Names X x2 c2)
    (walk : ∀ (W : WX) (pn : List (Addr × Obj)) (xe : Value → Shared → Prop), Takes (X.tr pn xe) W → PassesOwn (model X.prog X.w) X.A X.env xe → PSs (X.tr pn xe) body (tb W))
    (hsu : ∀ (a : Addr) (pn : List (Addr × Obj)), PSs (X.suite a pn) (b₀ :: suite) ts) (hsu2 : ∀ (a : Addr) (pn : List (Addr × Obj)), PSs (X.suite a pn) (b₁ :: suite2) ts2) :
    PS X (.Try body [.ExceptHandler (some (.Name x np)) (some n) (b₀ :: suite) pos', .ExceptHandler (some (.Name x2 np2)) (some n2) (b₁ :: suite2) pos2] [] [] pos) (tTry2 X.K c c2 i i2 ts ts2 tb) := by
  constructor
  intro pins s σ H D I want
  have ok := I.ok
  have frames : X.A.frames = some (X.env :: X.outer) := by rw [ok.frames, same]
  refine wpAny_Try_except ?_
  have run := (walk (wTwo X.K c c2 i i2 ts ts2 D) (X.pn ++ pins) (fun e s1 => wpAny (model X.prog X.w) X.A (noteFrame e X.env) (fun _ s2 => wpAny (model X.prog X.w) X.A (setFlight e none) (fun _ s3 =>
    wpAny (model X.prog X.w) X.A (handleBy e X.env [.ExceptHandler (some (.Name x np)) (some n) (b₀ :: suite) pos', .ExceptHandler (some (.Name x2 np2)) (some n2) (b₁ :: suite2) pos2]) (SP X pins D) X.xe s3) X.xe s2) X.xe s1) ?caught PassesOwn.looking).run [] s σ H D (I.toTry _) want
  case caught =>
    rintro u s2 ⟨a, B, sI, pins2, σ2, H2, cls, d, rfl, J0, nb, up, sky, na, os, ag, C, rfl, hch⟩
    have J : Inv X pins σ2 H2 sI := J0.ofTry ok
    rw [show (X.tr (X.pn ++ pins) _).stack = X.env :: X.outer from same] at sky
    show wpAny (model X.prog X.w) X.A (noteFrame (.ref a) X.env) _ _ _
    refine Sky.land Zc.steady frames frame sky ?_
    intro h3 fl3 up3
    have J3 : Inv X pins σ2 H2 { s2 with heap := h3 } := J.landed nb fl3.1 (up.trans up3) os ag
    obtain ⟨oe3, vs3, he3, hz3, hd3⟩ := fl3.there
    have off : ∀ {h : Heap} {o : Obj} {vs : Array Value}, h.FunFrames B (X.env :: X.outer) → h.get? a = some o → o.data = .fields vs → a ∉ frs (X.env :: X.outer) := by
      intro h o vs ff e dd hm
      obtain ⟨_, o2, e2, no⟩ := ff.mem hm
      rw [e] at e2
      cases e2
      exact no _ dd
    have nfr := off fl3.2.2.1 he3 hd3
    have nL : a ≠ X.env.locals := by
      intro z
      exact nfr (List.mem_filterMap.mpr ⟨X.env, List.mem_cons_self, by rw [frame, z]⟩)
    have nF : a ∉ X.fs := by
      intro hm
      obtain ⟨e, he, q⟩ := List.mem_filterMap.mp hm
      exact nfr (List.mem_filterMap.mpr ⟨e, List.mem_cons_of_mem _ he, q⟩)
    have nS : a ∉ frs X.stack := by rw [same]; exact nfr
    have noB : B.get? a = none := fl3.2.1
    have n0 : X.s_0.heap.get? a = none := by
      cases e : X.s_0.heap.get? a with
      | none => rfl
      | some o =>
        by_cases hx : a ∈ X.ex
        · rw [noex] at hx; cases hx
        · obtain ⟨o2, e2⟩ := J.base.there a o e hx
          rw [nb a o2 e2 nS] at noB
          cases noB
    have npp : ∀ p ∈ X.pn ++ pins, p.1 ≠ a := by
      intro p hp z
      have e := (J.pin p hp).1
      rw [z] at e
      rw [nb a p.2 e nS] at noB
      cases noB
    have S3 := J3.suite he3 hd3 na nL nF
    have type_a : PySem.W.Looks (model X.prog X.w) h3 (typeOf (.ref a)) (.ref C) := fun A Q E s k q => wpAny_typeOf_ref (k _ _ he3) (by rw [hz3.1]; exact q)
    have test1 : ∀ {Q : Value → Shared → Prop} {E : Value → Shared → Prop}, Q c { s2 with heap := h3 } → wpAny (model X.prog X.w) (X.A.mark (some (.ref a))) (eval (.Name x np) X.env) Q E { s2 with heap := h3 } := by
      intro Q E q
      obtain ⟨hg, hdbg, hm | ⟨hm, hv, hnn⟩⟩ := cls_x
      · exact ld_glob (X := X.suite a ((a, oe3) :: (X.pn ++ pins))) S3 hg hm q hdbg
      · exact ld_blt (X := X.suite a ((a, oe3) :: (X.pn ++ pins))) S3 hg hm hv q hnn hdbg
    have test2 : ∀ {Q : Value → Shared → Prop} {E : Value → Shared → Prop}, Q c2 { s2 with heap := h3 } → wpAny (model X.prog X.w) (X.A.mark (some (.ref a))) (eval (.Name x2 np2) X.env) Q E { s2 with heap := h3 } := by
      intro Q E q
      obtain ⟨hg, hdbg, hm | ⟨hm, hv, hnn⟩⟩ := cls_x2
      · exact ld_glob (X := X.suite a ((a, oe3) :: (X.pn ++ pins))) S3 hg hm q hdbg
      · exact ld_blt (X := X.suite a ((a, oe3) :: (X.pn ++ pins))) S3 hg hm hv q hnn hdbg
    rcases hch with ⟨hb1, hyes⟩ | ⟨hb0, hb1, hyes⟩
    · have match_a := PySem.W.exm_one (M := model X.prog X.w) (J3.kIn) type_a hb1
      refine wpAny_handleBy_cons (codeAny_handlers_test ?_) (by intro q; cases q)
      refine test1 (match_a.here ?_)
      refine codeAny_handlers_suite_as ?_
      refine HandSPX.lands_againZ fl3 ?_
      intro h4 fl4 up4
      have J4 : Inv X pins σ2 H2 { s2 with heap := h4 } := J.landed nb fl4.1 ((up.trans up3).trans up4) os ag
      obtain ⟨oe4, vs4, he4, hz4, hd4⟩ := fl4.there
      have nc : ∀ v, oe4.data ≠ .cell v := fun v z => by rw [hd4] at z; cases z
      have T4 := Kn.Inv.suiteT (Kn.Inv.track J4 he4 nc na nL n0 npp (excO_ok he4 hz4 hd4)) a
      have hi2 : i < σ2.length := by rw [J.len]; exact (List.getElem?_eq_some_iff.mp at_n).1
      refine store_ok (X := X.suite a (X.pn ++ pins)) (v := .ref a) T4 dis at_n (.inl loc_n) rfl ?_ (.inr loc_n)
      intro s5 S5
      refine wpAny_mono ((hsu a (X.pn ++ pins)).run [] s5 _ _ _ S5 (hyes a na)) ?_ (fun _ _ z => False.elim z)
      rintro (_ | _ | _ | u) s6 z
      · obtain ⟨σ6, H6, S6, q6⟩ := z
        refine gone_ok (Kn.Inv.unsuiteT S6 ok) dis at_n loc_n fun s7 J7 => ?_
        exact ⟨_, _, J7, q6⟩
      · obtain ⟨_, _, _, q6⟩ := z
        exact q6.elim
      · obtain ⟨_, _, _, q6⟩ := z
        exact q6.elim
      · obtain ⟨v6, σ6, H6, S6, rv, q6⟩ := z
        refine gone_ok (Kn.Inv.unsuiteT S6 ok) dis at_n loc_n fun s7 J7 => ?_
        exact ⟨_, _, _, J7, rv, q6⟩
    · have miss_a := PySem.W.exm_one (M := model X.prog X.w) (J3.kIn) type_a hb0
      have match_a := PySem.W.exm_one (M := model X.prog X.w) (J3.kIn) type_a hb1
      refine wpAny_handleBy_cons (codeAny_handlers_test ?_) (by intro q; cases q)
      refine test1 (miss_a.here ?_)
      refine wpAny_handleBy_cons (codeAny_handlers_test ?_) (by intro q; cases q)
      refine test2 (match_a.here ?_)
      refine codeAny_handlers_suite_as ?_
      refine HandSPX.lands_againZ fl3 ?_
      intro h4 fl4 up4
      have J4 : Inv X pins σ2 H2 { s2 with heap := h4 } := J.landed nb fl4.1 ((up.trans up3).trans up4) os ag
      obtain ⟨oe4, vs4, he4, hz4, hd4⟩ := fl4.there
      have nc : ∀ v, oe4.data ≠ .cell v := fun v z => by rw [hd4] at z; cases z
      have T4 := Kn.Inv.suiteT (Kn.Inv.track J4 he4 nc na nL n0 npp (excO_ok he4 hz4 hd4)) a
      have hi2 : i2 < σ2.length := by rw [J.len]; exact (List.getElem?_eq_some_iff.mp at_n2).1
      refine store_ok (X := X.suite a (X.pn ++ pins)) (v := .ref a) T4 dis at_n2 (.inl loc_n2) rfl ?_ (.inr loc_n2)
      intro s5 S5
      refine wpAny_mono ((hsu2 a (X.pn ++ pins)).run [] s5 _ _ _ S5 (hyes a na)) ?_ (fun _ _ z => False.elim z)
      rintro (_ | _ | _ | u) s6 z
      · obtain ⟨σ6, H6, S6, q6⟩ := z
        refine gone_ok (Kn.Inv.unsuiteT S6 ok) dis at_n2 loc_n2 fun s7 J7 => ?_
        exact ⟨_, _, J7, q6⟩
      · obtain ⟨_, _, _, q6⟩ := z
        exact q6.elim
      · obtain ⟨_, _, _, q6⟩ := z
        exact q6.elim
      · obtain ⟨v6, σ6, H6, S6, rv, q6⟩ := z
        refine gone_ok (Kn.Inv.unsuiteT S6 ok) dis at_n2 loc_n2 fun s7 J7 => ?_
        exact ⟨_, _, _, J7, rv, q6⟩
  refine wpAny_mono run ?_ (fun _ _ z => z)
  rintro (_ | _ | _ | u) s2 z
  all_goals first
    | exact (let ⟨_, _, J, q⟩ := z; wpAny_execs_nil ⟨_, _, Inv.ofTry J ok, q⟩)
    | exact (let ⟨_, _, J, q⟩ := z; ⟨_, _, Inv.ofTry J ok, q⟩)
    | exact (let ⟨_, _, _, J, rv, q⟩ := z; ⟨_, _, _, Inv.ofTry J ok, rv, q⟩)
end
/-! ### the mirror -/
section
variable {N L N0 L0 : Type} {z : Rz} {ρ : En} {eN : N → Addr → En} {eL : L → Addr → En} {eN0 : N0 → Addr → En} {eL0 : L0 → Addr → En}
def retO (m : R (Ct N0 L0)) : R (Ct N L) := match m with
  | .ok (.rt r o) => .ok (.rt r o)
  | _ => .bad
def tryR (mb : R (Ct N L)) (f : Xc → R (Ct N L)) : R (Ct N L) := match mb with
  | .ok c => .ok c
  | .ex e => f e
  | .bad => .bad
/-- what a suite runs in -/
abbrev zS (z : Rz) : Rz := ⟨z.CA, fun _ _ _ _ => False, [], z.ow⟩
theorem try_suite {i : Nat} {rx : En} {ts : TS} {f : R (Ct N0 L0)} {D : Ends} {G H G1 H1 : Hp} {σ1 : L2.St} {cls : Value} {d : Option Addr} {x : Xc} {a : Addr} (hk : Wk ρ rx) (had : ∀ d, adr (rx.set i (.dat d)) = adr rx) (nd : (adr ρ).Nodup)
    (hs : SvM (zS z) ts (rx.set i (.dat (excD z.CA x))) f eN0 eL0) (h : DOk z eN eL ρ G H D (retO f)) (x1 : Ext (adr ρ) G H G1 H1) (s1 : StOk G1 H1 σ1 rx) (ex : EOk z.CA G1 cls d x) (ha : H1 a = none) :
    ts (dEnd i D) (σ1.set i (some (.ref a))) (upd H1 a (ExcO a (z.CA x.cls) d)) := by
  have xo : Ext [] G1 H1 (upd G1 a (ExcO a (z.CA x.cls) d)) (upd H1 a (ExcO a (z.CA x.cls) d)) := Ext.new x1.gh ha
  have st : StOk (upd G1 a (ExcO a (z.CA x.cls) d)) (upd H1 a (ExcO a (z.CA x.cls) d)) (σ1.set i (some (.ref a))) (rx.set i (.dat (excD z.CA x))) :=
    StOk.set (show VOk _ _ (.ref a) (.dat (excD z.CA x)) from dq_exc x1.gh ha ex) i (s1.mono xo)
  have sp : Stp ρ G H (rx.set i (.dat (excD z.CA x))) (upd G1 a (ExcO a (z.CA x.cls) d)) (upd H1 a (ExcO a (z.CA x.cls) d)) (σ1.set i (some (.ref a))) :=
    ⟨x1.tr xo.up, fun q hq => by rw [had] at hq; exact .inl (hk.sub.subset hq), st, by rw [had]; exact nd.sublist hk.sub⟩
  refine hs _ _ _ xo.gh st sp.n (dEnd i D) ?_
  match f, h with
  | .ok (.rt r o), h => exact DOk.step (z := z) (eN := eN) (eL := eL) (m := .ok (.rt r o)) h sp
theorem m_try1 {K : PySem.W.Frag} {c : Value} {i : Nat} {names : List Str} {rx : En} {f : Xc → R (Ct N0 L0)} {tb : WX → TS} {ts : TS} {mb m : R (Ct N L)} (hE : ∀ x ∈ names, PySem.W.exmOne K (.ref (z.CA x)) c = some true)
    (hk : Wk ρ rx) (had : ∀ d, adr (rx.set i (.dat d)) = adr rx) (hb : ∀ W, SvM ⟨z.CA, W, rx, z.ow⟩ (tb W) ρ mb eN eL) (hs : ∀ e, SvM (zS z) ts (rx.set i (.dat (excD z.CA e))) (f e) eN0 eL0)
    (hM : m = tryR mb fun e => if e.cls ∈ names then retO (f e) else .bad := by rfl) : SvM z (tTry1 K c i ts tb) ρ m eN eL := fun G H σ e st nd D h => by
  subst hM
  refine hb (wOne K c i ts D) G H σ e st nd D ?_
  cases mb with
  | bad => exact h
  | ok k => cases k <;> exact h
  | ex x =>
    have h : DOk z eN eL ρ G H D (if x.cls ∈ names then retO (f x) else .bad) := h
    by_cases hx : x.cls ∈ names
    · rw [if_pos hx] at h
      intro cls d G1 H1 σ1 x1 s1 ex
      obtain ⟨rfl, hd⟩ := id ex
      exact ⟨_, rfl, hE _ hx, fun a ha => try_suite (z := z) hk had nd (hs x) h x1 s1 ex ha⟩
    · rw [if_neg hx] at h
      exact h.elim
theorem m_try2 {K : PySem.W.Frag} {c c2 : Value} {i i2 : Nat} {names names2 : List Str} {rx : En} {f f2 : Xc → R (Ct N0 L0)} {tb : WX → TS} {ts ts2 : TS} {mb m : R (Ct N L)} (hE : ∀ x ∈ names, PySem.W.exmOne K (.ref (z.CA x)) c = some true)
    (hE0 : ∀ x ∈ names2, PySem.W.exmOne K (.ref (z.CA x)) c = some false) (hE2 : ∀ x ∈ names2, PySem.W.exmOne K (.ref (z.CA x)) c2 = some true)
    (hk : Wk ρ rx) (had : ∀ d, adr (rx.set i (.dat d)) = adr rx) (had2 : ∀ d, adr (rx.set i2 (.dat d)) = adr rx) (hb : ∀ W, SvM ⟨z.CA, W, rx, z.ow⟩ (tb W) ρ mb eN eL) (hs : ∀ e, SvM (zS z) ts (rx.set i (.dat (excD z.CA e))) (f e) eN0 eL0)
    (hs2 : ∀ e, SvM (zS z) ts2 (rx.set i2 (.dat (excD z.CA e))) (f2 e) eN0 eL0)
    (hM : m = tryR mb fun e => if e.cls ∈ names then retO (f e) else if e.cls ∈ names2 then retO (f2 e) else .bad := by rfl) : SvM z (tTry2 K c c2 i i2 ts ts2 tb) ρ m eN eL := fun G H σ e st nd D h => by
  subst hM
  refine hb (wTwo K c c2 i i2 ts ts2 D) G H σ e st nd D ?_
  cases mb with
  | bad => exact h
  | ok k => cases k <;> exact h
  | ex x =>
    have h : DOk z eN eL ρ G H D (if x.cls ∈ names then retO (f x) else if x.cls ∈ names2 then retO (f2 x) else .bad) := h
    by_cases hx : x.cls ∈ names
    · rw [if_pos hx] at h
      intro cls d G1 H1 σ1 x1 s1 ex
      obtain ⟨rfl, hd⟩ := id ex
      exact ⟨_, rfl, .inl ⟨hE _ hx, fun a ha => try_suite (z := z) hk had nd (hs x) h x1 s1 ex ha⟩⟩
    · rw [if_neg hx] at h
      by_cases hx2 : x.cls ∈ names2
      · rw [if_pos hx2] at h
        intro cls d G1 H1 σ1 x1 s1 ex
        obtain ⟨rfl, hd⟩ := id ex
        exact ⟨_, rfl, .inr ⟨hE0 _ hx2, hE2 _ hx2, fun a ha => try_suite (z := z) hk had2 nd (hs2 x) h x1 s1 ex ha⟩⟩
      · rw [if_neg hx2] at h
        exact h.elim
end
end Kn

/-! defs that hand over a new list or other data; list.count -/
namespace Kn
open PySem PySem.Spec PyProof.Rows L2
theorem Ex.f {H H' : Hp} (e : Ex H H') : ∀ a o, H a = some o → H' a = some o := e
def rvV : Rv → R Rv
  | .d d => .ok (.d d)
  | .l xs => .ok (.l xs)
  | .va _ => .bad
  | .o _ => .bad
  | .e _ => .bad
def vD : Rv → R D
  | .d d => .ok d
  | .l xs => .ok (.list xs)
  | .va _ => .bad
  | .o _ => .bad
  | .e _ => .bad
def outV (m : R (Ct Unit Empty)) : R Rv := m.bind fun c => match c with
  | .nx _ => .ok (.d .none)
  | .rt r _ => rvV r
  | .bk s => s.elim
  | .ct s => s.elim
/-- a result that may be one's own -/
def caseV {β : Type} (r : Rv) (k1 : D → R β) (k2 : List D → R β) : R β := match r with
  | .d d => k1 d
  | .l xs => k2 xs
  | .va _ => .bad
  | .o _ => .bad
  | .e _ => .bad
section
variable {α : Type}
@[simp] theorem outV_rtd (d : D) (o : List D) : outV (.ok (.rt (.d d) o)) = .ok (.d d) := Eq.trans rfl rfl
@[simp] theorem outV_rtl (d : List D) (o : List D) : outV (.ok (.rt (.l d) o)) = .ok (.l d) := Eq.trans rfl rfl
@[simp] theorem outV_nx (u : Unit) : outV (.ok (.nx u)) = .ok (.d .none) := Eq.trans rfl rfl
@[simp] theorem outV_ex (e : Xc) : outV (.ex e) = .ex e := Eq.trans rfl rfl
@[simp] theorem outV_bind (m : R α) (f : α → R (Ct Unit Empty)) : outV (m.bind f) = m.bind fun a => outV (f a) := R.bind_assoc ..
@[simp] theorem outV_ite (b : Prop) [Decidable b] (x y : R (Ct Unit Empty)) : outV (if b then x else y) = if b then outV x else outV y := by by_cases h : b <;> simp [h]
end
section
variable {N : List Str} {t : TS} {CA : Str → Addr} {vs : List V} {H : Hp} {Q : VK} {E : XK}
theorem bodyV {F : List D → R Rv} (h : spM CA id F vs H Q E) (k : ∀ ds, F ds ≠ .bad → ∃ M, F ds = outV M ∧ SvM (zD CA E N.length) t (slots0 N.length ds) M (fun _ _ => List.replicate N.length .un) (fun s => Empty.elim s)) : t { nx := fun _ H' => Q .non H', rt := Q } (L2.start N vs) H := by
  obtain ⟨G, ds, e, hd, hr⟩ := h
  have hb : F ds ≠ .bad := by
    rcases hr with ⟨a, h1, _⟩ | ⟨x, h1, _⟩ <;> rw [h1] <;> intro z <;> cases z
  obtain ⟨r, hF, k⟩ := k ds hb
  refine k G H _ e (st_slots0 hd) (by rw [adr_slots0]; exact List.nodup_nil) _ ?_
  match r, hF with
  | .ok (.nx s), hF =>
    rcases hr with ⟨a, h1, q⟩ | ⟨x, h1, _⟩
    · rw [h1] at hF; cases hF
      exact fun _ ρ' G' H' σ' s w => q _ G' H' (by have x := s.x; rwa [adr_slots0] at x) .non
    · rw [h1] at hF; cases hF
  | .ok (.rt r o), hF =>
    rcases hr with ⟨a, h1, q⟩ | ⟨x, h1, _⟩
    · rw [h1] at hF
      cases r with
      | d d =>
        cases hF
        exact fun v ρ' G' H' σ' s w o => q v G' H' (by have x := s.x; rwa [adr_slots0] at x) w
      | l xs =>
        cases hF
        exact fun v ρ' G' H' σ' s w o => q v G' H' (by have x := s.x; rwa [adr_slots0] at x) (by
          obtain ⟨p, vs, e1, e2, e3⟩ := w
          exact ⟨p, vs, e1, e2.resolve_left (by rw [adr_slots0]; simp), e3⟩)
      | va v => cases hF
      | o v => cases hF
      | e es => cases hF
    · rw [h1] at hF
      cases r <;> cases hF
  | .ex y, hF =>
    rcases hr with ⟨a, h1, q⟩ | ⟨x, h1, q⟩
    · rw [h1] at hF; cases hF
    · rw [h1] at hF; cases hF
      exact fun cls d G' H' σ' x' s' k' => q cls d G' H' (by rwa [adr_slots0] at x') k'
  | .bad, hF =>
    rcases hr with ⟨a, h1, _⟩ | ⟨x, h1, _⟩ <;> rw [h1] at hF <;> cases hF
end
section
variable {S N L : Type} {z : Rz} {b : Bool} {ρ ρs : S → En} {te : TE} {u : TS} {s0 : S} {eN : N → Addr → En} {eL : L → Addr → En} {m : R (Ct N L)} {K : PySem.W.Frag} {ta : TE} {tt : TT} {tb : TE}
  {Ka Kb : {β : Type} → S → (D → S → R β) → R β} {Kl : {β : Type} → S → (List D → S → R β) → R β} {Kv : {β : Type} → S → (Rv → S → R β) → R β}
theorem g_vd (h : GE z b Rv.d te ρ Ka) : GE z b id te ρ (fun s k => Ka s fun d s' => k (Rv.d d) s') := gg_mapT Rv.d h (fun _ _ _ h => h) (fun _ _ h => h)
theorem g_vl (h : GE z b Rv.l te ρ Kl) : GE z b id te ρ (fun s k => Kl s fun d s' => k (Rv.l d) s') := gg_mapT Rv.l h (fun _ _ _ h => h) (fun _ _ h => h)
theorem g_fzV (h : GE z b id te ρ Kv) : GE z b Rv.d te ρ (fun s k => Kv s fun r s' => (vD r).bind fun d => k d s') :=
  gg_map vD h (fun a e h => by cases a <;> cases h) (fun _ r _ d h e => by
    cases r with
    | d d => cases e; exact h
    | l xs => cases e; exact ev_fz h
    | va v => cases e
    | o v => cases e
    | e es => cases e) (fun _ _ h => h)
/-- x = e, a new list or other data -/
theorem m_asgV {i : Nat} {k1 : D → S → R (Ct N L)} {k2 : List D → S → R (Ct N L)} (h : GE z b id te ρs Kv) (hk1 : ∀ d s, SvM z u ((ρs s).set i (.dat d)) (k1 d s) eN eL) (hk2 : ∀ xs s p, p ∉ adr (ρs s) → SvM z u ((ρs s).set i (.mu p xs)) (k2 xs s) eN eL)
    (hM : m = Kv s0 (fun r s => caseV r (fun d => k1 d s) fun xs => k2 xs s) := by rfl) : SvM z (tSeq (tAsg te (gName i)) u) (ρs s0) m eN eL := by
  obtain ⟨n, e1, e2, e3⟩ := h s0
  refine m_step (n := n.bind fun q => (rvV q.1).bind fun r => .ok (r, q.2)) (P := fun q ρ' => match q.1 with
    | .d d => ρ' = (ρs q.2).set i (.dat d)
    | .l xs => ∃ p, p ∉ adr (ρs q.2) ∧ ρ' = (ρs q.2).set i (.mu p xs)
    | .va _ => False
    | .o _ => False
    | .e _ => False) (k := fun q => caseV q.1 (fun d => k1 d q.2) fun xs => k2 xs q.2) (fun q hq => ?_) (fun e he => ?_) (fun q ρ' w => ?_) ?_
  · obtain ⟨⟨r, s⟩, h1, h2⟩ := R.bind_eq_ok hq
    obtain ⟨r', h3, h4⟩ := R.bind_eq_ok h2
    cases h4
    cases r with
    | d d => cases h3; exact sv_asg (e2 _ h1) rfl
    | l xs => cases h3; exact sv_asgL (e2 _ h1) fun p hp => ⟨p, hp, rfl⟩
    | va v => cases h3
    | o v => cases h3
    | e es => cases h3
  · rcases R.bind_eq_ex he with h1 | ⟨⟨r, s⟩, h1, h2⟩
    · exact fun G H σ x st nd w D => (e3 _ h1) G H σ x st nd (fun cls d G' H' => w cls d G' H' σ) _
    · rcases R.bind_eq_ex h2 with h3 | ⟨r', h3, h4⟩
      · cases r <;> cases h3
      · cases h4
  · obtain ⟨r, s⟩ := q
    cases r with
    | d d => rw [w]; exact hk1 d s
    | l xs =>
      obtain ⟨p, hp, rfl⟩ := w
      exact hk2 xs s p hp
    | va v => exact w.elim
    | o v => exact w.elim
    | e es => exact w.elim
  · refine (hM.trans (e1 _ _)).trans ?_
    rw [R.bind_assoc]
    congr 1; funext q
    obtain ⟨r, s⟩ := q
    cases r <;> rfl
/-- return e, a new list or other data -/
theorem m_retV {o : S → List D} (h : GE z b id te ρs Kv) (how : ∀ s, OwR z.ow (o s) (ρs s)) (hM : m = Kv s0 (fun r s => caseV r (fun d => .ok (.rt (.d d) (o s))) fun xs => .ok (.rt (.l xs) (o s))) := by rfl) : SvM z (tRet te) (ρs s0) m eN eL := fun G H σ e st nd D hD => by
  obtain ⟨n, e1, e2, e3⟩ := h s0
  have hM := hM.trans (e1 _ _)
  subst hM
  cases n with
  | ok q =>
    obtain ⟨r, s⟩ := q
    cases r with
    | d d =>
      exact sv_ret (E := { rt := fun r ρ' => r = .d d ∧ ρ' = ρs s }) (e2 _ rfl) ⟨rfl, rfl⟩ G H σ e st nd D (fun _ _ _ _ _ w => w.elim) (fun r v ρ' G' H' σ' s' w k => by
        obtain ⟨rfl, rfl⟩ := k
        exact hD v _ G' H' σ' s' w (how _)) (fun _ _ _ _ _ w => w.elim) (fun _ _ _ _ _ w => w.elim)
    | l xs =>
      exact sv_retL (E := { rt := fun r ρ' => r = .l xs ∧ ρ' = ρs s }) (e2 _ rfl) ⟨rfl, rfl⟩ G H σ e st nd D (fun _ _ _ _ _ w => w.elim) (fun r v ρ' G' H' σ' s' w k => by
        obtain ⟨rfl, rfl⟩ := k
        exact hD v _ G' H' σ' s' w (how _)) (fun _ _ _ _ _ w => w.elim) (fun _ _ _ _ _ w => w.elim)
    | va v => exact hD.elim
    | o v => exact hD.elim
    | e es => exact hD.elim
  | ex x => exact (e3 _ rfl) G H σ e st nd (fun cls d G' H' w1 w2 w3 => hD cls d G' H' σ w1 w2 w3) _
  | bad => exact hD.elim
/-- xs.count(n) of a list of ints -/
def cntI : D → D → R D
  | .list ds, .int c => (match intsOf ds with | some l => .ok (.int (l.count c : Nat)) | none => .bad)
  | _, _ => .bad
def tCnt (K : PySem.W.Frag) (ta tb : TE) : TE := tBM K "list" (rCntI K) ta (tCons tb tNil)
theorem ev_cnt {ρ ρ1 ρ2 : En} {l : List Int} {c : Int} (h : Ev b ta ρ (.d (.list (l.map .int))) ρ1) (h0 : Ev b tb ρ1 (.d (.int c)) ρ2) : Ev b (tCnt K ta tb) ρ (.d (.int (l.count c : Nat))) ρ2 := fun G H σ e st nd Q q =>
  h G H σ e st nd _ fun v G1 H1 x1 s1 a1 k1 => by
    cases k1 with
    | lst ha hvs =>
      rw [of_dqs_ints hvs] at ha
      refine ⟨.inl ⟨rfl, _, .inl (.inl (x1.gh _ _ ha))⟩, ?_⟩
      refine h0 G1 H1 σ x1.gh s1 (by rw [a1]; exact nd) _ fun w G2 H2 x2 s2 a2 k2 => ?_
      cases k2
      exact ⟨_, l, c, rfl, rfl, .inl (.inl (x2.gh _ _ (x2.gg _ _ ha))), q _ G2 H2 (x1.then x2 a1) s2 (a2.trans a1) (.int _)⟩
theorem g_cnt (h : GE z b Rv.d ta ρ Ka) (h2 : GE z b Rv.d tb ρ Kb) : GE z b Rv.d (tCnt K ta tb) ρ (fun s k => Ka s fun d s' => ((Kb s' fun x s'' => R.ok (x, s'')).nox).bind fun q => (cntI d q.1).bind fun c => k c q.2) := fun s => by
  obtain ⟨m, e1, e2, e3⟩ := h s
  refine ⟨m.bind fun q => ((Kb q.2 fun x s'' => R.ok (x, s'')).nox).bind fun r => (cntI q.1 r.1).bind fun c => .ok (c, r.2), fun β k => ?_, fun q hq => ?_, fun e he => ?_⟩
  · rw [e1, R.bind_assoc]; congr 1; funext q; rw [R.bind_assoc]; congr 1; funext r; rw [R.bind_assoc]; rfl
  · obtain ⟨⟨d, s'⟩, g1, g2⟩ := R.bind_eq_ok hq
    obtain ⟨⟨x, s''⟩, g3, g4⟩ := R.bind_eq_ok g2
    obtain ⟨c, g5, g6⟩ := R.bind_eq_ok g4
    cases g6
    have k2 := e2 _ g1
    have k3 : Ev b tb (ρ s') (.d x) (ρ s'') := by
      obtain ⟨n2, f1, f2, f3⟩ := h2 s'
      have h3 := (f1 _ _).symm.trans (nox_ok g3)
      obtain ⟨⟨j', t⟩, h7, h8⟩ := R.bind_eq_ok h3
      cases h8
      exact f2 _ h7
    dsimp only at g5 k2
    unfold cntI at g5
    split at g5
    · split at g5
      · rename_i l hl
        cases g5
        rw [of_intsOf hl] at k2
        exact ev_cnt k2 k3
      · cases g5
    · cases g5
  · rcases R.bind_eq_ex he with h1 | ⟨⟨d, s'⟩, h1, h3⟩
    · exact fun G H σ x st nd w Q => (e3 _ h1) G H σ x st nd w _
    · rcases R.bind_eq_ex h3 with h4 | ⟨j, h4, h5⟩
      · exact absurd h4 nox_ex
      · rcases R.bind_eq_ex h5 with h6 | ⟨c, h6, h7⟩
        · unfold cntI at h6
          split at h6
          · split at h6 <;> cases h6
          · cases h6
        · cases h7
theorem pe_cnt {X : Cx} {o e : Expr} {apos cpos : Pos} {to te : TE} (ho : PE X o to) (he : PE X e te)
    (hbase : attributeBase o "count" X.env (eval o X.env) = eval o X.env := by rfl)
    (hfew : ((backTo cpos (starEach [e] X.env)).all (fun x => !x.1) && (backToKw cpos (keywordEach [] X.env)).all (fun x => x.1.isSome)
      && decide (([e] : List Expr).length + ([] : List Keyword).length + (if ([] : List Keyword).isEmpty then 0 else 1) < 30)) = true := by rfl)
    (hline : (apos.endLine == cpos.line) = true := by rfl) (hs : starEach [e] X.env = (false, eval e X.env) :: starEach [] X.env := by rfl) : PE X (.Call (.Attribute o "count" apos) [e] [] cpos) (tCnt X.K to te) :=
  pe_bm PySem.F.plainAttrs_list PySem.F.slot_list_count PySem.F.type_list_count mt_lcount ho (pa_cons he pa_nil hs) hbase hfew hline hs rfl
end
end Kn

/-! a new tuple whose first item is a list of one's own: handed over, kept, read, the list changed -/
namespace Kn
open PySem PySem.Spec PyProof.Rows L2
section
variable {N : List Str} {t : TS} {CA : Str → Addr} {vs : List V} {H : Hp} {Q : VK} {E : XK}
theorem bodyT {F : List D → R D} (h : spM CA Rv.o F vs H Q E) (k : ∀ ds, F ds ≠ .bad → ∃ M, F ds = outO M ∧ SvM (zD CA E N.length) t (slots0 N.length ds) M (fun _ _ => List.replicate N.length .un) (fun s => Empty.elim s)) : t { nx := fun _ H' => Q .non H', rt := Q } (L2.start N vs) H := by
  obtain ⟨G, ds, e, hd, hr⟩ := h
  have hb : F ds ≠ .bad := by
    rcases hr with ⟨a, h1, _⟩ | ⟨x, h1, _⟩ <;> rw [h1] <;> intro z <;> cases z
  obtain ⟨r, hF, k⟩ := k ds hb
  refine k G H _ e (st_slots0 hd) (by rw [adr_slots0]; exact List.nodup_nil) _ ?_
  match r, hF with
  | .ok (.nx s), hF => rcases hr with ⟨a, h1, q⟩ | ⟨x, h1, _⟩ <;> rw [h1] at hF <;> cases hF
  | .ok (.rt r o), hF =>
    rcases hr with ⟨a, h1, q⟩ | ⟨x, h1, _⟩
    · rw [h1] at hF
      cases r with
      | d d => cases hF
      | l xs => cases hF
      | va v => cases hF
      | e es => cases hF
      | o d =>
        cases hF
        exact fun v ρ' G' H' σ' s w o => q v G' H' (by have x := s.x; rwa [adr_slots0] at x) (by
          obtain ⟨hd, a, p, ws, us, h1, h2, h3, h4⟩ := w
          exact ⟨hd, a, p, ws, us, h1, h2.imp id fun z => ⟨z.1, z.2.resolve_left (by rw [adr_slots0]; simp)⟩, h3, h4.resolve_left (by rw [adr_slots0]; simp)⟩)
    · rw [h1] at hF
      cases r <;> cases hF
  | .ex y, hF =>
    rcases hr with ⟨a, h1, q⟩ | ⟨x, h1, q⟩
    · rw [h1] at hF; cases hF
    · rw [h1] at hF; cases hF
      exact fun cls d G' H' σ' x' s' k' => q cls d G' H' (by rwa [adr_slots0] at x') k'
  | .bad, hF =>
    rcases hr with ⟨a, h1, _⟩ | ⟨x, h1, _⟩ <;> rw [h1] at hF <;> cases hF
theorem adr_eq {s s' : Sl} (h : adr1 s = adr1 s') : ∀ (ρ : En) (i : Nat), adr (ρ.set i s) = adr (ρ.set i s')
  | [], _ => rfl
  | x :: ρ, 0 => by rw [List.set_cons_zero, List.set_cons_zero, adr_cons, adr_cons, h]
  | x :: ρ, i + 1 => by rw [List.set_cons_succ, List.set_cons_succ, adr_cons, adr_cons, adr_eq h ρ i]
theorem adr_out {p : Addr} {s : Sl} : ∀ {ρ : En} {i : Nat}, (adr ρ).Nodup → ρ[i]? = some s → p ∈ adr1 s → p ∉ adr (ρ.set i .un)
  | [], i, _, h, _ => by simp at h
  | x :: r, 0, n, h, hp => fun hq => by
    rw [adr_cons] at n
    obtain ⟨n1, n2, n3⟩ := List.nodup_append.mp n
    simp at h; subst h
    rw [List.set_cons_zero, adr_cons] at hq
    exact n3 p hp p (by simpa [adr1] using hq) rfl
  | x :: r, i + 1, n, h, hp => fun hq => by
    rw [adr_cons] at n
    obtain ⟨n1, n2, n3⟩ := List.nodup_append.mp n
    have h' : r[i]? = some s := by simpa using h
    rw [List.set_cons_succ, adr_cons] at hq
    rcases List.mem_append.mp hq with hq | hq
    · exact n3 p hq p (mem_adr1 h' hp) rfl
    · exact adr_out n2 h' hp hq
theorem StOk.updH {G H : Hp} {p : Addr} {o : HO} {σ : List (Option V)} {ρ : En} (h : StOk G H σ ρ) : p ∉ adr ρ → StOk G (upd H p o) σ ρ := by
  induction h with
  | nil => intro _; exact .nil
  | @cons o s σ ρ h t ih =>
    intro hp
    rw [adr_cons] at hp
    refine .cons ?_ (ih fun z => hp (List.mem_append_right _ z))
    rcases h with h | ⟨v, h1, h2⟩
    · exact .inl h
    · refine .inr ⟨v, h1, ?_⟩
      cases s with
      | un => trivial
      | dat d => exact h2
      | dc es => exact h2
      | va u => exact h2
      | kl K ns => exact h2
      | mu q zs =>
        obtain ⟨k1, k2, vs, k3, k4⟩ := h2
        refine ⟨k1, k2, vs, ?_, k4⟩
        rw [upd_ne (fun z => hp (List.mem_append_left _ (by simp [adr1, z])))]; exact k3
      | rg r => exact rg_keep h2 (Ex.refl _) (fun a ha => upd_ne fun z => hp (List.mem_append_left _ (by subst z; exact ha))) fun a ha => (h2.2.1 a ha).1
end
/-- the tuple at a; its first item the list at p -/
def rgT (a p : Addr) (d : D) : Rg where
  v := .ref a
  A := [p]
  ok := fun G H => ∃ (ws us : List V), G a = some (.tup (.ref p :: ws)) ∧ H p = some (.lst us) ∧ Dq (upd G p (.lst us)) (.ref a) d
  mono := fun G H G' H' e h ⟨ws, us, h1, h2, h3⟩ => ⟨ws, us, e _ _ h1, by rw [h p (by simp)]; exact h2, dq_mono (fun b o hb => by
    by_cases hp : b = p
    · subst hp; rw [upd_same] at hb ⊢; exact hb
    · rw [upd_ne hp] at hb ⊢; exact e b o hb) h3⟩
/-- a tuple -/
def tupT : D → Bool
  | .tuple _ => true
  | _ => false
theorem frt_tup {G : Hp} {a p : Addr} {ws : List V} {d : D} {P : Prop} (hd : Dq G (.ref a) d) (ht : tupT d = true) (h : G a = some (.tup (.ref p :: ws)) ∨ G a = some (.lst (.ref p :: ws)) ∧ P) : G a = some (.tup (.ref p :: ws)) := by
  rcases h with h | ⟨h, _⟩
  · exact h
  · cases hd with
    | tup ha hs => rw [h] at ha; cases ha
    | _ => cases ht
/-- the list's length -/
def lenT : D → Bool
  | .tuple (.list xs :: _) => decide (xs.length ≤ 1000000)
  | _ => false
section
variable {S N L : Type} {z z' : Rz} {b : Bool} {ρ ρ1 : En} {ρs : S → En} {te : TE} {tt : TT} {u : TS} {s0 : S} {eN : N → Addr → En} {eL : L → Addr → En} {m : R (Ct N L)} {K : PySem.W.Frag} {d : D} {E : Ens}
  {Ka : {β : Type} → S → (D → S → R β) → R β}
theorem ev_od (h : Ev b te ρ (.o d) ρ1) : Ev b te ρ (.d d) ρ1 := fun G H σ e st nd Q q => h G H σ e st nd Q fun v G' H' x s' a r => q v G' H' x s' a r.1
theorem g_od (h : GE z b Rv.o te ρs Ka) : GE z b Rv.d te ρs Ka := fun s => by
  obtain ⟨m, e1, e2, e3⟩ := h s
  exact ⟨m, e1, fun q hq => ev_od (e2 q hq), e3⟩
/-- return xs, y; xs one's own -/
theorem m_retTO {i j : Nat} {p : Addr} {xs o : List D} (hi : ρ[i]? = some (.mu p xs)) (hj : ρ[j]? = some (.dat d)) (how : OwR z.ow o (ρ.set i (.dat (.list xs)))) (hM : m = .ok (.rt (.o (.tuple [.list xs, d])) o) := by rfl) :
    SvM z (tRet (tTup (tCons (tVar i) (tCons (tVar j) tNil)))) ρ m eN eL := fun G H σ e st nd D hD => by
  subst hM
  obtain ⟨m1, m2, vs, m3, m4⟩ := st.muget hi
  obtain ⟨G2, e2, st2, nd2, k1, k2, k3⟩ := fz_core hi e st nd
  have hlt : i < ρ.length := (List.getElem?_eq_some_iff.mp hi).1
  obtain ⟨w, s1, s2⟩ := st2.get (i := i) (s := .dat (.list xs)) (List.getElem?_set_self hlt) (by simp)
  rw [m1] at s1
  have s1 := Option.some.inj (Option.some.inj s1)
  subst s1
  have hij : i ≠ j := fun z => by subst z; rw [hi] at hj; cases hj
  obtain ⟨wj, j1, j2⟩ := st2.get (i := j) (s := .dat d) (by rw [List.getElem?_set_ne hij]; exact hj) (by simp)
  have s2 : Dq G2 (.ref p) (.list xs) := s2
  have j2 : Dq G2 wj d := j2
  have s2' := s2
  cases s2 with
  | lst hp hs =>
  refine ⟨.ref p, m1, wj, j1, by rw [sizeLine_eq]; show 2 ≤ _; decide, fun a ha => ?_⟩
  have x2 : Ext [] G2 H (upd G2 a (.tup [.ref p, wj])) (upd H a (.tup [.ref p, wj])) := Ext.new e2 ha
  have hpa : p ≠ a := fun z => by subst z; rw [m3] at ha; cases ha
  exact hD (.ref a) _ _ _ σ (k1 ⟨Ext.up x2, fun q hq => .inl hq, st2.mono x2, nd2⟩) ⟨.tup upd_same (.cons (dq_mono x2.gg s2') (.cons (dq_mono x2.gg j2) .nil)), a, p, [wj], _, rfl, .inl upd_same, by rw [upd_ne hpa]; exact hp, .inl (mem_adr hi)⟩ how
/-- return f(..) -/
theorem sv_retX (h : Ev b te ρ (.o d) ρ1) (k : E.rt (.o d) ρ1) : Sv (tRet te) ρ E := fun G H σ e st nd D _ d2 _ _ =>
  h G H σ e st nd _ fun v G1 H1 x1 s1 a1 r1 => d2 (.o d) v ρ1 G1 H1 σ (stp_ev x1 a1 (fun q hq => .inl hq) s1 (by rw [a1]; exact nd)) (by
    obtain ⟨hd, a, p, ws, us, h1, h2, h3, h4⟩ := r1
    exact ⟨hd, a, p, ws, us, h1, h2.imp id fun z => ⟨z.1, .inr z.2⟩, h3, .inr h4⟩) k
theorem m_retX {o : S → List D} (h : GE z b Rv.o te ρs Ka) (how : ∀ s, OwR z.ow (o s) (ρs s)) (hM : m = Ka s0 (fun d s => .ok (.rt (.o d) (o s))) := by rfl) : SvM z (tRet te) (ρs s0) m eN eL := fun G H σ e st nd D hD => by
  obtain ⟨n, e1, e2, e3⟩ := h s0
  have hM := hM.trans (e1 _ _)
  subst hM
  cases n with
  | ok q =>
    obtain ⟨d, s⟩ := q
    exact sv_retX (E := { rt := fun r ρ' => r = .o d ∧ ρ' = ρs s }) (e2 _ rfl) ⟨rfl, rfl⟩ G H σ e st nd D (fun _ _ _ _ _ w => w.elim) (fun r v ρ' G' H' σ' s' w k => by
        obtain ⟨rfl, rfl⟩ := k
        exact hD v _ G' H' σ' s' w (how _)) (fun _ _ _ _ _ w => w.elim) (fun _ _ _ _ _ w => w.elim)
  | ex x => exact (e3 _ rfl) G H σ e st nd (fun cls d G' H' w1 w2 w3 => hD cls d G' H' σ w1 w2 w3) _
  | bad => exact hD.elim
/-- what the world tells without p -/
def lessG (G : Hp) (p : Addr) : Hp := fun c => if c = p then none else G c
theorem less_at {G : Hp} {p : Addr} : lessG G p p = none := if_pos rfl
theorem less_ne {G : Hp} {p c : Addr} (h : c ≠ p) : lessG G p c = G c := if_neg h
theorem ext_less {G H G1 H1 : Hp} {p : Addr} (hp : G p = none) (x : Ext [] G H G1 H1) : Ext [] G H (lessG G1 p) H1 where
  gg := fun c o hc => by
    have hb : c ≠ p := fun z => by subst z; rw [hp] at hc; cases hc
    rw [less_ne hb]; exact x.gg c o hc
  gh := fun c o hc => by
    by_cases hb : c = p
    · subst hb; rw [less_at] at hc; cases hc
    · rw [less_ne hb] at hc; exact x.gh c o hc
  fr := x.fr
  th := x.th
  nw := fun c hc h1 h2 => by
    by_cases hb : c = p
    · subst hb; exact less_at
    · rw [less_ne hb]; exact x.nw c hc h1 h2
theorem ext_lessU {G H G1 H1 : Hp} {p : Addr} {o : HO} (hp : G p = none) (x : Ext [] (upd G p o) H G1 H1) : Ext [] G H (lessG G1 p) H1 where
  gg := fun c u hc => by
    have hb : c ≠ p := fun z => by subst z; rw [hp] at hc; cases hc
    rw [less_ne hb]; exact x.gg c u (by rw [upd_ne hb]; exact hc)
  gh := fun c o hc => by
    by_cases hb : c = p
    · subst hb; rw [less_at] at hc; cases hc
    · rw [less_ne hb] at hc; exact x.gh c o hc
  fr := x.fr
  th := x.th
  nw := fun c hc h1 h2 => by
    by_cases hb : c = p
    · subst hb; exact less_at
    · rw [less_ne hb]; exact x.nw c hc (by rw [upd_ne hb]; exact h1) h2
theorem sv_asgT {i : Nat} (ht : tupT d = true) (h : Ev false te ρ (.o d) ρ) (k : ∀ a p, p ∉ adr ρ → E.nx (ρ.set i (.rg (rgT a p d)))) : Sv (tAsg te (gName i)) ρ E := fun G H σ e st nd D d1 _ _ _ =>
  h G H σ e st nd _ fun v G1 H1 x1 s1 a1 r1 => by
    obtain ⟨hd, a, p, ws, us, hv, h1, h2, h3⟩ := r1
    subst hv
    have h1 := frt_tup hd ht h1
    have hp0 : G p = none := e.none h3
    have hpa : p ∉ adr ρ := fun hm => by
      obtain ⟨_, o, ho⟩ := st.own hm
      rw [h3] at ho; cases ho
    have hap : a ≠ p := fun z => by subst z; rw [h2] at h1; cases h1
    have x2 : Ext [] G H (lessG G1 p) H1 := ext_less hp0 x1
    have hok : VOk (lessG G1 p) H1 (.ref a) (.rg (rgT a p d)) := ⟨rfl, fun q hq => by
      have hq : q = p := List.mem_singleton.mp hq
      subst hq
      exact ⟨less_at, _, x1.gh _ _ h2⟩, ws, us, by rw [less_ne hap]; exact h1, x1.gh _ _ h2, dq_mono (fun c o hc => by
        by_cases hb : c = p
        · subst hb; rw [upd_same, ← hc]; exact h2.symm
        · rw [upd_ne hb, less_ne hb]; exact hc) hd⟩
    have ea : adr (ρ.set i (.rg (rgT a p d))) = adr (ρ.set i (.mu p [])) := adr_eq (show adr1 (.rg (rgT a p d)) = adr1 (.mu p []) from rfl) ρ i
    refine d1 (ρ.set i (.rg (rgT a p d))) (lessG G1 p) H1 _ ⟨x2.up, fun q hq => ?_, (st.mono x2).set hok i, ?_⟩ (k a p hpa)
    · rcases adr_set hq with hq | hq
      · have hq : q = p := List.mem_singleton.mp hq
        right; rw [hq]; exact h3
      · exact .inl hq
    · rw [ea]; exact nd_setN nd hpa
/-- x = f(..), the new tuple kept as one's own -/
theorem m_asgT {i : Nat} {k : D → R (Ct N L)} {K' : S → {β : Type} → Unit → (D → Unit → R β) → R β} (h : ∀ s, GE z' false Rv.o te (fun _ : Unit => ρs s) (K' s)) (hk : ∀ d a p, p ∉ adr (ρs s0) → SvM z u ((ρs s0).set i (.rg (rgT a p d))) (k d) eN eL)
    (hM : m = (borR tupT (@K' s0 _ () fun a _ => R.ok a)).bind fun d => k d := by rfl) : SvM z (tSeq (tAsg te (gName i)) u) (ρs s0) m eN eL :=
  m_step (n := borR tupT (@K' s0 _ () fun a _ => R.ok a)) (P := fun d ρ' => ∃ a p, p ∉ adr (ρs s0) ∧ ρ' = (ρs s0).set i (.rg (rgT a p d))) (k := fun d => k d) (fun d hd => by
    unfold borR at hd
    split at hd
    · rename_i d' hd'
      split at hd
      · rename_i ht
        cases hd
        exact sv_asgT ht (u_ok (h s0) hd') fun a p hp => ⟨a, p, hp, rfl⟩
      · cases hd
    · cases hd) (fun e he => by
    unfold borR at he
    split at he
    · split at he <;> cases he
    · cases he) (fun d ρ' w => by
    obtain ⟨a, p, hp, rfl⟩ := w
    exact hk d a p hp) hM
theorem et_borT {c : Bool} (i : Nat) {a p : Addr} (hi : ρ[i]? = some (.rg (rgT a p d))) (h : EvT false tt (ρ.set i (.dat d)) c (ρ.set i (.dat d))) : EvT b tt ρ c ρ := by
  refine EvT.up ?_
  intro G H σ e st nd Q q
  obtain ⟨v, m1, hv, hA, ws, us, g1, g2, g3⟩ := st.get hi (by simp)
  have hv : v = .ref a := hv
  subst hv
  have gp : G p = none := (hA p (List.mem_singleton.mpr rfl)).1
  have e1 : Ex (upd G p (.lst us)) H := fun c o hc => by
    by_cases hb : c = p
    · subst hb; rw [upd_same] at hc; rw [← hc]; exact g2
    · rw [upd_ne hb] at hc; exact e c o hc
  have hnp : p ∉ adr (ρ.set i .un) := adr_out nd hi (List.mem_singleton.mpr rfl)
  have hlt : i < ρ.length := (List.getElem?_eq_some_iff.mp hi).1
  have q2 : StOk (upd G p (.lst us)) H σ (ρ.set i (.dat d)) := by
    have q1 := StOk.set (v := .ref a) (s := .dat d) (show Dq (upd G p (.lst us)) (.ref a) d from g3) i ((st.un' i).fz (o := .lst us) gp hnp)
    rw [List.set_set] at q1
    have es : σ.set i (some (.ref a)) = σ := by
      obtain ⟨hl, hg⟩ := List.getElem?_eq_some_iff.mp m1
      rw [← hg]; exact List.set_getElem_self hl
    rwa [es] at q1
  refine h _ H σ e1 q2 (nd_set0 rfl nd) Q fun G2 H2 x s2 a2 => ?_
  have x' : Ext [] G H (lessG G2 p) H2 := ext_lessU gp x
  exact q _ H2 x' (st.mono x') rfl
theorem gt_borT {i : Nat} {a p : Addr} {d : S → D} {K' : S → {β : Type} → Unit → (Bool → Unit → R β) → R β} (hi : ∀ s, (ρs s)[i]? = some (.rg (rgT a p (d s))))
    (h : ∀ s, GT z' false tt (fun _ : Unit => (ρs s).set i (.dat (d s))) (K' s)) : GT z b tt ρs (fun s k => (borB (@K' s _ () fun a _ => R.ok a)).bind fun a => k a s) := fun s => by
  refine ⟨(borB (@K' s _ () fun a _ => R.ok a)).bind fun a => .ok (a, s), fun β k => ?_, fun q hq => ?_, fun e he => ?_⟩
  · rw [R.bind_assoc]; rfl
  · obtain ⟨a, h3, h4⟩ := R.bind_eq_ok hq
    cases h4
    unfold borB borR at h3
    split at h3
    · rename_i d hd
      split at h3
      · cases h3
        exact et_borT i (hi s) (u_ok (h s) hd)
      · cases h3
    · cases h3
  · rcases R.bind_eq_ex he with h3 | ⟨a, h3, h4⟩
    · unfold borB borR at h3
      split at h3
      · split at h3 <;> cases h3
      · cases h3
    · cases h4
/-- x[0].append(e); x is not used any more -/
theorem sv_appT {i : Nat} {a p : Addr} {x : D} (h : Ev b te ρ (.d x) ρ1) (hi0 : ∃ d0, ρ[i]? = some (.rg (rgT a p d0))) (hi : ρ1[i]? = some (.rg (rgT a p d))) (hl : lenT d = true) (k : E.nx (ρ1.set i .un)) :
    Sv (tDrop (tBM K "list" rAppend (tOp (rIxM K) (tVar i) (tC (.int 0))) (tCons te tNil))) ρ E := fun G H σ e st nd D d1 _ _ _ => by
  obtain ⟨d0, hy⟩ := hi0
  obtain ⟨v, m1, hv, hA, ws, us, g1, g2, g3⟩ := st.get hy (by simp)
  have hv : v = .ref a := hv
  subst hv
  refine ⟨.ref a, m1, ?_⟩
  refine .inr ⟨a, .ref p :: ws, 0, .ref p, rfl, rfl, .inl (.inl (e _ _ g1)), atI_nat (j := 0) rfl, .inl ⟨rfl, us, .inl (.inl g2)⟩, ?_⟩
  refine h G H σ e st nd _ fun w G1 H1 x1 s1 a1 k1 => ?_
  obtain ⟨v2, n1, hv2, hA2, ws2, us2, q1, q2, q3⟩ := s1.get hi (by simp)
  have gp : G1 p = none := (hA2 p (List.mem_singleton.mpr rfl)).1
  have hm : p ∈ adr ρ := mem_adr1 hy (List.mem_singleton.mpr rfl)
  have nd1 : (adr ρ1).Nodup := by rw [a1]; exact nd
  have hlen : us2.length ≤ 1000000 := by
    have hap : a ≠ p := fun z => by subst z; rw [gp] at q1; cases q1
    unfold lenT at hl
    split at hl
    · rename_i xs r
      cases q3 with
      | tup ha hs =>
      rw [upd_ne hap, q1] at ha
      cases ha
      cases hs with
      | cons h1 h2 =>
      cases h1 with
      | lst hb hs2 =>
      rw [upd_same] at hb
      cases hb
      rw [hs2.len]; exact of_decide_eq_true hl
    · cases hl
  refine ⟨p, us2, w, rfl, rfl, q2, by rw [sizeLine_eq]; omega, ?_⟩
  have y1 : Ext (adr ρ) G H G1 (upd H1 p (.lst (us2 ++ [w]))) := (ext_b (M := []) x1).tr (Ext.set x1.gh hm gp)
  refine d1 (ρ1.set i .un) G1 _ σ ⟨y1, fun q hq => ?_, (s1.un' i).updH (adr_out nd1 hi (List.mem_singleton.mpr rfl)), nd_set0 rfl nd1⟩ k
  rcases adr_set hq with hq | hq
  · simp [adr1] at hq
  · rw [a1] at hq; exact .inl hq
theorem m_appT {i : Nat} {a p : Addr} {d : S → D} {k : S → R (Ct N L)} (hi : ∀ s, (ρs s)[i]? = some (.rg (rgT a p (d s)))) (h : GE z b Rv.d te ρs Ka) (hE : ∀ s e, (Ka s fun a s => R.ok (a, s)) ≠ .ex e) (hk : ∀ s, SvM z u ((ρs s).set i .un) (k s) eN eL)
    (hM : m = Ka s0 (fun _ s => if lenT (d s) = true then k s else .bad) := by rfl) : SvM z (tSeq (tDrop (tBM K "list" rAppend (tOp (rIxM K) (tVar i) (tC (.int 0))) (tCons te tNil))) u) (ρs s0) m eN eL := by
  obtain ⟨n, e1, e2, e3⟩ := h s0
  refine m_step (n := n.bind fun q => if lenT (d q.2) = true then .ok q else .bad) (P := fun q ρ' => ρ' = (ρs q.2).set i .un) (k := fun q => k q.2) (fun q hq => ?_) (fun e he => ?_) (fun q ρ' w => by rw [w]; exact hk _) ?_
  · obtain ⟨q1, h1, h2⟩ := R.bind_eq_ok hq
    split at h2
    · rename_i hl
      cases h2
      exact sv_appT (e2 _ h1) ⟨_, hi s0⟩ (hi _) hl rfl
    · cases h2
  · exfalso
    rcases R.bind_eq_ex he with h1 | ⟨q1, h1, h2⟩
    · exact hE s0 e ((e1 _ _).trans (by rw [h1]; rfl))
    · split at h2 <;> cases h2
  · refine (hM.trans (e1 _ _)).trans ?_
    rw [R.bind_assoc]
    congr 1; funext q
    by_cases hl : lenT (d q.2) = true
    · rw [if_pos hl, if_pos hl]; rfl
    · rw [if_neg hl, if_neg hl]; rfl
end
/-! ### taken apart; a value that is not kept -/
def unO {β : Type} (d : D) (f : List D → D → R β) : R β := match d with
  | .tuple [.list xs, y] => if noLs xs = true ∧ noL y = true then f xs y else .bad
  | _ => .bad
theorem unO_ok {β : Type} {d : D} {f : List D → D → R β} {c : β} (h : unO d f = .ok c) : ∃ xs y, d = .tuple [.list xs, y] ∧ noLs xs = true ∧ noL y = true ∧ f xs y = .ok c := by
  unfold unO at h
  split at h
  · split at h
    · rename_i hc
      exact ⟨_, _, rfl, hc.1, hc.2, h⟩
    · cases h
  · cases h
section
variable {S N L : Type} {z z' : Rz} {b : Bool} {ρ ρ1 : En} {ρs : S → En} {te : TE} {tt : TT} {u : TS} {s0 : S} {eN : N → Addr → En} {eL : L → Addr → En} {m : R (Ct N L)} {K : PySem.W.Frag} {d : D} {E : Ens}
  {Ka : {β : Type} → S → (D → S → R β) → R β}
theorem sv_unpT {i j : Nat} {xs : List D} {y : D} (h : Ev false te ρ (.o (.tuple [.list xs, y])) ρ) (h1 : noLs xs = true) (h2 : noL y = true) (k : ∀ p, p ∉ adr ρ → E.nx ((ρ.set i (.mu p xs)).set j (.dat y))) :
    Sv (tAsg te (gTup K 2 (gCons (gName i) (gCons (gName j) gNil)))) ρ E := fun G H σ e st nd D d1 _ _ _ =>
  h G H σ e st nd _ fun v G1 H1 x1 s1 a1 r1 => by
    obtain ⟨hd, a, p, ws, us, hv, g1, g2, g3⟩ := r1
    subst hv
    have g1 := frt_tup hd rfl g1
    have hp0 : G p = none := e.none g3
    have hpa : p ∉ adr ρ := fun hm => by
      obtain ⟨_, o, ho⟩ := st.own hm
      rw [g3] at ho; cases ho
    have x2 : Ext [] G H (lessG G1 p) H1 := ext_less hp0 x1
    have ht : ∀ c zs, G1 c = some (.tup zs) → lessG G1 p c = some (.tup zs) := fun c zs hc => by
      rw [less_ne (fun z => by subst z; rw [g2] at hc; cases hc)]; exact hc
    cases hd with
    | tup ha hs =>
    rw [g1] at ha
    cases ha
    cases hs with
    | cons q1 q2 =>
    cases q2 with
    | cons q3 q4 =>
    cases q4
    cases q1 with
    | lst hb hs2 =>
    rw [g2] at hb
    cases hb
    refine ⟨_, _, rfl, .inl (.inl (x1.gh _ _ g1)), rfl, _, _, rfl, _, _, rfl, rfl, ?_⟩
    have st3 := ((st.mono x2).set (v := .ref p) (s := .mu p xs) ⟨rfl, less_at, us, x1.gh _ _ g2, dqs_noL ht hs2 h1⟩ i).set (s := .dat y) (dq_noL ht q3 h2) j
    refine d1 _ (lessG G1 p) H1 _ ⟨x2.up, fun q hq => ?_, st3, nd_set0 rfl (nd_setN nd hpa)⟩ (k p hpa)
    rcases adr_set hq with hq | hq
    · simp [adr1] at hq
    · rcases adr_set hq with hq | hq
      · have hq : q = p := by simpa [adr1] using hq
        right; rw [hq]; exact g3
      · exact .inl hq
/-- a, b = f(..); a is one's own -/
theorem m_unpT {i j : Nat} {k : List D → D → R (Ct N L)} {K' : S → {β : Type} → Unit → (D → Unit → R β) → R β} (h : ∀ s, GE z' false Rv.o te (fun _ : Unit => ρs s) (K' s)) (hk : ∀ xs y p, p ∉ adr (ρs s0) → SvM z u (((ρs s0).set i (.mu p xs)).set j (.dat y)) (k xs y) eN eL)
    (hM : m = (borR (fun _ => true) (@K' s0 _ () fun a _ => R.ok a)).bind fun d => unO d k := by rfl) : SvM z (tSeq (tAsg te (gTup K 2 (gCons (gName i) (gCons (gName j) gNil)))) u) (ρs s0) m eN eL :=
  m_step (n := (borR (fun _ => true) (@K' s0 _ () fun a _ => R.ok a)).bind fun d => unO d fun xs y => .ok (xs, y)) (P := fun q ρ' => ∃ p, p ∉ adr (ρs s0) ∧ ρ' = ((ρs s0).set i (.mu p q.1)).set j (.dat q.2)) (k := fun q => k q.1 q.2) (fun q hq => by
    obtain ⟨d, h1, h2⟩ := R.bind_eq_ok hq
    obtain ⟨xs, y, rfl, h3, h4, h5⟩ := unO_ok h2
    cases h5
    unfold borR at h1
    split at h1
    · rename_i d' hd'
      cases h1
      exact sv_unpT (u_ok (h s0) hd') h3 h4 fun p hp => ⟨p, hp, rfl⟩
    · cases h1) (fun e he => by
    rcases R.bind_eq_ex he with h1 | ⟨d, h1, h2⟩
    · unfold borR at h1
      split at h1
      · cases h1
      · cases h1
    · unfold unO at h2
      split at h2
      · split at h2 <;> cases h2
      · cases h2) (fun q ρ' w => by
    obtain ⟨p, hp, rfl⟩ := w
    exact hk _ _ p hp) (by
    rw [hM, R.bind_assoc]
    congr 1; funext d
    unfold unO
    split
    · split <;> rfl
    · rfl)
theorem sv_appC {v0 : V} (h : Ev false te ρ (.o d) ρ) (hl : lenT d = true) (k : E.nx ρ) :
    Sv (tDrop (tBM K "list" rAppend (tOp (rIxM K) te (tC (.int 0))) (tCons (tC v0) tNil))) ρ E := fun G H σ e st nd D d1 _ _ _ =>
  h G H σ e st nd _ fun v G1 H1 x1 s1 a1 r1 => by
    obtain ⟨hd, a, p, ws, us, hv, g1, g2, g3⟩ := r1
    subst hv
    have g1 := frt_tup hd (by unfold lenT at hl; split at hl <;> first | rfl | cases hl) g1
    have hp0 : G p = none := e.none g3
    have hpa : p ∉ adr ρ := fun hm => by
      obtain ⟨_, o, ho⟩ := st.own hm
      rw [g3] at ho; cases ho
    have x2 : Ext [] G H (lessG G1 p) H1 := ext_less hp0 x1
    have hlen : us.length ≤ 1000000 := by
      unfold lenT at hl
      split at hl
      · cases hd with
        | tup ha hs =>
        rw [g1] at ha
        cases ha
        cases hs with
        | cons h1 h2 =>
        cases h1 with
        | lst hb hs2 =>
        rw [g2] at hb
        cases hb
        rw [hs2.len]; exact of_decide_eq_true hl
      · cases hl
    refine .inr ⟨a, .ref p :: ws, 0, .ref p, rfl, rfl, .inl (.inl (x1.gh _ _ g1)), atI_nat (j := 0) rfl, .inl ⟨rfl, us, .inl (.inl (x1.gh _ _ g2))⟩, ?_⟩
    refine ⟨p, us, v0, rfl, rfl, x1.gh _ _ g2, by rw [sizeLine_eq]; omega, ?_⟩
    have y0 : Ext [p] (lessG G1 p) H1 (lessG G1 p) (upd H1 p (.lst (us ++ [v0]))) := Ext.set x2.gh (List.mem_singleton.mpr rfl) less_at
    have y1 : Ext [] G H (lessG G1 p) (upd H1 p (.lst (us ++ [v0]))) := x2.trans y0 fun q hq => .inr (by rw [List.mem_singleton.mp hq]; exact g3)
    exact d1 ρ (lessG G1 p) _ σ ⟨y1.up, fun q hq => .inl hq, (st.mono x2).updH hpa, nd⟩ k
/-- f(..)[0].append(c) -/
theorem m_appC {v0 : V} {k : R (Ct N L)} {K' : S → {β : Type} → Unit → (D → Unit → R β) → R β} (h : ∀ s, GE z' false Rv.o te (fun _ : Unit => ρs s) (K' s)) (hk : SvM z u (ρs s0) k eN eL)
    (hM : m = (borR lenT (@K' s0 _ () fun a _ => R.ok a)).bind fun _ => k := by rfl) : SvM z (tSeq (tDrop (tBM K "list" rAppend (tOp (rIxM K) te (tC (.int 0))) (tCons (tC v0) tNil))) u) (ρs s0) m eN eL :=
  m_step (n := borR lenT (@K' s0 _ () fun a _ => R.ok a)) (P := fun _ ρ' => ρ' = ρs s0) (k := fun _ => k) (fun q hq => by
    unfold borR at hq
    split at hq
    · rename_i d' hd'
      split at hq
      · rename_i hl
        cases hq
        exact sv_appC (u_ok (h s0) hd') hl rfl
      · cases hq
    · cases hq) (fun e he => by
    unfold borR at he
    split at he
    · split at he <;> cases he
    · cases he) (fun q ρ' w => by rw [w]; exact hk) hM
end
/-! ### keyword calls that leave out keyword-only parameters -/
section
variable {α S : Type} {X : Cx} {z : Rz} {b : Bool} {n m n' m' : Nat} {π : List Nat} {dvs : List V} {dds : List D} {ρ : S → En} {ts tk : TA} {rv : α → Rv} {Kl Km : {β : Type} → S → (List D → S → R β) → R β}
def gD {α : Type} (n m : Nat) (π : List Nat) (ds : List α) (us ws : List α) : List α := pk n m π us (ws ++ ds)
theorem kb_fund {K : PySem.W.Frag} {x qual : Str} {params : Arguments} {body : List Stmt} {scope : Scope} {kws : List (Str × V)} {f : Addr} {fd : FuncData} {ps ks : List Str} {n m : Nat} {π : List Nat} {ms : List (Str × V)} (F : FunD K x qual params body scope [] kws f fd) (hk : kws ≠ []) (hms : ∀ q ∈ ms, q ∈ kws) (h0 : 0 < ps.length) (hm : m = ks.length + ms.length)
    (h : ∀ (D : Addr) (doc pm : Value) (an : Option Addr) (cdv ct : Value) (us mv ws : List Value), us.length = n → mv.length = ms.length → ws.length = ks.length →
      KwChain D ((ms.map (·.1)).zip mv) (bindArgs (PySem.W.fnOf x qual params body scope .none (.ref D) doc pm an cdv ct) ⟨us, ks.zip ws⟩) (ps.zip (pk n m π us (ws ++ mv)))) :
    ∃ g, KBinds K fd ps ks g (gD n m π (ms.map (·.2))) := by
  obtain ⟨oc, od, dV, kV, doc, pm, an, cdv, ct, osl, rfl, lk, hcd, hD, hK⟩ := F.ex
  rcases hD with ⟨_, rfl⟩ | ⟨e, _⟩
  · rcases hK with e | ⟨D, rfl, hq⟩
    · exact absurd e hk
    · obtain ⟨mv, hl, rk, hks⟩ := kwd_vals (ms := ms) fun q hm => hq q (hms q hm)
      refine ⟨fun us ws => pk n m π us (ws ++ mv), fun s us ws X l => ?_, fun r1 r2 => pk_vals r1 (r2.append rk)⟩
      by_cases hc : us.length = n ∧ (ws ++ mv).length = m
      · exact BindsTo.of_looks fun M => KwChain.looks X hks (h D doc pm an cdv ct us mv ws hc.1 hl (by have := hc.2; rw [List.length_append] at this; omega))
      · unfold pk at l
        rw [if_neg hc] at l
        exact absurd l (by simp; omega)
  · exact absurd rfl e
variable {k j : Nat} {x : Str} {ps ks : List Str} {sp : Sp} {p pos : Pos} {e : Expr} {es : List Expr} {t : TA} {f : Addr} {fd : FuncData} {W : WX} {kws : List Keyword} {dvs0 : List V}
theorem pe_calMKd (C : CalM X.prog X.w X.K X.mg X.base dvs0 x k ps sp f fd) (hr : RoomG j X.A) (hk : k ≤ j) (tx : Takes X W) (hb : ∃ g, KBinds X.K fd ps ks g (gD n m π dvs)) (hg : Gl X x) (ha : PA X (e :: es) t) (hkw : PK X kws tk)
    (hall : (backToKw pos (keywordEach kws X.env)).all (·.1.isSome) = true := by rfl) (hks : (backToKw pos (keywordEach kws X.env)).filterMap (·.1) = ks := by rfl)
    (hdb : (x == ("__debug__" : Str)) = false := by decide) (he : starEach (e :: es) X.env = (false, eval e X.env) :: starEach es X.env := by rfl)
    (hpl : ((backTo pos (starEach (e :: es) X.env)).any (·.1) || (backToKw pos (keywordEach kws X.env)).any (·.1.isNone)) = false := by rfl) : PE X (.Call (.Name x p) (e :: es) kws pos) (tCallKS sp (gD n m π dvs) (WE W) t tk) := by
  obtain ⟨g, hb⟩ := hb
  refine ⟨fun pins s σ H Q I h => ?_⟩
  refine wpAny_Call_Name_kw (ld_glob I hg C.m ?_ hdb)
  refine PySem.W.callWith_KW (h₀ := X.base) I.ok.mod.kin C.kp hall (thn (ha.run pos pins s σ H _ I h) fun us s1 ⟨vs, H1, I1, r, q⟩ => ?_) hpl he
  refine thn (hkw.run pos pins s1 σ H1 _ I1 q) fun ws s2 ⟨zs, H2, I2, rz, q2⟩ => ⟨I2.kIn, ?_⟩
  rw [hks]
  exact run_fnkS C.g (hr.mono hk) hb (passAt tx σ) I2 r rz q2
theorem pe_calMKd0 (C : CalM X.prog X.w X.K X.mg X.base dvs0 x k ps sp f fd) (hr : RoomG j X.A) (hk : k ≤ j) (tx : Takes X W) (hb : ∃ g, KBinds X.K fd ps ks g (gD n m π dvs)) (hg : Gl X x) (hkw : PK X kws tk)
    (hall : (backToKw pos (keywordEach kws X.env)).all (·.1.isSome) = true := by rfl) (hks : (backToKw pos (keywordEach kws X.env)).filterMap (·.1) = ks := by rfl)
    (hdb : (x == ("__debug__" : Str)) = false := by decide) (hpl : ((backTo pos (starEach [] X.env)).any (·.1) || (backToKw pos (keywordEach kws X.env)).any (·.1.isNone)) = false := by rfl) :
    PE X (.Call (.Name x p) [] kws pos) (tCallKS sp (gD n m π dvs) (WE W) tNil tk) := by
  obtain ⟨g, hb⟩ := hb
  refine ⟨fun pins s σ H Q I h => ?_⟩
  refine wpAny_Call_Name_kw (ld_glob I hg C.m ?_ hdb)
  refine PySem.W.callWith_KW0 (h₀ := X.base) I.ok.mod.kin C.kp hall (thn (hkw.run pos pins s σ H _ I h) fun ws s2 ⟨zs, H2, I2, rz, q2⟩ => ⟨I2.kIn, ?_⟩) hpl
  rw [hks]
  exact run_fnkS (us := []) (vs := []) C.g (hr.mono hk) hb (passAt tx σ) I2 .nil rz q2
theorem g_callKd {n m : Nat} {F : List D → R α} (h : GA z b n ts ρ Kl) (h2 : GA z b m tk ρ Km) (hw : ∀ s, Wk (ρ s) z.rx) (hdv : ∀ G, DqA G dvs dds) : GE z b rv (tCallKS (spM z.CA rv F) (gD n' m' π dvs) (WE z.W) ts tk) ρ (fun s k => Kl s fun ds s' => Km s' fun es s'' => (F (gD n' m' π dds ds es)).bind fun a => k a s'') := fun s => by
  obtain ⟨m, e1, e2, e3⟩ := h s
  let m2 : S → R (List D × S) := fun s => Classical.choose (h2 s)
  have h2'' : ∀ s, (∀ (β : Type) (k : List D → S → R β), @Km β s k = (m2 s).bind fun q => k q.1 q.2) ∧ (∀ q, m2 s = .ok q → (q.1.length = _ ∧ EvA b tk (ρ s) (q.1.map Ar.d) (ρ q.2))) ∧ ∀ e, m2 s = .ex e → EE z tk (ρ s) e := fun s => Classical.choose_spec (h2 s)
  refine ⟨m.bind fun q => (m2 q.2).bind fun p => (F (gD n' m' π dds q.1 p.1)).bind fun a => .ok (a, p.2), fun β k => ?_, fun q hq => ?_, fun e he => ?_⟩
  · rw [e1, R.bind_assoc]; congr 1; funext q; rw [(h2'' q.2).1, R.bind_assoc]; congr 1; funext p; rw [R.bind_assoc]; rfl
  · obtain ⟨⟨ds, s1⟩, h3, h4⟩ := R.bind_eq_ok hq
    obtain ⟨⟨es, s2⟩, h5, h6⟩ := R.bind_eq_ok h4
    obtain ⟨a, h7, h8⟩ := R.bind_eq_ok h6
    cases h8
    intro G H σ x st nd Q q
    exact (e2 _ h3).2 G H σ x st nd _ fun vs G1 H1 x1 s2 a1 k1 => ((h2'' _).2.1 _ h5).2 G1 H1 σ x1.gh s2 (by rw [a1]; exact nd) _ fun zs G2 H2 x2 s3 a2 k2 =>
      ⟨G2, _, x2.gh, pk_dqs (as_data (k1.mono x2.gg)) ((as_data k2).app (hdv G2)), .inl ⟨a, h7, fun v G3 H3 x3 k3 => q v G3 H3 ((x1.then x2 a1).tr x3.up) (s3.mono x3) (a2.trans a1) ((k3.back x2).back x1)⟩⟩
  · rcases R.bind_eq_ex he with h3 | ⟨⟨ds, s1⟩, h3, h4⟩
    · exact fun G H σ x st nd w q => (e3 _ h3) G H σ x st nd w _
    · rcases R.bind_eq_ex h4 with h5 | ⟨⟨es, s2⟩, h5, h6⟩
      · exact fun G H σ x st nd w Q => (e2 _ h3).2 G H σ x st nd _ fun vs G1 H1 x1 s2 a1 k1 => ((h2'' _).2.2 _ h5) G1 H1 σ x1.gh s2 (by rw [a1]; exact nd) (fun cls d G' H' x2 s3 k2 => w cls d G' H' ((ext_b (M := []) x1).tr (by rw [← a1]; exact x2)) s3 k2) _
      · rcases R.bind_eq_ex h6 with h7 | ⟨a, h7, h8⟩
        · intro G H σ x st nd w Q
          exact (e2 _ h3).2 G H σ x st nd _ fun vs G1 H1 x1 s3 a1 k1 => ((h2'' _).2.1 _ h5).2 G1 H1 σ x1.gh s3 (by rw [a1]; exact nd) _ fun zs G2 H2 x2 s4 a2 k2 =>
            ⟨G2, _, x2.gh, pk_dqs (as_data (k1.mono x2.gg)) ((as_data k2).app (hdv G2)), .inr ⟨e, h7, fun cls d G3 H3 x3 k3 => w cls d G3 H3 ((ext_b (M := []) (x1.then x2 a1)).tr x3.up) ((hw s2).st (s4.mono x3)) k3⟩⟩
        · cases h8
end
end Kn

/-! sorted of rows (tuples or lists of ints, of any lengths); what is never reached; x not in (..) of any data -/
namespace Kn
open PySem PySem.W PySem.SeqAt PySem.Calls PyProof.Rows
section
variable {prog : Program} {w : World} {A : Around} {E : Value → Shared → Prop} {s : Shared} {M : Model}
theorem klt_gen (x y : Value) : keyLt' general' x y = oneLt' false x y := rfl
theorem tup_lt_call {Q : Value → Shared → Prop} {l b : Addr} {xs ys : Array Value} {e r : Nat → Bool} (hl : s.heap.IsTuple l xs) (hb : s.heap.IsTuple b ys)
    (he : ∀ j (h1 : j < xs.size) (h2 : j < ys.size), EqAt A.in1 s xs[j] ys[j] (e j)) (hr : ∀ j (h1 : j < xs.size) (h2 : j < ys.size), e j = false → RcLt A.in1 s xs[j] ys[j] (r j))
    (h : Q (.bool (firstLt e r (decide (xs.size < ys.size)) (List.range (min xs.size ys.size)))) s) : wpAny (model prog w) A (call (.builtin "tuple.__lt__") [.ref l, .ref b]) Q E s := by
  obtain ⟨⟨c1, d1, t1, s1⟩, o1, k1, n1, e1⟩ := id hl
  obtain ⟨⟨c2, d2, t2, s2⟩, o2, k2, n2, e2⟩ := id hb
  dsimp only at k1 e1 k2 e2
  subst k1 e1 k2 e2
  exact call_meets F.slot_tuple_lt ⟨_, o1, rfl⟩ F.entry_tuple_lt (F.args_tuple_lt_2 _ _) (tuple_ltAt l b xs ys n1 n2 d1 d2 s1 s2 e r) ⟨o1, o2, he, hr, h⟩
/-- two tuples as keys of one type -/
theorem one_tups {x y : List PyData} {a b : Value} {as bs : List Addr} {Q : Bool → Shared → Prop} (ra : Reads s.heap a (.tuple x) as) (rb : Reads s.heap b (.tuple y) bs) (hal : alikeAll x y = true)
    (hu : A.units + min (PyData.tuple x).depth (PyData.tuple y).depth < cLine) (hq : Q (dataLt (.tuple x) (.tuple y)) s) : wpAny (model prog w) A (oneLt' true a b) Q E s := by
  cases ra with
  | @tuple l o vs n _ as1 h1 h2 h3 h4 =>
    cases rb with
    | @tuple l' o' ws n' _ bs1 k1 k2 k3 k4 =>
      have m1 : vs.size = x.length := by simpa using ReadsAll.length _ _ _ h4
      have m2 : ws.size = y.length := by simpa using ReadsAll.length _ _ _ k4
      rw [dataLt_tuple, ← firstLt_toks x y hal, ← m1, ← m2] at hq
      rw [oneLt'_eq]
      simp only [if_true]
      refine wpAny_bind (wpAny_cRoomFor (room_here hu) ?_)
      refine wpAny_bind (wpAny_callSpecialIfBound?_slot (T := "tuple") ⟨_, h1, h2⟩ F.slot_tuple_lt
        (tup_lt_call (e := pairEq x y) (r := fun j => dataLt (x.getD j .none) (y.getD j .none)) ⟨_, h1, h2, _, h3⟩ ⟨_, k1, k2, _, k3⟩ (fun j j1 j2 => ?_) (fun j j1 j2 hj => ?_) ?_))
      · have z := eqAt_alikeAll x y A.in1 s vs.toList ws.toList _ _ h4 k4 hal (room_in hu) j (by simpa using j1) (by simpa using j2)
        rwa [Array.getElem_toList, Array.getElem_toList] at z
      · have z := rcLt_alikeAll x y A.in1 s vs.toList ws.toList _ _ h4 k4 hal (room_in hu) j (by simpa using j1) (by simpa using j2) hj
        rwa [Array.getElem_toList, Array.getElem_toList] at z
      · exact wpAny_truthy_bool hq
/-- tuples with their first items, if any -/
inductive TupF (h : Heap) : List Value → List (Option Value) → Prop
  | nil : TupF h [] []
  | cons {a : Addr} {o : Obj} {xs : Array Value} {n : Nat} {vs : List Value} {fs : List (Option Value)} : h.get? a = some o → o.cls = .type "tuple" → o.data = .seq xs n → TupF h vs fs → TupF h (.ref a :: vs) (xs[0]? :: fs)
theorem TupF.typ {h : Heap} : ∀ {vs : List Value} {fs : List (Option Value)}, TupF h vs fs → ∀ v ∈ vs, Looks M h (typeOf v) (.type "tuple")
  | _, _, .nil, _, hv => by simp at hv
  | _, _, .cons h1 h2 h3 t, v, hv => by
    rcases List.mem_cons.mp hv with rfl | hv
    · exact h2 ▸ (Looks.ld h1).andThen .now
    · exact TupF.typ t v hv
theorem tupF_firsts : ∀ {vs : List Value} {fs : List (Option Value)} {Q : List (Option Value) → Shared → Prop}, TupF s.heap vs fs → Q fs s → wpAny M A (vs.mapM firstOfTuple') Q E s
  | _, _, _, .nil, h => by rw [List.mapM_nil]; exact wpAny_pure h
  | _, _, Q, .cons (a := a) (o := o) (xs := xs) (vs := vs) (fs := fs) h1 h2 h3 t, h => by
    rw [List.mapM_cons]
    refine wpAny_bind ?_
    rw [kas_first_eq]
    refine wpAny_bind (Looks.here (show Looks M s.heap (typeOf (.ref a)) o.cls from (Looks.ld h1).andThen .now) ?_)
    rw [h2, if_neg (by first | decide | simp)]
    refine wpAny_bind (listItems_at h1 h3 (wpAny_pure ?_))
    exact wpAny_bind (tupF_firsts (Q := fun r s' => wpAny M A (pure (xs[0]? :: r)) Q E s') t (wpAny_pure h))
theorem tupF_kind {vs : List Value} {fs : List (Option Value)} {Q : SortKind → Shared → Prop} (t : TupF s.heap vs fs) (hn : none ∈ fs) (h2 : 2 ≤ vs.length) (h : Q (if (fs[0]?.bind id).isSome = true then general' else oneType') s) :
    wpAny M A (keyKind' vs.toArray) Q E s := by
  obtain ⟨v1, v2, rest, rfl⟩ : ∃ v1 v2 rest, vs = v1 :: v2 :: rest := by
    match vs, h2 with
    | [], h2 => simp at h2
    | [_], h2 => simp at h2
    | v1 :: v2 :: rest, _ => exact ⟨v1, v2, rest, rfl⟩
  rw [kat_kind_eq, List.mapM_toArray, map_eq_pure_bind]
  refine wpAny_bind (wpAny_bind (tupF_firsts t (wpAny_pure ?_)))
  have hall : (fs.toArray.all fun x => x.isSome) = false := by
    rw [Bool.eq_false_iff]
    intro z
    rw [List.all_toArray, List.all_eq_true] at z
    exact absurd (z none hn) (by simp)
  rw [if_neg (by rw [hall]; decide)]
  have e0 : fs.toArray[0]? = fs[0]? := by simp
  rw [e0]
  by_cases hs : (fs[0]?.bind id).isSome = true
  · rw [if_pos hs] at h ⊢
    exact wpAny_pure h
  · rw [if_neg hs] at h ⊢
    rw [oneTypeOnly'_eq, List.mapM_toArray, map_eq_pure_bind]
    refine wpAny_bind (wpAny_bind (wpAny_bind (kas_mapM (r := Value.type "tuple") _ (fun v hv Q' hq => (t.typ v hv).here hq) (wpAny_pure ?_))))
    have hall2 : ((List.map (fun _ => Value.type "tuple") (v1 :: v2 :: rest)).toArray.all fun x => x == Value.type "tuple") = true := by
      simp only [List.all_toArray, List.all_map, List.all_eq_true]
      intro _ _
      exact beq_self_eq_true _
    have h0 : (List.map (fun _ => Value.type "tuple") (v1 :: v2 :: rest)).toArray[0]? = some (Value.type "tuple") := by simp
    rw [h0]
    simp only [hall2, if_true]
    exact wpAny_pure (wpAny_pure h)
theorem tupF_of {h : Heap} : ∀ {vs : List Value} {ds : List PyData}, EachIs (fun v d => ∃ as, Reads h v d as) vs ds → (∀ d, d ∈ ds → ∃ xs, d = .tuple xs) → ∃ fs, TupF h vs fs ∧ (PyData.tuple [] ∈ ds → none ∈ fs)
  | _, _, .nil, _ => ⟨[], .nil, fun z => by simp at z⟩
  | _, _, .cons (b := d) ⟨as, r⟩ t, ht => by
    obtain ⟨fs, h1, h2⟩ := tupF_of t fun d hd => ht d (List.mem_cons_of_mem _ hd)
    obtain ⟨xs, rfl⟩ := ht d (List.mem_cons_self ..)
    cases r with
    | @tuple a o vs n _ _ ho hc hd hr =>
      refine ⟨_, .cons ho hc hd h1, fun z => ?_⟩
      rcases List.mem_cons.mp z with z | z
      · have e : xs = [] := by injection z with z; exact z.symm
        subst e
        have hv : vs.toList = [] := by
          cases q : vs.toList with
          | nil => rfl
          | cons f fr => rw [q] at hr; cases hr
        have hz : vs[0]? = none := by rw [← Array.getElem?_toList, hv]; rfl
        rw [hz]; exact List.mem_cons_self ..
      · exact List.mem_cons_of_mem _ (h2 z)
/-- alike rows -/
def SortX (ds : List PyData) : Prop := Sortable ds ∨ ∀ d ∈ ds, ∃ xs, d = .tuple xs
theorem sortsX {vs : List Value} {ds : List PyData} (e : EachIs (fun v d => ∃ as, Reads s.heap v d as) vs ds) (hal : AllAlike ds) (hk : SortX ds) (hu : ∀ d, d ∈ ds → A.units + d.depth < cLine) : SortsAt prog w A s (dataKind s.heap ds) vs := by
  rcases hk with hk | ht
  · exact SortsAt.data e hal hk hu
  by_cases hne : ∀ d, d ∈ ds → ∃ x r, d = .tuple (x :: r)
  · exact SortsAt.data e hal (.inl hne) hu
  have hem : PyData.tuple [] ∈ ds := by
    refine Classical.byContradiction fun z => hne fun d hd => ?_
    obtain ⟨xs, rfl⟩ := ht d hd
    cases xs with
    | nil => exact absurd hd z
    | cons x r => exact ⟨x, r, rfl⟩
  obtain ⟨fs, t, hn⟩ := tupF_of e ht
  have room : ∀ {d d' : PyData}, d ∈ ds → A.units + min d.depth d'.depth < cLine := fun {d d'} hd => Nat.lt_of_le_of_lt (Nat.add_le_add_left (Nat.min_le_left _ _) _) (hu d hd)
  refine ⟨fun v hv => ?_, if (fs[0]?.bind id).isSome = true then general' else oneType', ?_, fun h2 E Q hq => tupF_kind t (hn hem) h2 hq⟩
  · obtain ⟨d, hd, as, r⟩ := e.left v hv
    exact ⟨_, dataKind_some hal hd r⟩
  · intro E x y a b Q ha hb hq
    obtain ⟨d, as, hd, ra, rfl⟩ := dataKind_inv ha
    obtain ⟨d', bs, hd', rb, rfl⟩ := dataKind_inv hb
    have hdd := hal d hd d' hd'
    obtain ⟨xs, rfl⟩ := ht d hd
    obtain ⟨ys, rfl⟩ := ht d' hd'
    have hq' : Q (dataLt (.tuple xs) (.tuple ys)) s := hq
    split
    · rw [klt_gen]
      exact oneLt_alike (f := false) (fun z => nomatch z) ra rb hdd (fun z => nomatch z) (room hd) hq'
    · rw [keyLt'_oneType]
      exact one_tups ra rb (by simpa [alike] using hdd) (room hd) hq'
theorem sorted_X {β : Type} {vs : List Value} {bs : List β} {enc : β → PyData} {R : Value → β → Prop} {l : Addr} {Q : Value → Shared → Prop} (hl : s.heap.IsList l vs.toArray) (e : EachIs R vs bs) (er : EachIs (fun v b => ∃ as, Reads s.heap v (enc b) as) vs bs)
    (hal : AllAlike (bs.map enc)) (hk : SortX (bs.map enc)) (hL : bs.length ≤ sizeLine) (hu : ∀ b, b ∈ bs → A.units + 2 + (enc b).depth < cLine)
    (h : ∀ out, out.length = bs.length → EachIs R out (bs.mergeSort (dataLe false enc)) → Q (.ref (s.heap.objs.size + 1)) { s with heap := sortedAll s.heap vs (List.toArray out) }) : wpAny (model prog w) A (call (.builtin "sorted") [.ref l]) Q E s := by
  have er2 : EachIs (fun v b => ∃ as, Reads (sortingHeap (copyHeap s.heap vs) (s.heap.objs.size + 1) vs) v (enc b) as) vs bs := er.mono fun _ _ ⟨as, r⟩ => ⟨as, PyProof.Rows.Reads.keeps (fun _ _ => sorting_copy_old) r⟩
  refine sorted_vals hl (sortsX (s := { s with heap := sortingHeap (copyHeap s.heap vs) (s.heap.objs.size + 1) vs }) (each_map (R := fun v d => ∃ as, Reads (sortingHeap (copyHeap s.heap vs) (s.heap.objs.size + 1) vs) v d as) enc er2) hal hk (bound_map hu)) (by rw [e.length]; exact hL) ?_
  exact h _ (by rw [sortVals_length false rfl]; exact e.length) (sortVals_data false e er2 hal)
end
end Kn
/-! ### sorted of a tuple, reverse=True -/
--KN
namespace SrtO
open PySem PySem.Spec PyProof.Rows Srt L2
section
variable {prog : Program} {w : World} {A : Around} {E : Value → Shared → Prop} {s : Shared}
theorem collect_tup {l : Addr} {vs : List Value} {Q : List Value → Shared → Prop} (hl : IsTup s.heap l vs.toArray)
    (h : Q vs { s with heap := (s.heap.push (seqObj "list" #[] 0)).update s.heap.objs.size (Obj.mapSeq (· ++ vs.toArray)) }) (hsz : vs.length ≤ sizeLine) :
    wpAny (model prog w) A (collect (.ref l)) Q E s := by
  obtain ⟨o, ho, hc, n, hd⟩ := id hl
  unfold collect
  refine wpAny_bind (wpAny_runValue (codeAny_builtin entry_proto_collect' ?_))
  show wpAny _ _ (do again (.builtin "list.__iadd__" ⟨[← newList [], .ref l], []⟩)) _ _ s
  refine wpAny_bind (wpAny_newList (wpAny_pure ⟨Code.quiet_builtin _ (by decide +kernel), codeAny_builtin entry_list_iadd' ?_⟩))
  show wpAny _ _ (Builtin.List.listExtendWith (.ref s.heap.objs.size) (.ref l) (.ref s.heap.objs.size)) _ _ { s with heap := s.heap.push (seqObj "list" #[] 0) }
  unfold Builtin.List.listExtendWith
  have ho' : (s.heap.push (seqObj "list" #[] 0)).get? l = some o := Heap.get?_push_of_some _ ho
  refine wpAny_bind (wpAny_typeOf (T := "tuple") ⟨o, ho', hc⟩ ?_)
  have ht : (Value.type "tuple" == Value.type "tuple") = true := by rfl
  rw [if_pos (by rw [ht]; simp)]
  refine wpAny_bind (listItems_at ho' hd ?_)
  refine wpAny_bind (listItems_at (xs := #[]) (n := 0) (Heap.get?_push_size _ rfl) rfl ?_)
  rw [if_neg (by simp)]
  refine wpAny_bind (listUpdate_at (xs := #[]) (n := 0) (Heap.get?_push_size _ rfl) rfl ?_ (Nat.zero_le _) (by show (#[] ++ vs.toArray).size ≤ sizeLine + 1; simp only [Array.size_append, List.size_toArray, List.length_nil]; omega))
  refine wpAny_pure ?_
  show wpAny (model prog w) A (do
      let o ← load s.heap.objs.size
      match o.data with
      | .seq xs _ => pure xs.toList
      | _ => unsupported "internal:collect") Q E { s with heap := (s.heap.push (seqObj "list" #[] 0)).update s.heap.objs.size (Obj.mapSeq (· ++ vs.toArray)) }
  refine wpAny_bind (wpAny_load (get?_update_seq (Heap.get?_push_size _ rfl) _) ?_)
  show wpAny _ _ (pure ((#[] : Array Value) ++ vs.toArray).toList) Q E _
  rw [show ((#[] : Array Value) ++ vs.toArray).toList = vs by simp]
  exact wpAny_pure h
end
end SrtO
--NK
namespace Kn
open PySem PySem.Spec PyProof.Rows L2
section
variable {P : Program} {w : World} {A : Around} {E : Value → Shared → Prop} {s : Shared} {a : Addr}
theorem sorted_tR {b : Bool} {ns : List Int} {its : List Value} {Q : Value → Shared → Prop} (ht : IsTup s.heap a its.toArray) (hn : its.length ≤ sizeLine) (hI : IntsAre its ns)
    (hQ : ∀ (h' : Heap) (p : Addr) (out : List Value) (c : Nat) (ns' : List Int), (∀ b o, s.heap.get? b = some o → h'.get? b = some o) → s.heap.objs.size ≤ p → h'.get? p = some (seqObj "list" out.toArray c) → IntsAre out ns' → ns'.Perm ns → Ordered b ns' → Q (.ref p) { s with heap := h' }) :
    wpAny (model P w) A (call (.builtin "sorted") [.ref a] [(Str.ofString "reverse", .bool b)]) Q E s := by
  refine call_function_entry_kw kind_sorted plain_sorted entry_sorted (args_sorted_rev _ _) ?_
  unfold Builtin.«sorted»
  refine wpAny_bind (m := checkCount "sorted" 1 1 _) (wpAny_pure ?_)
  refine wpAny_bind (SrtO.collect_tup ht ?_ hn)
  refine wpAny_bind (wpAny_newList ?_ hn)
  obtain ⟨h1, e1⟩ : ∃ h1, h1 = (s.heap.push (seqObj "list" #[] 0)).update s.heap.objs.size (Obj.mapSeq (· ++ its.toArray)) := ⟨_, rfl⟩
  have grow : s.heap.objs.size ≤ h1.objs.size := by rw [e1, Heap.size_update, size_push']; exact Nat.le_succ _
  have k1 : ∀ b o, s.heap.get? b = some o → h1.get? b = some o := fun b o q => by
    rw [e1, Heap.get?_update_ne _ _ _ _ (Nat.ne_of_lt (Heap.lt_size q))]
    exact Heap.get?_push_of_some _ q
  rw [← e1]
  have hoL : (h1.push (seqObj "list" its.toArray 0)).get? h1.objs.size = some (seqObj "list" its.toArray 0) := Heap.get?_push_size _ rfl
  refine wpAny_bind (wpAny_holding (wpAny_call_entry_kw slot_list_sort ⟨_, hoL, rfl⟩ entry_list_sort (PyProof.Rows.list_sort_tree_revAny hoL hI hn fun out ns' a1 a2 a3 => ⟨_, rfl, ?_⟩) (args_list_sort_rev _ _)))
  obtain ⟨c, hc2⟩ := sortedHeap_at (vs := its) (out := out) hoL
  refine wpAny_pure ⟨_, rfl, hQ _ h1.objs.size out.toList c ns' (fun b u e => ?_) grow (by rw [Array.toArray_toList]; exact hc2) a1 a2 a3⟩
  have q := k1 b u e
  have hlt := Heap.lt_size q
  show (sortedHeap (h1.push (seqObj "list" its.toArray 0)) h1.objs.size its out).get? b = some u
  rw [sortedHeap_old (Nat.ne_of_lt hlt) (by rw [size_push']; exact Nat.lt_succ_of_lt hlt)]
  exact Heap.get?_push_of_some _ q
end
def rSortTR (K : PySem.W.Frag) (b : Bool) : List V → List V → Hp → VK → Prop := fun vs zs H Q => ∃ (a : Addr) (ns : List Int), vs = [V.ref a] ∧ zs = [.bl b] ∧ SqT K H a (ns.map V.int) ∧
  ∀ (ns' : List Int) (p : Addr), ns'.Perm ns → OrdB b ns' → H p = none → Q (.ref p) (upd H p (.lst (ns'.map V.int)))
theorem kr_sortTR {X : Cx} {b : Bool} : CallRK X (.builtin "sorted") [Str.ofString "reverse"] (rSortTR X.K b) := by
  intro pins s σ H vs zs us ws Q I r rz h
  obtain ⟨a, ns, rfl, rfl, hs, q⟩ := h
  obtain rfl := Vals.ref1 r
  obtain ⟨w1, rfl, e1⟩ := vals1 rz
  obtain rfl : w1 = Value.bool b := e1
  obtain ⟨its, rv, hl, hz⟩ := I.tuple hs
  refine sorted_tR hl (by rw [← rv.length]; exact hz) rv.ints fun h' p out c ns' hkeep hp he h1 h2 h3 => ?_
  have hlen : (ns'.map V.int).length ≤ sizeLine := by
    rw [List.length_map, h2.length_eq]
    rw [List.length_map] at hz
    exact hz
  exact ⟨.ref p, upd H p (.lst (ns'.map V.int)), I.laid (t' := s.toks) hkeep hp (show ObjOk X.prog X.w _ _ _ (.lst (ns'.map V.int)) from ⟨hlen, out, c, vals_of_ints h1, he⟩), rfl, q ns' p h2 h3 (I.hok.fresh hp)⟩
def kOr (r r' : List V → List V → Hp → VK → Prop) : List V → List V → Hp → VK → Prop := fun vs zs H Q => r vs zs H Q ∨ r' vs zs H Q
theorem CallRK.or {X : Cx} {f : Value} {ks : List Str} {r r' : List V → List V → Hp → VK → Prop} (h : CallRK X f ks r) (h' : CallRK X f ks r') : CallRK X f ks (kOr r r') := fun pins s σ H xs zs us ws Q I rx rz q => by
  rcases q with q | q
  · exact h pins s σ H xs zs us ws Q I rx rz q
  · exact h' pins s σ H xs zs us ws Q I rx rz q
def rSortR3 (K : PySem.W.Frag) := kOr (rSortedKw K true [.bl true]) (rSortTR K true)
theorem kr_sortR3 {X : Cx} : CallRK X (.builtin "sorted") [Str.ofString "reverse"] (rSortR3 X.K) := CallRK.or cr_sortedRev kr_sortTR
def srtR3 : D → D → R (List D)
  | .tuple xs, .bool true => match intsOf xs with
    | some l => .ok ((srtD l).map .int)
    | none => .bad
  | d, e => srtR2 d e
section
variable {K : PySem.W.Frag}
theorem rk_sortTR {l : List Int} : RcK (rSortTR K true) [.d (.tuple (l.map .int))] [.d (.bool true)] (.l ((srtD l).map .int)) := fun G H σ vs ws e hv hw Q q => by
  obtain ⟨v, rfl, h⟩ := as1 hv
  obtain ⟨w, rfl, h2⟩ := as1 hw
  cases h2
  cases h with
  | tup ha hs =>
    rw [of_dqs_ints hs] at ha
    refine ⟨_, l, rfl, rfl, .inl (.inl (e _ _ ha)), fun ns' p hp hs' hn => ?_⟩
    have hs' : ns'.Pairwise (· ≥ ·) := hs'
    rw [srtD_of hp hs']
    exact q _ G _ (Ext.own e hn) ⟨p, _, rfl, hn, e.none hn, upd_same, dqs_ints _⟩
theorem rkm_sortR3 : RkM Rv.l (rSortR3 K) srtR3 where
  ok := fun d d' c h => by
    unfold srtR3 at h
    split at h
    · split at h
      · rename_i e
        cases h; rw [of_intsOf e]
        exact fun G H σ vs ws e hv hw Q q => .inr (rk_sortTR G H σ vs ws e hv hw Q q)
      · cases h
    · exact fun G H σ vs ws e hv hw Q q => .inl (rkm_sortedR.ok _ _ _ h G H σ vs ws e hv hw Q q)
  ex := fun d d' e h => by
    unfold srtR3 at h
    split at h
    · split at h <;> cases h
    · exact (rkm_sortedR (K := K)).ex _ _ _ h
end
end Kn
namespace Kn
open PySem PySem.Spec PyProof.Rows L2
/-! ### sorted(xs), xs a list of rows -/
def rSortX (K : PySem.W.Frag) : List V → Hp → VK → Prop := fun vs H Q => ∃ (a : Addr) (bs : List (V × PyData)), vs = [.ref a] ∧ SqL K H a (bs.map (·.1)) ∧ (∀ b ∈ bs, Dp K H b.1 b.2) ∧
  PySem.W.AllAlike (bs.map (·.2)) ∧ SortX (bs.map (·.2)) ∧ bs.length ≤ 1000000 ∧ (∀ b ∈ bs, b.2.depth ≤ 60) ∧ ∀ p, H p = none → Q (.ref p) (upd H p (.lst ((bs.mergeSort (PySem.W.dataLe false (·.2))).map (·.1))))
theorem each_vals {bs : List (V × PyData)} : ∀ {its : List Value}, Vals (bs.map (·.1)) its → PySem.W.EachIs (fun v (b : V × PyData) => RelV b.1 v) its bs := by
  induction bs with
  | nil => intro its h; cases h; exact .nil
  | cons b bs ih => intro its h; cases h with
    | cons h t => exact .cons h (ih t)
theorem vals_each {bs : List (V × PyData)} : ∀ {its : List Value}, PySem.W.EachIs (fun v (b : V × PyData) => RelV b.1 v) its bs → Vals (bs.map (·.1)) its := by
  induction bs with
  | nil => intro its h; cases h; exact .nil
  | cons b bs ih => intro its h; cases h with
    | cons h t => exact .cons h (ih t)
theorem cr_sortX {X : Cx} (hu : X.A.units + 65 < cLine) : CallR X (.builtin "sorted") (rSortX X.K) := by
  intro pins s σ H vs us Q I rs h
  obtain ⟨a, bs, rfl, hl, hd, hal, hk, hn, hz, q⟩ := h
  rw [Vals.ref1 rs]
  obtain ⟨its, rv, hpl, hlen⟩ := I.list hl
  have e := each_vals rv
  have er : PySem.W.EachIs (fun v (b : V × PyData) => ∃ as, Reads s.heap v b.2 as) its bs := (PySem.W.each_mem e).mono fun v b h => Dp.reads I b.2 b.1 v (hd b h.2) h.1
  refine sorted_X (enc := fun b : V × PyData => b.2) hpl.isList e er hal hk (by rw [sizeLine_eq]; omega) (fun b hb => by have := hz b hb; omega) fun out hlo ho => ?_
  obtain ⟨ep, he⟩ := PyProof.Rows.sortedAll_at s.heap its out.toArray
  have hl2 : ((bs.mergeSort (PySem.W.dataLe false (·.2))).map (·.1)).length ≤ sizeLine := by
    rw [List.length_map, List.length_mergeSort, sizeLine_eq]; omega
  exact ⟨.ref _, upd H (s.heap.objs.size + 1) (.lst ((bs.mergeSort (PySem.W.dataLe false (·.2))).map (·.1))), I.laid (t' := s.toks) (fun _ _ => PyProof.Rows.sortedAll_old) (Nat.le_succ _) ⟨hl2, out, ep, vals_each ho, he⟩, rfl, q _ (I.hok.fresh (Nat.le_succ _))⟩
/-- rows of ints: tuples, lists -/
def tupsOf : List D → Option (List (List Int))
  | [] => some []
  | .tuple l :: r => match intsOf l, tupsOf r with
    | some x, some y => some (x :: y)
    | _, _ => none
  | _ :: _ => none
def lstsOf : List D → Option (List (List Int))
  | [] => some []
  | .list l :: r => match intsOf l, lstsOf r with
    | some x, some y => some (x :: y)
    | _, _ => none
  | _ :: _ => none
theorem of_tupsOf : ∀ {xs : List D} {ls : List (List Int)}, tupsOf xs = some ls → xs = ls.map fun l => .tuple (l.map .int)
  | [], ls, h => by simp [tupsOf] at h; subst h; rfl
  | .tuple l :: r, ls, h => by
    unfold tupsOf at h
    cases e1 : intsOf l with
    | none => rw [e1] at h; cases h
    | some x =>
      cases e2 : tupsOf r with
      | none => rw [e1, e2] at h; cases h
      | some y => rw [e1, e2] at h; cases h; rw [of_intsOf e1, of_tupsOf e2]; rfl
  | .none :: _, _, h => by simp [tupsOf] at h
  | .bool _ :: _, _, h => by simp [tupsOf] at h
  | .int _ :: _, _, h => by simp [tupsOf] at h
  | .str _ :: _, _, h => by simp [tupsOf] at h
  | .list _ :: _, _, h => by simp [tupsOf] at h
  | .dict _ :: _, _, h => by simp [tupsOf] at h
theorem of_lstsOf : ∀ {xs : List D} {ls : List (List Int)}, lstsOf xs = some ls → xs = ls.map fun l => .list (l.map .int)
  | [], ls, h => by simp [lstsOf] at h; subst h; rfl
  | .list l :: r, ls, h => by
    unfold lstsOf at h
    cases e1 : intsOf l with
    | none => rw [e1] at h; cases h
    | some x =>
      cases e2 : lstsOf r with
      | none => rw [e1, e2] at h; cases h
      | some y => rw [e1, e2] at h; cases h; rw [of_intsOf e1, of_lstsOf e2]; rfl
  | .none :: _, _, h => by simp [lstsOf] at h
  | .bool _ :: _, _, h => by simp [lstsOf] at h
  | .int _ :: _, _, h => by simp [lstsOf] at h
  | .str _ :: _, _, h => by simp [lstsOf] at h
  | .tuple _ :: _, _, h => by simp [lstsOf] at h
  | .dict _ :: _, _, h => by simp [lstsOf] at h
theorem tupsOf_map (ls : List (List Int)) : tupsOf (ls.map fun l => .tuple (l.map .int)) = some ls := by
  induction ls with
  | nil => rfl
  | cons l ls ih => rw [List.map_cons]; unfold tupsOf; rw [ih, intsOf_map]
theorem lstsOf_map (ls : List (List Int)) : lstsOf (ls.map fun l => .list (l.map .int)) = some ls := by
  induction ls with
  | nil => rfl
  | cons l ls ih => rw [List.map_cons]; unfold lstsOf; rw [ih, intsOf_map]
def rowLe (x y : List Int) : Bool := decide (x ≤ y)
theorem rowLe_total (x y : List Int) : rowLe x y = true ∨ rowLe y x = true := by
  unfold rowLe
  rcases List.le_total x y with h | h
  · exact .inl (decide_eq_true h)
  · exact .inr (decide_eq_true h)
theorem rowLe_trans {x y z : List Int} (h1 : rowLe x y = true) (h2 : rowLe y z = true) : rowLe x z = true := by
  unfold rowLe at *
  exact decide_eq_true (List.le_trans (of_decide_eq_true h1) (of_decide_eq_true h2))
theorem rowLe_anti {x y : List Int} (h1 : rowLe x y = true) (h2 : rowLe y x = true) : x = y := by
  unfold rowLe at *
  exact List.le_antisymm (of_decide_eq_true h1) (of_decide_eq_true h2)
def insR (x : List Int) : List (List Int) → List (List Int)
  | [] => [x]
  | y :: l => if rowLe x y = true then x :: y :: l else y :: insR x l
def srtRows (ls : List (List Int)) : List (List Int) := ls.foldr insR []
theorem insR_perm (x : List Int) : ∀ l, (insR x l).Perm (x :: l)
  | [] => .refl _
  | y :: l => by
    unfold insR
    split
    · exact .refl _
    · exact ((insR_perm x l).cons y).trans (.swap x y l)
theorem srtRows_perm : ∀ ls, (srtRows ls).Perm ls
  | [] => .refl _
  | x :: ls => (insR_perm x (srtRows ls)).trans ((srtRows_perm ls).cons x)
theorem insR_sorted (x : List Int) : ∀ {l : List (List Int)}, l.Pairwise (fun a b => rowLe a b = true) → (insR x l).Pairwise fun a b => rowLe a b = true
  | [], _ => by unfold insR; exact List.pairwise_singleton ..
  | y :: l, h => by
    obtain ⟨h1, h2⟩ := List.pairwise_cons.mp h
    unfold insR
    split
    · rename_i hxy
      exact List.pairwise_cons.mpr ⟨fun z hz => (List.mem_cons.mp hz).elim (fun e => by rw [e]; exact hxy) fun hz => rowLe_trans hxy (h1 z hz), h⟩
    · rename_i hxy
      refine List.pairwise_cons.mpr ⟨fun z hz => ?_, insR_sorted x h2⟩
      rcases List.mem_cons.mp ((insR_perm x l).mem_iff.mp hz) with rfl | hz
      · exact (rowLe_total _ y).resolve_left hxy
      · exact h1 z hz
theorem srtRows_sorted : ∀ ls, (srtRows ls).Pairwise fun a b => rowLe a b = true
  | [] => .nil
  | x :: ls => insR_sorted x (srtRows_sorted ls)
theorem srtRows_of {ls ms : List (List Int)} (p : ms.Perm ls) (h : ms.Pairwise fun a b => rowLe a b = true) : ms = srtRows ls :=
  List.Perm.eq_of_pairwise (fun _ _ _ _ h1 h2 => rowLe_anti h1 h2) h (srtRows_sorted ls) (p.trans (srtRows_perm ls).symm)
theorem ms_rows (ls : List (List Int)) : ls.mergeSort rowLe = srtRows ls :=
  srtRows_of (List.mergeSort_perm ls rowLe) (List.pairwise_mergeSort (le := rowLe) (fun _ _ _ h1 h2 => rowLe_trans h1 h2) (fun a b => by
    rcases rowLe_total a b with h | h <;> simp [h]) ls)
def srtXL : D → R (List D)
  | .list xs => match tupsOf xs with
    | some ls => if ls.length ≤ 1000000 then .ok ((srtRows ls).map fun l => .tuple (l.map .int)) else .bad
    | none => match lstsOf xs with
      | some ls => if ls.length ≤ 1000000 then .ok ((srtRows ls).map fun l => .list (l.map .int)) else .bad
      | none => .bad
  | _ => .bad
theorem zip_dq {G : Hp} {e : List Int → PyData} : ∀ {vs : List V} {ls : List (List Int)}, DqA G vs (ls.map e) → ∃ zs : List (V × List Int), zs.map (·.1) = vs ∧ zs.map (·.2) = ls ∧ ∀ z ∈ zs, Dq G z.1 (e z.2)
  | _, [], h => by cases h; exact ⟨[], rfl, rfl, fun z hz => by simp at hz⟩
  | _, l :: ls, h => by
    rw [List.map_cons] at h
    cases h with
    | cons h t =>
      obtain ⟨zs, h1, h2, h3⟩ := zip_dq t
      refine ⟨(_, l) :: zs, by rw [List.map_cons, h1], by rw [List.map_cons, h2], fun z hz => ?_⟩
      rcases List.mem_cons.mp hz with rfl | hz
      · exact h
      · exact h3 z hz
theorem dqs_of {G : Hp} {e : List Int → PyData} : ∀ {zs : List (V × List Int)}, (∀ z ∈ zs, Dq G z.1 (e z.2)) → DqA G (zs.map (·.1)) ((zs.map (·.2)).map e)
  | [], _ => .nil
  | z :: zs, h => .cons (h z (List.mem_cons_self ..)) (dqs_of fun y hy => h y (List.mem_cons_of_mem _ hy))
theorem ms_map {α β : Type} (f : α → β) (r : α → α → Bool) (q : β → β → Bool) (h : ∀ a b, r a b = q (f a) (f b)) (l : List α) : (l.mergeSort r).map f = (l.map f).mergeSort q := PySem.W.sort_maps f fun a _ b _ => h a b
theorem dataLe_tups {β : Type} (x : β → List Int) : PySem.W.dataLe false (fun b => .tuple ((x b).map .int)) = fun p q => rowLe (x p) (x q) := PySem.W.dataLe_rows x
theorem lay_ints : ∀ l : List Int, PyData.canLayAll0 (l.map .int) = true
  | [] => by simp [PyData.canLayAll0]
  | x :: l => by
    show PyData.canLayAll0 (.int x :: l.map .int) = true
    simp [PyData.canLayAll0, PyData.canLay0, lay_ints l]
section
variable {K : PySem.W.Frag}
theorem rc_sortX {e : List Int → PyData} (hd : ∀ l, (e l).depth ≤ 60) (hlay : ∀ l, (e l).canLay0 = true) (hal : ∀ l m, PySem.W.alike (e l) (e m) = true) (hle : ∀ (β : Type) (x : β → List Int), PySem.W.dataLe false (fun b => e (x b)) = fun p q => rowLe (x p) (x q))
    (hk : ∀ ls : List (List Int), SortX (ls.map e)) {ls : List (List Int)} (hn : ls.length ≤ 1000000) : RcD (rSortX K) [.d (.list (ls.map e))] (.l ((srtRows ls).map e)) := fun G H σ vs eg hv Q q => by
  obtain ⟨v, rfl, h⟩ := as1 hv
  cases h with
  | lst ha hs =>
    obtain ⟨zs, h1, h2, h3⟩ := zip_dq hs
    have m1 : (zs.map fun z => (z.1, e z.2)).map (·.1) = zs.map (·.1) := by rw [List.map_map]; rfl
    have m2 : (zs.map fun z => (z.1, e z.2)).map (·.2) = ls.map e := by rw [← h2, List.map_map, List.map_map]; rfl
    refine ⟨_, zs.map fun z => (z.1, e z.2), rfl, ?_, fun b hb => ?_, ?_, ?_, ?_, fun b hb => ?_, fun p hp => ?_⟩
    · rw [m1, h1]; exact .inl (.inl (eg _ _ ha))
    · obtain ⟨z, hz, rfl⟩ := List.mem_map.mp hb
      exact dq_dp (dq_mono eg (h3 z hz)) (hlay z.2)
    · rw [m2]; exact PySem.W.AllAlike.of hal
    · rw [m2]; exact hk ls
    · rw [List.length_map, ← List.length_map (f := fun z : V × List Int => z.2), h2]; exact hn
    · obtain ⟨z, hz, rfl⟩ := List.mem_map.mp hb
      exact hd z.2
    · have e1 : ((zs.map fun z => (z.1, e z.2)).mergeSort (PySem.W.dataLe false (·.2))) = (zs.mergeSort fun p q => rowLe p.2 q.2).map fun z => (z.1, e z.2) := by
        refine (ms_map (fun z : V × List Int => (z.1, e z.2)) _ _ (fun a b => ?_) zs).symm
        exact (congrFun (congrFun (hle (V × List Int) (·.2)) a) b).symm
      have e2 : (zs.mergeSort fun p q => rowLe p.2 q.2).map (·.2) = srtRows ls := by
        rw [ms_map (fun z : V × List Int => z.2) _ rowLe (fun a b => rfl), h2, ms_rows]
      rw [e1, List.map_map]
      refine q _ G _ (Ext.own eg hp) ⟨p, _, rfl, hp, eg.none hp, upd_same, ?_⟩
      rw [← e2]
      exact dqs_of fun z hz => h3 z (List.mem_mergeSort.mp hz)
theorem rcm_sortX : RcM Rv.l (rSortX K) srtXL where
  ok := fun d c h => by
    unfold srtXL at h
    split at h
    · split at h
      · rename_i ls e
        split at h
        · cases h; rw [of_tupsOf e]
          refine rc_sortX (fun l => ?_) (fun l => ?_) (fun l m => ?_) (fun β x => dataLe_tups x) (fun ls => .inr fun d hd => ?_) (by assumption)
          · show (PyData.tuple _).depth ≤ 60
            unfold PyData.depth; rw [PySem.W.depth_ints]; decide
          · show (PyData.tuple _).canLay0 = true
            unfold PyData.canLay0; exact lay_ints l
          · show PySem.W.alike (.tuple _) (.tuple _) = true
            unfold PySem.W.alike; exact PySem.W.alike_ints l m
          · obtain ⟨l, _, rfl⟩ := List.mem_map.mp hd
            exact ⟨_, rfl⟩
        · cases h
      · split at h
        · rename_i ls e
          split at h
          · cases h; rw [of_lstsOf e]
            refine rc_sortX (fun l => ?_) (fun l => ?_) (fun l m => ?_) (fun β x => PySem.W.dataLe_rows x) (fun ls => .inl (.inr fun d hd => ?_)) (by assumption)
            · show (PyData.list _).depth ≤ 60
              unfold PyData.depth; rw [PySem.W.depth_ints]; decide
            · show (PyData.list _).canLay0 = true
              unfold PyData.canLay0; exact lay_ints l
            · show PySem.W.alike (.list _) (.list _) = true
              unfold PySem.W.alike; exact PySem.W.alike_ints l m
            · obtain ⟨l, _, rfl⟩ := List.mem_map.mp hd
              exact ⟨(fun z => nomatch z), fun _ z => nomatch z⟩
          · cases h
        · cases h
    · cases h
  ex := fun d e h => by
    unfold srtXL at h
    split at h <;> first | cases h | (split at h <;> first | (split at h <;> cases h) | (split at h <;> first | cases h | (split at h <;> cases h)))
end
/-! ### never reached -/
def rNever : V → List V → Hp → VK → Prop := fun _ _ _ _ => False
theorem mt_never {X : Cx} {id : String} : MtR X id rNever := by
  intro pins s σ H x xs v us Q I rx rxs h
  exact h.elim
section
variable {S : Type} {z : Rz} {b : Bool} {ρ : S → En} {ta : TE} {Ka : {β : Type} → S → (D → S → R β) → R β} {K : PySem.W.Frag} {T : String}
theorem g_never0 (h : GE z b Rv.d ta ρ Ka) : GE z b Rv.d (tBM0 K T rNever ta) ρ (fun s k => Ka s fun _ s' => (R.bad : R D).bind fun x => k x s') :=
  gg_map (fun _ => (R.bad : R D)) h (fun _ _ h => by cases h) (fun _ _ _ _ _ e => by cases e) (fun _ _ h => ee_1 (fun σ (Q : VK) (x : V) (H1 : Hp) => tyV K T x H1 ∧ rNever x [] H1 Q) h)
end
/-! ### not in a tuple, of any data -/
def rNotInDT (K : PySem.W.Frag) : R2 := fun x y H Q => ∃ d ds, Dp K H x d ∧ Dp K H y (.tuple ds) ∧ SeqAt.shaped d = true ∧ SeqAt.shaped (.tuple ds) = true ∧ Q (.bl (!ds.any fun z => PyData.eqv z d)) H
theorem op_notInDT {X : Cx} (hu : X.A.units + 65 < cLine) : OpR X (compareOp .NotIn) (rNotInDT X.K) := by
  intro pins s σ H x y v u Q I rx ry h
  obtain ⟨d, ds, hd, he, sd, se, q⟩ := h
  obtain ⟨as, r1⟩ := Dp.reads I d x v hd rx
  obtain ⟨bs, r2⟩ := Dp.reads I (.tuple ds) y u he ry
  exact SeqAt.notIn_tuple_reads r2 r1 (SeqAt.canLay_of_shaped se) (SeqAt.canLay_of_shaped sd) (room_in_shaped sd hu) ⟨.bl _, H, I, rfl, q⟩
def niTD : D → D → R Bool
  | x, .tuple ys => if SeqAt.shaped x = true ∧ SeqAt.shaped (.tuple ys) = true then .ok (!(ys.any fun y => PyData.eqv y x)) else .bad
  | _, _ => .bad
section
variable {K : PySem.W.Frag}
theorem om_niT : OpM rvB (rNotInDT K) niTD where
  ok := fun a b c h => by
    unfold niTD at h
    split at h
    · split at h
      · rename_i ys hc
        cases h
        refine o2_val fun G H v w eg hv hw Q q => ?_
        exact ⟨_, _, dq_dp (dq_mono eg hv) (sh_lay hc.1), dq_dp (dq_mono eg hw) (sh_lay hc.2), hc.1, hc.2, q _ (.bl _)⟩
      · cases h
    · cases h
  ex := fun a b e h => by
    unfold niTD at h
    split at h
    · split at h <;> cases h
    · cases h
end
end Kn

/-! dict comprehensions with keys of any kind that can be stored; sorted over a dict with tuple keys -/
namespace Kn
open PySem PySem.Spec PyProof.Rows L2
/-- how a dict's object changes by a store: the dict, the key, the value -/
abbrev Sto := Addr → V → V → Hp → (Hp → Prop) → Prop
def StoOk (X : Cx) (S : Sto) : Prop := ∀ {Y : Cx}, Y.prog = X.prog → Y.w = X.w → Y.A = X.A → ∀ {pins : List (Addr × Obj)} {σ : L2.St} {H : Hp} {s : Shared} {E : Value → Shared → Prop} {D : Addr} {y z : V} {u r : Value} {Q : Unit → Shared → Prop},
  Inv Y pins σ H s → RelV y u → RelV z r → S D y z H (fun H' => ∀ s', Inv Y pins σ H' s' → Q () s') → wpAny (model X.prog X.w) X.A (dictSet D u r) Q E s
abbrev AtBlk (X : Cx) (sc : Scope) (P : Cx → Prop) : Prop := ∀ (s : Shared) (H : Hp) (C : Addr) (cl : List (Str × Addr)) (fp : List Addr), P (X.blk s H sc (compEnvC sc cl C X.env) fp)
/-- the reading: o0 the new dict, S the store -/
def tDcS (S : Sto) (o0 : Addr → HO) (wi : TI) (g : TG) (tt : TT) (tk tv : TE) (vs : List Nat) : TE := fun σ H Q => wi σ H fun J H1 => ∀ D, H1 D = none →
  ∃ W : Nat → Nat → Hp → Prop, (∃ m, W 0 m (upd H1 D (o0 D))) ∧ ∀ i m H, W i m H → (J.stop i H ∧ Q (.ref D) H) ∨
    (J.go i H ∧ ∃ Nx : Hp → Prop, (∀ H', Nx H' → ∃ m', m' < m ∧ W (i + 1) m' H') ∧
      ∀ x H', J.yld i H x H' → g x (wipe σ vs) H' fun σ2 H2 => wipe σ2 vs = wipe σ vs ∧ tt σ2 H2 fun b H3 => if b = true then tk σ2 H3 fun y H4 => tv σ2 H4 fun z H5 => S D y z H5 Nx else Nx H3)
section
variable {X : Cx} {S : Sto} {o0 : Addr → HO}
theorem pe_dcS {kx vx tg iter : Expr} {ifs : List Expr} {scope : Scope} {own : List (Str × Nat)} {pos : Pos} {wi : TI} {g : TG} {tt : TT} {tk tv : TE}
    (hS : StoOk X S) (mono : ∀ {D : Addr} {y z : V} {H : Hp} {N N' : Hp → Prop}, (∀ H', N H' → N' H') → S D y z H N → S D y z H N') (ho : ∀ (H : Hp) (h : Heap), sysModules < h.objs.size → ObjOk X.prog X.w H (h.push { cls := .type "dict", data := .dict #[] }) h.objs.size (o0 h.objs.size))
    (hc : X.calm = true) (hN : X.N.Nodup) (hi : PI X tg iter wi) (ok : BlkOk X.N X.env.scope scope own)
    (hg : AtBlk X scope fun Y => PG Y tg g) (ht : AtBlk X scope fun Y => PTs Y ifs tt) (hk : AtBlk X scope fun Y => PE Y kx tk) (he : AtBlk X scope fun Y => PE Y vx tv)
    (hs : ∀ x, foldedSetIterable iter X.env x = pure x := by intro _; rfl) : PE X (.DictComp kx vx [⟨tg, iter, ifs, 0⟩] scope pos) (tDcS S o0 wi g tt tk tv (own.map (·.2))) := by
  refine ⟨fun pins s σ H Q I h => ?_⟩
  rw [arm_eval_DictComp]
  have free : ∀ y ∈ scope.names, y.2 = .free → ∃ c, X.env.cells.lookup y.1 = some c := by
    intro y hy e
    exact (ok.free y hy e).elim (fun k => I.ok.has _ (.inl k)) fun k => I.ok.has _ (.inr k)
  refine wpAny_comprehension_free (use := none) rfl hs (closure_ok free) ok.kind (fun y hy e => by rw [ok.uniq y hy, e]) ?_
  refine thn (hi.run pins s σ H _ I h) fun xv s1 hx => thn hx fun itv s2 h2 => ?_
  obtain ⟨it, fp, tn, J, H2, rfl, I2, T, st2, f2, q⟩ := h2
  refine wpAny_newObj_type (newEnv_comp ?_)
  obtain ⟨D, hD⟩ : ∃ D, D = s2.heap.objs.size := ⟨_, rfl⟩
  rw [← hD]
  have nD : H2 D = none := I2.hok.fresh (by rw [hD]; exact Nat.le_refl _)
  obtain ⟨W, ⟨m0, w0⟩, turn⟩ := q D nD
  obtain ⟨s3, hs3⟩ : ∃ s3 : Shared, s3 = { s2 with heap := s2.heap.push { cls := .type "dict", data := .dict #[] } } := ⟨_, rfl⟩
  rw [← hs3]
  have hp3 : s3.heap = s2.heap.push { cls := .type "dict", data := .dict #[] } := by rw [hs3]
  have old3 : ∀ {b : Addr} {o : Obj}, s2.heap.get? b = some o → s3.heap.get? b = some o := fun e => by rw [hp3]; exact Heap.get?_push_of_some _ e
  have I3 : Inv X pins σ (upd H2 D (o0 D)) s3 := by
    have z := I2.laid (t' := s2.toks) (a := D) (o := o0 D) (h' := s2.heap.push { cls := .type "dict", data := .dict #[] }) (fun b o e => Heap.get?_push_of_some _ e) (by rw [hD]; exact Nat.le_refl _) (by rw [hD]; exact ho _ s2.heap I2.big)
    rw [hs3]; exact z
  have fpl : ∀ b ∈ fp, b < s2.heap.objs.size := by
    intro b hb
    obtain ⟨o, e, _⟩ := T.obj _ _ st2 b hb
    exact Heap.lt_size e
  have fp3 : ∀ b ∈ fp, FpOk X pins (upd H2 D (o0 D)) b ∧ b < s3.heap.objs.size := by
    intro b hb
    have lt := fpl b hb
    have ne : b ≠ D := by rw [hD]; exact Nat.ne_of_lt lt
    refine ⟨⟨?_, (f2 b hb).2⟩, ?_⟩
    · rw [upd_ne ne]; exact (f2 b hb).1
    · rw [hp3, Heap.size_push]; exact Nat.lt_succ_of_lt lt
  have st3 : tn 0 s3.heap := T.keep _ _ _ st2 fun b _ o e => old3 e
  have I4 := block_start I3 ok hN fp3
  have at3 : ∀ {P : Cx → Prop}, AtBlk X scope P → P (X.blk s3 (upd H2 D (o0 D)) scope (compEnvC scope (cellsFrom (s3.heap.objs.size + 1) scope.names (cloFrom X.env.cells scope.names [])) s3.heap.objs.size X.env) fp) := fun z => z _ _ _ _ _
  have pg := at3 hg
  have pt := at3 ht
  have pk := at3 hk
  have pe := at3 he
  clear hg ht hk he at3
  obtain ⟨ce, hce⟩ : ∃ ce, ce = compEnvC scope (cellsFrom (s3.heap.objs.size + 1) scope.names (cloFrom X.env.cells scope.names [])) s3.heap.objs.size X.env := ⟨_, rfl⟩
  rw [← hce] at I4 pg pt pk pe
  show codeAny _ _ (.compStart (.DictComp kx vx [⟨tg, iter, ifs, 0⟩] scope pos) 0 (.ref it) (.ref D) (compEnvC scope (cellsFrom (s3.heap.objs.size + 1) scope.names (cloFrom X.env.cells scope.names [])) s3.heap.objs.size X.env)) _ _
  rw [← hce]
  have cL : ce.locals = s3.heap.objs.size := by rw [hce]; rfl
  obtain ⟨H3, hH3⟩ : ∃ H3, H3 = upd H2 D (o0 D) := ⟨_, rfl⟩
  rw [← hH3] at I3 I4 pg pt pk pe w0 fp3
  have nfp : ∀ b ∈ fp, H3 b = none := fun b hb => (fp3 b hb).1.1
  obtain ⟨s4, hs4⟩ : ∃ s4 : Shared, s4 = { s3 with heap := pushCells (s3.heap.push { cls := .type "dict", data := .dict #[] }) scope.names } := ⟨_, rfl⟩
  rw [show ({ heap := pushCells (s3.heap.push { cls := .type "dict", data := .dict #[] }) scope.names, gens := s3.gens, drawn := s3.drawn, toks := s3.toks, os := s3.os } : Shared) = s4 from hs4.symm] at I4 ⊢
  have st4 : tn 0 s4.heap := T.keep _ _ _ st3 fun b _ o e => by rw [hs4]; exact pushCells_keeps _ _ _ _ (Heap.get?_push_of_some _ e)
  have fpk : ∀ {σ' : L2.St} {H' : Hp} {s' : Shared}, Inv (X.blk s3 H3 scope ce fp) [] σ' H' s' → (∀ b ∈ fp, H' b = none) → ∀ b ∈ fp, FpOk (X.blk s3 H3 scope ce fp) [] H' b := by
    intro σ' H' s' I' hn b hb
    exact ⟨hn b hb, (I'.ok.exf b hb).1, I'.ok.exfs b hb, .inl hb, (fun x c e => (I'.ok.exf b hb).2 x c e), fun p hp => absurd (show p ∈ ([] : List (Addr × Obj)) ++ [] from hp) (by simp)⟩
  have back : (wipe σ (own.map (·.2))).length = (wipe σ (own.map (·.2))).length := rfl
  refine codeAny_compStart_dict ?loop (T.self X.A 0 _ _ _ st4 ?loop)
  refine compLoop_anyD (fun n s' => ∃ i H', Inv (X.blk s3 H3 scope ce fp) [] (wipe σ (own.map (·.2))) H' s' ∧ tn i s'.heap ∧ (∀ b ∈ fp, H' b = none) ∧ W i n H') ?_ m0 ⟨0, H3, I4, st4, nfp, w0⟩
  rintro n s5 ⟨i, H5, I5, st5, n5, w5⟩
  rcases turn i n H5 w5 with ⟨stop, fin⟩ | ⟨go, Nx, hNx, step⟩
  · -- the end: the def's context again
    refine thnF (T.done (X.blk s3 H3 scope ce fp) rfl rfl rfl hc i [] s5 _ H5 (fun _ _ => False) I5 (fpk I5 n5) st5 stop) fun r s6 hr6 => ?_
    obtain ⟨rfl, I6⟩ := hr6
    have I7 : Inv X pins σ H5 s6 := I3.call' (ch := fp) I6.os I6.base I6.hok I6.bare fun b hb =>
      let f := (fp3 b hb).1.2; ⟨f.2.2.1, f.1, f.2.2.2.1, f.2.2.2.2⟩
    have free5 : H5 ce.locals = none := I6.free
    rw [cL] at free5
    obtain ⟨m, hn, _⟩ := I6.loc
    have hn : s6.heap.Ns ce.locals m := hn
    rw [cL] at hn
    obtain ⟨f0, f1, f2', f3', f4, f5⟩ := I3.fpOk (Nat.le_refl _) free5
    exact ⟨m, hn, fun h' sb => ⟨.ref D, H5, I7.turned (t' := s6.toks) (fun b o hb e => (sb.2 b hb).trans e) f0 f1 f3' f4 f5, rfl, fin⟩⟩
  · refine thnF (T.item (X.blk s3 H3 scope ce fp) rfl rfl rfl hc i [] s5 _ H5 (fun _ _ => False) I5 (fpk I5 n5) st5 go) fun r s6 h6 => ?_
    obtain ⟨u, rfl, h6⟩ := h6
    refine thnF h6 fun _ s7 h7 => ?_
    obtain ⟨x, H7, I7, r7, y7, st7, n7⟩ := h7
    have P7 := I7.pinned (fpk I7 n7) (T.obj _ _ st7)
    refine thnF (pg.run _ s7 _ H7 x u _ P7 r7 (step x H7 y7)) fun _ s8 h8 => ?_
    obtain ⟨σ8, H8, I8, hw8, q8⟩ := h8
    refine thnF (pt.run _ s8 σ8 H8 _ I8 q8) fun b s9 h9 => ?_
    obtain ⟨H9, I9, q9⟩ := h9
    have turnEnd : ∀ {s' : Shared} {H' : Hp}, Inv (X.blk s3 H3 scope ce fp) ([] ++ pinsAt fp s7.heap) σ8 H' s' → Nx H' →
        ∃ m, m < n ∧ ∃ i H', Inv (X.blk s3 H3 scope ce fp) [] (wipe σ (own.map (·.2))) H' s' ∧ tn i s'.heap ∧ (∀ b ∈ fp, H' b = none) ∧ W i m H' := by
      intro s' H' I' nx
      obtain ⟨m', lt, w'⟩ := hNx H' nx
      have pin : ∀ b ∈ fp, ∀ o, s7.heap.get? b = some o → s'.heap.get? b = some o ∧ H' b = none := by
        intro b hb o e
        have z := I'.pin (b, o) (List.mem_append_right _ (List.mem_append_right _ (mem_pinsAt hb e)))
        exact ⟨z.1, z.2.1⟩
      have len : (wipe σ (own.map (·.2))).length = σ8.length := by rw [← hw8, wipe_length]
      refine ⟨m', lt, i + 1, H', (I'.unpinned (pins := [])).weak len (fun j v e => ?_), T.keep _ _ _ st7 fun b hb o e => (pin b hb o e).1, fun b hb => ?_, w'⟩
      · rw [← hw8] at e; exact (wipe_some e).1
      · obtain ⟨o, e, _⟩ := T.obj _ _ st7 b hb
        exact (pin b hb o e).2
    cases b with
    | false =>
      rw [if_neg Bool.false_ne_true] at q9 ⊢
      exact turnEnd I9 q9
    | true =>
      rw [if_pos rfl] at q9 ⊢
      refine thnF (pk.run _ s9 σ8 H9 _ I9 q9) fun zk s10 h10 => ?_
      obtain ⟨yk, H10, I10, r10, q10⟩ := h10
      refine thnF (pe.run _ s10 σ8 H10 _ I10 q10) fun zv s11 h11 => ?_
      obtain ⟨yv, H11, I11, r11, q11⟩ := h11
      exact hS (Y := X.blk s3 H3 scope ce fp) rfl rfl rfl I11 r10 r11 (mono (fun H' nx s' I' => turnEnd I' nx) q11)
end
/-! ### a dict whose keys are tuples of ints: the tuples' places, the keys, the values -/
def DxO (P : Program) (w : World) (D : Addr) (zs : Zs) : HO := .ext fun h => (D == sysModules) = false ∧ ∃ xs : List (List Key × Addr × Value), Paired zR zs xs ∧
  ∃ o es ep, h.get? D = some o ∧ o.ExactDict ∧ o.data = .dict es ep ∧ es.toList = xs.map (entryOfKey (tupleKind (mixKind P w))) ∧ (xs.map (·.1)).Nodup
def hasZ (zs : Zs) (k : List Int) : Bool := zs.any fun z => decide (z.2.1 = k)
def putZ (zs : Zs) (k : List Int) (b : Addr) (v : V) : Zs := if hasZ zs k = true then zs.map (fun z => if z.2.1 = k then (z.1, z.2.1, v) else z) else zs ++ [(b, k, v)]
def TupZ (H : Hp) (zs : Zs) : Prop := ∀ z ∈ zs, H z.1 = some (.tup (z.2.1.map V.int))
theorem kyI_inj {a b : List Int} (h : kyI a = kyI b) : a = b := by
  induction a generalizing b with
  | nil => cases b with
    | nil => rfl
    | cons x b => cases h
  | cons x a ih => cases b with
    | nil => cases h
    | cons y b =>
      unfold kyI at h
      rw [List.map_cons, List.map_cons] at h
      injection h with h1 h2
      rw [Sum.inl.inj h1, ih h2]
theorem kV_ky (l : List Int) : (kyI l).map kV = l.map V.int := by unfold kyI; rw [List.map_map]; rfl
theorem at_zs {zs : Zs} {xs : List (List Key × Addr × Value)} (r : Paired zR zs xs) (k : List Int) : (atKey xs (kyI k)).isSome = hasZ zs k := by
  unfold atKey hasZ
  rw [Option.isSome_map]
  induction r with
  | nil => rfl
  | @cons z x zs xs h t ih =>
    rw [List.find?_cons, List.any_cons]
    by_cases e : z.2.1 = k
    · have : decide (x.1 = kyI k) = true := decide_eq_true (by rw [h.1, e])
      rw [this, decide_eq_true e]; rfl
    · have : decide (x.1 = kyI k) = false := decide_eq_false (fun q => e (kyI_inj (by rw [← h.1, q])))
      rw [this, decide_eq_false e, Bool.false_or]
      exact ih
theorem put_zs {zs : Zs} {xs : List (List Key × Addr × Value)} (r : Paired zR zs xs) (k : List Int) (b : Addr) {v : V} {u : Value} (hv : RelV v u) : Paired zR (putZ zs k b v) (storedH xs (kyI k) b u) := by
  unfold putZ storedH
  rw [at_zs r k]
  cases hasZ zs k with
  | true =>
    simp only [if_true]
    induction r with
    | nil => exact .nil
    | @cons z x zs xs h t ih =>
      rw [List.map_cons, List.map_cons]
      refine .cons ?_ ih
      unfold putAt
      by_cases e : z.2.1 = k
      · rw [if_pos e, if_pos (by rw [h.1, e])]
        exact ⟨h.1, h.2.1, hv⟩
      · rw [if_neg e, if_neg (fun q => e (kyI_inj (by rw [← h.1, q])))]
        exact h
  | false =>
    rw [if_neg Bool.false_ne_true, if_neg Bool.false_ne_true]
    induction r with
    | nil => exact .cons ⟨rfl, rfl, hv⟩ .nil
    | cons h t ih => exact .cons h ih
theorem put_len (zs : Zs) (k : List Int) (b : Addr) (v : V) : (putZ zs k b v).length ≤ zs.length + 1 := by
  unfold putZ; split
  · rw [List.length_map]; omega
  · rw [List.length_append]; simp
theorem put_tup {H : Hp} {zs : Zs} {k : List Int} {b : Addr} {v : V} (h : TupZ H zs) (hb : H b = some (.tup (k.map V.int))) : TupZ H (putZ zs k b v) := by
  intro z hz
  unfold putZ at hz
  split at hz
  · obtain ⟨y, hy, rfl⟩ := List.mem_map.mp hz
    split
    · exact h y hy
    · exact h y hy
  · rcases List.mem_append.mp hz with hz | hz
    · exact h z hz
    · rw [List.mem_singleton.mp hz]; exact hb
theorem dx_mk {P : Program} {w : World} {H : Hp} {h : Heap} {D : Addr} {zs : Zs} {xs : List (List Key × Addr × Value)} (lo : (D == sysModules) = false) (r : Paired zR zs xs) {o : Obj} {es : Array DictEntry} {ep : Nat} (e1 : h.get? D = some o) (e2 : o.ExactDict) (e3 : o.data = .dict es ep)
    (e4 : es.toList = xs.map (entryOfKey (tupleKind (mixKind P w)))) (e5 : (xs.map (·.1)).Nodup) : ObjOk P w H h D (DxO P w D zs) :=
  ⟨⟨lo, xs, r, o, es, ep, e1, e2, e3, e4, e5⟩, ⟨o, e1⟩, fun h1 h2 ⟨lo, xs, r, o, es, ep, f1, f2⟩ k => ⟨lo, xs, r, o, es, ep, k o f1, f2⟩⟩
theorem dx_empty {P : Program} {w : World} (H : Hp) (h : Heap) (hb : sysModules < h.objs.size) : ObjOk P w H (h.push { cls := .type "dict", data := .dict #[] }) h.objs.size (DxO P w h.objs.size []) :=
  dx_mk (beq_eq_false_iff_ne.mpr (Nat.ne_of_gt hb)) .nil (o := { cls := .type "dict", data := .dict #[] }) (Heap.get?_push_size _ rfl) ⟨rfl, rfl, rfl⟩ rfl rfl List.nodup_nil
theorem zs_is {P : Program} {w : World} {H : Hp} {h : Heap} (ok : HOk P w H h) {zs : Zs} {xs : List (List Key × Addr × Value)} (r : Paired zR zs xs) : TupZ H zs → ∀ x ∈ xs, (tupleKind (mixKind P w)).is h x.1 x.2.1 := by
  induction r with
  | nil => intro _ x hx; simp at hx
  | @cons z x zs xs h t ih =>
    intro ht y hy
    rcases List.mem_cons.mp hy with rfl | hy
    · have q := ht z (List.mem_cons_self ..)
      rw [← kV_ky] at q
      rw [h.1, h.2.1]
      exact key_of ok q
    · exact ih (fun z hz => ht z (List.mem_cons_of_mem _ hz)) y hy
section
variable {X : Cx} {pins : List (Addr × Obj)} {σ : L2.St} {H : Hp} {s : Shared} {D : Addr} {zs : Zs}
/-- what the object is -/
theorem dx_of (I : Inv X pins σ H s) (hD : H D = some (DxO X.prog X.w D zs)) (ht : TupZ H zs) : (D == sysModules) = false ∧ ∃ xs, Paired zR zs xs ∧ s.heap.DictOfH (tupleKind (mixKind X.prog X.w)) D xs := by
  obtain ⟨⟨lo, xs, r, o, es, ep, e1, e2, e3, e4, e5⟩, _, _⟩ := (show ObjOk X.prog X.w H s.heap D (DxO X.prog X.w D zs) from I.hok D _ hD)
  exact ⟨lo, xs, r, o, es, ep, e1, e2, e3, e4, zs_is I.hok r ht, e5⟩
/-- behind a store -/
theorem dx_put {h' : Heap} {t' : Nat} {k : List Int} {b : Addr} {v : V} {u : Value} (I : Inv X pins σ H s) (hD : H D = some (DxO X.prog X.w D zs)) (lo : (D == sysModules) = false) {xs : List (List Key × Addr × Value)} (r : Paired zR zs xs) (hv : RelV v u)
    (d2 : h'.DictOfH (tupleKind (mixKind X.prog X.w)) D (storedH xs (kyI k) b u)) (sb : Heap.SameBut D s.heap h') : Inv X pins σ (upd H D (DxO X.prog X.w D (putZ zs k b v))) { s with heap := h', toks := t' } := by
  obtain ⟨o, es, ep, e1, e2, e3, e4, _, e5⟩ := d2
  exact d_write I (by rw [hD]; exact True.intro) sb ⟨o, e1⟩ (dx_mk lo (put_zs r k b hv) e1 e2 e3 e4 e5)
end
/-- the store, keys that are tuples of ints -/
def sX (P : Program) (w : World) : Sto := fun D y z H N => ∃ (zs : Zs) (k : List Int) (b : Addr), y = .ref b ∧ H D = some (DxO P w D zs) ∧ TupZ H zs ∧ H b = some (.tup (k.map V.int)) ∧ zs.length < sizeLine ∧ N (upd H D (DxO P w D (putZ zs k b z)))
theorem sX_mono {P : Program} {w : World} {D : Addr} {y z : V} {H : Hp} {N N' : Hp → Prop} (h : ∀ H', N H' → N' H') : sX P w D y z H N → sX P w D y z H N' := by
  rintro ⟨zs, k, b, h1, h2, h3, h4, h5, h6⟩
  exact ⟨zs, k, b, h1, h2, h3, h4, h5, h _ h6⟩
section
variable {X : Cx}
theorem sX_ok (hu : X.A.units < cLine) : StoOk X (sX X.prog X.w) := by
  intro Y hP hW hA pins σ H s E D y z u r Q I ry rz h
  rw [← hP, ← hW] at h ⊢
  obtain ⟨zs, k, b, rfl, hD, ht, hb, hz, q⟩ := h
  obtain rfl : u = Value.ref b := ry
  obtain ⟨lo, xs, rel, dd⟩ := dx_of I hD ht
  refine wpAny_dictSet_heap (knd := tupleKind (mixKind Y.prog Y.w)) (k := kyI k) (hsz := by rw [← Paired.length rel]; omega) hu (key_of I.hok (by rw [kV_ky]; exact hb)) dd fun h' d2 sb => q _ ?_
  exact dx_put I hD lo rel rz d2 sb
theorem pe_dcX {kx vx tg iter : Expr} {ifs : List Expr} {scope : Scope} {own : List (Str × Nat)} {pos : Pos} {wi : TI} {g : TG} {tt : TT} {tk tv : TE} (hu : X.A.units < cLine)
    (hc : X.calm = true) (hN : X.N.Nodup) (hi : PI X tg iter wi) (ok : BlkOk X.N X.env.scope scope own)
    (hg : AtBlk X scope fun Y => PG Y tg g) (ht : AtBlk X scope fun Y => PTs Y ifs tt) (hk : AtBlk X scope fun Y => PE Y kx tk) (he : AtBlk X scope fun Y => PE Y vx tv)
    (hs : ∀ x, foldedSetIterable iter X.env x = pure x := by intro _; rfl) : PE X (.DictComp kx vx [⟨tg, iter, ifs, 0⟩] scope pos) (tDcS (sX X.prog X.w) (fun D => DxO X.prog X.w D []) wi g tt tk tv (own.map (·.2))) :=
  pe_dcS (sX_ok hu) sX_mono (fun H h hb => dx_empty H h hb) hc hN hi ok hg ht hk he hs
end
end Kn

namespace Kn
open PySem PySem.Spec PyProof.Rows L2
/-! ### sorted over a dict with tuple keys -/
section
variable {P : Program} {w : World} {A : Around} {E : Value → Shared → Prop} {s : Shared} {a : Addr} {o : Obj} {es : Array DictEntry} {ep : Nat}
theorem collect_raw {Q : List Value → Shared → Prop} (hh : A.handled = none) (lo : (a == sysModules) = false) (ho : s.heap.get? a = some o) (hx : o.ExactDict) (hd : o.data = .dict es ep) (hn : es.size ≤ sizeLine)
    (hQ : ∀ h' tk acc', (∀ b u, s.heap.get? b = some u → h'.get? b = some u) → s.heap.objs.size < h'.objs.size → ItemsOf (fun i v => ∃ en : DictEntry, es[i]? = some en ∧ v = en.key) acc' es.size → Q acc'.toList { s with heap := h', toks := tk }) :
    wpAny (model P w) A (collect (.ref a)) Q E s := by
  unfold collect
  refine wpAny_bind (wpAny_runValue (codeAny_builtin PySem.F.entry_proto_collect ?_))
  rw [Around.under_plainId PySem.F.plain_proto_collect _]
  show wpAny _ A.in1 (newList [] >>= fun l => again (.builtin "list.__iadd__" ⟨[l, .ref a], []⟩)) _ _ s
  refine wpAny_bind (wpAny_newObj_type ?_)
  refine wpAny_pure ⟨plainId_quiet PySem.F.plain_list_iadd _, codeAny_builtin PySem.F.entry_list_iadd ?_⟩
  rw [Around.under_plainId PySem.F.plain_list_iadd _]
  have hS : (s.heap.push { cls := .type "list", data := .seq ([] : List Value).toArray }).get? s.heap.objs.size = some { cls := .type "list", data := .seq #[] 0 } := Heap.get?_push_size _ rfl
  show wpAny _ A.in1 (Builtin.List.listExtendWith (.ref s.heap.objs.size) (.ref a) (.ref s.heap.objs.size)) _ _ _
  have K := L2.kdl_raw (prog := P) (w := w) lo hx hd
  have hlt : a < s.heap.objs.size := Heap.lt_size ho
  refine wpAny_mono (PySem.W.kdl_extend (A := A) (s := { s with heap := s.heap.push { cls := .type "list", data := .seq ([] : List Value).toArray } }) K hh (Heap.get?_push_of_some _ ho) s.heap.objs.size (Nat.ne_of_gt hlt) (Nat.ne_of_gt hlt) (.ref s.heap.objs.size) 0 hS
    (R := fun rr s' => rr = .ok (.ret (.ref s.heap.objs.size)) ∧ ∃ (h' : Heap) (tk : Nat) (acc : Array Value) (c' : Nat), s' = { s with heap := h', toks := tk } ∧
      (∀ b u, s.heap.get? b = some u → h'.get? b = some u) ∧ h'.get? s.heap.objs.size = some { cls := .type "list", dict := none, data := .seq acc c', slots := #[] } ∧ ItemsOf (fun i v => ∃ en : DictEntry, es[i]? = some en ∧ v = en.key) acc es.size)
    (fun h' tk acc c' hk e hi => ⟨rfl, h', tk, acc, c', rfl, fun b u q => hk b u (Nat.ne_of_lt (Heap.lt_size q)) (Heap.get?_push_of_some _ q), e, hi⟩) hn) (fun fin s' h => ?_) (fun e s' h => ?_)
  · cases fin with
    | done f =>
      obtain ⟨e, h', tk, acc, c', rfl, hk, hS', hi⟩ := h
      cases e
      show wpAny _ A (load s.heap.objs.size >>= _) _ _ _
      exact wpAny_bind (wpAny_load hS' (wpAny_pure (hQ h' tk acc hk (Heap.lt_size hS') hi)))
    | again c' =>
      refine ⟨h.1, codeAny_mono h.2 fun rr s'' hr' => ?_⟩
      obtain ⟨rfl, h', tk, acc, c', rfl, hk, hS', hi⟩ := hr'
      show wpAny _ A (load s.heap.objs.size >>= _) _ _ _
      exact wpAny_bind (wpAny_load hS' (wpAny_pure (hQ h' tk acc hk (Heap.lt_size hS') hi)))
  · exact absurd h.1 (by simp)
theorem sorted_raw {Q : Value → Shared → Prop} (hh : A.handled = none) (lo : (a == sysModules) = false) (ho : s.heap.get? a = some o) (hx : o.ExactDict) (hd : o.data = .dict es ep) (hn : es.size ≤ sizeLine)
    (hS : ∀ (vs : List Value) (s2 : Shared), vs = es.toList.map (·.key) → (∀ b u, s.heap.get? b = some u → s2.heap.get? b = some u) → ∃ κ : PyProof.Rows.KeyKind, PySem.W.SortsAt P w A.in1.in1 s2 κ vs ∧
      ∀ (h' : Heap) (tk : Nat) (p c : Nat), (∀ b u, s.heap.get? b = some u → h'.get? b = some u) → s.heap.objs.size ≤ p → h'.get? p = some (seqObj "list" (PySem.W.sortVals κ false vs vs).toArray c) → Q (.ref p) { s with heap := h', toks := tk }) :
    wpAny (model P w) A (call (.builtin "sorted") [.ref a]) Q E s := by
  refine Calls.call_function_entry kind_sorted plain_sorted entry_sorted (args_sorted1 _) ?_
  unfold Builtin.«sorted»
  refine wpAny_bind (m := checkCount "sorted" 1 1 _) (wpAny_pure ?_)
  refine wpAny_bind (collect_raw (A := A.in1) hh lo ho hx hd hn fun h1 tk acc k1 hz1 hi => ?_)
  have hl : acc.toList.length = es.size := by rw [Array.length_toList]; exact hi.1
  have hv : acc.toList = es.toList.map (·.key) := by
    apply List.ext_getElem?
    intro j
    rw [List.getElem?_map]
    cases hj : acc.toList[j]? with
    | none =>
      have := List.getElem?_eq_none_iff.mp hj
      rw [List.getElem?_eq_none (by rw [Array.length_toList]; omega)]
      all_goals rfl
    | some v =>
      obtain ⟨en, hen, hv⟩ := hi.2 j v (by rw [← Array.getElem?_toList]; exact hj)
      rw [Array.getElem?_toList, hen, hv]
      all_goals rfl
  refine wpAny_bind (wpAny_newList ?_ (by rw [hl]; exact hn))
  have hoL : (h1.push (seqObj "list" acc.toList.toArray 0)).get? h1.objs.size = some (seqObj "list" acc.toList.toArray 0) := Heap.get?_push_size _ rfl
  have old : ∀ {b : Addr} {u : Obj}, s.heap.get? b = some u → (h1.push (seqObj "list" acc.toList.toArray 0)).get? b = some u := fun e => Heap.get?_push_of_some _ (k1 _ _ e)
  have nb : ∀ {b : Addr} {u : Obj}, s.heap.get? b = some u → b ≠ h1.objs.size := fun e => Nat.ne_of_lt (Heap.lt_size (k1 _ _ e))
  obtain ⟨κ, hs1, hs2⟩ := hS acc.toList { s with heap := PySem.W.sortingHeap (h1.push (seqObj "list" acc.toList.toArray 0)) h1.objs.size acc.toList, toks := tk } hv fun b u e => PySem.W.sortingHeap_old (nb e) (old e)
  refine wpAny_bind (wpAny_holding (wpAny_call_entry slot_list_sort ⟨_, hoL, rfl⟩ entry_list_sort (PySem.W.list_sort_vals (κ := κ) hoL hs1 (by rw [hl]; exact hn) ⟨_, rfl, ?_⟩) (args_list_sort _)))
  obtain ⟨c, hc⟩ := sortedHeap_at (vs := acc.toList) (out := (PySem.W.sortVals κ false acc.toList acc.toList).toArray) hoL
  refine wpAny_pure ⟨_, rfl, hs2 _ tk h1.objs.size c (fun b u e => ?_) (Nat.le_of_lt hz1) hc⟩
  show (sortedHeap (h1.push (seqObj "list" acc.toList.toArray 0)) h1.objs.size acc.toList _).get? b = some u
  rw [sortedHeap_old (nb e) (by rw [size_push']; exact Nat.lt_succ_of_lt (Heap.lt_size (k1 _ _ e)))]
  exact old e
end
end Kn
namespace Kn
open PySem PySem.Spec PyProof.Rows L2
def zLe (p q : Addr × List Int × V) : Bool := rowLe p.2.1 q.2.1
def srtZ (zs : Zs) : Zs := zs.mergeSort zLe
section
variable {X : Cx}
def rSortZ (P : Program) (w : World) : List V → Hp → VK → Prop := fun vs H Q => ∃ (a : Addr) (zs : Zs), vs = [.ref a] ∧ H a = some (DxO P w a zs) ∧ TupZ H zs ∧ zs.length ≤ 1000000 ∧ ∀ p, H p = none → Q (.ref p) (upd H p (.lst ((srtZ zs).map fun z => V.ref z.1)))
theorem each_of_zip {R : Value → Addr × List Int × V → Prop} : ∀ {zs : Zs}, (∀ z ∈ zs, R (.ref z.1) z) → PySem.W.EachIs R (zs.map fun z => Value.ref z.1) zs
  | [], _ => .nil
  | z :: zs, h => .cons (h z (List.mem_cons_self ..)) (each_of_zip fun y hy => h y (List.mem_cons_of_mem _ hy))
theorem each_refs : ∀ {vs : List Value} {zs : Zs}, PySem.W.EachIs (fun v (z : Addr × List Int × V) => v = .ref z.1) vs zs → vs = zs.map fun z => Value.ref z.1
  | _, _, .nil => rfl
  | _, _, .cons h t => by rw [h, each_refs t]; rfl
theorem vals_zrefs : ∀ zs : Zs, Vals (zs.map fun z => V.ref z.1) (zs.map fun z => Value.ref z.1)
  | [] => .nil
  | _ :: zs => .cons rfl (vals_zrefs zs)
theorem keys_zs {P : Program} {w : World} {zs : Zs} {xs : List (List Key × Addr × Value)} (r : Paired zR zs xs) : (xs.map (entryOfKey (tupleKind (mixKind P w)))).map (·.key) = zs.map fun z => Value.ref z.1 := by
  induction r with
  | nil => rfl
  | @cons z x zs xs h t ih =>
    rw [List.map_cons, List.map_cons, List.map_cons, ih]
    rw [show (entryOfKey (tupleKind (mixKind P w)) x).key = Value.ref x.2.1 from rfl, h.2.1]
theorem cr_sortZ (hc : X.calm = true) (hu : X.A.units + 65 < cLine) : CallR X (.builtin "sorted") (rSortZ X.prog X.w) := by
  intro pins s σ H vs us Q I rs h
  obtain ⟨a, zs, rfl, ha, ht, hn, q⟩ := h
  rw [Vals.ref1 rs]
  obtain ⟨⟨lo, xs, rel, o, es, ep, ho, hx, hdt, he, hnd⟩, _, _⟩ := (show ObjOk X.prog X.w H s.heap a (DxO X.prog X.w a zs) from I.hok a _ ha)
  have lx : zs.length = xs.length := Paired.length rel
  have le : es.size = xs.length := size_of_entries he
  have ev : es.toList.map (·.key) = zs.map fun z => Value.ref z.1 := by rw [he]; exact keys_zs rel
  refine sorted_raw (I.ok.hd hc) lo ho hx hdt (by rw [sizeLine_eq]; omega) fun vs s2 hv keep => ⟨PySem.W.dataKind s2.heap (zs.map fun z => .tuple (z.2.1.map .int)), ?_, fun h' tk p c hkeep hz hp => ?_⟩
  all_goals
    rw [ev] at hv
    have er : PySem.W.EachIs (fun v (z : Addr × List Int × V) => ∃ as, Reads s2.heap v (.tuple (z.2.1.map .int)) as) vs zs := by
      rw [hv]
      refine each_of_zip fun z hz => ?_
      obtain ⟨as, r⟩ := Dp.reads I (.tuple (z.2.1.map .int)) (.ref z.1) (.ref z.1) (.tup (.inl (.inl (ht z hz))) (dqs_dp (dqs_ints z.2.1) (lay_ints z.2.1))) rfl
      exact ⟨as, PyProof.Rows.Reads.keeps keep r⟩
    have hal : PySem.W.AllAlike (zs.map fun z => PyData.tuple (z.2.1.map .int)) := PySem.W.AllAlike.of fun z z' => by
      unfold PySem.W.alike; exact PySem.W.alike_ints z.2.1 z'.2.1
  · refine sortsX (PySem.W.each_map (R := fun v d => ∃ as, Reads s2.heap v d as) (fun z : Addr × List Int × V => PyData.tuple (z.2.1.map .int)) er) hal (.inr fun d hd => ?_) fun d hd => ?_
    · obtain ⟨z, _, rfl⟩ := List.mem_map.mp hd
      exact ⟨_, rfl⟩
    · obtain ⟨z, _, rfl⟩ := List.mem_map.mp hd
      have : (PyData.tuple (z.2.1.map .int)).depth ≤ 1 := by unfold PyData.depth; rw [PySem.W.depth_ints]; decide
      have : X.A.in1.in1.units ≤ X.A.units + 2 := Nat.le_refl _
      omega
  · have so := PySem.W.sortVals_data (R := fun v (z : Addr × List Int × V) => v = .ref z.1) false (by rw [hv]; exact each_of_zip fun z _ => rfl) er hal
    have sv := each_refs so
    rw [show (PySem.W.dataLe false fun z : Addr × List Int × V => PyData.tuple (z.2.1.map .int)) = zLe from dataLe_tups (fun z : Addr × List Int × V => z.2.1)] at sv
    rw [sv] at hp
    have hl2 : ((srtZ zs).map fun z => V.ref z.1).length ≤ sizeLine := by
      unfold srtZ
      rw [List.length_map, List.length_mergeSort, sizeLine_eq]; omega
    exact ⟨.ref p, upd H p (.lst ((srtZ zs).map fun z => V.ref z.1)), I.laid (t' := tk) hkeep hz ⟨hl2, _, c, vals_zrefs _, hp⟩, rfl, q p (I.hok.fresh hz)⟩
end
theorem srtZ_keys (zs : Zs) : (srtZ zs).map (·.2.1) = srtRows (zs.map (·.2.1)) := (ms_map (fun z : Addr × List Int × V => z.2.1) zLe rowLe (fun _ _ => rfl) zs).trans (ms_rows _)
theorem srtZ_mem {zs : Zs} {z : Addr × List Int × V} : z ∈ srtZ zs ↔ z ∈ zs := List.mem_mergeSort
end Kn

namespace Kn
open PySem PySem.Spec PyProof.Rows L2
/-! ### sorted({KEY: True for x in xs if t}), the keys rows -/
def addR (acc : List (List Int)) (x : List Int) : List (List Int) := if x ∈ acc then acc else acc ++ [x]
def nubR (l : List (List Int)) : List (List Int) := l.foldl addR []
theorem nubR_snoc (l : List (List Int)) (x : List Int) : nubR (l ++ [x]) = addR (nubR l) x := by unfold nubR; rw [List.foldl_append]; rfl
theorem has_keys (zs : Zs) (k : List Int) : hasZ zs k = decide (k ∈ zs.map (·.2.1)) := by
  unfold hasZ
  induction zs with
  | nil => rfl
  | cons z zs ih =>
    rw [List.any_cons, ih, List.map_cons]
    by_cases h : z.2.1 = k
    · subst h; simp
    · have h' : ¬ k = z.2.1 := fun e => h e.symm
      by_cases h2 : k ∈ zs.map (·.2.1) <;> simp [h, h', h2]
theorem put_keys (zs : Zs) (k : List Int) (b : Addr) (v : V) : (putZ zs k b v).map (·.2.1) = addR (zs.map (·.2.1)) k := by
  unfold putZ addR
  rw [has_keys]
  by_cases h : k ∈ zs.map (·.2.1)
  · rw [if_pos (decide_eq_true h), if_pos h, List.map_map]
    refine List.map_congr_left fun z _ => ?_
    show (if z.2.1 = k then (z.1, z.2.1, v) else z).2.1 = z.2.1
    split <;> rfl
  · rw [if_neg (by rw [decide_eq_false h]; exact Bool.false_ne_true), if_neg h, List.map_append]; rfl
theorem TupZ.mono {G H : Hp} {zs : Zs} (h : TupZ G zs) (e : Ex G H) : TupZ H zs := fun z hz => e _ _ (h z hz)
theorem dqs_tupz {G : Hp} {zs : Zs} (h : TupZ G zs) : DqA G (zs.map fun z => V.ref z.1) ((zs.map (·.2.1)).map fun l => .tuple (l.map .int)) := by
  induction zs with
  | nil => exact .nil
  | cons z zs ih => exact .cons (.tup (h z (List.mem_cons_self ..)) (dqs_ints z.2.1)) (ih fun y hy => h y (List.mem_cons_of_mem _ hy))
theorem ev_sdX {P : Program} {w : World} {b : Bool} {ρ ρ1 : En} {wi : TI} {g : TG} {tt : TT} {tk : TE} {vs : List Nat} (xs : List D) (bs : D → List (Nat × D)) (p : D → Bool) (f : D → List Int) (hi : EvI b wi ρ xs ρ1) (hg : ∀ x ∈ xs, Gv g x (bs x) ∧ ∀ q ∈ bs x, q.1 ∈ vs)
    (hs : ∀ x ∈ xs, EvT false tt (sets (wipeE ρ1 vs) (bs x)) (p x) (sets (wipeE ρ1 vs) (bs x)) ∧ (p x = true → Ev false tk (sets (wipeE ρ1 vs) (bs x)) (.d (.tuple ((f x).map .int))) (sets (wipeE ρ1 vs) (bs x)))) (hl : xs.length ≤ 1000000) :
    Ev b (tCB (rSortZ P w) (tCons (tDcS (sX P w) (fun D => DxO P w D []) wi g tt tk (tC (.bl true)) vs) tNil)) ρ (.l ((srtRows (nubR ((xs.filter p).map f))).map fun l => .tuple (l.map .int))) ρ1 := fun G H σ e st nd Q q =>
  hi G H σ e st nd _ fun J G1 H1 x1 s1 a1 hJ Dl hD => by
    have nd1 : (adr ρ1).Nodup := by rw [a1]; exact nd
    refine ⟨fun i m H' => i + m = xs.length ∧ ∃ (G' : Hp) (zs : Zs), Ext [] G1 H1 G' H' ∧ G' Dl = none ∧ H' Dl = some (DxO P w Dl zs) ∧ TupZ G' zs ∧ zs.map (·.2.1) = nubR (((xs.take i).filter p).map f) ∧ zs.length ≤ i,
      ⟨xs.length, by simp, G1, [], Ext.own x1.gh hD, x1.gh.none hD, upd_same, fun z hz => by simp at hz, rfl, Nat.le_refl _⟩, fun i m H' hW => ?_⟩
    obtain ⟨hm, G', zs, x2, gD, hDl, htz, hkz, hlz⟩ := hW
    obtain ⟨hstop, hgo⟩ := hJ G' H' x2.gg x2.gh
    by_cases hlt : i < xs.length
    · obtain ⟨x, hx⟩ : ∃ x, xs[i]? = some x := ⟨xs[i], by simp [hlt]⟩
      have hmem : x ∈ xs := List.mem_of_getElem? hx
      obtain ⟨hgo1, hy⟩ := hgo i x hx
      refine .inr ⟨hgo1, fun H3 => ∃ (G' : Hp) (zs : Zs), Ext [] G1 H1 G' H3 ∧ G' Dl = none ∧ H3 Dl = some (DxO P w Dl zs) ∧ TupZ G' zs ∧ zs.map (·.2.1) = nubR (((xs.take (i + 1)).filter p).map f) ∧ zs.length ≤ i + 1,
        fun H3 h3 => ⟨m - 1, by omega, by omega, h3⟩, fun v H3 hv => ?_⟩
      obtain ⟨G3, x3, hd3⟩ := hy v H3 hv
      have y3 := x2.tr x3
      have sw : StOk G3 H3 (wipe σ vs) (wipeE ρ1 vs) := (s1.mono y3).wipe vs
      obtain ⟨hg1, hg2⟩ := hg x hmem
      refine hg1 G3 H3 _ _ v x3.gh sw hd3 _ fun σ2 s2 l2 o2 => ?_
      have D3 := x3.hh _ _ hDl
      have gD3 : G3 Dl = none := x3.nw Dl (by simp) gD (by rw [hDl]; simp)
      have etake : xs.take (i + 1) = xs.take i ++ [x] := by rw [List.take_add_one, hx]; rfl
      refine ⟨wipe_ext (by rw [l2, wipe_length]) fun k hk => o2 k fun hmm => ?_, ?_⟩
      · obtain ⟨y, hw1, hw2⟩ := List.mem_map.mp hmm
        rw [← hw2] at hk
        exact hk (hg2 y hw1)
      · obtain ⟨ht, he⟩ := hs x hmem
        have nd2 : (adr (sets (wipeE ρ1 vs) (bs x))).Nodup := nd_sets (nd_wipe nd1 vs)
        refine ht G3 H3 σ2 x3.gh s2 nd2 _ fun G4 H4 x4 s4 a4 => ?_
        have D4 := x4.hh _ _ D3
        have gD4 : G4 Dl = none := x4.nw Dl (show Dl ∉ ([] : List Addr) by simp) gD3 (by rw [D3]; simp)
        have y4 : Ext [] G1 H1 G4 H4 := y3.tr x4
        cases hp : p x with
        | false =>
          show ∃ (G' : Hp) (zs : Zs), _
          refine ⟨G4, zs, y4, gD4, D4, htz.mono (x3.gg.trans x4.gg), ?_, by omega⟩
          rw [etake, List.filter_append, List.filter_cons, if_neg (by rw [hp]; decide), List.filter_nil, List.append_nil]
          exact hkz
        | true =>
          refine he hp G4 H4 σ2 x4.gh s4 nd2 _ fun u G5 H5 x5 s5 a5 k5 => ?_
          have D5 := x5.hh _ _ D4
          have gD5 : G5 Dl = none := x5.nw Dl (show Dl ∉ ([] : List Addr) by simp) gD4 (by rw [D4]; simp)
          have y5 : Ext [] G1 H1 G5 H5 := y4.tr x5
          have k5 : Dq G5 u (.tuple ((f x).map .int)) := k5
          cases k5 with
          | tup ha hs5 =>
            rw [of_dqs_ints hs5] at ha
            rename_i aa _
            have ht5 : TupZ G5 zs := htz.mono ((x3.gg.trans x4.gg).trans x5.gg)
            refine ⟨zs, f x, aa, rfl, D5, ht5.mono x5.gh, x5.gh _ _ ha, by rw [sizeLine_eq]; omega, ?_⟩
            refine ⟨G5, putZ zs (f x) aa (.bl true), ?_, gD5, upd_same, put_tup ht5 ha, ?_, ?_⟩
            · have x6 : Ext [Dl] G5 H5 G5 (upd H5 Dl (DxO P w Dl (putZ zs (f x) aa (.bl true)))) := Ext.set x5.gh (by simp) gD5
              exact y5.trans x6 fun c hc => .inr (by rw [List.mem_singleton.mp hc]; exact hD)
            · rw [put_keys, hkz, etake, List.filter_append, List.filter_cons, if_pos hp, List.filter_nil, List.map_append, List.map_cons, List.map_nil, nubR_snoc]
            · have := put_len zs (f x) aa (.bl true)
              omega
    · have ei : i = xs.length := by omega
      refine .inl ⟨by rw [ei]; exact hstop, ?_⟩
      rw [ei, List.take_length] at hkz
      refine ⟨Dl, zs, rfl, hDl, htz.mono x2.gh, by omega, fun pa hn => ?_⟩
      have x7 : Ext (ws b ρ) G H G' (upd H' pa (.lst ((srtZ zs).map fun z => V.ref z.1))) := (x1.tr x2.up).tr (Ext.own x2.gh hn)
      refine q _ G' _ x7 ((s1.mono x2).mono (Ext.own x2.gh hn)) a1 ⟨pa, _, rfl, ?_, x2.gh.none hn, upd_same, ?_⟩
      · cases z : H pa with
        | none => rfl
        | some o => exact absurd hn ((x1.tr x2.up).th pa (by rw [z]; simp))
      · rw [← hkz, ← srtZ_keys]
        exact dqs_tupz fun z hz => htz z (srtZ_mem.mp hz)
def sdxM (xs : List D) (p : D → R Bool) (f : D → R D) : R (List D) := (lcM xs p f).bind fun ys => match tupsOf ys with
  | some ls => .ok ((srtRows (nubR ls)).map fun l => .tuple (l.map .int))
  | none => .bad
def rowOf (d : D) : List Int := match d with
  | .tuple l => (intsOf l).getD []
  | _ => []
theorem rowOf_t (l : List Int) : rowOf (.tuple (l.map .int)) = l := by show (intsOf (l.map .int)).getD [] = l; rw [intsOf_map]; rfl
section
variable {S : Type} {z : Rz} {b : Bool} {ρ : S → En} {tk : TE} {wi : TI} {tt : TT} {vs : List Nat} {g : TG} {Kl : {β : Type} → S → (List D → S → R β) → R β} {P : Program} {w : World}
theorem g_sdX {p : D → R Bool} {f : D → R D} (hi : GI z b wi ρ Kl) (hH : ∀ s, LcH g vs tt tk (wipeE (ρ s) vs) p f) :
    GE z b Rv.l (tCB (rSortZ P w) (tCons (tDcS (sX P w) (fun D => DxO P w D []) wi g tt tk (tC (.bl true)) vs) tNil)) ρ (fun s k => Kl s fun xs s' => (sdxM xs p f).bind fun ys => k ys s') := fun s => by
  obtain ⟨m, e1, e2, e3⟩ := hi s
  refine ⟨m.bind fun q => (sdxM q.1 p f).bind fun ys => .ok (ys, q.2), fun β k => ?_, fun q hq => ?_, fun e he => ?_⟩
  · rw [e1, R.bind_assoc]; congr 1; funext q; rw [R.bind_assoc]; rfl
  · obtain ⟨⟨xs, s1⟩, h3, h4⟩ := R.bind_eq_ok hq
    obtain ⟨ys, h5, h6⟩ := R.bind_eq_ok h4
    cases h6
    obtain ⟨zs, h7, h8⟩ := R.bind_eq_ok h5
    split at h8
    · rename_i ls hls
      cases h8
      obtain ⟨hl, h9⟩ := lcM_ok h7
      obtain ⟨k1, k2⟩ := lcG_ok h9
      have hys := of_tupsOf hls
      have hrow : ∀ x ∈ xs, pB p x = true → fD f x = .tuple ((rowOf (fD f x)).map .int) := fun x hx hp => by
        have hm : fD f x ∈ zs := by rw [k2]; exact List.mem_map.mpr ⟨x, List.mem_filter.mpr ⟨hx, hp⟩, rfl⟩
        rw [hys] at hm
        obtain ⟨l, _, e⟩ := List.mem_map.mp hm
        rw [← e, rowOf_t]
      have hls2 : ls = (xs.filter (pB p)).map fun x => rowOf (fD f x) := by
        have h1 : zs.map rowOf = ls := by rw [hys, List.map_map]; exact (List.map_congr_left fun l _ => rowOf_t l).trans (List.map_id' ls)
        rw [← h1, k2, List.map_map]; rfl
      have hx' : ∀ x, ∃ bs, x ∈ xs → (Gv g x bs ∧ ∀ q ∈ bs, q.1 ∈ vs) ∧ EvT false tt (sets (wipeE (ρ s1) vs) bs) (pB p x) (sets (wipeE (ρ s1) vs) bs) ∧ ∀ y, pB p x = true → f x = .ok y → Ev false tk (sets (wipeE (ρ s1) vs) bs) (.d y) (sets (wipeE (ρ s1) vs) bs) := fun x => by
        rcases Classical.em (x ∈ xs) with h | h
        · obtain ⟨bs, k⟩ := hH s1 x (pB p x) (k1 x h).1 fun h' => ⟨_, (k1 x h).2 h'⟩
          exact ⟨bs, fun _ => k⟩
        · exact ⟨[], fun q => absurd q h⟩
      let bs : D → List (Nat × D) := fun x => Classical.choose (hx' x)
      have hbs := fun x (h : x ∈ xs) => Classical.choose_spec (hx' x) h
      rw [hls2]
      refine ev_sdX xs bs (pB p) (fun x => rowOf (fD f x)) (e2 _ h3) (fun x h => (hbs x h).1) (fun x h => ⟨(hbs x h).2.1, fun hp => ?_⟩) hl
      have := (hbs x h).2.2 _ hp ((k1 x h).2 hp)
      rw [hrow x h hp] at this
      exact this
    · cases h8
  · rcases R.bind_eq_ex he with h3 | ⟨⟨xs, s1⟩, h3, h4⟩
    · exact fun G H σ x st nd w q => (e3 _ h3) G H σ x st nd w _
    · rcases R.bind_eq_ex h4 with h5 | ⟨ys, h5, h6⟩
      · exfalso
        rcases R.bind_eq_ex h5 with h7 | ⟨ys, h7, h8⟩
        · exact lcM_ex h7
        · split at h8 <;> cases h8
      · cases h6
end
end Kn

/-! dicts of one's own whose keys are tuples of ints: {}, d[k] = v, list(d) -/
namespace Kn
open PySem PySem.Spec PyProof.Rows L2
def tNewX (P : Program) (w : World) : TE := fun _ H Q => ∀ p, H p = none → Q (.ref p) (upd H p (DxO P w p []))
def sPutX (P : Program) (w : World) (td ty tv : TE) : TS := fun D σ H => tv σ H fun v H1 => td σ H1 fun x H2 => ty σ H2 fun y H3 => ∃ a, x = .ref a ∧ sX P w a y v H3 fun H4 => D.nx σ H4
def rListX (P : Program) (w : World) : List V → Hp → VK → Prop := fun vs H Q => ∃ (a : Addr) (zs : Zs), vs = [.ref a] ∧ H a = some (DxO P w a zs) ∧ TupZ H zs ∧ zs.length ≤ 16000000 ∧ ∀ p, H p = none → Q (.ref p) (upd H p (.lst (zs.map fun z => V.ref z.1)))
section
variable {X : Cx} {pos pos' : Pos} {o i value : Expr} {td ty tv : TE}
theorem pe_newX : PE X (.Dict [] [] pos) (tNewX X.prog X.w) := ⟨fun pins s σ H Q I h =>
  wpAny_Dict_empty ⟨.ref s.heap.objs.size, _, I.laid (a := s.heap.objs.size) (o := DxO X.prog X.w s.heap.objs.size []) (t' := s.toks) (fun _ _ q => Heap.get?_push_of_some _ q) (Nat.le_refl _) (dx_empty _ s.heap I.big), rfl, h _ (I.hok.fresh (Nat.le_refl _))⟩⟩
theorem ps_putX (hu : X.A.units + 1 < cLine) (ho : PE X o td) (hi : PE X i ty) (hv : PE X value tv) (hs : swapsWith value (some (.Subscript o i pos')) pos.line X.env = pure false) :
    PS X (.Assign [.Subscript o i pos'] value pos) (sPutX X.prog X.w td ty tv) := by
  refine ⟨fun pins s σ H D I h => ?_⟩
  refine wpAny_Assign_Subscript (thn (hv.run pins s σ H _ I h) fun r s1 ⟨v, H1, I1, rv, q1⟩ => thn (ho.run pins s1 σ H1 _ I1 q1) fun u s2 ⟨x, H2, I2, rx, q2⟩ => thn (hi.run pins s2 σ H2 _ I2 q2) fun iv s3 ⟨y, H3, I3, ry, a, ex, g⟩ => ?_) hs
  subst ex
  obtain rfl : u = Value.ref a := rx
  obtain ⟨zs, k, b, rfl, hD, ht, hb, hz, q⟩ := g
  obtain rfl : iv = Value.ref b := ry
  obtain ⟨lo, xs, rel, dd⟩ := dx_of I3 hD ht
  refine wpAny_setItem_heap (hsz := by rw [← Paired.length rel]; omega) (tupleKind_room_in1 hu) (key_of I3.hok (by rw [kV_ky]; exact hb)) dd fun h' d2 sb => ?_
  exact ⟨σ, _, dx_put I3 hD lo rel rv d2 sb, q⟩
theorem cr_listX (hc : X.calm = true) : CallR X (.type "list") (rListX X.prog X.w) := by
  intro pins s σ H vs us Q I rs h
  obtain ⟨a, zs, rfl, ha, ht, hn, q⟩ := h
  rw [Vals.ref1 rs]
  obtain ⟨⟨lo, xs, rel, ob, es, ep, ho, hx, hdt, he, hnd⟩, _, _⟩ := (show ObjOk X.prog X.w H s.heap a (DxO X.prog X.w a zs) from I.hok a _ ha)
  have lx : zs.length = xs.length := Paired.length rel
  have le : es.size = xs.length := size_of_entries he
  refine PySem.W.kdl_call (L2.kdl_raw lo hx hdt) (I.ok.hd hc) ho (by rw [sizeLine_eq]; omega) fun h' tk acc' c' kp e it => ?_
  have hl : acc'.toList.length = es.size := by rw [Array.length_toList]; exact it.1
  have hv : acc'.toList = es.toList.map (·.key) := by
    apply List.ext_getElem?
    intro j
    rw [List.getElem?_map]
    cases hj : acc'.toList[j]? with
    | none =>
      have := List.getElem?_eq_none_iff.mp hj
      rw [List.getElem?_eq_none (by rw [Array.length_toList]; omega)]
      all_goals rfl
    | some v =>
      obtain ⟨en, hen, hv⟩ := it.2 j v (by rw [← Array.getElem?_toList]; exact hj)
      rw [Array.getElem?_toList, hen, hv]
      all_goals rfl
  have ev : acc'.toList = zs.map fun z => Value.ref z.1 := by rw [hv, he]; exact keys_zs rel
  have rv : Vals (zs.map fun z => V.ref z.1) acc'.toList := by rw [ev]; exact vals_zrefs zs
  refine ⟨.ref s.heap.objs.size, _, I.laid (t' := tk) (o := .lst (zs.map fun z => V.ref z.1)) kp (Nat.le_refl _) ?_, rfl, q _ (I.hok.fresh (Nat.le_refl _))⟩
  exact ⟨by rw [List.length_map, sizeLine_eq]; omega, acc'.toList, c', rv, by rw [Array.toArray_toList]; exact e⟩
end
/-! ### the slot: entries (key, value) as data -/
theorem dqz_tup {G : Hp} {zs : Zs} {es : List D} (h : DqZ G zs es) : TupZ G zs := by
  induction h with
  | nil => intro z hz; cases hz
  | cons h1 h2 _ ih =>
    intro z hz
    rcases List.mem_cons.mp hz with rfl | hz
    · exact h1
    · exact ih z hz
theorem dqz_len {G : Hp} {zs : Zs} {es : List D} (h : DqZ G zs es) : zs.length = es.length := by
  induction h with
  | nil => rfl
  | cons _ _ _ ih => rw [List.length_cons, List.length_cons, ih]
/-- an entry's key, its value -/
def keyE : D → List Int
  | .tuple [.tuple ks, _] => (intsOf ks).getD []
  | _ => []
def vlE : D → D
  | .tuple [_, v] => v
  | _ => .none
def entE (k : List Int) (d : D) : D := .tuple [.tuple (k.map .int), d]
theorem keyE_ent (k : List Int) (d : D) : keyE (.tuple [.tuple (k.map .int), d]) = k := by show (intsOf (k.map .int)).getD [] = k; rw [intsOf_map]; rfl
def putE (es : List D) (k : List Int) (d : D) : List D := if (es.any fun e => decide (keyE e = k)) = true then es.map (fun e => if keyE e = k then entE k d else e) else es ++ [entE k d]
def keysE (es : List D) : List D := es.map fun e => .tuple ((keyE e).map .int)
theorem dqz_any {G : Hp} {zs : Zs} {es : List D} (h : DqZ G zs es) (k : List Int) : hasZ zs k = es.any fun e => decide (keyE e = k) := by
  unfold hasZ
  induction h with
  | nil => rfl
  | cons h1 h2 _ ih => rw [List.any_cons, List.any_cons, ih, keyE_ent]
theorem dqz_put {G : Hp} {zs : Zs} {es : List D} (h : DqZ G zs es) {k : List Int} {b : Addr} {v : V} {d : D} (hb : G b = some (.tup (k.map V.int))) (hv : Dq G v d) : DqZ G (putZ zs k b v) (putE es k d) := by
  unfold putZ putE
  rw [dqz_any h k]
  cases es.any fun e => decide (keyE e = k) with
  | true =>
    rw [if_pos rfl, if_pos rfl]
    induction h with
    | nil => exact .nil
    | @cons b' k' v' d' zs es h1 h2 _ ih =>
      rw [List.map_cons, List.map_cons, keyE_ent]
      by_cases e : k' = k
      · subst e
        rw [if_pos rfl, if_pos rfl]
        exact .cons h1 hv ih
      · rw [if_neg e, if_neg e]
        exact .cons h1 h2 ih
  | false =>
    rw [if_neg Bool.false_ne_true, if_neg Bool.false_ne_true]
    induction h with
    | nil => exact .cons hb hv .nil
    | cons h1 h2 _ ih => exact .cons h1 h2 ih
theorem dqz_keys {G : Hp} {zs : Zs} {es : List D} (h : DqZ G zs es) : DqA G (zs.map fun z => V.ref z.1) (keysE es) := by
  unfold keysE
  induction h with
  | nil => exact .nil
  | cons h1 h2 _ ih =>
    rw [List.map_cons, List.map_cons, keyE_ent]
    exact .cons (.tup h1 (dqs_ints _)) ih
def rgD (P : Program) (w : World) (p : Addr) (es : List D) : Rg where
  v := .ref p
  A := [p]
  ok := fun G H => ∃ zs, H p = some (DxO P w p zs) ∧ DqZ G zs es
  mono := fun G H G' H' e h ⟨zs, h1, h2⟩ => ⟨zs, by rw [h p (by simp)]; exact h1, dqz_mono e h2⟩
def putM (es : List D) (k d : D) : R (List D) := match k with
  | .tuple ks => match intsOf ks with
    | some l => if es.length ≤ 16000000 then .ok (putE es l d) else .bad
    | none => .bad
  | _ => .bad
def lstE (es : List D) : R (List D) := if es.length ≤ 16000000 then .ok (keysE es) else .bad
section
variable {S N L : Type} {z z' : Rz} {b : Bool} {ρ ρ1 : En} {ρs : S → En} {te tk : TE} {u : TS} {s0 : S} {eN : N → Addr → En} {eL : L → Addr → En} {m : R (Ct N L)} {E : Ens} {P : Program} {w : World} {i : Nat}
  {Ka : {β : Type} → S → (D → S → R β) → R β}
theorem st_same {σ : List (Option V)} {i : Nat} {v : V} (h : σ[i]? = some (some v)) : σ.set i (some v) = σ := by
  obtain ⟨hl, hg⟩ := List.getElem?_eq_some_iff.mp h
  rw [← hg]; exact List.set_getElem_self hl
theorem sv_newD (k : ∀ p, p ∉ adr ρ → E.nx (ρ.set i (.rg (rgD P w p [])))) : Sv (tAsg (tNewX P w) (gName i)) ρ E := fun G H σ e st nd D d1 _ _ _ p hp => by
  have x : Ext [] G H G (upd H p (DxO P w p [])) := Ext.own e hp
  have hpa : p ∉ adr ρ := fun hm => by
    obtain ⟨_, o, ho⟩ := st.own hm
    rw [hp] at ho; cases ho
  have hok : VOk G (upd H p (DxO P w p [])) (.ref p) (.rg (rgD P w p [])) := ⟨rfl, fun q hq => by rw [List.mem_singleton.mp hq]; exact ⟨e.none hp, _, upd_same⟩, [], upd_same, .nil⟩
  have ea : adr (ρ.set i (.rg (rgD P w p []))) = adr (ρ.set i (.mu p [])) := adr_eq (show adr1 (.rg (rgD P w p [])) = adr1 (.mu p []) from rfl) ρ i
  refine d1 (ρ.set i (.rg (rgD P w p []))) G _ _ ⟨x.up, fun q hq => ?_, (st.mono x).set hok i, by rw [ea]; exact nd_setN nd hpa⟩ (k p hpa)
  rcases adr_set hq with hq | hq
  · have hq : q = p := List.mem_singleton.mp hq
    right; rw [hq]; exact hp
  · exact .inl hq
/-- x = {} -/
theorem m_newD {k : R (Ct N L)} (hk : ∀ p, p ∉ adr (ρs s0) → SvM z u ((ρs s0).set i (.rg (rgD P w p []))) k eN eL) (hM : m = k := by rfl) : SvM z (tSeq (tAsg (tNewX P w) (gName i)) u) (ρs s0) m eN eL :=
  m_step (n := .ok ()) (P := fun _ ρ' => ∃ p, p ∉ adr (ρs s0) ∧ ρ' = (ρs s0).set i (.rg (rgD P w p []))) (k := fun _ => k) (fun _ _ => sv_newD fun p hp => ⟨p, hp, rfl⟩) (fun e he => by cases he) (fun _ ρ' ⟨p, hp, h⟩ => by rw [h]; exact hk p hp) hM
theorem sv_putD {es : List D} {p : Addr} {d : D} {l : List Int} (h1 : Ev b te ρ (.d d) ρ1) (h2 : Ev false tk ρ1 (.d (.tuple (l.map .int))) ρ1) (hi : ρ1[i]? = some (.rg (rgD P w p es))) (hl : es.length ≤ 16000000) (k : E.nx (ρ1.set i (.rg (rgD P w p (putE es l d))))) :
    Sv (sPutX P w (tVar i) tk te) ρ E := fun G H σ e st nd D d1 _ _ _ =>
  h1 G H σ e st nd _ fun v G1 H1 x1 s1 a1 r1 => by
    obtain ⟨v2, n1, hv2, hA, zs1, q1, q2⟩ := s1.get hi (by simp)
    have hv2 : v2 = .ref p := hv2
    subst hv2
    refine ⟨.ref p, n1, ?_⟩
    have nd1 : (adr ρ1).Nodup := by rw [a1]; exact nd
    refine h2 G1 H1 σ x1.gh s1 nd1 _ fun kv G2 H2 x2 s2 a2 r2 => ?_
    have r2 : Dq G2 kv (.tuple (l.map .int)) := r2
    cases r2 with
    | tup ha hs =>
    rename_i aa us
    rw [of_dqs_ints hs] at ha
    obtain ⟨v3, n3, _, hA3, zs, z1, z2⟩ := s2.get hi (by simp)
    have gp : G2 p = none := (hA3 p (List.mem_singleton.mpr rfl)).1
    have hm1 : p ∈ adr ρ1 := mem_adr1 hi (List.mem_singleton.mpr rfl)
    have hm : p ∈ adr ρ := by rw [← a1]; exact hm1
    have nd2 : (adr ρ1).Nodup := nd1
    refine ⟨p, rfl, zs, l, aa, rfl, z1, (dqz_tup z2).mono x2.gh, x2.gh _ _ ha, by rw [dqz_len z2, sizeLine_eq]; omega, ?_⟩
    have x2 : Ext [] G1 H1 G2 H2 := x2
    have x3 : Ext (adr ρ) G2 H2 G2 (upd H2 p (DxO P w p (putZ zs l aa v))) := Ext.set x2.gh hm gp
    have y : Ext (adr ρ) G H G2 (upd H2 p (DxO P w p (putZ zs l aa v))) := ((ext_b (M := []) x1).tr x2.up).tr x3
    have hok : VOk G2 (upd H2 p (DxO P w p (putZ zs l aa v))) (.ref p) (.rg (rgD P w p (putE es l d))) := ⟨rfl, fun q hq => by rw [List.mem_singleton.mp hq]; exact ⟨gp, _, upd_same⟩, _, upd_same, dqz_put z2 ha (dq_mono x2.gg r1)⟩
    have s3 := StOk.set hok i ((s2.un' i).updH (o := DxO P w p (putZ zs l aa v)) (adr_out nd2 hi (List.mem_singleton.mpr rfl)))
    rw [List.set_set, st_same n1] at s3
    have ea : adr (ρ1.set i (.rg (rgD P w p (putE es l d)))) = adr (ρ1.set i (.rg (rgD P w p es))) := adr_eq (show adr1 (.rg (rgD P w p (putE es l d))) = adr1 (.rg (rgD P w p es)) from rfl) ρ1 i
    have eb : ρ1.set i (.rg (rgD P w p es)) = ρ1 := by
      obtain ⟨hl, hg⟩ := List.getElem?_eq_some_iff.mp hi
      rw [← hg]; exact List.set_getElem_self hl
    rw [eb] at ea
    exact d1 _ G2 _ σ ⟨y, fun q hq => .inl (by rw [ea, a1] at hq; exact hq), s3, by rw [ea]; exact nd1⟩ k
/-- x[k] = v -/
theorem m_putD {p : Addr} {es : S → List D} {k : List D → S → R (Ct N L)} {Kb : S → {β : Type} → Unit → (D → Unit → R β) → R β} (hi : ∀ s, (ρs s)[i]? = some (.rg (rgD P w p (es s)))) (h : GE z b Rv.d te ρs Ka) (hj : ∀ s, GE z false Rv.d tk (fun _ : Unit => ρs s) (Kb s))
    (hk : ∀ d s, SvM z u ((ρs s).set i (.rg (rgD P w p d))) (k d s) eN eL)
    (hM : m = Ka s0 (fun d s => (@Kb s _ () fun j _ => R.ok j).nox.bind fun j => (putM (es s) j d).bind fun c => k c s) := by rfl) : SvM z (tSeq (sPutX P w (tVar i) tk te) u) (ρs s0) m eN eL := by
  obtain ⟨n, e1, e2, e3⟩ := h s0
  refine m_step (n := n.bind fun q => (@Kb q.2 _ () fun j _ => R.ok j).nox.bind fun j => (putM (es q.2) j q.1).bind fun c => .ok (c, q.2)) (P := fun q ρ' => ρ' = (ρs q.2).set i (.rg (rgD P w p q.1))) (k := fun q => k q.1 q.2) (fun q hq => ?_) (fun e he => ?_) (fun q ρ' w => by rw [w]; exact hk _ _) ?_
  · obtain ⟨⟨d, s⟩, h1, h2⟩ := R.bind_eq_ok hq
    obtain ⟨j, h3, h4⟩ := R.bind_eq_ok h2
    obtain ⟨c, h5, h6⟩ := R.bind_eq_ok h4
    cases h6
    have k2 := e2 _ h1
    have k3 := u_ok (hj s) (nox_ok h3)
    dsimp only at h5 k2
    unfold putM at h5
    split at h5
    · split at h5
      · rename_i l hl
        split at h5
        · rename_i hn
          cases h5
          rw [of_intsOf hl] at k3
          exact sv_putD k2 k3 (hi s) hn rfl
        · cases h5
      · cases h5
    · cases h5
  · rcases R.bind_eq_ex he with h1 | ⟨⟨d, s⟩, h1, h2⟩
    · exact fun G H σ x st nd w D => (e3 _ h1) G H σ x st nd (fun cls d G' H' => w cls d G' H' σ) _
    · rcases R.bind_eq_ex h2 with h3 | ⟨j, h3, h4⟩
      · exact absurd h3 nox_ex
      · rcases R.bind_eq_ex h4 with h5 | ⟨c, h5, h6⟩
        · unfold putM at h5; split at h5 <;> first | cases h5 | (split at h5 <;> first | cases h5 | (split at h5 <;> cases h5))
        · cases h6
  · refine (hM.trans (e1 _ _)).trans ?_
    rw [R.bind_assoc]
    congr 1; funext q
    rw [R.bind_assoc]
    congr 1; funext j
    rw [R.bind_assoc]
    rfl
theorem ev_listD {es : List D} {p : Addr} (hi : ρ[i]? = some (.rg (rgD P w p es))) (hl : es.length ≤ 16000000) : Ev b (tCB (rListX P w) (tCons (tVar i) tNil)) ρ (.l (keysE es)) ρ := fun G H σ e st nd Q q => by
  obtain ⟨v, n1, hv, hA, zs, z1, z2⟩ := st.get hi (by simp)
  have hv : v = .ref p := hv
  subst hv
  refine ⟨.ref p, n1, p, zs, rfl, z1, (dqz_tup z2).mono e, by rw [dqz_len z2]; exact hl, fun p' hp => ?_⟩
  have x : Ext [] G H G (upd H p' (.lst (zs.map fun z => V.ref z.1))) := Ext.own e hp
  exact q _ G _ x.up (st.mono x) rfl ⟨p', _, rfl, hp, e.none hp, upd_same, dqz_keys z2⟩
/-- list(x) -/
theorem g_listD {p : Addr} {es : S → List D} (hi : ∀ s, (ρs s)[i]? = some (.rg (rgD P w p (es s)))) : GE z b Rv.l (tCB (rListX P w) (tCons (tVar i) tNil)) ρs (fun s k => (lstE (es s)).bind fun ys => k ys s) := fun s => by
  refine ⟨(lstE (es s)).bind fun ys => .ok (ys, s), fun β k => by rw [R.bind_assoc]; rfl, fun q hq => ?_, fun e he => ?_⟩
  · obtain ⟨ys, h1, h2⟩ := R.bind_eq_ok hq
    cases h2
    unfold lstE at h1
    split at h1
    · cases h1; exact ev_listD (hi s) (by assumption)
    · cases h1
  · rcases R.bind_eq_ex he with h1 | ⟨ys, h1, h2⟩
    · unfold lstE at h1; split at h1 <;> cases h1
    · cases h2
end
/-! ### try: .. except X: (a suite that returns) -/
theorem takes_no {X : Cx} : Takes X (fun _ _ _ _ => False) := fun u s' ⟨a, B, sI, pins, σ, H, cls, d, e, I, nb, up, sky, na, os, ag, w⟩ => w.elim
def tTryU (K : PySem.W.Frag) (c : Value) (ts : TS) (tb : WX → TS) : TS := fun D σ H => tb (wOnly K c (fun _ _ _ => ts) (fun _ _ _ _ => False) D) D σ H
section
variable {X : Cx} {x : Str} {c : Value} {body suite : List Stmt} {b₀ : Stmt} {np pos pos' : Pos} {tb : WX → TS} {ts : TS}
theorem ps_tryU (hs : X.stack = X.env :: X.outer) (hf : X.env.frame = some X.env.locals) (hc : Names X x c)
    (hb : ∀ (W : WX) (pn : List (Addr × Obj)) (xe : Value → Shared → Prop), Takes (X.tr pn xe) W → PassesOwn (model X.prog X.w) X.A X.env xe → PSs (X.tr pn xe) body (tb W))
    (hsu : ∀ (a : Addr) (pn : List (Addr × Obj)), PSs (X.suite a pn) (b₀ :: suite) ts) :
    PS X (.Try body [.ExceptHandler (some (.Name x np)) none (b₀ :: suite) pos'] [] [] pos) (tTryU X.K c ts tb) :=
  ps_try_only hs hf hc takes_no hb fun a oe cls d pn _ _ => hsu a ((a, oe) :: pn)
end
section
variable {N L N0 L0 : Type} {z : Rz} {ρ : En} {eN : N → Addr → En} {eL : L → Addr → En} {eN0 : N0 → Addr → En} {eL0 : L0 → Addr → En}
theorem m_tryU {K : PySem.W.Frag} {c : Value} {names : List Str} {rx : En} {f : Xc → R (Ct N0 L0)} {tb : WX → TS} {ts : TS} {mb m : R (Ct N L)} (hE : ∀ x ∈ names, PySem.W.exmOne K (.ref (z.CA x)) c = some true)
    (hk : Wk ρ rx) (hb : ∀ W, SvM ⟨z.CA, W, rx, z.ow⟩ (tb W) ρ mb eN eL) (hs : ∀ e, SvM (zS z) ts rx (f e) eN0 eL0)
    (hM : m = tryR mb fun e => if e.cls ∈ names then retO (f e) else .bad := by rfl) : SvM z (tTryU K c ts tb) ρ m eN eL := fun G H σ e st nd D h => by
  subst hM
  refine hb (wOnly K c (fun _ _ _ => ts) (fun _ _ _ _ => False) D) G H σ e st nd D ?_
  cases mb with
  | bad => exact h
  | ok k => cases k <;> exact h
  | ex x =>
    have h : DOk z eN eL ρ G H D (if x.cls ∈ names then retO (f x) else .bad) := h
    by_cases hx : x.cls ∈ names
    · rw [if_pos hx] at h
      intro cls d G1 H1 σ1 x1 s1 ex
      obtain ⟨rfl, hd⟩ := id ex
      refine ⟨true, hE _ hx, fun _ a ha => ?_, fun z => by cases z⟩
      have sp : Stp ρ G H rx G1 H1 σ1 := ⟨x1, fun q hq => .inl (hk.sub.subset hq), s1, nd.sublist hk.sub⟩
      refine hs x _ _ _ x1.gh s1 sp.n D ?_
      match f x, h with
      | .ok (.rt r o), h => exact DOk.step (z := z) (eN := eN) (eL := eL) (m := .ok (.rt r o)) h sp
    · rw [if_neg hx] at h
      exact h.elim
end
end Kn
/-! ### sorted of a tuple -/
namespace SrtO
open PySem PySem.Spec PyProof.Rows Srt L2
section
variable {prog : Program} {w : World} {A : Around} {E : Value → Shared → Prop} {s : Shared}
theorem sorted_ordT {l : Addr} {vs : List Value} {ltv : Value → Value → Bool} {Q : Value → Shared → Prop} (O : Swo ltv) (hl : IsTup s.heap l vs.toArray) (hz : vs.length ≤ sizeLine)
    (hS : 2 ≤ vs.length → ∀ (h₁ : Heap) (a : Addr), h₁.get? a = some (seqObj "list" vs.toArray 0) → (∀ b o, s.heap.get? b = some o → b ≠ a ∧ h₁.get? b = some o) → SortableO prog w A.in1.in1 { s with heap := h₁ } a vs ltv)
    (h : ∀ out : List Value, Srtd ltv out → Stb ltv out vs → Q (.ref (s.heap.objs.size + 1)) { s with heap := sortedAll s.heap vs out.toArray }) :
    wpAny (model prog w) A (call (.builtin "sorted") [.ref l]) Q E s := by
  refine Calls.call_function_entry kind_sorted plain_sorted entry_sorted (args_sorted1 _) ?_
  unfold Builtin.«sorted»
  refine wpAny_bind (m := checkCount "sorted" 1 1 _) (wpAny_pure ?_)
  refine wpAny_bind (collect_tup hl ?_ hz)
  refine wpAny_bind (wpAny_newList ?_ hz)
  have hsz : ((s.heap.push (seqObj "list" #[] 0)).update s.heap.objs.size (Obj.mapSeq (· ++ vs.toArray))).objs.size = s.heap.objs.size + 1 := by
    rw [Heap.size_update, size_push']
  have hoL : (((s.heap.push (seqObj "list" #[] 0)).update s.heap.objs.size (Obj.mapSeq (· ++ vs.toArray))).push (seqObj "list" vs.toArray 0)).get? (s.heap.objs.size + 1) = some (seqObj "list" vs.toArray 0) := by
    rw [← hsz]; exact Heap.get?_push_size _ rfl
  have keep : ∀ b o, s.heap.get? b = some o → b ≠ s.heap.objs.size + 1 ∧ (((s.heap.push (seqObj "list" #[] 0)).update s.heap.objs.size (Obj.mapSeq (· ++ vs.toArray))).push (seqObj "list" vs.toArray 0)).get? b = some o := fun b o q => by
    have hlt : b < s.heap.objs.size := Heap.lt_size q
    refine ⟨Nat.ne_of_lt (Nat.lt_succ_of_lt hlt), Heap.get?_push_of_some _ ?_⟩
    rw [Heap.get?_update_ne _ _ _ _ (Nat.ne_of_lt hlt)]
    exact Heap.get?_push_of_some _ q
  show wpAny _ _ _ _ _ { s with heap := ((s.heap.push (seqObj "list" #[] 0)).update s.heap.objs.size (Obj.mapSeq (· ++ vs.toArray))).push (seqObj "list" vs.toArray 0) }
  rw [hsz]
  refine wpAny_bind (wpAny_holding (wpAny_call_entry slot_list_sort ⟨_, hoL, rfl⟩ entry_list_sort (list_sort_ord O hoL hz (fun h2 => hS h2 _ _ hoL keep) fun out hs hb => ⟨_, rfl, ?_⟩) (args_list_sort _)))
  exact wpAny_pure ⟨_, rfl, h out hs hb⟩
end
end SrtO
namespace Kn
open PySem PySem.Spec PyProof.Rows L2
def rSortedIT (K : PySem.W.Frag) : List V → Hp → VK → Prop := fun vs H Q => ∃ (a : Addr) (ns : List Int), vs = [V.ref a] ∧ SqT K H a (ns.map V.int) ∧
  ∀ (ns' : List Int) (p : Addr), ns'.Perm ns → ns'.Pairwise (· ≤ ·) → H p = none → Q (.ref p) (upd H p (.lst (ns'.map V.int)))
theorem cr_sortedIT {X : Cx} : CallR X (.builtin "sorted") (rSortedIT X.K) := by
  intro pins s σ H vs us Q I r h
  obtain ⟨a, ns, rfl, hs, q⟩ := h
  obtain ⟨its, rv, hl, hz⟩ := I.tuple hs
  rw [Vals.ref1 r]
  have hi := rv.ints
  refine SrtO.sorted_ordT SrtO.swo_int hl (by rw [← rv.length]; exact hz) (fun h2 h₁ a' _ _ => SrtO.ints_sortable hi h2) fun out h1 h2 => ?_
  obtain ⟨k1, k2, k3⟩ := SrtO.ints_out hi h1 h2
  obtain ⟨ep, he'⟩ := PyProof.Rows.sortedAll_at s.heap its out.toArray
  have hlen : ((out.map SrtO.iv).map V.int).length ≤ sizeLine := by
    rw [List.length_map, k2.length_eq]
    rw [List.length_map] at hz
    exact hz
  exact ⟨.ref _, upd H (s.heap.objs.size + 1) (.lst ((out.map SrtO.iv).map V.int)), I.laid (t' := s.toks) (fun _ _ => PyProof.Rows.sortedAll_old) (Nat.le_succ _) ⟨hlen, out, ep, vals_of_ints k1, he'⟩, rfl, q _ _ k2 k3 (I.hok.fresh (Nat.le_succ _))⟩
def srtTL : D → R (List D)
  | .tuple xs => match intsOf xs with
    | some l => .ok ((srt l).map .int)
    | none => .bad
  | _ => .bad
section
variable {K : PySem.W.Frag}
theorem rc_sortedT {l : List Int} : RcD (rSortedIT K) [.d (.tuple (l.map .int))] (.l ((srt l).map .int)) := fun G H σ vs e hv Q q => by
  obtain ⟨v, rfl, h⟩ := as1 hv
  cases h with
  | tup ha hs =>
    rw [of_dqs_ints hs] at ha
    refine ⟨_, l, rfl, .inl (.inl (e.f _ _ ha)), fun ns' p hp hs' hn => ?_⟩
    rw [srt_of hp hs']
    exact q _ G _ (Ext.own e hn) ⟨p, _, rfl, hn, e.none hn, upd_same, dqs_ints _⟩
theorem rcm_sortedT : RcM Rv.l (rSortedIT K) srtTL where
  ok := fun d c h => by
    unfold srtTL at h
    split at h
    · split at h
      · rename_i e
        cases h; rw [of_intsOf e]; exact rc_sortedT
      · cases h
    · cases h
  ex := fun d e h => by unfold srtTL at h; split at h <;> first | cases h | (split at h <;> cases h)
end
end Kn

/-! dicts with tuple keys that do not change any more: locked, walked over, summed, sorted, handed over; d.get; {k: v} -/
namespace Kn
open PySem PySem.Spec PyProof.Rows L2
theorem df_mk {P : Program} {w : World} {H : Hp} {h : Heap} {D : Addr} {zs : Zs} {o : Obj} {xs : List (List Key × Addr × Value)} (lo : (D == sysModules) = false) (r : Paired zR zs xs) {es : Array DictEntry} {ep : Nat} (e1 : h.get? D = some o) (e2 : o.ExactDict) (e3 : o.data = .dict es ep)
    {P' : Program} {w' : World} (e4 : es.toList = xs.map (entryOfKey (tupleKind (mixKind P' w')))) (e5 : (xs.map (·.1)).Nodup) : ObjOk P w H h D (DfO o D zs) :=
  ⟨⟨e1, lo, P', w', xs, r, es, ep, e2, e3, e4, e5⟩, ⟨o, e1⟩, fun h1 h2 ⟨f1, lo, P', w', xs, r, es, ep, f⟩ k => ⟨k o f1, lo, P', w', xs, r, es, ep, f⟩⟩
theorem df_of {P : Program} {w : World} {H : Hp} {h : Heap} {D : Addr} {o : Obj} {zs : Zs} (ok : HOk P w H h) (hD : H D = some (DfO o D zs)) : h.get? D = some o ∧ (D == sysModules) = false ∧ ∃ (P : Program) (w : World) (xs : List (List Key × Addr × Value)), Paired zR zs xs ∧
    ∃ es ep, o.ExactDict ∧ o.data = .dict es ep ∧ es.toList = xs.map (entryOfKey (tupleKind (mixKind P w))) ∧ (xs.map (·.1)).Nodup :=
  (show ObjOk P w H h D (DfO o D zs) from ok D _ hD).1
/-- the expression's dict is locked -/
def tLkX (P : Program) (w : World) (td : TE) : TE := fun σ H Q => td σ H fun x H1 => ∃ d zs, x = .ref d ∧ H1 d = some (DxO P w d zs) ∧ ∀ o, Q (.ref d) (upd H1 d (DfO o d zs))
def iItemsX (td : TE) : TI := fun σ H R => td σ H fun x H1 => ∃ d o zs, x = .ref d ∧ H1 d = some (DfO o d zs) ∧
  R ⟨fun i H => H d = some (DfO o d zs) ∧ i < zs.length, fun i H x H' => ∃ q z, zs[i]? = some z ∧ H q = none ∧ x = .ref q ∧ H' = upd H q (.tup [.ref z.1, z.2.2]), fun i H => H d = some (DfO o d zs) ∧ zs.length ≤ i⟩ H1
abbrev Itx (d : Addr) (o : Obj) (zs : Zs) : It := ⟨fun i H => H d = some (DfO o d zs) ∧ i < zs.length, fun i H x H' => ∃ q z, zs[i]? = some z ∧ H q = none ∧ x = .ref q ∧ H' = upd H q (.tup [.ref z.1, z.2.2]), fun i H => H d = some (DfO o d zs) ∧ zs.length ≤ i⟩
section
variable {X : Cx} {e : Expr} {td : TE} {apos cpos : Pos}
theorem pe_lkX (he : PE X e td) : PE X e (tLkX X.prog X.w td) := by
  refine ⟨fun pins s σ H Q I h => ?_⟩
  refine thn (he.run pins s σ H _ I h) fun u s1 ⟨x, H1, I1, rx, d, zs, ex, hd, q⟩ => ?_
  subst ex
  obtain ⟨⟨lo, xs, rel, o, es, ep, ho, hx, hdt, hes, hnd⟩, _, _⟩ := (show ObjOk X.prog X.w H1 s1.heap d (DxO X.prog X.w d zs) from I1.hok d _ hd)
  have I2 := d_write (h' := s1.heap) (t' := s1.toks) I1 (by rw [hd]; exact True.intro) (Heap.SameBut.refl d s1.heap) ⟨o, ho⟩ (df_mk (P := X.prog) (w := X.w) (H := upd H1 d (DfO o d zs)) lo rel ho hx hdt hes hnd)
  exact ⟨.ref d, _, I2, rx, q o⟩
theorem ent_at {P : Program} {w : World} {zs : Zs} {xs : List (List Key × Addr × Value)} (r : Paired zR zs xs) {i : Nat} {z : Addr × List Int × V} (h : zs[i]? = some z) : ∃ x, xs[i]? = some x ∧ zR z x := by
  induction r generalizing i with
  | nil => simp at h
  | @cons a b as bs h1 t ih =>
    cases i with
    | zero =>
      rw [List.getElem?_cons_zero] at h
      cases h
      exact ⟨b, rfl, h1⟩
    | succ i => exact ih (by simpa using h)
theorem turn_itemsX {P : Program} {w : World} {K : PySem.W.Frag} {d : Addr} {o : Obj} {zs : Zs} {es : Array DictEntry} {ep : Nat} {elts : List Expr} {kk : Nat} {tpos : Pos} (it : Addr) (hod : o.data = .dict es ep) (hsz : es.size = zs.length) :
    Turn P w K (.Tuple elts kk tpos) (Itx d o zs) [it] it (fun i h => ∃ ok ov, IsItemIter h it d i es.size ep ok ov) where
  mem := by simp
  obj := fun i h st b hb => by
    have e : b = it := by simpa using hb
    subst e
    obtain ⟨ok, ov, e⟩ := st
    exact ⟨_, e, fun v z => nomatch z⟩
  keep := fun i h h' st k => let ⟨ok, ov, e⟩ := st; ⟨ok, ov, k it (by simp) _ e⟩
  item := by
    intro X hP hw hK hc i pins s σ H E I hf st hg
    subst hP hw hK
    obtain ⟨hd, hi⟩ := hg
    obtain ⟨hgd, lo, P', w', xs, rel, es', ep', hx, hdt, hes, hnd⟩ := df_of I.hok hd
    rw [hod] at hdt
    cases hdt
    obtain ⟨z, hz⟩ : ∃ z, zs[i]? = some z := ⟨zs[i], List.getElem?_eq_getElem hi⟩
    obtain ⟨x, hxi, r1, r2, r3⟩ := ent_at (P := P') (w := w') rel hz
    obtain ⟨ok, ov, he⟩ := st
    have hie : i < es.size := by omega
    have hent : es[i] = entryOfKey (tupleKind (mixKind P' w')) x := by
      have h1 : es.toList[i]? = some es[i] := by rw [Array.getElem?_toList, Array.getElem?_eq_getElem hie]
      rw [hes, List.getElem?_map, hxi] at h1
      exact (Option.some.inj h1).symm
    have hlt : it < s.heap.objs.size := Heap.lt_size he
    refine wpAny_pyNext_items_item_raw he ⟨o, hgd, hx, hod⟩ hie fun h' ho hT hz' hk => ?_
    refine ⟨_, rfl, wpAny_letOwnedTupleGo_items (s := { s with heap := h' }) ho fun h'' he' sb => ?_⟩
    have hT2 : h''.get? s.heap.objs.size = some { cls := .type "tuple", data := .seq #[.ref z.1, x.2.2] } := by
      rw [sb.2 _ (Nat.ne_of_gt hlt), hT, hent]
      show some _ = some _
      rw [show (entryOfKey (tupleKind (mixKind P' w')) x).key = Value.ref x.2.1 from rfl, r2]
      rfl
    have new : ObjOk X.prog X.w (upd H s.heap.objs.size (.tup [.ref z.1, z.2.2])) h'' s.heap.objs.size (.tup [.ref z.1, z.2.2]) :=
      ⟨by show 2 ≤ sizeLine; decide, [.ref z.1, x.2.2], .cons rfl (.cons r3 .nil), ⟨_, hT2, rfl, _, rfl⟩⟩
    have I1 : Inv X pins σ (upd H s.heap.objs.size (.tup [.ref z.1, z.2.2])) { s with heap := h'' } :=
      I.turnedNew (t' := s.toks) (ch := [it]) (fun b ob hb e => (sb.2 b (by simpa using hb)).trans (hk b ob (by simpa using hb) e)) hf (Nat.le_refl _) new
    refine ⟨.ref s.heap.objs.size, _, I1, rfl, ⟨_, z, hz, I.hok.fresh (Nat.le_refl _), rfl, rfl⟩, ⟨_, _, he'⟩, fun b hb => ?_⟩
    have e : b = it := by simpa using hb
    rw [e, upd_ne (Nat.ne_of_lt hlt)]
    exact (hf it (by simp)).1
  done := by
    intro X hP hw hK hc i pins s σ H E I hf st hg
    subst hP hw hK
    obtain ⟨hd, hi⟩ := hg
    obtain ⟨f0, f1, f2, f3, f4, f5⟩ := hf it (by simp)
    obtain ⟨hgd, lo, P', w', xs, rel, es', ep', hx, hdt, hes, hnd⟩ := df_of I.hok hd
    rw [hod] at hdt
    cases hdt
    obtain ⟨ok, ov, he⟩ := st
    exact wpAny_pyNext_items_end_raw (I.ok.hd hc) he ⟨o, hgd, hx, hod⟩ (by omega) fun h' eb => ⟨rfl, I.turned (t' := s.toks) (fun b ob hb e => eb b ob hb e) f0 f1 f3 f4 f5⟩
  self := fun A i s Q E st h => let ⟨_, _, e⟩ := st; PySem.W.kcp_self e h
theorem pi_itemsX {elts : List Expr} {kk : Nat} {tpos : Pos} (he : PE X e td) (hbase : attributeBase e "items" X.env (eval e X.env) = eval e X.env := by rfl) (hline : (apos.endLine == cpos.line) = true := by rfl) :
    PI X (.Tuple elts kk tpos) (.Call (.Attribute e "items" apos) [] [] cpos) (iItemsX td) := by
  refine ⟨fun pins s σ H R I h => ?_⟩
  refine wpAny_Call_method (T := "dict") (id := "dict.items") hbase rfl hline F.plainAttrs_dict F.slot_dict_items F.type_dict_items (thn (he.run pins s σ H _ I h) fun u s1 ⟨x, H1, I1, rx, d, o, zs, ex, hd, q⟩ => ?_)
  subst ex
  obtain rfl : u = Value.ref d := rx
  obtain ⟨hgd, lo, P', w', xs, rel, es, ep, hx, hdt, hes, hnd⟩ := df_of I1.hok hd
  have lx : zs.length = xs.length := Paired.length rel
  have le : es.size = xs.length := size_of_entries hes
  have hraw : s1.heap.DictRaw d es ep := ⟨o, hgd, hx, hdt⟩
  refine ⟨hraw.typeIs, fun b hb => by cases hb; exact ⟨o, hgd, hx.2.1⟩, ?_⟩
  have I2 : Inv X pins σ H1 { s1 with heap := s1.heap.push { cls := .type "dict_items", data := .fields #[.ref d] } } := I1.kept (t' := s1.toks) fun b ob q => Heap.get?_push_of_some _ q
  have fin : wpAny (model X.prog X.w) X.A (pyIter (.ref s1.heap.objs.size)) (PIE X pins σ (.Tuple elts kk tpos) R) X.xe { s1 with heap := s1.heap.push { cls := .type "dict_items", data := .fields #[.ref d] } } := by
    refine wpAny_pyIter_items_raw (d := d) ⟨_, Heap.get?_push_size _ rfl, rfl, rfl⟩ (hraw.at fun o e => Heap.get?_push_of_some _ e) (pi_one (tk := s1.toks) I2 _ (turn_itemsX _ hdt (by omega)) ⟨.none, .none, ?_⟩ q)
    exact Heap.get?_push_size _ rfl
  show wpAny _ _ (callWith cpos (.builtin "dict.items") [.ref d] [] []) _ X.xe s1
  exact method_meetsIn F.slot_dict_items F.entry_dict_items rfl (PySem.evalArgs_none ⟨rfl, hraw.typeIs, F.args_dict_items_1 _, _, meets_dict_items_raw d lo, ⟨es, ep, hraw⟩, fin⟩)
end
/-! ### d.get(k, x); {k: v} -/
def valZ (zs : Zs) (k : List Int) : Option V := (zs.find? fun z => decide (z.2.1 = k)).map (·.2.2)
theorem val_zs {zs : Zs} {xs : List (List Key × Addr × Value)} (r : Paired zR zs xs) (k : List Int) : RelO (valZ zs k) ((atKey xs (kyI k)).map (·.2)) := by
  unfold atKey valZ
  induction r with
  | nil => exact True.intro
  | @cons z x zs xs h t ih =>
    rw [List.find?_cons, List.find?_cons]
    by_cases e : z.2.1 = k
    · rw [decide_eq_true e, decide_eq_true (show x.1 = kyI k by rw [h.1, e])]
      exact h.2.2
    · rw [decide_eq_false e, decide_eq_false (show ¬ x.1 = kyI k from fun q => e (kyI_inj (by rw [← h.1, q])))]
      exact ih
def tGetX (P : Program) (w : World) (td ty tx : TE) : TE := fun σ H Q => td σ H fun x H1 => ∃ a zs0, x = .ref a ∧ H1 a = some (DxO P w a zs0) ∧ ty σ H1 fun y H2 => tx σ H2 fun z H3 =>
  ∃ (zs : Zs) (k : List Int) (b : Addr), y = .ref b ∧ H3 a = some (DxO P w a zs) ∧ TupZ H3 zs ∧ H3 b = some (.tup (k.map V.int)) ∧ Q ((valZ zs k).getD z) H3
def tDisp1 (P : Program) (w : World) (tk tv : TE) : TE := fun σ H Q => ∀ p, H p = none → tk σ (upd H p (DxO P w p [])) fun y H1 => tv σ H1 fun z H2 => ∃ (k : List Int) (b : Addr), H2 p = some (DxO P w p []) ∧ y = .ref b ∧ H2 b = some (.tup (k.map V.int)) ∧ Q (.ref p) (upd H2 p (DxO P w p [(b, k, z)]))
section
variable {X : Cx} {o e f k v : Expr} {td ty tx tk tv : TE} {apos cpos pos : Pos}
theorem pe_getX (hu : X.A.units + 1 < cLine) (ho : PE X o td) (he : PE X e ty) (hf : PE X f tx) (m : M2 X o "get" apos e f cpos) : PE X (.Call (.Attribute o "get" apos) [e, f] [] cpos) (tGetX X.prog X.w td ty tx) := by
  refine ⟨fun pins s σ H Q I h => ?_⟩
  refine wpAny_Call_method m.base m.few m.line PySem.F.plainAttrs_dict PySem.F.slot_dict_get PySem.F.type_dict_get (thn (ho.run pins s σ H _ I h) fun u s1 ⟨x, H1, I1, rx, a, zs0, ex, hd0, q1⟩ => ?_)
  subst ex
  obtain rfl : u = Value.ref a := rx
  obtain ⟨⟨lo0, xs0, rel0, ob, es0, ep0, ho0, hx0, hdt0, _, _⟩, _, _⟩ := (show ObjOk X.prog X.w H1 s1.heap a (DxO X.prog X.w a zs0) from I1.hok a _ hd0)
  refine ⟨⟨ob, ho0, hx0.1⟩, fun b hb => by cases hb; exact ⟨ob, ho0, hx0.2.1⟩, ?_⟩
  rw [m.trees]
  refine Calls.callWith_builtin rfl (Calls.evalArgs_plain (Calls.spliced_cons (thn (he.run pins s1 σ H1 _ I1 q1) fun iv s2 ⟨y, H2, I2, ry, q2⟩ =>
    Calls.spliced_cons (thn (hf.run pins s2 σ H2 _ I2 q2) fun fv s3 ⟨z, H3, I3, rz, zs, kk, b, ey, hd, ht, hb, q3⟩ => Calls.spliced_nil ?_))))
  subst ey
  obtain rfl : iv = Value.ref b := ry
  obtain ⟨lo, xs, rel, dd⟩ := dx_of I3 hd ht
  refine call_meetsIn PySem.F.slot_dict_get dd.typeIs PySem.F.entry_dict_get (PySem.F.args_dict_get_3 _ _ _) (meetsH_dict_get_default (tupleKind (mixKind X.prog X.w)) a b lo fv) ⟨tupleKind_room_in1 hu, kyI kk, xs, key_of I3.hok (by rw [kV_ky]; exact hb), dd, ⟨_, H3, I3.tok _, (val_zs rel kk).getD rz, q3⟩⟩
theorem pe_disp1 (hu : X.A.units < cLine) (hk : PE X k tk) (hv : PE X v tv) : PE X (.Dict [some k] [v] pos) (tDisp1 X.prog X.w tk tv) := by
  refine ⟨fun pins s σ H Q I q => ?_⟩
  have hn := I.hok.fresh (Nat.le_refl s.heap.objs.size)
  have I1 := I.laid (a := s.heap.objs.size) (o := DxO X.prog X.w s.heap.objs.size []) (h' := s.heap.push { cls := .type "dict", data := .dict #[] }) (t' := s.toks) (fun _ _ q => Heap.get?_push_of_some _ q) (Nat.le_refl _) (dx_empty _ s.heap I.big)
  rw [arm_eval_Dict, zip_pairTrees [some k] [v] X.env pos rfl rfl, dictDisplay_pairs (pairTrees [some k] [v] X.env pos) (fun z => by cases z) (by show 1 < 17; decide)]
  refine wpAny_bind (wpAny_standAt (wpAny_bind (wpAny_subDictH (knd := tupleKind (mixKind X.prog X.w)) (Q := fun d s' => wpAny (model X.prog X.w) X.A (pure (Value.ref d)) (fun u s' => ∃ x H', Inv X pins σ H' s' ∧ RelV x u ∧ Q x H') X.xe s') hu (by show 1 ≤ 15; decide) ?_)))
  refine pairTrees_cons_walk (thn (hk.run pins _ σ _ _ I1 (q _ hn)) fun u s1 ⟨y, H1, I2, ry, q1⟩ => thn (hv.run pins s1 σ H1 _ I2 q1) fun w2 s2 ⟨z, H2, I3, rz, kk, b, hp, ey, hb, q2⟩ => pairTrees_nil_walk ?_)
  subst ey
  obtain rfl : u = Value.ref b := ry
  obtain ⟨lo, xs, rel, dd⟩ := dx_of I3 hp (fun z hz => by cases hz)
  cases rel
  exact ⟨[(kyI kk, b, w2)], ⟨rfl, rfl, key_of I3.hok (by rw [kV_ky]; exact hb), trivial⟩, dd, fun h' tk dd' sb => wpAny_pure ⟨.ref _, _, dx_put (zs := []) (k := kk) (b := b) (v := z) I3 hp lo .nil rz dd' sb, rfl, q2⟩⟩
end
/-! ### in the layer -/
theorem dqz_get {G : Hp} {zs : Zs} {es : List D} (h : DqZ G zs es) : ∀ {i : Nat} {d : D}, es[i]? = some d → ∃ (b : Addr) (k : List Int) (v : V) (dv : D), zs[i]? = some (b, k, v) ∧ d = .tuple [.tuple (k.map .int), dv] ∧ G b = some (.tup (k.map V.int)) ∧ Dq G v dv := by
  induction h with
  | nil => intro i d h; simp at h
  | @cons b k v d zs es h1 h2 _ ih =>
    intro i d' hi
    cases i with
    | zero =>
      rw [List.getElem?_cons_zero] at hi
      cases hi
      exact ⟨b, k, v, d, rfl, rfl, h1, h2⟩
    | succ i => exact ih (by simpa using hi)
def getE (es : List D) (k : List Int) (d : D) : D := ((es.find? fun e => decide (keyE e = k)).map vlE).getD d
theorem dqz_val {G : Hp} {zs : Zs} {es : List D} (h : DqZ G zs es) {k : List Int} {v0 : V} {d0 : D} (h0 : Dq G v0 d0) : Dq G ((valZ zs k).getD v0) (getE es k d0) := by
  unfold valZ getE
  induction h with
  | nil => exact h0
  | @cons b k' v d zs es h1 h2 _ ih =>
    rw [List.find?_cons, List.find?_cons, keyE_ent]
    by_cases e : k' = k
    · rw [decide_eq_true e]; exact h2
    · rw [decide_eq_false e]; exact ih
theorem ext_dict {G H G2 H2 : Hp} {p : Addr} {o0 o1 o2 : HO} (hp : H p = none) (e : Ex G H) (x : Ext [] G (upd H p o0) G2 H2) : Ext [] G H (upd G2 p o2) (upd (upd H2 p o1) p o2) where
  gg := fun c o hc => by
    have hb : c ≠ p := fun z => by subst z; rw [e _ _ hc] at hp; cases hp
    rw [upd_ne hb]; exact x.gg c o hc
  gh := fun c o hc => by
    by_cases hb : c = p
    · subst hb; rw [upd_same] at hc ⊢; exact hc
    · rw [upd_ne hb] at hc; rw [upd_ne hb, upd_ne hb]; exact x.gh c o hc
  fr := fun c o _ hc => by
    have hb : c ≠ p := fun z => by subst z; rw [hc] at hp; cases hp
    rw [upd_ne hb, upd_ne hb]; exact x.fr c o (by simp) (by rw [upd_ne hb]; exact hc)
  th := fun c hc => by
    by_cases hb : c = p
    · subst hb; rw [upd_same]; simp
    · rw [upd_ne hb, upd_ne hb]; exact x.th c (by rw [upd_ne hb]; exact hc)
  nw := fun c _ h1 h2 => by
    have hb : c ≠ p := fun z => by subst z; exact h2 hp
    rw [upd_ne hb]; exact x.nw c (by simp) h1 (by rw [upd_ne hb]; exact h2)
section
variable {S N L : Type} {z z' : Rz} {b : Bool} {ρ ρ1 : En} {ρs : S → En} {te tk tv : TE} {u : TS} {s0 : S} {eN : N → Addr → En} {eL : L → Addr → En} {m : R (Ct N L)} {E : Ens} {P : Program} {w : World} {i j : Nat}
  {Ka : {β : Type} → S → (D → S → R β) → R β}
theorem sv_newF {l : List Int} {d : D} (h1 : Ev false tk ρ (.d (.tuple (l.map .int))) ρ) (h2 : Ev false tv ρ (.d d) ρ) (k : E.nx (ρ.set i (.dc [entE l d]))) : Sv (tAsg (tLkX P w (tDisp1 P w tk tv)) (gName i)) ρ E := fun G H σ e st nd D d1 _ _ _ p hp => by
  have xo : Ext [] G H G (upd H p (DxO P w p [])) := Ext.own e hp
  refine h1 G _ σ xo.gh (st.mono xo) nd _ fun kv G1 H1 x1 s1 a1 r1 => ?_
  refine h2 G1 H1 σ x1.gh s1 nd _ fun vv G2 H2 x2 s2 a2 r2 => ?_
  have x1 : Ext [] G (upd H p (DxO P w p [])) G1 H1 := x1
  have x2 : Ext [] G1 H1 G2 H2 := x2
  have r1 : Dq G1 kv (.tuple (l.map .int)) := r1
  cases r1 with
  | tup ha hs =>
  rename_i aa us
  rw [of_dqs_ints hs] at ha
  have x12 := x1.tr x2
  have hp2 : H2 p = some (DxO P w p []) := x12.hh _ _ upd_same
  refine ⟨l, aa, hp2, rfl, x2.gh _ _ (x2.gg _ _ ha), p, [(aa, l, vv)], rfl, upd_same, fun o => ?_⟩
  have y : Ext [] G H (upd G2 p (DfO o p [(aa, l, vv)])) (upd (upd H2 p (DxO P w p [(aa, l, vv)])) p (DfO o p [(aa, l, vv)])) := ext_dict hp e x12
  have hap : aa ≠ p := fun z => by
    subst z
    have := x2.gh _ _ (x2.gg _ _ ha)
    rw [hp2] at this; cases this
  have g2p : G2 p = none := x12.nw p (by simp) (e.none hp) (by rw [upd_same]; simp)
  have eG : Ex G2 (upd G2 p (DfO o p [(aa, l, vv)])) := Ex.new g2p
  have hok : VOk (upd G2 p (DfO o p [(aa, l, vv)])) (upd (upd H2 p (DxO P w p [(aa, l, vv)])) p (DfO o p [(aa, l, vv)])) (.ref p) (.dc [entE l d]) :=
    ⟨o, p, _, rfl, upd_same, .cons (eG _ _ (x2.gg _ _ ha)) (dq_mono eG r2) .nil⟩
  refine d1 _ _ _ _ ⟨y.up, fun q hq => ?_, (st.mono y).set hok i, nd_set0 rfl nd⟩ k
  rcases adr_set hq with hq | hq
  · simp [adr1] at hq
  · exact .inl hq
/-- x = {k: v}, not changed any more -/
theorem m_newF {K1 K2 : {β : Type} → Unit → (D → Unit → R β) → R β} {k : List D → R (Ct N L)} (h1 : GE z false Rv.d tk (fun _ : Unit => ρs s0) K1) (h2 : GE z false Rv.d tv (fun _ : Unit => ρs s0) K2) (hk : ∀ es, SvM z u ((ρs s0).set i (.dc es)) (k es) eN eL)
    (hM : m = (@K1 _ () fun a _ => R.ok a).nox.bind fun a => (@K2 _ () fun a _ => R.ok a).nox.bind fun c => (putM [] a c).bind fun es => k es := by rfl) : SvM z (tSeq (tAsg (tLkX P w (tDisp1 P w tk tv)) (gName i)) u) (ρs s0) m eN eL := by
  refine m_step (n := (@K1 _ () fun a _ => R.ok a).nox.bind fun a => (@K2 _ () fun a _ => R.ok a).nox.bind fun c => putM [] a c) (P := fun es ρ' => ρ' = (ρs s0).set i (.dc es)) (k := k) (fun es he => ?_) (fun e he => ?_) (fun es ρ' w => by rw [w]; exact hk _) ?_
  · obtain ⟨a, e1, e2⟩ := R.bind_eq_ok he
    obtain ⟨c, e3, e4⟩ := R.bind_eq_ok e2
    have k1 := u_ok h1 (nox_ok e1)
    have k2 := u_ok h2 (nox_ok e3)
    unfold putM at e4
    split at e4
    · split at e4
      · rename_i l hl
        rw [if_pos (by simp)] at e4
        cases e4
        rw [of_intsOf hl] at k1
        exact sv_newF k1 k2 rfl
      · cases e4
    · cases e4
  · rcases R.bind_eq_ex he with h | ⟨a, _, h⟩
    · exact absurd h nox_ex
    · rcases R.bind_eq_ex h with h | ⟨c, _, h⟩
      · exact absurd h nox_ex
      · unfold putM at h; split at h <;> first | cases h | (split at h <;> first | cases h | (split at h <;> cases h))
  · rw [hM, R.bind_assoc]; congr 1; funext a; rw [R.bind_assoc]
theorem sv_mvF {es : List D} {p : Addr} (hi : ρ[i]? = some (.rg (rgD P w p es))) (k : E.nx ((ρ.set i .un).set j (.dc es))) : Sv (tAsg (tLkX P w (tVar i)) (gName j)) ρ E := fun G H σ e st nd D d1 _ _ _ => by
  obtain ⟨v, n1, hv, hA, zs, z1, z2⟩ := st.get hi (by simp)
  have hv : v = .ref p := hv
  subst hv
  have gp : G p = none := (hA p (List.mem_singleton.mpr rfl)).1
  have hm : p ∈ adr ρ := mem_adr1 hi (List.mem_singleton.mpr rfl)
  have hnp : p ∉ adr (ρ.set i .un) := adr_out nd hi (List.mem_singleton.mpr rfl)
  refine ⟨.ref p, n1, p, zs, rfl, z1, fun o => ?_⟩
  have eG : Ex G (upd G p (DfO o p zs)) := Ex.new gp
  have y : Ext (adr ρ) G H (upd G p (DfO o p zs)) (upd H p (DfO o p zs)) := ⟨eG, fun c u hc => by
      by_cases hb : c = p
      · subst hb; rw [upd_same] at hc ⊢; exact hc
      · rw [upd_ne hb] at hc ⊢; exact e c u hc, fun c u hc h => by
      rw [upd_ne (fun z => hc (by rw [z]; exact hm))]; exact h, fun c hc => by
      by_cases hb : c = p
      · subst hb; rw [upd_same]; simp
      · rw [upd_ne hb]; exact hc, fun c hc h1 _ => by
      rw [upd_ne (fun z => hc (by rw [z]; exact hm))]; exact h1⟩
  have s1 : StOk (upd G p (DfO o p zs)) (upd H p (DfO o p zs)) σ (ρ.set i .un) := StOk.fz gp ((st.un' i).updH hnp) hnp
  have s2 := StOk.set (v := .ref p) (s := .dc es) (show VOk (upd G p (DfO o p zs)) (upd H p (DfO o p zs)) (.ref p) (.dc es) from ⟨o, p, zs, rfl, upd_same, dqz_mono eG z2⟩) j s1
  refine d1 _ _ _ _ ⟨y, fun q hq => ?_, s2, nd_set0 rfl (nd_set0 rfl nd)⟩ k
  rcases adr_set hq with hq | hq
  · simp [adr1] at hq
  · rcases adr_set hq with hq | hq
    · simp [adr1] at hq
    · exact .inl hq
/-- y = x; x is not used any more -/
theorem m_mvF {es : List D} {p : Addr} {k : R (Ct N L)} (hi : (ρs s0)[i]? = some (.rg (rgD P w p es))) (hk : SvM z u (((ρs s0).set i .un).set j (.dc es)) k eN eL) (hM : m = k := by rfl) : SvM z (tSeq (tAsg (tLkX P w (tVar i)) (gName j)) u) (ρs s0) m eN eL :=
  m_step (n := .ok ()) (P := fun _ ρ' => ρ' = ((ρs s0).set i .un).set j (.dc es)) (k := fun _ => k) (fun _ _ => sv_mvF hi rfl) (fun e he => by cases he) (fun _ ρ' h => by rw [h]; exact hk) hM
/-- return x, a dict -/
theorem m_retE {es o : List D} (hi : ρ[i]? = some (.dc es)) (how : OwR z.ow o ρ) (hM : m = .ok (.rt (.e es) o) := by rfl) : SvM z (tRet (tVar i)) ρ m eN eL := fun G H σ e st nd D hD => by
  subst hM
  obtain ⟨v, n1, hv⟩ := st.get hi (by simp)
  exact ⟨v, n1, hD v ρ G H σ (Stp.refl e st nd) hv how⟩
theorem ei_itemsX {es : List D} (hi : ρ[i]? = some (.dc es)) : EvI b (iItemsX (tVar i)) ρ es ρ := fun G H σ e st nd R q => by
  obtain ⟨v, n1, o, p, zs, rfl, h1, h2⟩ := st.get hi (by simp)
  refine ⟨.ref p, n1, p, o, zs, rfl, e _ _ h1, q _ G H (Ext.refl e) st rfl fun G2 H2 e1 e2 => ?_⟩
  have hd : H2 p = some (DfO o p zs) := e2 _ _ (e1 _ _ h1)
  have hl := dqz_len h2
  refine ⟨⟨hd, by omega⟩, fun r d hr => ?_⟩
  obtain ⟨b', k, v, dv, z1, rfl, z2, z3⟩ := dqz_get h2 hr
  refine ⟨⟨hd, (List.getElem?_eq_some_iff.mp z1).1⟩, fun x H3 hy => ?_⟩
  obtain ⟨q', zz, y1, y2, rfl, rfl⟩ := hy
  rw [z1] at y1
  cases y1
  have xn : Ext [] G2 H2 (upd G2 q' (.tup [.ref b', v])) (upd H2 q' (.tup [.ref b', v])) := Ext.new e2 y2
  exact ⟨_, xn, .tup upd_same (.cons (.tup (xn.gg _ _ (e1 _ _ z2)) (dqs_ints k)) (.cons (dq_mono (e1.trans xn.gg) z3) .nil))⟩
end
/-! ### d.values(), summed; sorted(d) -/
def valsO (p d : Addr) : HO := .ext fun h => h.IsValuesView p d
theorem valsO_ok {P : Program} {w : World} {H : Hp} {h : Heap} {p d : Addr} (e : h.get? p = some { cls := .type "dict_values", data := .fields #[.ref d] }) : ObjOk P w H h p (valsO p d) :=
  ⟨⟨_, e, rfl, rfl⟩, ⟨_, e⟩, fun h1 h2 ⟨o, f1, f2⟩ k => ⟨o, k o f1, f2⟩⟩
def tValsX (td : TE) : TE := fun σ H Q => td σ H fun x H1 => ∃ d o zs, x = .ref d ∧ H1 d = some (DfO o d zs) ∧ ∀ p, H1 p = none → Q (.ref p) (upd H1 p (valsO p d))
def rSumX : List V → Hp → VK → Prop := fun vs H Q => ∃ (p d : Addr) (o : Obj) (zs : Zs) (ns : List Int), vs = [.ref p] ∧ H p = some (valsO p d) ∧ H d = some (DfO o d zs) ∧ zs.map (·.2.2) = ns.map V.int ∧ Q (.int ns.sum) H
def rSortF : List V → Hp → VK → Prop := fun vs H Q => ∃ (a : Addr) (o : Obj) (zs : Zs), vs = [.ref a] ∧ H a = some (DfO o a zs) ∧ TupZ H zs ∧ zs.length ≤ 1000000 ∧ ∀ p, H p = none → Q (.ref p) (upd H p (.lst ((srtZ zs).map fun z => V.ref z.1)))
theorem preSum_ints : ∀ ns : List Int, preSum (fun i => (ns[i]?).getD 0) ns.length = ns.sum
  | [] => rfl
  | x :: ns => by
    rw [List.length_cons, PySem.W.kdu_shift]
    show x + preSum (fun i => (ns[i]?).getD 0) ns.length = _
    rw [preSum_ints ns, List.sum_cons]
section
variable {X : Cx} {e : Expr} {td : TE} {apos cpos : Pos}
theorem pe_valuesX (he : PE X e td) (hbase : attributeBase e "values" X.env (eval e X.env) = eval e X.env := by rfl) (hline : (apos.endLine == cpos.line) = true := by rfl) : PE X (.Call (.Attribute e "values" apos) [] [] cpos) (tValsX td) := by
  refine ⟨fun pins s σ H Q I h => ?_⟩
  refine wpAny_Call_method (T := "dict") (id := "dict.values") hbase rfl hline F.plainAttrs_dict F.slot_dict_values F.type_dict_values (thn (he.run pins s σ H _ I h) fun u s1 ⟨x, H1, I1, rx, d, o, zs, ex, hd, q⟩ => ?_)
  subst ex
  obtain rfl : u = Value.ref d := rx
  obtain ⟨hgd, lo, P', w', xs, rel, es, ep, hx, hdt, hes, hnd⟩ := df_of I1.hok hd
  have hraw : s1.heap.DictRaw d es ep := ⟨o, hgd, hx, hdt⟩
  refine ⟨hraw.typeIs, fun b hb => by cases hb; exact ⟨o, hgd, hx.2.1⟩, ?_⟩
  have I2 : Inv X pins σ (upd H1 s1.heap.objs.size (valsO s1.heap.objs.size d)) { s1 with heap := s1.heap.push { cls := .type "dict_values", data := .fields #[.ref d] } } :=
    I1.laid (t' := s1.toks) (fun b ob q => Heap.get?_push_of_some _ q) (Nat.le_refl _) (valsO_ok (Heap.get?_push_size _ rfl))
  show wpAny _ _ (callWith cpos (.builtin "dict.values") [.ref d] [] []) _ X.xe s1
  exact method_meetsIn F.slot_dict_values F.entry_dict_values rfl (PySem.evalArgs_none ⟨rfl, hraw.typeIs, F.args_dict_values_1 _, _, meets_dict_values_raw d lo, ⟨es, ep, hraw⟩, ⟨.ref s1.heap.objs.size, _, I2, rfl, q _ (I1.hok.fresh (Nat.le_refl _))⟩⟩)
theorem cr_sumX (hc : X.calm = true) : CallR X (.builtin "sum") rSumX := by
  intro pins s σ H vs us Q I rs h
  obtain ⟨p, d, o, zs, ns, rfl, hp, hd, hns, q⟩ := h
  rw [Vals.ref1 rs]
  obtain ⟨hgd, lo, P', w', xs, rel, es, ep, hx, hdt, hes, hnd⟩ := df_of I.hok hd
  obtain ⟨hview, _, _⟩ := (show ObjOk X.prog X.w H s.heap p (valsO p d) from I.hok p _ hp)
  have hraw : s.heap.DictRaw d es ep := ⟨o, hgd, hx, hdt⟩
  have lx : zs.length = xs.length := Paired.length rel
  have le : es.size = xs.length := size_of_entries hes
  have ln : ns.length = zs.length := by have := congrArg List.length hns; rw [List.length_map, List.length_map] at this; exact this.symm
  refine call_sum_walkAnyS (wpAny_pyIter_values_raw hview hraw ?_)
  refine ⟨s.heap.objs.size, _, _, _, es.size, _, _, fun i => (ns[i]?).getD 0, rfl, (Walks.rawValues (prog := X.prog) (w := X.w) (A := X.A.in1) (I.ok.hd hc) s.heap.objs.size d (Nat.ne_of_lt (Heap.lt_size hgd)) es ep).toS, ⟨⟨_, Heap.get?_push_size _ rfl, rfl, rfl⟩, hraw.push _⟩, fun b hb => ?_, fun i v hv => ?_, fun s' t' hm => ?_⟩
  · show b < (s.heap.push _).objs.size
    rw [size_push']
    rcases List.mem_cons.mp hb with e | hb
    · rw [e]; exact Nat.lt_succ_self _
    · rw [List.mem_singleton.mp hb]; exact Nat.lt_succ_of_lt (Heap.lt_size hgd)
  · obtain ⟨hi, rfl⟩ := hv
    have hin : i < ns.length := by omega
    obtain ⟨z, hz⟩ : ∃ z, zs[i]? = some z := ⟨_, List.getElem?_eq_getElem (by omega)⟩
    obtain ⟨x, hxi, r1, r2, r3⟩ := ent_at (P := P') (w := w') rel hz
    have hent : es[i] = entryOfKey (tupleKind (mixKind P' w')) x := by
      have h1 : es.toList[i]? = some es[i] := by rw [Array.getElem?_toList, Array.getElem?_eq_getElem hi]
      rw [hes, List.getElem?_map, hxi] at h1
      exact (Option.some.inj h1).symm
    have hv : z.2.2 = V.int ns[i] := by
      have h1 : (zs.map (·.2.2))[i]? = some z.2.2 := by rw [List.getElem?_map, hz]; rfl
      rw [hns, List.getElem?_map, List.getElem?_eq_getElem hin] at h1
      exact (Option.some.inj h1).symm
    rw [hv] at r3
    obtain ⟨t, ht⟩ := r3
    refine ⟨t, ?_⟩
    rw [hent]
    show x.2.2 = _
    rw [ht]
    show _ = Value.int ((ns[i]?).getD 0) t
    rw [List.getElem?_eq_getElem hin]; rfl
  · have hk : ∀ b u, s.heap.get? b = some u → s'.heap.get? b = some u := fun b u e =>
      hm.heap b u (fun hI => absurd (Heap.lt_size e) (by rw [List.mem_singleton.mp hI]; exact Nat.lt_irrefl _)) (Heap.get?_push_of_some _ e)
    rw [Moved.eq_with hm]
    refine ⟨.int ns.sum, H, I.kept (t' := s'.toks) hk, ⟨t', ?_⟩, q⟩
    rw [show es.size = ns.length by omega, preSum_ints]
theorem cr_sortF (hc : X.calm = true) (hu : X.A.units + 65 < cLine) : CallR X (.builtin "sorted") rSortF := by
  intro pins s σ H vs us Q I rs h
  obtain ⟨a, o, zs, rfl, ha, ht, hn, q⟩ := h
  rw [Vals.ref1 rs]
  obtain ⟨ho, lo, P', w', xs, rel, es, ep, hx, hdt, he, hnd⟩ := df_of I.hok ha
  have lx : zs.length = xs.length := Paired.length rel
  have le : es.size = xs.length := size_of_entries he
  have ev : es.toList.map (·.key) = zs.map fun z => Value.ref z.1 := by rw [he]; exact keys_zs rel
  refine sorted_raw (I.ok.hd hc) lo ho hx hdt (by rw [sizeLine_eq]; omega) fun vs s2 hv keep => ⟨PySem.W.dataKind s2.heap (zs.map fun z => .tuple (z.2.1.map .int)), ?_, fun h' tk p c hkeep hz hp => ?_⟩
  all_goals
    rw [ev] at hv
    have er : PySem.W.EachIs (fun v (z : Addr × List Int × V) => ∃ as, Reads s2.heap v (.tuple (z.2.1.map .int)) as) vs zs := by
      rw [hv]
      refine each_of_zip fun z hz => ?_
      obtain ⟨as, r⟩ := Dp.reads I (.tuple (z.2.1.map .int)) (.ref z.1) (.ref z.1) (.tup (.inl (.inl (ht z hz))) (dqs_dp (dqs_ints z.2.1) (lay_ints z.2.1))) rfl
      exact ⟨as, PyProof.Rows.Reads.keeps keep r⟩
    have hal : PySem.W.AllAlike (zs.map fun z => PyData.tuple (z.2.1.map .int)) := PySem.W.AllAlike.of fun z z' => by
      unfold PySem.W.alike; exact PySem.W.alike_ints z.2.1 z'.2.1
  · refine sortsX (PySem.W.each_map (R := fun v d => ∃ as, Reads s2.heap v d as) (fun z : Addr × List Int × V => PyData.tuple (z.2.1.map .int)) er) hal (.inr fun d hd => ?_) fun d hd => ?_
    · obtain ⟨z, _, rfl⟩ := List.mem_map.mp hd
      exact ⟨_, rfl⟩
    · obtain ⟨z, _, rfl⟩ := List.mem_map.mp hd
      have : (PyData.tuple (z.2.1.map .int)).depth ≤ 1 := by unfold PyData.depth; rw [PySem.W.depth_ints]; decide
      have : X.A.in1.in1.units ≤ X.A.units + 2 := Nat.le_refl _
      omega
  · have so := PySem.W.sortVals_data (R := fun v (z : Addr × List Int × V) => v = .ref z.1) false (by rw [hv]; exact each_of_zip fun z _ => rfl) er hal
    have sv := each_refs so
    rw [show (PySem.W.dataLe false fun z : Addr × List Int × V => PyData.tuple (z.2.1.map .int)) = zLe from dataLe_tups (fun z : Addr × List Int × V => z.2.1)] at sv
    rw [sv] at hp
    have hl2 : ((srtZ zs).map fun z => V.ref z.1).length ≤ sizeLine := by
      unfold srtZ
      rw [List.length_map, List.length_mergeSort, sizeLine_eq]; omega
    exact ⟨.ref p, upd H p (.lst ((srtZ zs).map fun z => V.ref z.1)), I.laid (t' := tk) hkeep hz ⟨hl2, _, c, vals_zrefs _, hp⟩, rfl, q p (I.hok.fresh hz)⟩
end
theorem dqz_vals {G : Hp} {zs : Zs} {es : List D} (h : DqZ G zs es) : DqA G (zs.map (·.2.2)) (es.map vlE) := by
  induction h with
  | nil => exact .nil
  | cons h1 h2 _ ih => exact .cons h2 ih
theorem dqz_keysI {G : Hp} {zs : Zs} {es : List D} (h : DqZ G zs es) : zs.map (·.2.1) = es.map keyE := by
  induction h with
  | nil => rfl
  | cons h1 h2 _ ih => rw [List.map_cons, List.map_cons, ih, keyE_ent]
def sumE (es : List D) : R D := match intsOf (es.map vlE) with
  | some l => .ok (.int l.sum)
  | none => .bad
def sortE (es : List D) : R (List D) := if es.length ≤ 1000000 then .ok ((srtRows (es.map keyE)).map fun l => .tuple (l.map .int)) else .bad
def getM (es : List D) (d0 k : D) : R D := match k with
  | .tuple ks => match intsOf ks with
    | some l => .ok (getE es l d0)
    | none => .bad
  | _ => .bad
section
variable {S : Type} {z : Rz} {b : Bool} {ρ ρ1 : En} {ρs : S → En} {te tk : TE} {P : Program} {w : World} {i : Nat} {Ke : {β : Type} → S → (List D → S → R β) → R β} {Ka : {β : Type} → S → (D → S → R β) → R β}
theorem ev_sumX {es : List D} {c : D} (h : Ev b te ρ (.e es) ρ1) (hs : sumE es = .ok c) : Ev b (tCB rSumX (tCons (tValsX te) tNil)) ρ (.d c) ρ1 := fun G H σ e st nd Q q =>
  h G H σ e st nd _ fun v G1 H1 x1 s1 a1 r1 => by
    obtain ⟨o, p, zs, rfl, h1, h2⟩ := r1
    unfold sumE at hs
    split at hs
    · rename_i l hl
      cases hs
      have hv := dqz_vals h2
      rw [of_intsOf hl] at hv
      refine ⟨p, o, zs, rfl, x1.gh _ _ h1, fun p' hp' => ?_⟩
      have hne : p ≠ p' := fun z => by subst z; rw [x1.gh _ _ h1] at hp'; cases hp'
      have xo : Ext [] G1 H1 G1 (upd H1 p' (valsO p' p)) := Ext.own x1.gh hp'
      exact ⟨p', p, o, zs, l, rfl, upd_same, by rw [upd_ne hne]; exact x1.gh _ _ h1, of_dqs_ints hv, q _ G1 _ (x1.tr xo.up) (s1.mono xo) a1 (.int _)⟩
    · cases hs
theorem ev_sortF {es : List D} (h : Ev b te ρ (.e es) ρ1) (hl : es.length ≤ 1000000) : Ev b (tCB rSortF (tCons te tNil)) ρ (.l ((srtRows (es.map keyE)).map fun l => .tuple (l.map .int))) ρ1 := fun G H σ e st nd Q q =>
  h G H σ e st nd _ fun v G1 H1 x1 s1 a1 r1 => by
    obtain ⟨o, p, zs, rfl, h1, h2⟩ := r1
    refine ⟨p, o, zs, rfl, x1.gh _ _ h1, (dqz_tup h2).mono x1.gh, by rw [dqz_len h2]; exact hl, fun p' hp' => ?_⟩
    have xo : Ext [] G1 H1 G1 (upd H1 p' (.lst ((srtZ zs).map fun z => V.ref z.1))) := Ext.own x1.gh hp'
    refine q _ G1 _ (x1.tr xo.up) (s1.mono xo) a1 ⟨p', _, rfl, ?_, x1.gh.none hp', upd_same, ?_⟩
    · cases zz : H p' with
      | none => rfl
      | some o => exact absurd hp' (x1.th p' (by rw [zz]; simp))
    · rw [← dqz_keysI h2, ← srtZ_keys]
      exact dqs_tupz fun z hz => dqz_tup h2 z (srtZ_mem.mp hz)
theorem ev_getD {es : List D} {p : Addr} {l : List Int} {v0 : V} {d0 : D} (h : Ev b tk ρ (.d (.tuple (l.map .int))) ρ1) (hi0 : ∃ es0, ρ[i]? = some (.rg (rgD P w p es0))) (hi : ρ1[i]? = some (.rg (rgD P w p es))) (h0 : ∀ G, Dq G v0 d0) : Ev b (tGetX P w (tVar i) tk (tC v0)) ρ (.d (getE es l d0)) ρ1 := fun G H σ e st nd Q q => by
  obtain ⟨es0, hi0⟩ := hi0
  obtain ⟨v, n1, hv, _, zs0, y1, _⟩ := st.get hi0 (by simp)
  have hv : v = .ref p := hv
  subst hv
  refine ⟨.ref p, n1, p, zs0, rfl, y1, ?_⟩
  refine h G H σ e st nd _ fun kv G1 H1 x1 s1 a1 r1 => ?_
  have r1 : Dq G1 kv (.tuple (l.map .int)) := r1
  cases r1 with
  | tup ha hs =>
  rename_i aa us
  rw [of_dqs_ints hs] at ha
  obtain ⟨v3, n3, _, _, zs, z1, z2⟩ := s1.get hi (by simp)
  exact ⟨zs, l, aa, rfl, z1, (dqz_tup z2).mono x1.gh, x1.gh _ _ ha, q _ G1 H1 x1 s1 a1 (dqz_val z2 (h0 G1))⟩
theorem g_sumX (h : GE z b Rv.e te ρs Ke) : GE z b Rv.d (tCB rSumX (tCons (tValsX te) tNil)) ρs (fun s k => Ke s fun es s' => (sumE es).bind fun c => k c s') := fun s => by
  obtain ⟨m, e1, e2, e3⟩ := h s
  refine ⟨m.bind fun q => (sumE q.1).bind fun c => .ok (c, q.2), fun β k => ?_, fun q hq => ?_, fun e he => ?_⟩
  · rw [e1, R.bind_assoc]; congr 1; funext q; rw [R.bind_assoc]; rfl
  · obtain ⟨⟨es, s1⟩, h3, h4⟩ := R.bind_eq_ok hq
    obtain ⟨c, h5, h6⟩ := R.bind_eq_ok h4
    cases h6
    exact ev_sumX (e2 _ h3) h5
  · rcases R.bind_eq_ex he with h3 | ⟨⟨es, s1⟩, h3, h4⟩
    · exact fun G H σ x st nd w q => (e3 _ h3) G H σ x st nd w _
    · rcases R.bind_eq_ex h4 with h5 | ⟨c, h5, h6⟩
      · unfold sumE at h5; split at h5 <;> cases h5
      · cases h6
theorem g_sortF (h : GE z b Rv.e te ρs Ke) : GE z b Rv.l (tCB rSortF (tCons te tNil)) ρs (fun s k => Ke s fun es s' => (sortE es).bind fun c => k c s') := fun s => by
  obtain ⟨m, e1, e2, e3⟩ := h s
  refine ⟨m.bind fun q => (sortE q.1).bind fun c => .ok (c, q.2), fun β k => ?_, fun q hq => ?_, fun e he => ?_⟩
  · rw [e1, R.bind_assoc]; congr 1; funext q; rw [R.bind_assoc]; rfl
  · obtain ⟨⟨es, s1⟩, h3, h4⟩ := R.bind_eq_ok hq
    obtain ⟨c, h5, h6⟩ := R.bind_eq_ok h4
    cases h6
    unfold sortE at h5
    split at h5
    · cases h5; exact ev_sortF (e2 _ h3) (by assumption)
    · cases h5
  · rcases R.bind_eq_ex he with h3 | ⟨⟨es, s1⟩, h3, h4⟩
    · exact fun G H σ x st nd w q => (e3 _ h3) G H σ x st nd w _
    · rcases R.bind_eq_ex h4 with h5 | ⟨c, h5, h6⟩
      · unfold sortE at h5; split at h5 <;> cases h5
      · cases h6
theorem g_getD {p : Addr} {es : S → List D} {v0 : V} {d0 : D} (hi : ∀ s, (ρs s)[i]? = some (.rg (rgD P w p (es s)))) (h : GE z b Rv.d tk ρs Ka) (h0 : ∀ G, Dq G v0 d0) : GE z b Rv.d (tGetX P w (tVar i) tk (tC v0)) ρs (fun s k => Ka s fun a s' => (getM (es s') d0 a).bind fun c => k c s') := fun s => by
  obtain ⟨m, e1, e2, e3⟩ := h s
  refine ⟨m.bind fun q => (getM (es q.2) d0 q.1).bind fun c => .ok (c, q.2), fun β k => ?_, fun q hq => ?_, fun e he => ?_⟩
  · rw [e1, R.bind_assoc]; congr 1; funext q; rw [R.bind_assoc]; rfl
  · obtain ⟨⟨a, s1⟩, h3, h4⟩ := R.bind_eq_ok hq
    obtain ⟨c, h5, h6⟩ := R.bind_eq_ok h4
    cases h6
    have this := e2 _ h3
    dsimp only at h5 this
    unfold getM at h5
    split at h5
    · split at h5
      · rename_i l hl
        cases h5
        rw [of_intsOf hl] at this
        exact ev_getD this ⟨_, hi s⟩ (hi s1) h0
      · cases h5
    · cases h5
  · rcases R.bind_eq_ex he with h3 | ⟨⟨a, s1⟩, h3, h4⟩
    · exact fun G H σ x st nd w q => by
        obtain ⟨v, n1, hv, _, zs0, y1, _⟩ := st.get (hi s) (by simp)
        have hv : v = .ref p := hv
        subst hv
        exact ⟨.ref p, n1, p, zs0, rfl, y1, (e3 _ h3) G H σ x st nd w _⟩
    · rcases R.bind_eq_ex h4 with h5 | ⟨c, h5, h6⟩
      · unfold getM at h5; split at h5 <;> first | cases h5 | (split at h5 <;> cases h5)
      · cases h6
theorem gi_items {es : S → List D} (hi : ∀ s, (ρs s)[i]? = some (.dc (es s))) : GI z b (iItemsX (tVar i)) ρs (fun s k => k (es s) s) := fun s =>
  ⟨.ok (es s, s), fun β k => rfl, fun q hq => by cases hq; exact ei_itemsX (hi s), fun e he => by cases he⟩
end
/-! ### a def that gives a dict -/
def rvE : Rv → R (List D)
  | .e es => .ok es
  | _ => .bad
def outE (m : R (Ct Unit Empty)) : R (List D) := m.bind fun c => match c with
  | .nx _ => .bad
  | .rt r _ => rvE r
  | .bk s => s.elim
  | .ct s => s.elim
section
variable {α : Type}
theorem q_outE_rt (d : List D) (o : List D) : outE (.ok (.rt (.e d) o)) = .ok d := Eq.trans rfl rfl
theorem q_outE_ex (e : Xc) : outE (.ex e) = .ex e := Eq.trans rfl rfl
theorem outE_bind (m : R α) (f : α → R (Ct Unit Empty)) : outE (m.bind f) = m.bind fun a => outE (f a) := R.bind_assoc ..
theorem outE_ite (b : Prop) [Decidable b] (x y : R (Ct Unit Empty)) : outE (if b then x else y) = if b then outE x else outE y := by by_cases h : b <;> simp [h]
end
section
variable {N : List Str} {t : TS} {CA : Str → Addr} {vs : List V} {H : Hp} {Q : VK} {E : XK}
theorem bodyE {F : List D → R (List D)} (h : spM CA Rv.e F vs H Q E) (k : ∀ ds, F ds ≠ .bad → ∃ M, F ds = outE M ∧ SvM (zD CA E N.length) t (slots0 N.length ds) M (fun _ _ => List.replicate N.length .un) (fun s => Empty.elim s)) : t { nx := fun _ H' => Q .non H', rt := Q } (L2.start N vs) H := by
  obtain ⟨G, ds, e, hd, hr⟩ := h
  have hb : F ds ≠ .bad := by
    rcases hr with ⟨a, h1, _⟩ | ⟨x, h1, _⟩ <;> rw [h1] <;> intro z <;> cases z
  obtain ⟨r, hF, k⟩ := k ds hb
  refine k G H _ e (st_slots0 hd) (by rw [adr_slots0]; exact List.nodup_nil) _ ?_
  match r, hF with
  | .ok (.nx s), hF => rcases hr with ⟨a, h1, q⟩ | ⟨x, h1, _⟩ <;> rw [h1] at hF <;> cases hF
  | .ok (.rt r o), hF =>
    rcases hr with ⟨a, h1, q⟩ | ⟨x, h1, _⟩
    · rw [h1] at hF
      cases r with
      | d d => cases hF
      | l xs => cases hF
      | va v => cases hF
      | o v => cases hF
      | e es =>
        cases hF
        exact fun v ρ' G' H' σ' s w o => q v G' H' (by have x := s.x; rwa [adr_slots0] at x) w
    · rw [h1] at hF
      cases r <;> cases hF
  | .ex y, hF =>
    rcases hr with ⟨a, h1, q⟩ | ⟨x, h1, q⟩
    · rw [h1] at hF; cases hF
    · rw [h1] at hF; cases hF
      exact fun cls d G' H' σ' x' s' k' => q cls d G' H' (by rwa [adr_slots0] at x') k'
  | .bad, hF =>
    rcases hr with ⟨a, h1, _⟩ | ⟨x, h1, _⟩ <;> rw [h1] at hF <;> cases hF
end
end Kn

/-! an instance with a dict of its own (tuple keys): D[k], k not in D; the instance as a region -/
namespace Kn
open PySem PySem.Spec PyProof.Rows L2
theorem kk_rd {X : Cx} {pins : List (Addr × Obj)} {σ : L2.St} {H : Hp} {s : Shared} {a b : Addr} {zs : Zs} {k : List Int} (I : Inv X pins σ H s) (hd : H a = some (DxO X.prog X.w a zs)) (ht : TupZ H zs) :
    (a == sysModules) = false ∧ ∃ xs, Paired zR zs xs ∧ s.heap.DictOfH (tupleKind (mixKind X.prog X.w)) a xs := dx_of I hd ht
/-- d[k] of an own dict -/
def tSubX (P : Program) (w : World) (td ty : TE) : TE := fun σ H Q => td σ H fun x H1 => ty σ H1 fun y H2 => ∃ (a : Addr) (zs : Zs) (k : List Int) (b : Addr) (v : V), x = .ref a ∧ y = .ref b ∧ H2 a = some (DxO P w a zs) ∧ TupZ H2 zs ∧ H2 b = some (.tup (k.map V.int)) ∧ valZ zs k = some v ∧ Q v H2
/-- k not in d -/
def tNinX (P : Program) (w : World) (ty td : TE) : TE := fun σ H Q => ty σ H fun y H1 => td σ H1 fun x H2 => ∃ (a : Addr) (zs : Zs) (k : List Int) (b : Addr), x = .ref a ∧ y = .ref b ∧ H2 a = some (DxO P w a zs) ∧ TupZ H2 zs ∧ H2 b = some (.tup (k.map V.int)) ∧ Q (.bl (!(valZ zs k).isSome)) H2
section
variable {X : Cx} {o i : Expr} {td ty : TE} {pos : Pos}
theorem pe_subX (hu : X.A.units + 1 < cLine) (ho : PE X o td) (hi : PE X i ty) (hs : NoSl i) : PE X (.Subscript o i pos) (tSubX X.prog X.w td ty) := by
  refine ⟨fun pins s σ H Q I h => ?_⟩
  refine subD_of PySem.F.slot_dict_getitem.lookup hs (thn (ho.run pins s σ H _ I h) fun u s1 ⟨x, H1, I1, rx, q1⟩ => thn (hi.run pins s1 σ H1 _ I1 q1) fun iv s2 ⟨y, H2, I2, ry, a, zs, k, b, v, ex, ey, hd, ht, hb, hv, q2⟩ => ?_)
  subst ex
  subst ey
  obtain rfl : u = Value.ref a := rx
  obtain rfl : iv = Value.ref b := ry
  obtain ⟨lo, xs, rel, dd⟩ := dx_of I2 hd ht
  refine ⟨dd.typeIs, ?_⟩
  obtain ⟨w', hw, rw'⟩ := RelO.some_of (v := v) (o := (atKey xs (kyI k)).map (·.2)) (by rw [← hv]; exact val_zs rel k)
  obtain ⟨p, hp, hp2⟩ := Option.map_eq_some_iff.mp hw
  refine wpAny_getItem_heap (tupleKind_room_in1 hu) (key_of I2.hok (by rw [kV_ky]; exact hb)) dd hp ?_
  rw [hp2]
  exact ⟨v, H2, I2.tok _, rw', q2⟩
theorem pc_ninX (hu : X.A.units + 1 < cLine) (hi : PE X i ty) (ho : PE X o td) : PC X .NotIn i o (tNinX X.prog X.w ty td) := by
  refine ⟨fun pins s σ H Q I h => ?_⟩
  refine thn (hi.run pins s σ H _ I h) fun iv s1 ⟨y, H1, I1, ry, q1⟩ => thn (ho.run pins s1 σ H1 _ I1 q1) fun u s2 ⟨x, H2, I2, rx, a, zs, k, b, ex, ey, hd, ht, hb, q2⟩ => ?_
  subst ex
  subst ey
  obtain rfl : u = Value.ref a := rx
  obtain rfl : iv = Value.ref b := ry
  obtain ⟨lo, xs, rel, dd⟩ := dx_of I2 hd ht
  refine wpAny_notIn_heap (tupleKind_room_in1 hu) (key_of I2.hok (by rw [kV_ky]; exact hb)) lo dd ?_
  have q := (val_zs rel k).isSome_eq
  rw [Option.isSome_map] at q
  rw [← q]
  exact ⟨.bl (!(valZ zs k).isSome), H2, I2.tok _, rfl, q2⟩
end
/-! ### a method of the own class: o.m(e, ..) -/
/-- a method at f keeps its promise -/
structure MetM (P : Program) (w : World) (K : PySem.W.Frag) (mg : Str → Option Value) (base : Heap) (C : Addr) (m : Str) (k : Nat) (ps : List Str) (sp : Sp) (f : Addr) (fd : FuncData) : Prop where
  cl : Cls K C
  mt : Meth K C m f
  g : FnOkG P w K mg base (L2.CX P w) k f fd ps sp
  b : Binds K fd ps []
def tMetM (C : Addr) (m : Str) (sp : Sp) (W : WX) (ta : TE) (t : TA) : TE := fun σ H Q => ta σ H fun x H1 => ∃ a dx fs, x = .ref a ∧ H1 a = some (.ins C dx fs) ∧ fs.lookup m = none ∧ t σ H1 fun vs H2 => sp (x :: vs) H2 Q (WE W σ)
section
variable {X : Cx} {k j : Nat} {C f : Addr} {fd : FuncData} {ps : List Str} {sp : Sp} {m : Str} {pos apos : Pos} {e o : Expr} {es : List Expr} {ta : TE} {t : TA} {W : WX} {pl : Sem Bool}
theorem pe_metM (c : MetM X.prog X.w X.K X.mg X.base C m k ps sp f fd) (hr : RoomG j X.A) (hk : k ≤ j) (tx : Takes X W) (he : PE X o ta) (ha : PA X (e :: es) t)
    (hst : starEach (e :: es) X.env = (false, eval e X.env) :: starEach es X.env := by rfl) (hpl : (backTo pos (starEach es X.env)).any (·.1) = false := by rfl)
    (ht : eval (.Call (.Attribute o m apos) (e :: es) [] pos) X.env = (do
      let ov ← eval o X.env
      standAt apos.atName
      let (f, first) ← holding [ov] (getMethod ov m pl)
      callWith pos f first (backTo pos (starEach (e :: es) X.env)) (backToKw pos (keywordEach [] X.env))) := by rfl) :
    PE X (.Call (.Attribute o m apos) (e :: es) [] pos) (tMetM C m sp W ta t) := by
  refine ⟨fun pins s σ H Q I h => ?_⟩
  refine PySem.W.methodCall_KW (pl := pl) (thn (he.run pins s σ H _ I h) fun u s1 ⟨x, H1, I1, rx, a, dx, fs, ex, ea, l, q⟩ => ?_) ht
  subst ex
  obtain rfl : u = Value.ref a := rx
  refine getmeth_ok I1 ea c.cl c.mt l ?_
  refine PySem.W.callWith_K (first := [.ref a]) (h₀ := X.base) I.ok.mod.kin c.mt.kp (thn (ha.run pos pins s1 σ H1 _ I1 q) fun us s2 ⟨vs, H2, I2, r, q2⟩ => ⟨I2.kIn, ?_⟩) hst hpl
  exact run_fnSG (us := .ref a :: us) (vs := .ref a :: vs) c.g (hr.mono hk) c.b .nil (passAt tx σ) I2 (.cons rfl r) (by rw [List.append_nil]; exact q2)
end
/-! ### a def (a method) whose first argument owns a region; what the region does not change (X) comes before the data -/
def spR {ι α : Type} (rv : α → Rv) (mk : ι → List D → Rg) (X : ι → List D) (F : List D → List D → R (α × List D)) : Sp := fun vs H Q _ => ∃ (G : Hp) (c : ι) (v : V) (ws : List V) (xs ds : List D) (a : α) (ys : List D), Ex G H ∧ vs = v :: ws ∧ VOk G H v (.rg (mk c xs)) ∧ DqA G ws ds ∧ F xs (X c ++ ds) = .ok (a, ys) ∧
  ∀ u G' H', Ext (mk c xs).A G H G' H' → VOk G' H' v (.rg (mk c ys)) → ROk G H G' H' u (rv a) → Q u H'
/-- the places of a region stay the same -/
structure RgS {ι : Type} (mk : ι → List D → Rg) : Prop where
  v : ∀ c xs ys, (mk c xs).v = (mk c ys).v
  A : ∀ c xs ys, (mk c xs).A = (mk c ys).A
  nd : ∀ {G H v c xs}, VOk G H v (.rg (mk c xs)) → (mk c xs).A.Nodup
theorem ext_sub {M M' : List Addr} {G H G' H' : Hp} (x : Ext M G H G' H') (hs : ∀ q ∈ M, q ∈ M') (hg : ∀ q ∈ M, G' q = none) : Ext M' G H G' H' :=
  ⟨x.gg, x.gh, fun c o hc h => x.fr c o (fun z => hc (hs c z)) h, x.th, fun c hc h1 h2 => x.nw c (fun z => hc (hs c z)) h1 h2⟩
/-- behind a change of a region alone -/
theorem StOk.extR {G H G' H' : Hp} {r r' : Rg} (hA : r'.A = r.A) (hv : r'.v = r.v) (x : Ext r.A G H G' H') (hd : VOk G' H' r.v (.rg r')) : ∀ {σ : List (Option V)} {ρ : En} {i : Nat}, StOk G H σ ρ → (adr ρ).Nodup → ρ[i]? = some (.rg r) → StOk G' H' σ (ρ.set i (.rg r')) := by
  have one : ∀ {v : V} {s : Sl}, VOk G H v s → (∀ q ∈ r.A, q ∉ adr1 s) → VOk G' H' v s := by
    intro v s h2 hp
    cases s with
    | un => trivial
    | dat d => exact dq_mono x.gg h2
    | dc es => exact dc_mono x.gg h2
    | va u => exact h2
    | kl K ns => obtain ⟨a0, e1, e2⟩ := h2; exact ⟨a0, e1, Ex.sl x.gg e2⟩
    | mu q zs =>
      obtain ⟨k1, k2, vs, k3, k4⟩ := h2
      have hq : q ∉ r.A := fun z => hp q z (List.mem_singleton.mpr rfl)
      exact ⟨k1, x.nw q hq k2 (by rw [k3]; simp), vs, x.fr q _ hq k3, dqs_mono x.gg k4⟩
    | rg r2 => exact VOk.out h2 x fun q hq ha => hp q hq ha
  have keep : ∀ {σ : List (Option V)} {ρ : En}, StOk G H σ ρ → (∀ q ∈ r.A, q ∉ adr ρ) → StOk G' H' σ ρ := by
    intro σ ρ h
    induction h with
    | nil => intro _; exact .nil
    | @cons o s σ ρ h t ih =>
      intro hp
      refine .cons ?_ (ih fun q hq z => hp q hq (by rw [adr_cons]; exact List.mem_append_right _ z))
      rcases h with h | ⟨v, h1, h2⟩
      · exact .inl h
      · exact .inr ⟨v, h1, one h2 fun q hq z => hp q hq (by rw [adr_cons]; exact List.mem_append_left _ z)⟩
  intro σ ρ i h
  induction h generalizing i with
  | nil => intro _ hi; simp at hi
  | @cons o s σ ρ h t ih =>
    intro nd hi
    rw [adr_cons] at nd
    obtain ⟨n1, n2, n3⟩ := List.nodup_append.mp nd
    cases i with
    | zero =>
      simp at hi; subst hi
      rcases h with h | ⟨v, h1, h2⟩
      · cases h
      · have : v = r.v := h2.1
        subst this
        exact .cons (.inr ⟨_, h1, hd⟩) (keep t fun q hq z => n3 q hq q z rfl)
    | succ i =>
      have hi' : ρ[i]? = some (.rg r) := by simpa using hi
      refine .cons ?_ (ih n2 hi')
      rcases h with h | ⟨v, h1, h2⟩
      · exact .inl h
      · exact .inr ⟨v, h1, one h2 fun q hq z => n3 q z q (mem_adr1 hi' hq) rfl⟩
section
variable {ι α : Type} {rv : α → Rv} {mk : ι → List D → Rg} {X : ι → List D} {F : List D → List D → R (α × List D)} {C : Addr} {m : Str} {W : WX} {ta : TA} {ρ ρ1 : En} {i n : Nat} {c : ι}
theorem adr_rg {r r' : Rg} (hA : r'.A = r.A) (hi : ρ1[i]? = some (.rg r)) : adr (ρ1.set i (.rg r')) = adr ρ1 := by
  have ea : adr (ρ1.set i (.rg r')) = adr (ρ1.set i (.rg r)) := adr_eq (show adr1 (.rg r') = adr1 (.rg r) from hA) ρ1 i
  have eb : ρ1.set i (.rg r) = ρ1 := by
    obtain ⟨hl, hg⟩ := List.getElem?_eq_some_iff.mp hi
    rw [← hg]; exact List.set_getElem_self hl
  rw [ea, eb]
theorem ev_metR (S : RgS mk) (hin : ∀ {G H v c xs}, VOk G H v (.rg (mk c xs)) → ∃ a dx fs, v = .ref a ∧ H a = some (.ins C dx fs) ∧ fs.lookup m = none) {xs0 xs ys ds : List D} {a : α} (h : EvA true ta ρ (ds.map Ar.d) ρ1) (hi0 : ρ[i]? = some (.rg (mk c xs0))) (hi : ρ1[i]? = some (.rg (mk c xs)))
    (hF : F xs (X c ++ ds) = .ok (a, ys)) : Ev true (tMetM C m (spR rv mk X F) W (tVar i) ta) ρ (rv a) (ρ1.set i (.rg (mk c ys))) := fun G H σ e st nd Q q => by
  obtain ⟨v, k, hv⟩ := st.get hi0 (by simp)
  obtain ⟨ad, dx, fs, e1, e2, e3⟩ := hin hv
  refine ⟨v, k, ad, dx, fs, e1, e2, e3, h G H σ e st nd _ fun vs G1 H1 x1 s1 a1 k1 => ?_⟩
  obtain ⟨v', k', hv'⟩ := s1.get hi (by simp)
  have ev : v' = v := by rw [hv'.1, hv.1]; exact S.v c xs xs0
  subst ev
  have nd1 : (adr ρ1).Nodup := by rw [a1]; exact nd
  refine ⟨G1, c, v', vs, xs, ds, a, ys, x1.gh, rfl, hv', as_data k1, hF, fun u G2 H2 x2 h2 r2 => ?_⟩
  have hv2 : v' = (mk c xs).v := hv'.1
  refine q u G2 H2 (x1.tr (ext_sub x2 (fun q hq => ?_) fun q hq => (h2.2.1 q (by rw [S.A c ys xs]; exact hq)).1)) (s1.extR (S.A c ys xs) (S.v c ys xs) x2 (by rw [← hv2]; exact h2) nd1 hi) ((adr_rg (S.A c ys xs) hi).trans a1) (r2.back x1)
  show q ∈ adr ρ
  rw [← a1]; exact mem_adr1 hi hq
/-- self.m(e, ..): the region is changed -/
theorem g_metR {z : Rz} {ρs : List D → En} {Kl : {β : Type} → List D → (List D → List D → R β) → R β} (S : RgS mk) (hin : ∀ {G H v c xs}, VOk G H v (.rg (mk c xs)) → ∃ a dx fs, v = .ref a ∧ H a = some (.ins C dx fs) ∧ fs.lookup m = none)
    (hi : ∀ s, (ρs s)[i]? = some (.rg (mk c s))) (hset : ∀ s s', (ρs s).set i (.rg (mk c s')) = ρs s') (h : GA z true n ta ρs Kl) :
    GE z true rv (tMetM C m (spR rv mk X F) z.W (tVar i) ta) ρs (fun s k => Kl s fun ds s' => (F s' (X c ++ ds)).nox.bind fun q => k q.1 q.2) := fun s => by
  obtain ⟨m', e1, e2, e3⟩ := h s
  refine ⟨m'.bind fun q => (F q.2 (X c ++ q.1)).nox, fun β k => ?_, fun q hq => ?_, fun e he => ?_⟩
  · rw [e1, R.bind_assoc]
  · obtain ⟨⟨ds, s1⟩, h3, h4⟩ := R.bind_eq_ok hq
    obtain ⟨a, ys⟩ := q
    have h4 := nox_ok h4
    have := ev_metR (rv := rv) (F := F) (X := X) (m := m) (C := C) (W := z.W) S hin (e2 _ h3).2 (hi s) (hi s1) h4
    rw [hset] at this
    exact this
  · rcases R.bind_eq_ex he with h3 | ⟨⟨ds, s1⟩, h3, h4⟩
    · intro G H σ x st nd w q
      obtain ⟨v, k, hv⟩ := st.get (hi s) (by simp)
      obtain ⟨ad, dx, fs, e1, e2, e3'⟩ := hin hv
      exact ⟨v, k, ad, dx, fs, e1, e2, e3', (e3 _ h3) G H σ x st nd w _⟩
    · exact absurd h4 nox_ex
end
/-! ### the body of such a def -/
abbrev zG (CA : Str → Addr) (n : Nat) (f : List D → Rg) : Rz := ⟨CA, fun _ _ _ _ => False, List.replicate n .un, some (0, fun o => .rg (f o))⟩
def slotsR (n : Nat) (r : Rg) (ds : List D) : En := .rg r :: (ds.map Sl.dat ++ List.replicate (n - 1 - ds.length) .un)
section
variable {ι α : Type} {rv : α → Rv} {mk : ι → List D → Rg} {X : ι → List D} {F : List D → List D → R (α × List D)} {CA : Str → Addr} {N : List Str} {t : TS} {vs : List V} {H : Hp} {Q : VK} {E : XK}
theorem bodyMR (S : RgS mk) {out : R (Ct (List D) Empty) → R (α × List D)} (hout : ∀ M a ys, out M = .ok (a, ys) → (M = .ok (.nx ys) ∧ rv a = .d .none) ∨ ∃ d, M = .ok (.rt (.d d) ys) ∧ rv a = .d d) (h : spR rv mk X F vs H Q E)
    (k : ∀ c xs ds, F xs (X c ++ ds) ≠ .bad → ∃ M, F xs (X c ++ ds) = out M ∧ SvM (zG CA N.length (mk c)) t (slotsR N.length (mk c xs) ds) M (fun ys _ => (List.replicate N.length .un).set 0 (.rg (mk c ys))) (fun s => Empty.elim s)) (hN : 0 < N.length) : t { nx := fun _ H' => Q .non H', rt := Q } (L2.start N vs) H := by
  obtain ⟨G, c, v, ws, xs, ds, a, ys, e, rfl, hv, hd, hF, q⟩ := h
  have hst : StOk G H (L2.start N (v :: ws)) (slotsR N.length (mk c xs) ds) := by
    unfold L2.start slotsR
    refine .cons (.inr ⟨_, rfl, hv⟩) ?_
    have e1 : N.length - (v :: ws).length = N.length - 1 - ds.length := by rw [List.length_cons, hd.len]; omega
    rw [e1]
    exact st_app (st_uns _) (st_dats hd)
  have ha : adr (slotsR N.length (mk c xs) ds) = (mk c xs).A := by unfold slotsR; rw [adr_cons, adr_app, adr_dats, adr_uns]; simp [adr1]
  obtain ⟨M, hM, k⟩ := k c xs ds (by rw [hF]; intro z; cases z)
  rw [hF] at hM
  refine k G H _ e hst (by rw [ha]; exact S.nd hv) _ ?_
  have same : ∀ {v' : V} {G' H' : Hp}, VOk G' H' v' (.rg (mk c ys)) → v' = v := fun w => by rw [w.1, hv.1]; exact S.v c ys xs
  rcases hout M a ys hM.symm with ⟨rfl, hr⟩ | ⟨d, rfl, hr⟩
  · intro _ ρ' G' H' σ' s w
    have s := s.wk w
    have hi : ((List.replicate N.length Sl.un).set 0 (.rg (mk c ys)))[0]? = some (.rg (mk c ys)) := List.getElem?_set_self (by rw [List.length_replicate]; exact hN)
    obtain ⟨v', _, w'⟩ := s.s.get hi (by simp)
    have := same w'
    subst this
    refine q _ G' H' (by have x := s.x; rwa [ha] at x) w' ?_
    rw [hr]; exact .non
  · intro u ρ' G' H' σ' s w o
    obtain ⟨v', _, w'⟩ := s.s.get (show ρ'[0]? = some (.rg (mk c ys)) from o) (by simp)
    have := same w'
    subst this
    refine q u G' H' (by have x := s.x; rwa [ha] at x) w' ?_
    rw [hr]; exact w
end
/-! ### the region of an instance with two fields: data, and a dict of its own -/
def selfR (P : Program) (w : World) (C : Addr) (f1 f2 : Str) (c : Addr × Addr × Addr × D) (es : List D) : Rg where
  v := .ref c.1
  A := [c.1, c.2.1, c.2.2.1]
  ok := fun G H => ∃ vL zs, H c.1 = some (.ins C c.2.1 [(f1, vL), (f2, .ref c.2.2.1)]) ∧ H c.2.1 = some (.own c.1) ∧ Dq G vL c.2.2.2 ∧ H c.2.2.1 = some (DxO P w c.2.2.1 zs) ∧ DqZ G zs es
  mono := fun G H G' H' e h ⟨vL, zs, h1, h2, h3, h4, h5⟩ => ⟨vL, zs, by rw [h _ (by simp)]; exact h1, by rw [h _ (by simp)]; exact h2, dq_mono e h3, by rw [h _ (by simp)]; exact h4, dqz_mono e h5⟩
theorem selfR_S (P : Program) (w : World) (C : Addr) (f1 f2 : Str) : RgS (selfR P w C f1 f2) where
  v := fun _ _ _ => rfl
  A := fun _ _ _ => rfl
  nd := fun {G H v c xs} h => by
    obtain ⟨_, _, vL, zs, h1, h2, _, h4, _⟩ := h
    show [c.1, c.2.1, c.2.2.1].Nodup
    have n1 : c.1 ≠ c.2.1 := fun z => by rw [z, h2] at h1; cases h1
    have n2 : c.1 ≠ c.2.2.1 := fun z => by
      rw [z, h4] at h1
      have := Option.some.inj h1
      unfold DxO at this
      cases this
    have n3 : c.2.1 ≠ c.2.2.1 := fun z => by
      rw [z, h4] at h2
      have := Option.some.inj h2
      unfold DxO at this
      cases this
    simp [n1, n2, n3]
theorem selfR_in {P : Program} {w : World} {C : Addr} {f1 f2 m : Str} (n1 : (m == f1) = false) (n2 : (m == f2) = false) {G H : Hp} {v : V} {c : Addr × Addr × Addr × D} {xs : List D} (h : VOk G H v (.rg (selfR P w C f1 f2 c xs))) :
    ∃ a dx fs, v = .ref a ∧ H a = some (.ins C dx fs) ∧ fs.lookup m = none := by
  obtain ⟨hv, _, vL, zs, h1, _⟩ := h
  exact ⟨_, _, _, hv, h1, by rw [List.lookup_cons, n1, List.lookup_cons, n2]; rfl⟩
def ninM (es : List D) (k : D) : R Bool := match k with
  | .tuple ks => match intsOf ks with
    | some l => .ok (!(es.any fun e => decide (keyE e = l)))
    | none => .bad
  | _ => .bad
theorem val_has (zs : Zs) (k : List Int) : (valZ zs k).isSome = hasZ zs k := by
  unfold valZ hasZ
  rw [Option.isSome_map]
  induction zs with
  | nil => rfl
  | cons z zs ih =>
    rw [List.find?_cons, List.any_cons]
    cases decide (z.2.1 = k) with
    | true => rfl
    | false => rw [Bool.false_or]; exact ih
section
variable {S : Type} {z : Rz} {b : Bool} {ρ : En} {ρs : S → En} {P : Program} {w : World} {K : PySem.W.Frag} {C : Addr} {f1 f2 : Str} {c : Addr × Addr × Addr × D} {i j : Nat}
theorem ev_fldS {es : List D} (cl : Cls K C) (na : NoAttr K C f1) (hi : ρ[i]? = some (.rg (selfR P w C f1 f2 c es))) : Ev b (tFld K (tVar i) f1) ρ (.d c.2.2.2) ρ := fun G H σ e st nd Q q => by
  obtain ⟨v, k, hv, _, vL, zs, h1, _, h3, _⟩ := st.get hi (by simp)
  exact ⟨v, k, c.1, C, c.2.1, _, vL, hv, h1, cl, na, by rw [List.lookup_cons, beq_self_eq_true], q vL G H (Ext.refl e) st rfl h3⟩
/-- self.lot -/
theorem g_fldS {es : S → List D} (cl : Cls K C) (na : NoAttr K C f1) (hi : ∀ s, (ρs s)[i]? = some (.rg (selfR P w C f1 f2 c (es s)))) : GE z b Rv.d (tFld K (tVar i) f1) ρs (fun s k => k c.2.2.2 s) := gg_pure fun s => ev_fldS cl na (hi s)
theorem ev_ninS {es : List D} {l : List Int} (cl : Cls K C) (na : NoAttr K C f2) (hn : (f2 == f1) = false) (hi : ρ[i]? = some (.rg (selfR P w C f1 f2 c es))) (hj : ρ[j]? = some (.dat (.tuple (l.map .int)))) :
    Ev b (tNinX P w (tVar j) (tFld K (tVar i) f2)) ρ (.d (.bool (!(es.any fun e => decide (keyE e = l))))) ρ := fun G H σ e st nd Q q => by
  obtain ⟨v, k, hv, _, vL, zs, h1, _, h3, h4, h5⟩ := st.get hi (by simp)
  obtain ⟨v2, k2, hv2⟩ := st.get hj (by simp)
  have hv2 : Dq G v2 (.tuple (l.map .int)) := hv2
  cases hv2 with
  | tup ha hs =>
  rename_i aa us
  rw [of_dqs_ints hs] at ha
  refine ⟨.ref aa, k2, v, k, c.1, C, c.2.1, _, .ref c.2.2.1, hv, h1, cl, na, by rw [List.lookup_cons, hn, List.lookup_cons, beq_self_eq_true], c.2.2.1, zs, l, aa, rfl, rfl, h4, (dqz_tup h5).mono e, e _ _ ha, ?_⟩
  rw [val_has, dqz_any h5]
  exact q _ G H (Ext.refl e) st rfl (.bl _)
end
def ixE (es : List D) (k : D) : R D := match k with
  | .tuple ks => match intsOf ks with
    | some l => match es.find? fun e => decide (keyE e = l) with
      | some e => .ok (vlE e)
      | none => .bad
    | none => .bad
  | _ => .bad
theorem dqz_find {G : Hp} {zs : Zs} {es : List D} (h : DqZ G zs es) {k : List Int} {d : D} (hd : (es.find? fun e => decide (keyE e = k)) = some d) : ∃ v, valZ zs k = some v ∧ Dq G v (vlE d) := by
  unfold valZ
  induction h with
  | nil => cases hd
  | @cons b k' v d' zs es h1 h2 _ ih =>
    rw [List.find?_cons, keyE_ent] at hd
    rw [List.find?_cons]
    by_cases e : k' = k
    · rw [decide_eq_true e] at hd
      rw [show decide ((b, k', v).2.1 = k) = true from decide_eq_true e]
      cases hd
      exact ⟨v, rfl, h2⟩
    · rw [decide_eq_false e] at hd
      rw [show decide ((b, k', v).2.1 = k) = false from decide_eq_false e]
      exact ih hd
section
variable {S : Type} {z : Rz} {b : Bool} {ρ : En} {ρs : S → En} {P : Program} {w : World} {K : PySem.W.Frag} {C : Addr} {f1 f2 : Str} {c : Addr × Addr × Addr × D} {i j : Nat}
theorem ev_subS {es : List D} {l : List Int} {d : D} (cl : Cls K C) (na : NoAttr K C f2) (hn : (f2 == f1) = false) (hi : ρ[i]? = some (.rg (selfR P w C f1 f2 c es))) (hj : ρ[j]? = some (.dat (.tuple (l.map .int)))) (hd : (es.find? fun e => decide (keyE e = l)) = some d) :
    Ev b (tSubX P w (tFld K (tVar i) f2) (tVar j)) ρ (.d (vlE d)) ρ := fun G H σ e st nd Q q => by
  obtain ⟨v, k, hv, _, vL, zs, h1, _, h3, h4, h5⟩ := st.get hi (by simp)
  obtain ⟨v2, k2, hv2⟩ := st.get hj (by simp)
  have hv2 : Dq G v2 (.tuple (l.map .int)) := hv2
  cases hv2 with
  | tup ha hs =>
  rename_i aa us
  rw [of_dqs_ints hs] at ha
  obtain ⟨vv, hvv, hq⟩ := dqz_find h5 hd
  exact ⟨v, k, c.1, C, c.2.1, _, .ref c.2.2.1, hv, h1, cl, na, by rw [List.lookup_cons, hn, List.lookup_cons, beq_self_eq_true], .ref aa, k2, c.2.2.1, zs, l, aa, vv, rfl, rfl, h4, (dqz_tup h5).mono e, e _ _ ha, hvv, q _ G H (Ext.refl e) st rfl hq⟩
/-- self.numbers[key] -/
theorem g_subS {es : S → List D} {k : D} (cl : Cls K C) (na : NoAttr K C f2) (hn : (f2 == f1) = false) (hi : ∀ s, (ρs s)[i]? = some (.rg (selfR P w C f1 f2 c (es s)))) (hj : ∀ s, (ρs s)[j]? = some (.dat k)) :
    GE z b Rv.d (tSubX P w (tFld K (tVar i) f2) (tVar j)) ρs (fun s kk => (ixE (es s) k).bind fun d => kk d s) := fun s => by
  refine ⟨(ixE (es s) k).bind fun d => .ok (d, s), fun β kk => by rw [R.bind_assoc]; rfl, fun q hq => ?_, fun e he => ?_⟩
  · obtain ⟨d, h1, h2⟩ := R.bind_eq_ok hq
    cases h2
    unfold ixE at h1
    split at h1
    · split at h1
      · rename_i l hl
        split at h1
        · rename_i dd hdd
          cases h1
          exact ev_subS cl na hn (hi s) (by rw [hj s, of_intsOf hl]) hdd
        · cases h1
      · cases h1
    · cases h1
  · rcases R.bind_eq_ex he with h1 | ⟨d, h1, h2⟩
    · unfold ixE at h1; split at h1 <;> first | cases h1 | (split at h1 <;> first | cases h1 | (split at h1 <;> cases h1))
    · cases h2
/-- key not in self.numbers -/
theorem g_ninS {es : S → List D} {k : D} (cl : Cls K C) (na : NoAttr K C f2) (hn : (f2 == f1) = false) (hi : ∀ s, (ρs s)[i]? = some (.rg (selfR P w C f1 f2 c (es s)))) (hj : ∀ s, (ρs s)[j]? = some (.dat k)) :
    GE z b rvB (tNinX P w (tVar j) (tFld K (tVar i) f2)) ρs (fun s kk => (ninM (es s) k).bind fun d => kk d s) := fun s => by
  refine ⟨(ninM (es s) k).bind fun d => .ok (d, s), fun β kk => by rw [R.bind_assoc]; rfl, fun q hq => ?_, fun e he => ?_⟩
  · obtain ⟨d, h1, h2⟩ := R.bind_eq_ok hq
    cases h2
    unfold ninM at h1
    split at h1
    · split at h1
      · rename_i l hl
        cases h1
        exact ev_ninS cl na hn (hi s) (by rw [hj s, of_intsOf hl])
      · cases h1
    · cases h1
  · rcases R.bind_eq_ex he with h1 | ⟨d, h1, h2⟩
    · unfold ninM at h1; split at h1 <;> first | cases h1 | (split at h1 <;> cases h1)
    · cases h2
end
section
variable {S N L : Type} {z : Rz} {b : Bool} {ρ ρ1 : En} {ρs : S → En} {te : TE} {u : TS} {s0 : S} {eN : N → Addr → En} {eL : L → Addr → En} {m : R (Ct N L)} {E : Ens} {P : Program} {w : World} {K : PySem.W.Frag} {C : Addr} {f1 f2 : Str} {c : Addr × Addr × Addr × D} {i j : Nat}
  {Ka : {β : Type} → S → (D → S → R β) → R β}
theorem sv_putS {es : List D} {d : D} {l : List Int} (cl : Cls K C) (na : NoAttr K C f2) (hn : (f2 == f1) = false) (h1 : Ev b te ρ (.d d) ρ1) (hi : ρ1[i]? = some (.rg (selfR P w C f1 f2 c es))) (hj : ρ1[j]? = some (.dat (.tuple (l.map .int)))) (hl : es.length ≤ 16000000)
    (k : E.nx (ρ1.set i (.rg (selfR P w C f1 f2 c (putE es l d))))) : Sv (sPutX P w (tFld K (tVar i) f2) (tVar j) te) ρ E := fun G H σ e st nd D d1 _ _ _ =>
  h1 G H σ e st nd _ fun v G1 H1 x1 s1 a1 r1 => by
    obtain ⟨v2, n1, hv2⟩ := s1.get hi (by simp)
    have hv2' := hv2
    obtain ⟨ev, hA, vL, zs, g1, g2, g3, g4, g5⟩ := hv2
    have ev : v2 = .ref c.1 := ev
    subst ev
    have nd1 : (adr ρ1).Nodup := by rw [a1]; exact nd
    obtain ⟨v3, k3, hv3⟩ := s1.get hj (by simp)
    have hv3 : Dq G1 v3 (.tuple (l.map .int)) := hv3
    cases hv3 with
    | tup ha hs =>
    rename_i aa us
    rw [of_dqs_ints hs] at ha
    refine ⟨.ref c.1, n1, c.1, C, c.2.1, _, .ref c.2.2.1, rfl, g1, cl, na, by rw [List.lookup_cons, hn, List.lookup_cons, beq_self_eq_true], .ref aa, k3, c.2.2.1, rfl, zs, l, aa, rfl, g4, (dqz_tup g5).mono x1.gh, x1.gh _ _ ha, by rw [dqz_len g5, sizeLine_eq]; omega, ?_⟩
    have hmem : c.2.2.1 ∈ (selfR P w C f1 f2 c es).A := by show c.2.2.1 ∈ [c.1, c.2.1, c.2.2.1]; simp
    have gp : G1 c.2.2.1 = none := (hA _ hmem).1
    have hm1 : c.2.2.1 ∈ adr ρ1 := mem_adr1 hi hmem
    have hm : c.2.2.1 ∈ adr ρ := by rw [← a1]; exact hm1
    have nA : [c.1, c.2.1, c.2.2.1].Nodup := (selfR_S P w C f1 f2).nd hv2'
    have n1' : c.1 ≠ c.2.2.1 := by simp at nA; exact nA.1.2
    have n2' : c.2.1 ≠ c.2.2.1 := by simp at nA; exact nA.2
    have x3 : Ext (adr ρ) G1 H1 G1 (upd H1 c.2.2.1 (DxO P w c.2.2.1 (putZ zs l aa v))) := Ext.set x1.gh hm gp
    have y : Ext (adr ρ) G H G1 (upd H1 c.2.2.1 (DxO P w c.2.2.1 (putZ zs l aa v))) := (ext_b (M := []) x1).tr x3
    have hok : VOk G1 (upd H1 c.2.2.1 (DxO P w c.2.2.1 (putZ zs l aa v))) (.ref c.1) (.rg (selfR P w C f1 f2 c (putE es l d))) := ⟨rfl, fun q hq => by
      refine ⟨(hA q hq).1, ?_⟩
      by_cases hq' : q = c.2.2.1
      · rw [hq']; exact ⟨_, upd_same⟩
      · rw [upd_ne hq']; exact (hA q hq).2, vL, _, by rw [upd_ne n1']; exact g1, by rw [upd_ne n2']; exact g2, g3, upd_same, dqz_put g5 ha r1⟩
    have s3 := StOk.set hok i ((s1.un' i).updH (o := DxO P w c.2.2.1 (putZ zs l aa v)) (adr_out nd1 hi hmem))
    rw [List.set_set, st_same n1] at s3
    have ea : adr (ρ1.set i (.rg (selfR P w C f1 f2 c (putE es l d)))) = adr ρ1 := adr_rg (r := selfR P w C f1 f2 c es) (show (selfR P w C f1 f2 c (putE es l d)).A = (selfR P w C f1 f2 c es).A from rfl) hi
    exact d1 _ G1 _ σ ⟨y, fun q hq => .inl (by rw [ea, a1] at hq; exact hq), s3, by rw [ea]; exact nd1⟩ k
/-- self.numbers[key] = found -/
theorem m_putS {es : S → List D} {kd : D} {k : List D → S → R (Ct N L)} (cl : Cls K C) (na : NoAttr K C f2) (hn : (f2 == f1) = false) (hi : ∀ s, (ρs s)[i]? = some (.rg (selfR P w C f1 f2 c (es s)))) (hj : ∀ s, (ρs s)[j]? = some (.dat kd)) (h : GE z b Rv.d te ρs Ka)
    (hk : ∀ d s, SvM z u ((ρs s).set i (.rg (selfR P w C f1 f2 c d))) (k d s) eN eL)
    (hM : m = Ka s0 (fun d s => (putM (es s) kd d).bind fun c => k c s) := by rfl) : SvM z (tSeq (sPutX P w (tFld K (tVar i) f2) (tVar j) te) u) (ρs s0) m eN eL := by
  obtain ⟨n, e1, e2, e3⟩ := h s0
  refine m_step (n := n.bind fun q => (putM (es q.2) kd q.1).bind fun c => .ok (c, q.2)) (P := fun q ρ' => ρ' = (ρs q.2).set i (.rg (selfR P w C f1 f2 c q.1))) (k := fun q => k q.1 q.2) (fun q hq => ?_) (fun e he => ?_) (fun q ρ' w => by rw [w]; exact hk _ _) ?_
  · obtain ⟨⟨d, s⟩, h1, h2⟩ := R.bind_eq_ok hq
    obtain ⟨cc, h5, h6⟩ := R.bind_eq_ok h2
    cases h6
    have k2 := e2 _ h1
    dsimp only at h5 k2
    unfold putM at h5
    split at h5
    · split at h5
      · rename_i l hl
        split at h5
        · rename_i hn'
          cases h5
          exact sv_putS cl na hn k2 (hi s) (by rw [hj s, of_intsOf hl]) hn' rfl
        · cases h5
      · cases h5
    · cases h5
  · rcases R.bind_eq_ex he with h1 | ⟨⟨d, s⟩, h1, h2⟩
    · exact fun G H σ x st nd w D => (e3 _ h1) G H σ x st nd (fun cls d G' H' => w cls d G' H' σ) _
    · rcases R.bind_eq_ex h2 with h5 | ⟨cc, h5, h6⟩
      · unfold putM at h5; split at h5 <;> first | cases h5 | (split at h5 <;> first | cases h5 | (split at h5 <;> cases h5))
      · cases h6
  · refine (hM.trans (e1 _ _)).trans ?_
    rw [R.bind_assoc]
    congr 1; funext q
    rw [R.bind_assoc]
    rfl
end
/-! ### an instance is made: C(e).m(..) -/
def spInit2 (P : Program) (w : World) (C : Addr) (f1 f2 : Str) : Sp := fun vs H Q _ => ∃ (x dx : Addr) (v : V), vs = [.ref x, v] ∧ H x = some (.ins C dx []) ∧
  ∀ d, H d = none → Q .non (upd (upd (upd H x (.ins C dx [(f1, v)])) d (DxO P w d [])) x (.ins C dx [(f1, v), (f2, .ref d)]))
section
variable {α : Type} {rv : α → Rv} {F : List D → List D → R (α × List D)} {P : Program} {w : World} {C : Addr} {f1 f2 m : Str} {W : WX} {te : TE} {ta : TA} {ρ : En} {b : Bool} {n : Nat} {E : XK}
theorem ev_newM (n1 : (m == f1) = false) (n2 : (m == f2) = false) {l : D} {ds ys : List D} {a : α} (h1 : Ev false te ρ (.d l) ρ) (h2 : EvA false ta ρ (ds.map Ar.d) ρ) (hF : F [] (l :: ds) = .ok (a, ys)) :
    Ev b (tMetM C m (spR rv (selfR P w C f1 f2) (fun c => [c.2.2.2]) F) W (tMake C (spInit2 P w C f1 f2) [] E (tCons te tNil)) ta) ρ (rv a) ρ := fun G H σ e st nd Q q => by
  refine h1 G H σ e st nd _ fun v G1 H1 x1 s1 a1 r1 => ?_
  have x1 : Ext [] G H G1 H1 := x1
  have r1 : Dq G1 v l := r1
  intro x dx nx nd1 ne
  refine ⟨x, dx, v, rfl, upd_same, fun d hd => ⟨rfl, ?_⟩⟩
  have dx' : d ≠ x := fun z => by rw [z, upd_same] at hd; cases hd
  have ddx : d ≠ dx := fun z => by rw [z, upd_ne ne, upd_same] at hd; cases hd
  have hd0 : H1 d = none := by rw [upd_ne dx', upd_ne ddx] at hd; exact hd
  have eH : upd (upd (upd (upd (upd H1 dx (.own x)) x (.ins C dx [])) x (.ins C dx [(f1, v)])) d (DxO P w d [])) x (.ins C dx [(f1, v), (f2, .ref d)]) = upd (upd (upd H1 dx (.own x)) d (DxO P w d [])) x (.ins C dx [(f1, v), (f2, .ref d)]) := by
    funext q
    by_cases h1 : q = x
    · rw [h1, upd_same, upd_same]
    · rw [upd_ne h1, upd_ne h1]
      by_cases h2 : q = d
      · rw [h2, upd_same, upd_same]
      · rw [upd_ne h2, upd_ne h2, upd_ne h1, upd_ne h1]
  rw [eH]
  have y1 : Ext [] G1 H1 G1 (upd H1 dx (.own x)) := Ext.own x1.gh nd1
  have y2 : Ext [] G1 (upd H1 dx (.own x)) G1 (upd (upd H1 dx (.own x)) d (DxO P w d [])) := Ext.own y1.gh (by rw [upd_ne ddx]; exact hd0)
  have y3 : Ext [] G1 (upd (upd H1 dx (.own x)) d (DxO P w d [])) G1 (upd (upd (upd H1 dx (.own x)) d (DxO P w d [])) x (.ins C dx [(f1, v), (f2, .ref d)])) := Ext.own y2.gh (by rw [upd_ne (Ne.symm dx'), upd_ne (Ne.symm ne)]; exact nx)
  have y : Ext [] G1 H1 G1 (upd (upd (upd H1 dx (.own x)) d (DxO P w d [])) x (.ins C dx [(f1, v), (f2, .ref d)])) := (y1.tr y2).tr y3
  have gn : ∀ q, H1 q = none → G1 q = none := fun q hq => x1.gh.none hq
  have hok : VOk G1 (upd (upd (upd H1 dx (.own x)) d (DxO P w d [])) x (.ins C dx [(f1, v), (f2, .ref d)])) (.ref x) (.rg (selfR P w C f1 f2 (x, dx, d, l) [])) := by
    refine ⟨rfl, fun q hq => ?_, v, [], upd_same, by rw [upd_ne ne, upd_ne (Ne.symm ddx)]; exact upd_same, r1, by rw [upd_ne dx']; exact upd_same, .nil⟩
    have hq : q = x ∨ q = dx ∨ q = d := by
      have : q ∈ [x, dx, d] := hq
      simpa using this
    rcases hq with rfl | rfl | rfl
    · exact ⟨gn _ nx, _, upd_same⟩
    · exact ⟨gn _ nd1, _, by rw [upd_ne ne, upd_ne (Ne.symm ddx)]; exact upd_same⟩
    · exact ⟨gn _ hd0, _, by rw [upd_ne dx']; exact upd_same⟩
  refine ⟨x, dx, _, rfl, upd_same, by rw [List.lookup_cons, n1, List.lookup_cons, n2]; rfl, ?_⟩
  refine h2 G1 _ σ y.gh (s1.mono y) nd _ fun vs G2 H2 x2 s2 a2 k2 => ?_
  have x2 : Ext [] G1 _ G2 H2 := x2
  have hok2 : VOk G2 H2 (.ref x) (.rg (selfR P w C f1 f2 (x, dx, d, l) [])) := VOk.out hok x2 fun q hq => by simp at hq
  refine ⟨G2, (x, dx, d, l), .ref x, vs, [], ds, a, ys, x2.gh, rfl, hok2, as_data k2, hF, fun u G3 H3 x3 h3 r3 => ?_⟩
  have yy : Ext [] G1 H1 G2 H2 := y.tr x2
  have zz : Ext [] G1 H1 G3 H3 := yy.trans x3 fun q hq => by
    have hq : q = x ∨ q = dx ∨ q = d := by
      have : q ∈ [x, dx, d] := hq
      simpa using this
    rcases hq with rfl | rfl | rfl
    · exact .inr nx
    · exact .inr nd1
    · exact .inr hd0
  exact q u G3 H3 (x1.tr zz).up (s1.mono zz) rfl (r3.back (x1.tr yy))
end
theorem g_newM {α : Type} {rv : α → Rv} {F : List D → List D → R (α × List D)} {P : Program} {w : World} {C : Addr} {f1 f2 m : Str} {z : Rz} {te : TE} {ta : TA} {b : Bool} {n : Nat} {E : XK} {ρ : Unit → En}
    {K1 : {β : Type} → Unit → (D → Unit → R β) → R β} {K2 : {β : Type} → Unit → (List D → Unit → R β) → R β} (n1 : (m == f1) = false) (n2 : (m == f2) = false) (h1 : GE z false Rv.d te ρ K1) (h2 : GA z false n ta ρ K2) :
    GE z b rv (tMetM C m (spR rv (selfR P w C f1 f2) (fun c => [c.2.2.2]) F) z.W (tMake C (spInit2 P w C f1 f2) [] E (tCons te tNil)) ta) ρ
      (fun _ k => (K1 () fun l _ => R.ok l).nox.bind fun l => (K2 () fun ds _ => R.ok ds).nox.bind fun ds => (F [] (l :: ds)).nox.bind fun q => k q.1 ()) := fun s => by
  obtain ⟨m1, a1, a2, a3⟩ := h1 ()
  obtain ⟨m2, b1, b2, b3⟩ := h2 ()
  refine ⟨(K1 () fun l _ => R.ok l).nox.bind fun l => (K2 () fun ds _ => R.ok ds).nox.bind fun ds => (F [] (l :: ds)).nox.bind fun q => .ok (q.1, ()), fun β k => ?_, fun q hq => ?_, fun e he => ?_⟩
  · show ((K1 () fun l _ => R.ok l).nox.bind fun l => (K2 () fun ds _ => R.ok ds).nox.bind fun ds => (F [] (l :: ds)).nox.bind fun q => k q.1 ()) = _
    rw [R.bind_assoc]; congr 1; funext l; rw [R.bind_assoc]; congr 1; funext ds; rw [R.bind_assoc]; rfl
  · have c1 : (K1 () fun l _ => R.ok l) = m1.bind fun q => R.ok q.1 := a1 _ _
    have c2 : (K2 () fun ds _ => R.ok ds) = m2.bind fun q => R.ok q.1 := b1 _ _
    obtain ⟨l, h3, h4⟩ := R.bind_eq_ok hq
    obtain ⟨ds, h5, h6⟩ := R.bind_eq_ok h4
    obtain ⟨⟨a, ys⟩, h7, h8⟩ := R.bind_eq_ok h6
    cases h8
    have h3 := nox_ok h3
    rw [c1] at h3
    obtain ⟨⟨l', s1⟩, h9, h10⟩ := R.bind_eq_ok h3
    cases h10
    have h5 := nox_ok h5
    rw [c2] at h5
    obtain ⟨⟨ds', s2⟩, h11, h12⟩ := R.bind_eq_ok h5
    cases h12
    exact ev_newM n1 n2 (a2 _ h9) (b2 _ h11).2 (nox_ok h7)
  · rcases R.bind_eq_ex he with h3 | ⟨l, h3, h4⟩
    · exact absurd h3 nox_ex
    · rcases R.bind_eq_ex h4 with h5 | ⟨ds, h5, h6⟩
      · exact absurd h5 nox_ex
      · rcases R.bind_eq_ex h6 with h7 | ⟨q, h7, h8⟩
        · exact absurd h7 nox_ex
        · cases h8
/-! ### __init__(self, a): self.f1 = a; self.f2 = {} -/
theorem init2 {K : PySem.W.Frag} {P : Program} {w : World} {C : Addr} {f1 f2 a : Str} (cl : Cls K C) (n1 : NoAttr K C f1) (n2 : NoAttr K C f2) (hne : ¬ f1 = f2) {vs : List V} {H : Hp} {Q : VK} {E : XK} (h : spInit2 P w C f1 f2 vs H Q E) :
    tSeq (sFld K (tVar 0) (tVar 1) f1) (sFld K (tVar 0) (tNewX P w) f2) { nx := fun _ H' => Q .non H', rt := Q } (L2.start ["self", a] vs) H := by
  obtain ⟨x, dx, v, rfl, hx, k⟩ := h
  refine ⟨v, rfl, .ref x, rfl, x, C, dx, [], rfl, hx, cl, n1, (by show 0 < 1000; decide), ?_⟩
  intro p hp
  have hpx : p ≠ x := fun z => by rw [z, upd_same] at hp; cases hp
  refine ⟨.ref x, rfl, x, C, dx, [(f1, v)], rfl, by rw [upd_ne (Ne.symm hpx)]; exact upd_same, cl, n2, (by show 1 < 1000; decide), ?_⟩
  have e : putF f2 (.ref p) [(f1, v)] = [(f1, v), (f2, .ref p)] := if_neg hne
  rw [e]
  exact k p (by rw [upd_ne hpx] at hp; exact hp)
section
variable {ι α : Type} {rv : α → Rv} {mk : ι → List D → Rg} {X : ι → List D} {F : List D → List D → R (α × List D)} {vs : List V} {H : Hp} {Q : VK} {E : XK}
theorem lenR {n : Nat} (h : ∀ xs c ds, F xs (X c ++ ds) ≠ .bad → ds.length + 1 = n) : ∀ vs H Q E, spR rv mk X F vs H Q E → vs.length = n := fun vs H Q E ⟨G, c, v, ws, xs, ds, a, ys, e, hvs, hv, hd, hF, q⟩ => by
  subst hvs
  rw [List.length_cons, hd.len]
  exact h xs c ds (by rw [hF]; intro z; cases z)
theorem spBadR (hF : ∀ xs ds, F xs ds = .bad) (h : spR rv mk X F vs H Q E) : False := by
  obtain ⟨G, c, v, ws, xs, ds, a, ys, e, hvs, hv, hd, h1, q⟩ := h
  rw [hF] at h1; cases h1
end
section
variable {α : Type} {x : D} {ds : List D}
theorem A2_neR {f : D → D → R α} (h : A2 f ([x] ++ ds) ≠ .bad) : ∃ a, ds = [a] := by
  obtain ⟨a, b, e⟩ := A2_ne h
  have e : x :: ds = [a, b] := e
  cases e; exact ⟨_, rfl⟩
theorem A3_neR {f : D → D → D → R α} (h : A3 f ([x] ++ ds) ≠ .bad) : ∃ a b, ds = [a, b] := by
  obtain ⟨a, b, c, e⟩ := A3_ne h
  have e : x :: ds = [a, b, c] := e
  cases e; exact ⟨_, _, rfl⟩
theorem A4_neR {f : D → D → D → D → R α} (h : A4 f ([x] ++ ds) ≠ .bad) : ∃ a b c, ds = [a, b, c] := by
  obtain ⟨a, b, c, d, e⟩ := A4_ne h
  have e : x :: ds = [a, b, c, d] := e
  cases e; exact ⟨_, _, _, rfl⟩
end
/-! ### a def whose second argument owns a region; its first is data -/
def spR1 {ι α : Type} (rv : α → Rv) (mk : ι → List D → Rg) (F : List D → List D → R (α × List D)) : Sp := fun vs H Q _ => ∃ (G : Hp) (c : ι) (v0 v : V) (ws : List V) (d0 : D) (xs ds : List D) (a : α) (ys : List D), Ex G H ∧ vs = v0 :: v :: ws ∧ Dq G v0 d0 ∧ VOk G H v (.rg (mk c xs)) ∧ DqA G ws ds ∧ F xs ([d0] ++ ds) = .ok (a, ys) ∧
  ∀ u G' H', Ext (mk c xs).A G H G' H' → VOk G' H' v (.rg (mk c ys)) → ROk G H G' H' u (rv a) → Q u H'
theorem rgD_S (P : Program) (w : World) : RgS (rgD P w) := ⟨fun _ _ _ => rfl, fun _ _ _ => rfl, fun {G H v c xs} _ => by show [c].Nodup; simp⟩
abbrev zG1 (CA : Str → Addr) (n : Nat) (f : List D → Rg) : Rz := ⟨CA, fun _ _ _ _ => False, List.replicate n .un, some (1, fun o => .rg (f o))⟩
def slotsR1 (n : Nat) (r : Rg) (d0 : D) (ds : List D) : En := .dat d0 :: .rg r :: (ds.map Sl.dat ++ List.replicate (n - 2 - ds.length) .un)
section
variable {ι α : Type} {rv : α → Rv} {mk : ι → List D → Rg} {F : List D → List D → R (α × List D)} {W : WX} {ta : TA} {ρ ρ1 : En} {i j n : Nat} {c : ι} {CA : Str → Addr} {N : List Str} {t : TS} {vs : List V} {H : Hp} {Q : VK} {E : XK}
theorem ev_callR1 (S : RgS mk) {d0 : D} {xs0 xs ys ds : List D} {a : α} (hj : ρ[j]? = some (.dat d0)) (h : EvA true ta ρ (ds.map Ar.d) ρ1) (hi0 : ρ[i]? = some (.rg (mk c xs0))) (hi : ρ1[i]? = some (.rg (mk c xs)))
    (hF : F xs ([d0] ++ ds) = .ok (a, ys)) : Ev true (tCallSD (spR1 rv mk F) [] (WE W) (tCons (tVar j) (tCons (tVar i) ta))) ρ (rv a) (ρ1.set i (.rg (mk c ys))) := fun G H σ e st nd Q q => by
  obtain ⟨v0, k0, hv0⟩ := st.get hj (by simp)
  obtain ⟨v, k, hv⟩ := st.get hi0 (by simp)
  refine ⟨v0, k0, v, k, h G H σ e st nd _ fun vs G1 H1 x1 s1 a1 k1 => ?_⟩
  obtain ⟨v', k', hv'⟩ := s1.get hi (by simp)
  have ev : v' = v := by rw [hv'.1, hv.1]; exact S.v c xs xs0
  subst ev
  have nd1 : (adr ρ1).Nodup := by rw [a1]; exact nd
  rw [List.append_nil]
  have hv0 : Dq G v0 d0 := hv0
  refine ⟨G1, c, v0, v', vs, d0, xs, ds, a, ys, x1.gh, rfl, dq_mono x1.gg hv0, hv', as_data k1, hF, fun u G2 H2 x2 h2 r2 => ?_⟩
  have hv2 : v' = (mk c xs).v := hv'.1
  refine q u G2 H2 (x1.tr (ext_sub x2 (fun q hq => ?_) fun q hq => (h2.2.1 q (by rw [S.A c ys xs]; exact hq)).1)) (s1.extR (S.A c ys xs) (S.v c ys xs) x2 (by rw [← hv2]; exact h2) nd1 hi) ((adr_rg (S.A c ys xs) hi).trans a1) (r2.back x1)
  show q ∈ adr ρ
  rw [← a1]; exact mem_adr1 hi hq
/-- f(x, known, e, ..): the region is changed -/
theorem g_callR1 {z : Rz} {ρs : List D → En} {Kl : {β : Type} → List D → (List D → List D → R β) → R β} {d0 : D} (S : RgS mk) (hj : ∀ s, (ρs s)[j]? = some (.dat d0)) (hi : ∀ s, (ρs s)[i]? = some (.rg (mk c s))) (hset : ∀ s s', (ρs s).set i (.rg (mk c s')) = ρs s') (h : GA z true n ta ρs Kl) :
    GE z true rv (tCallSD (spR1 rv mk F) [] (WE z.W) (tCons (tVar j) (tCons (tVar i) ta))) ρs (fun s k => Kl s fun ds s' => (F s' ([d0] ++ ds)).nox.bind fun q => k q.1 q.2) := fun s => by
  obtain ⟨m', e1, e2, e3⟩ := h s
  refine ⟨m'.bind fun q => (F q.2 ([d0] ++ q.1)).nox, fun β k => ?_, fun q hq => ?_, fun e he => ?_⟩
  · rw [e1, R.bind_assoc]
  · obtain ⟨⟨ds, s1⟩, h3, h4⟩ := R.bind_eq_ok hq
    obtain ⟨a, ys⟩ := q
    have h4 := nox_ok h4
    have := ev_callR1 (rv := rv) (F := F) (W := z.W) S (hj s) (e2 _ h3).2 (hi s) (hi s1) h4
    rw [hset] at this
    exact this
  · rcases R.bind_eq_ex he with h3 | ⟨⟨ds, s1⟩, h3, h4⟩
    · intro G H σ x st nd w q
      obtain ⟨v0, k0, _⟩ := st.get (hj s) (by simp)
      obtain ⟨v, k, _⟩ := st.get (hi s) (by simp)
      exact ⟨v0, k0, v, k, (e3 _ h3) G H σ x st nd w _⟩
    · exact absurd h4 nox_ex
theorem bodyMR1 (S : RgS mk) {out : R (Ct (List D) Empty) → R (α × List D)} (hout : ∀ M a ys, out M = .ok (a, ys) → (M = .ok (.nx ys) ∧ rv a = .d .none) ∨ ∃ d, M = .ok (.rt (.d d) ys) ∧ rv a = .d d) (h : spR1 rv mk F vs H Q E)
    (k : ∀ c d0 xs ds, F xs ([d0] ++ ds) ≠ .bad → ∃ M, F xs ([d0] ++ ds) = out M ∧ SvM (zG1 CA N.length (mk c)) t (slotsR1 N.length (mk c xs) d0 ds) M (fun ys _ => (List.replicate N.length .un).set 1 (.rg (mk c ys))) (fun s => Empty.elim s)) (hN : 1 < N.length) : t { nx := fun _ H' => Q .non H', rt := Q } (L2.start N vs) H := by
  obtain ⟨G, c, v0, v, ws, d0, xs, ds, a, ys, e, rfl, hv0, hv, hd, hF, q⟩ := h
  have hst : StOk G H (L2.start N (v0 :: v :: ws)) (slotsR1 N.length (mk c xs) d0 ds) := by
    unfold L2.start slotsR1
    refine .cons (.inr ⟨_, rfl, hv0⟩) (.cons (.inr ⟨_, rfl, hv⟩) ?_)
    have e1 : N.length - (v0 :: v :: ws).length = N.length - 2 - ds.length := by rw [List.length_cons, List.length_cons, hd.len]; omega
    rw [e1]
    exact st_app (st_uns _) (st_dats hd)
  have ha : adr (slotsR1 N.length (mk c xs) d0 ds) = (mk c xs).A := by unfold slotsR1; rw [adr_cons, adr_cons, adr_app, adr_dats, adr_uns]; simp [adr1]
  obtain ⟨M, hM, k⟩ := k c d0 xs ds (by rw [hF]; intro z; cases z)
  rw [hF] at hM
  refine k G H _ e hst (by rw [ha]; exact S.nd hv) _ ?_
  have same : ∀ {v' : V} {G' H' : Hp}, VOk G' H' v' (.rg (mk c ys)) → v' = v := fun w => by rw [w.1, hv.1]; exact S.v c ys xs
  rcases hout M a ys hM.symm with ⟨rfl, hr⟩ | ⟨d, rfl, hr⟩
  · intro _ ρ' G' H' σ' s w
    have s := s.wk w
    have hi : ((List.replicate N.length Sl.un).set 1 (.rg (mk c ys)))[1]? = some (.rg (mk c ys)) := List.getElem?_set_self (by rw [List.length_replicate]; exact hN)
    obtain ⟨v', _, w'⟩ := s.s.get hi (by simp)
    have := same w'
    subst this
    refine q _ G' H' (by have x := s.x; rwa [ha] at x) w' ?_
    rw [hr]; exact .non
  · intro u ρ' G' H' σ' s w o
    obtain ⟨v', _, w'⟩ := s.s.get (show ρ'[1]? = some (.rg (mk c ys)) from o) (by simp)
    have := same w'
    subst this
    refine q u G' H' (by have x := s.x; rwa [ha] at x) w' ?_
    rw [hr]; exact w
theorem lenR1 {n : Nat} (h : ∀ xs d0 ds, F xs ([d0] ++ ds) ≠ .bad → ds.length + 2 = n) : ∀ vs H Q E, spR1 rv mk F vs H Q E → vs.length = n := fun vs H Q E ⟨G, c, v0, v, ws, d0, xs, ds, a, ys, e, hvs, hv0, hv, hd, hF, q⟩ => by
  subst hvs
  rw [List.length_cons, List.length_cons, hd.len]
  exact h xs d0 ds (by rw [hF]; intro z; cases z)
theorem spBadR1 (hF : ∀ xs ds, F xs ds = .bad) (h : spR1 rv mk F vs H Q E) : False := by
  obtain ⟨G, c, v0, v, ws, d0, xs, ds, a, ys, e, hvs, hv0, hv, hd, h1, q⟩ := h
  rw [hF] at h1; cases h1
end
section
variable {α : Type} {rv : α → Rv} {F : List D → List D → R (α × List D)} {P : Program} {w : World} {W : WX} {ta : TA} {ρ : En} {j n : Nat} {b : Bool} {d0 : D}
/-- f(x, {}, e, ..): the new dict is forgotten behind -/
theorem ev_callN1 {ds ys : List D} {a : α} (hj : ρ[j]? = some (.dat d0)) (h2 : EvA false ta ρ (ds.map Ar.d) ρ) (hF : F [] ([d0] ++ ds) = .ok (a, ys)) :
    Ev b (tCallSD (spR1 rv (rgD P w) F) [] (WE W) (tCons (tVar j) (tCons (tNewX P w) ta))) ρ (rv a) ρ := fun G H σ e st nd Q q => by
  obtain ⟨v0, k0, hv0⟩ := st.get hj (by simp)
  have hv0 : Dq G v0 d0 := hv0
  refine ⟨v0, k0, fun p hp => ?_⟩
  have x0 : Ext [] G H G (upd H p (DxO P w p [])) := Ext.own e hp
  have hok : VOk G (upd H p (DxO P w p [])) (.ref p) (.rg (rgD P w p [])) := ⟨rfl, fun q hq => by
    rw [List.mem_singleton.mp hq]; exact ⟨e.none hp, _, upd_same⟩, [], upd_same, .nil⟩
  refine h2 G _ σ x0.gh (st.mono x0) nd _ fun vs G2 H2 x2 s2 a2 k2 => ?_
  have x2 : Ext [] G _ G2 H2 := x2
  have hok2 : VOk G2 H2 (.ref p) (.rg (rgD P w p [])) := VOk.out hok x2 fun q hq => by simp at hq
  show spR1 rv (rgD P w) F ((v0 :: .ref p :: vs) ++ []) H2 Q (WE W σ)
  rw [List.append_nil]
  refine ⟨G2, p, v0, .ref p, vs, d0, [], ds, a, ys, x2.gh, rfl, dq_mono x2.gg hv0, hok2, as_data k2, hF, fun u G3 H3 x3 h3 r3 => ?_⟩
  have yy : Ext [] G H G2 H2 := x0.tr x2
  have zz : Ext [] G H G3 H3 := yy.trans x3 fun q hq => by
    rw [List.mem_singleton.mp hq]; exact .inr hp
  exact q u G3 H3 zz.up (st.mono zz) rfl (r3.back yy)
theorem g_callN1 {z : Rz} {ρs : Unit → En} {K2 : {β : Type} → Unit → (List D → Unit → R β) → R β} (hj : ∀ s, (ρs s)[j]? = some (.dat d0)) (h2 : GA z false n ta ρs K2) :
    GE z b rv (tCallSD (spR1 rv (rgD P w) F) [] (WE z.W) (tCons (tVar j) (tCons (tNewX P w) ta))) ρs
      (fun _ k => (K2 () fun ds _ => R.ok ds).nox.bind fun ds => (F [] ([d0] ++ ds)).nox.bind fun q => k q.1 ()) := fun s => by
  obtain ⟨m2, b1, b2, b3⟩ := h2 ()
  refine ⟨(K2 () fun ds _ => R.ok ds).nox.bind fun ds => (F [] ([d0] ++ ds)).nox.bind fun q => .ok (q.1, ()), fun β k => ?_, fun q hq => ?_, fun e he => ?_⟩
  · show ((K2 () fun ds _ => R.ok ds).nox.bind fun ds => (F [] ([d0] ++ ds)).nox.bind fun q => k q.1 ()) = _
    rw [R.bind_assoc]; congr 1; funext ds; rw [R.bind_assoc]; rfl
  · have c2 : (K2 () fun ds _ => R.ok ds) = m2.bind fun q => R.ok q.1 := b1 _ _
    obtain ⟨ds, h5, h6⟩ := R.bind_eq_ok hq
    obtain ⟨⟨a, ys⟩, h7, h8⟩ := R.bind_eq_ok h6
    cases h8
    have h5 := nox_ok h5
    rw [c2] at h5
    obtain ⟨⟨ds', s2⟩, h11, h12⟩ := R.bind_eq_ok h5
    cases h12
    exact ev_callN1 (hj ()) (b2 _ h11).2 (nox_ok h7)
  · rcases R.bind_eq_ex he with h5 | ⟨ds, h5, h6⟩
    · exact absurd h5 nox_ex
    · rcases R.bind_eq_ex h6 with h7 | ⟨q, h7, h8⟩
      · exact absurd h7 nox_ex
      · cases h8
end
/-! ### tests and reads of an own dict -/
section
variable {S : Type} {z : Rz} {b : Bool} {ρ : En} {ρs : S → En} {P : Program} {w : World} {p : Addr} {i j : Nat}
theorem ev_ninD {es : List D} {l : List Int} (hi : ρ[i]? = some (.rg (rgD P w p es))) (hj : ρ[j]? = some (.dat (.tuple (l.map .int)))) :
    Ev b (tNinX P w (tVar j) (tVar i)) ρ (.d (.bool (!(es.any fun e => decide (keyE e = l))))) ρ := fun G H σ e st nd Q q => by
  obtain ⟨v, k, hv, _, zs, h4, h5⟩ := st.get hi (by simp)
  have hv : v = .ref p := hv
  subst hv
  obtain ⟨v2, k2, hv2⟩ := st.get hj (by simp)
  have hv2 : Dq G v2 (.tuple (l.map .int)) := hv2
  cases hv2 with
  | tup ha hs =>
  rename_i aa us
  rw [of_dqs_ints hs] at ha
  refine ⟨.ref aa, k2, .ref p, k, p, zs, l, aa, rfl, rfl, h4, (dqz_tup h5).mono e, e _ _ ha, ?_⟩
  rw [val_has, dqz_any h5]
  exact q _ G H (Ext.refl e) st rfl (.bl _)
theorem ev_subD {es : List D} {l : List Int} {d : D} (hi : ρ[i]? = some (.rg (rgD P w p es))) (hj : ρ[j]? = some (.dat (.tuple (l.map .int)))) (hd : (es.find? fun e => decide (keyE e = l)) = some d) :
    Ev b (tSubX P w (tVar i) (tVar j)) ρ (.d (vlE d)) ρ := fun G H σ e st nd Q q => by
  obtain ⟨v, k, hv, _, zs, h4, h5⟩ := st.get hi (by simp)
  have hv : v = .ref p := hv
  subst hv
  obtain ⟨v2, k2, hv2⟩ := st.get hj (by simp)
  have hv2 : Dq G v2 (.tuple (l.map .int)) := hv2
  cases hv2 with
  | tup ha hs =>
  rename_i aa us
  rw [of_dqs_ints hs] at ha
  obtain ⟨vv, hvv, hq⟩ := dqz_find h5 hd
  exact ⟨.ref p, k, .ref aa, k2, p, zs, l, aa, vv, rfl, rfl, h4, (dqz_tup h5).mono e, e _ _ ha, hvv, q _ G H (Ext.refl e) st rfl hq⟩
theorem g_ninD {es : S → List D} {k : D} (hi : ∀ s, (ρs s)[i]? = some (.rg (rgD P w p (es s)))) (hj : ∀ s, (ρs s)[j]? = some (.dat k)) : GE z b rvB (tNinX P w (tVar j) (tVar i)) ρs (fun s kk => (ninM (es s) k).bind fun d => kk d s) := fun s => by
  refine ⟨(ninM (es s) k).bind fun d => .ok (d, s), fun β kk => by rw [R.bind_assoc]; rfl, fun q hq => ?_, fun e he => ?_⟩
  · obtain ⟨d, h1, h2⟩ := R.bind_eq_ok hq
    cases h2
    unfold ninM at h1
    split at h1
    · split at h1
      · rename_i l hl
        cases h1
        exact ev_ninD (hi s) (by rw [hj s, of_intsOf hl])
      · cases h1
    · cases h1
  · rcases R.bind_eq_ex he with h1 | ⟨d, h1, h2⟩
    · unfold ninM at h1; split at h1 <;> first | cases h1 | (split at h1 <;> cases h1)
    · cases h2
theorem g_subD {es : S → List D} {k : D} (hi : ∀ s, (ρs s)[i]? = some (.rg (rgD P w p (es s)))) (hj : ∀ s, (ρs s)[j]? = some (.dat k)) : GE z b Rv.d (tSubX P w (tVar i) (tVar j)) ρs (fun s kk => (ixE (es s) k).bind fun d => kk d s) := fun s => by
  refine ⟨(ixE (es s) k).bind fun d => .ok (d, s), fun β kk => by rw [R.bind_assoc]; rfl, fun q hq => ?_, fun e he => ?_⟩
  · obtain ⟨d, h1, h2⟩ := R.bind_eq_ok hq
    cases h2
    unfold ixE at h1
    split at h1
    · split at h1
      · rename_i l hl
        split at h1
        · rename_i dd hdd
          cases h1
          exact ev_subD (hi s) (by rw [hj s, of_intsOf hl]) hdd
        · cases h1
      · cases h1
    · cases h1
  · rcases R.bind_eq_ex he with h1 | ⟨d, h1, h2⟩
    · unfold ixE at h1; split at h1 <;> first | cases h1 | (split at h1 <;> first | cases h1 | (split at h1 <;> cases h1))
    · cases h2
end
end Kn

namespace Kn
open PySem
def m_is_integer (v_value v_low v_high : D) : R (D) := outD ((isiD v_value "int").bind fun t1 => (if t1 = true then (isiD v_value "bool").bind fun t2 => (if (!t2) = true then (leD v_low v_value).bind fun t3 => (if t3 = true then leD v_value v_high else R.ok false).bind fun t4 => R.ok t4 else R.ok false).bind fun t5 => R.ok t5 else R.ok false).bind fun t6 => .ok (.rt (.d (.bool t6)) []))
def L_is_integer : List D → R (D) := A3 (m_is_integer)
def m_fits (v_lot : D) : R (D) := outD ((lnD v_lot).bind fun t1 => (leD t1 (.int 60)).bind fun t2 => (if t2 = true then (sumD v_lot).bind fun t3 => (leD t3 (.int 200)).bind fun t4 => R.ok t4 else R.ok false).bind fun t5 => .ok (.rt (.d (.bool t5)) []))
def L_fits : List D → R (D) := A1 (m_fits)
def m_is_lot (v_value : D) : R (D) := outD ((isiD v_value "tuple").bind fun t1 => (if (!t1) = true then R.ok true else (iterM v_value).bind fun xs2 => (lcM xs2 (fun x_3 => R.ok true) (fun x_3 => (m_is_integer x_3 (.int 1) (.int 200)).bind fun t4 => R.ok t4)).bind fun t5 => (allD (.list t5)).bind fun t6 => R.ok (!t6)).bind fun t7 => if t7 = true then exit (.ok (.rt (.d (.bool false)) [])) else (ixO (.int 1)).bind fun t8 => (slD v_value t8 none).bind fun t9 => (zipM v_value t9).bind fun xs10 => (lcM xs10 yesM (fun q14 => un2 q14 fun x_11 x_12 => (geD x_11 x_12).bind fun t13 => R.ok (.bool t13))).bind fun t15 => (allD (.list t15)).bind fun t16 => (if t16 = true then (m_fits v_value).bind fun t17 => (blM t17).bind fun t18 => R.ok t18 else R.ok false).bind fun t19 => .ok (.rt (.d (.bool t19)) []))
def L_is_lot : List D → R (D) := A1 (m_is_lot)
def m_check_lot (v_value : D) : R (D) := outD ((m_is_lot v_value).bind fun t1 => (blM t1).bind fun t2 => if (!t2) = true then .bad else .ok (.nx ()))
def L_check_lot : List D → R (D) := A1 (m_check_lot)
def m_check_small (v_lot v_most : D) : R (D) := outD ((m_check_lot v_lot).bind fun t1 => (sumD v_lot).bind fun t2 => (gtD t2 v_most).bind fun t3 => if t3 = true then .bad else .ok (.nx ()))
def L_check_small : List D → R (D) := A2 (m_check_small)
def m_next_tools (v_lot v_place v_last v_total : D) : R (List D) := outL ((addD v_place (.int 1)).bind fun t1 => (ixO t1).bind fun t2 => (slD v_lot none t2).bind fun t3 => (sumD t3).bind fun t4 => (subD t4 v_total).bind fun t5 => (min2 v_last t5).bind fun t6 => (addD t6 (.int 1)).bind fun t7 => (lrg2 (.int 1) t7).bind fun t8 => .ok (.rt (.l t8) []))
def L_next_tools : List D → R (List D) := A4 (m_next_tools)
def m_count : Nat → List D → D → D → D → D → R (D × List D)
  | 0, _, _, _, _, _ => .bad
  | n + 1, o_self, v_self_lot, v_place, v_last, v_total => outDO (sq (N := _) (M := List D) ((ninM o_self (.tuple [v_place, v_last, v_total])).bind fun t2 => if t2 = true then sq (M := List D × D) ((m_next_tools v_self_lot v_place v_last v_total).bind fun t5 => (iterM (.list t5)).bind fun xs6 => forM xs6 ((o_self, (.int 1)) : List D × D) (fun c7 x9 => (addD v_place (.int 1)).bind fun t10 => (addD v_total x9).bind fun t11 => ((m_count n c7.1 v_self_lot t10 x9 t11).nox).bind fun q12 => (augD (fun i j => i + j) c7.2 q12.1).bind fun t13 => .ok (.nx (q12.2, t13)))) fun s15 => (putM s15.1 (.tuple [v_place, v_last, v_total]) s15.2).bind fun l16 => .ok (.nx l16) else .ok (.nx o_self)) fun s17 => (ixE s17 (.tuple [v_place, v_last, v_total])).bind fun t18 => .ok (.rt (.d t18) s17))
def L_count (n : Nat) (o : List D) : List D → R (D × List D) := A4 (m_count n o)
def m_count_covered (v_lot : D) : R (D) := outD ((m_check_small v_lot (.int 40)).bind fun t1 => ((R.ok v_lot).nox).bind fun t3 => (((sumD v_lot).bind fun t2 => R.ok [(.int 0), t2, (.int 0)]).nox).bind fun t4 => ((L_count 70 [] (t3 :: t4)).nox).bind fun q5 => .ok (.rt (.d q5.1) []))
def L_count_covered : List D → R (D) := A1 (m_count_covered)
def m__law_mixed (v_cell v_k : D) : R (D) := outD ((modD v_cell (.int 2147483647)).bind fun t1 => (mulD t1 (.int 48271)).bind fun t2 => (mulD v_k (.int 69621)).bind fun t3 => (addD t2 t3).bind fun t4 => (addD t4 (.int 1048583)).bind fun t5 => (modD t5 (.int 2147483629)).bind fun t6 => (mulD t6 t6).bind fun t7 => (modD t7 (.int 2147483587)).bind fun t8 => (addD t8 (.int 2)).bind fun t9 => (mulD t8 t9).bind fun t10 => (modD t10 (.int 2147483579)).bind fun t11 => .ok (.rt (.d t11) []))
def L__law_mixed : List D → R (D) := A2 (m__law_mixed)
def m__law_cell (ns : List Int) (v_k : D) : R (D) := outD (sq (N := _) (M := D) ((ltD v_k (.int ns.length)).bind fun t2 => if t2 = true then (ixK ns v_k).bind fun t4 => .ok (.nx t4) else .ok (.nx (.int 0))) fun s5 => (powD (.int 10) (.int 18)).bind fun t6 => (geD s5 t6).bind fun t7 => if t7 = true then exit ((powD (.int 10) (.int 18)).bind fun t8 => (subD s5 t8).bind fun t9 => (powD (.int 10) (.int 60)).bind fun t10 => (powD (.int 10) (.int 60)).bind fun t11 => (mulD t10 t11).bind fun t12 => (powD (.int 10) (.int 60)).bind fun t13 => (mulD t12 t13).bind fun t14 => (powD (.int 10) (.int 60)).bind fun t15 => (mulD t14 t15).bind fun t16 => (modD t9 t16).bind fun t17 => .ok (.rt (.d t17) [])) else sq (M := D) ((rg1 (.int 24)).bind fun xs19 => forM xs19 ((.int 0) : D) (fun c20 x22 => (mulD c20 (.int 2147483579)).bind fun t23 => (mulD (.int 7) v_k).bind fun t24 => (mulD (.int 100) x22).bind fun t25 => (addD t24 t25).bind fun t26 => (mulD x22 x22).bind fun t27 => (addD t26 t27).bind fun t28 => (m__law_mixed s5 t28).bind fun t29 => (addD t23 t29).bind fun t30 => .ok (.nx t30))) fun s31 => .ok (.rt (.d s31) []))
def L__law_cell (ns : List Int) : List D → R D := A1 (m__law_cell ns)
def m__law_take (o_digits : List D) (v_size : D) : R (D × List D) := outDO ((bor ((ixD (.list o_digits) (.int 0)).bind fun t1 => R.ok t1)).bind fun t2 => (modD t2 v_size).bind fun t3 => (bor ((ixD (.list o_digits) (.int 0)).bind fun t4 => R.ok t4)).bind fun t5 => (fdivD t5 v_size).bind fun t6 => (R.ok (.int 0)).nox.bind fun j7 => (setM o_digits j7 t6).bind fun l8 => .ok (.rt (.d t3) l8))
def L__law_take (o : List D) : List D → R (D × List D) := A1 (m__law_take o)
def m__law_count : Nat → List D → D → D → D → D → R (D × List D)
  | 0, _, _, _, _, _ => .bad
  | n + 1, o_known, v_lot, v_many, v_most, v_total => outDO (sq (N := _) (M := List D) ((ninM o_known (.tuple [v_many, v_most, v_total])).bind fun t2 => if t2 = true then (addD v_many (.int 1)).bind fun t5 => (ixO t5).bind fun t6 => (slD v_lot none t6).bind fun t7 => (sumD t7).bind fun t8 => sq (M := List D × D) ((subD t8 v_total).bind fun t9 => (min2 v_most t9).bind fun t10 => (addD t10 (.int 1)).bind fun t11 => (rg2 (.int 1) t11).bind fun xs12 => forM xs12 ((o_known, (.int 1)) : List D × D) (fun c13 x15 => (addD v_many (.int 1)).bind fun t16 => (addD v_total x15).bind fun t17 => ((m__law_count n c13.1 v_lot t16 x15 t17).nox).bind fun q18 => (addD c13.2 q18.1).bind fun t19 => .ok (.nx (q18.2, t19)))) fun s21 => (R.ok (.tuple [v_many, v_most, v_total])).nox.bind fun j22 => (putM s21.1 j22 s21.2).bind fun l23 => .ok (.nx l23) else .ok (.nx o_known)) fun s24 => (ixE s24 (.tuple [v_many, v_most, v_total])).bind fun t25 => .ok (.rt (.d t25) s24))
def L__law_count (n : Nat) (o : List D) : List D → R (D × List D) := A4 (m__law_count n o)
def m__law_lot_up_to (o_digits : List D) (v_left : D) : R (D × List D) := outDO (sq (M := List D × D × List D) (whileM 1000000 ((o_digits, v_left, []) : List D × D × List D) (fun c3 => (gtD c3.2.1 (.int 0)).bind fun t5 => R.ok t5) (fun c3 => ((m__law_take c3.1 c3.2.1).nox).bind fun q6 => (addD (.int 1) q6.1).bind fun t7 => (min2 c3.2.1 t7).bind fun t8 => ((m__law_take q6.2 t8).nox).bind fun q9 => (addD (.int 1) q9.1).bind fun t10 => (appM c3.2.2 t10).bind fun l12 => (bor ((negD (.int 1)).bind fun t13 => (ixD (.list l12) t13).bind fun t14 => R.ok t14)).bind fun t15 => (subD c3.2.1 t15).bind fun t16 => .ok (.nx (q9.2, t16, l12)))) fun s17 => (srtL (.list s17.2.2)).bind fun t18 => (revL (.list t18)).bind fun t19 => (tupD (.list t19)).bind fun t20 => .ok (.rt (.d t20) s17.1))
def L__law_lot_up_to (o : List D) : List D → R (D × List D) := A1 (m__law_lot_up_to o)
def m_law (ns : List Int) : R (D) := outD (sq (M := Unit) ((min2 (.int ns.length) (.int 4)).bind fun t1 => (max2 t1 (.int 1)).bind fun t2 => (rg1 t2).bind fun xs3 => forM xs3 (() : Unit) (fun c4 x6 => ((m__law_cell ns x6).nox).bind fun t7 => sq (M := List D) ((rg1 (.int 2)).bind fun xs10 => forM xs10 ([t7] : List D) (fun c11 x13 => ((m__law_take c11 (.int 3)).nox).bind fun q14 => (ixD (.list [(.int 12), (.int 25), (.int 40)]) q14.1).bind fun t15 => ((m__law_take q14.2 (.int 6)).nox).bind fun q16 => (subD t15 q16.1).bind fun t17 => ((m__law_lot_up_to q16.2 t17).nox).bind fun q18 => (L_count_covered [q18.1]).bind fun t21 => (((maxM q18.1).bind fun t22 => R.ok [(.int 0), t22, (.int 0)]).nox).bind fun t23 => ((L__law_count 70 [] ([q18.1] ++ t23)).nox).bind fun q24 => (neD t21 q24.1).bind fun t25 => if t25 = true then .ok (.rt (.d (.bool false)) []) else .ok (.nx q18.2))) fun s26 => .ok (.nx ()))) fun s27 => (mulD (.tuple [(.int 1)]) (.int 40)).bind fun t28 => (L_count_covered [t28]).bind fun t29 => (eqD t29 (.int 41)).bind fun t30 => (if t30 = true then (L_count_covered [(.tuple [(.int 40)])]).bind fun t31 => (eqD t31 (.int 215308)).bind fun t32 => R.ok t32 else R.ok false).bind fun t33 => .ok (.rt (.d (.bool t33)) []))
def L_law (ns : List Int) : List D → R D := A0 (m_law ns)
end Kn

namespace Kn
open PySem PySem.Spec PyProof.Rows L2
theorem q_is_integer (i lo hi : Int) : m_is_integer (.int i) (.int lo) (.int hi) = .ok (.bool (isI lo hi (.int i))) := by
  unfold m_is_integer isI
  by_cases h : lo ≤ i <;> simp [isTyN, h]
theorem q_fits (l : List Int) : m_fits (.tuple (l.map .int)) = .ok (.bool (fitsV l)) := by
  unfold m_fits fitsV
  by_cases h : (l.length : Int) ≤ 60 <;> simp [h]
theorem q_is_lot {l : List Int} (hl : l.length ≤ 1000000) : m_is_lot (.tuple (l.map .int)) = .ok (.bool (isLotD (eT .int l))) := by
  rw [isLotD_tup, ints_map]
  unfold m_is_lot
  simp only [isiD_t, R.ok_bind, iterM_t]
  rw [lcM_g .bool (fun x => isI 1 200 (.int x)) hl (fun x _ => by rfl) (fun x _ => by rw [q_is_integer]; rfl)]
  simp only [R.ok_bind, allD_l, ixO_i, slD_t, zipM_t, cut_from (xs := l) (n := 1) (by decide)]
  have e1 : ((l.map fun x => isI 1 200 (.int x)).all id) = (l.map PyData.int).all (isI 1 200) := by rw [List.all_map, List.all_map]; rfl
  rw [e1]
  cases h1 : (l.map PyData.int).all (isI 1 200) with
  | false => rfl
  | true =>
    rw [show (1 : Int).toNat = 1 from rfl]
    rw [lcM_g .bool (fun p : Int × Int => decide (p.2 ≤ p.1)) (by rw [List.length_zip]; omega) (fun x _ => by rfl) (fun x _ => by rfl)]
    have e2 : (((l.zip (l.drop 1)).map fun p : Int × Int => decide (p.2 ≤ p.1)).all id) = (l.zip (l.drop 1)).all fun p => decide (p.2 ≤ p.1) := by rw [List.all_map]; rfl
    simp only [R.ok_bind, allD_l, e2]
    cases h2 : (l.zip (l.drop 1)).all fun p => decide (p.2 ≤ p.1) with
    | false => rfl
    | true => simp only [Bool.not_true, Bool.false_eq_true, if_false, if_true, outD_bind, R.ok_bind, q_fits, blM_b, outD_rt]; rfl
theorem q_lot {l : List Int} (h : Lot l) : m_is_lot (.tuple (l.map .int)) = .ok (.bool true) := by
  rw [q_is_lot (by have := h.len; omega), isLot_of h]
theorem q_check_lot {l : List Int} (h : Lot l) : m_check_lot (.tuple (l.map .int)) = .ok .none := by
  unfold m_check_lot; rw [q_lot h]; rfl
theorem q__law_mixed (c k : Int) : m__law_mixed (.int c) (.int k) = .ok (.int (mixV c k)) := by
  unfold m__law_mixed mixV
  rw [modD_i _ _ (by decide)]
  (try simp only [q_ok_bind, q_ex_bind, q_bad_bind, q_ok_nox, q_sq_nx, q_sq_rt, q_sq_bk, q_sq_ct, q_sq_ex, sq_bind, sq_ite, q_exit_rt, q_exit_bk, q_exit_ct, q_exit_ex, exit_bind, exit_ite, q_outD_rt, q_outD_nx, q_outD_ex, outD_bind, outD_ite, q_outL_rt, q_outL_ex, outL_bind, outL_ite, q_outDO_rt, q_outDO_nx, q_outDO_ex, outDO_bind, outDO_ite, q_outLO_rt, q_outLO_ex, outLO_bind, outLO_ite, q_un2_t, q_un3_t, borR_ok, addD_i, subD_i, negD_i, ltD_i, leD_i, gtD_i, geD_i, max2_i, min2_i, isM_in, isM_nn, isM_tn, isM_ln, noM_in, noM_nn, noM_tn, noM_ln, isM_bb, blM_b, yesM_d, ixO_i, lnD_l, lnD_t, iterM_l, iterM_t, tupD_l, tupD_t, lstL_l, lstL_t, revL_l, slD_l, slD_t, slL_l, sumD_l, sumD_t, sumD_b, maxK_l, maxK_t, srtL_l, srtRL_l, srtR2_l, allD_l, anyD_l, zipM_l, zipM_t, ixD_l0, ixD_lm0, ixD_tm0, ixD_t0, ixD_l1, ixD_t1, eqD_i, eqD_b, neD_b, stepL_l, neD_i, inD_i, niD_i, isiD_i, isiD_l, isiD_t, noL_s, noL_n, noLs_i, noL_ti, borB_ok, bor_i, bor_b, noL_i, noL_b, Bool.not_true, Bool.not_false, Bool.false_eq_true, if_true, if_false, List.length_map, un2_P, augD_i])
  rw [mulD_i _ _ (.inr (by decide)), mulD_i k _ (.inr (by decide))]
  (try simp only [q_ok_bind, q_ex_bind, q_bad_bind, q_ok_nox, q_sq_nx, q_sq_rt, q_sq_bk, q_sq_ct, q_sq_ex, sq_bind, sq_ite, q_exit_rt, q_exit_bk, q_exit_ct, q_exit_ex, exit_bind, exit_ite, q_outD_rt, q_outD_nx, q_outD_ex, outD_bind, outD_ite, q_outL_rt, q_outL_ex, outL_bind, outL_ite, q_outDO_rt, q_outDO_nx, q_outDO_ex, outDO_bind, outDO_ite, q_outLO_rt, q_outLO_ex, outLO_bind, outLO_ite, q_un2_t, q_un3_t, borR_ok, addD_i, subD_i, negD_i, ltD_i, leD_i, gtD_i, geD_i, max2_i, min2_i, isM_in, isM_nn, isM_tn, isM_ln, noM_in, noM_nn, noM_tn, noM_ln, isM_bb, blM_b, yesM_d, ixO_i, lnD_l, lnD_t, iterM_l, iterM_t, tupD_l, tupD_t, lstL_l, lstL_t, revL_l, slD_l, slD_t, slL_l, sumD_l, sumD_t, sumD_b, maxK_l, maxK_t, srtL_l, srtRL_l, srtR2_l, allD_l, anyD_l, zipM_l, zipM_t, ixD_l0, ixD_lm0, ixD_tm0, ixD_t0, ixD_l1, ixD_t1, eqD_i, eqD_b, neD_b, stepL_l, neD_i, inD_i, niD_i, isiD_i, isiD_l, isiD_t, noL_s, noL_n, noLs_i, noL_ti, borB_ok, bor_i, bor_b, noL_i, noL_b, Bool.not_true, Bool.not_false, Bool.false_eq_true, if_true, if_false, List.length_map, un2_P, augD_i])
  rw [modD_i _ _ (by decide)]
  (try simp only [q_ok_bind, q_ex_bind, q_bad_bind, q_ok_nox, q_sq_nx, q_sq_rt, q_sq_bk, q_sq_ct, q_sq_ex, sq_bind, sq_ite, q_exit_rt, q_exit_bk, q_exit_ct, q_exit_ex, exit_bind, exit_ite, q_outD_rt, q_outD_nx, q_outD_ex, outD_bind, outD_ite, q_outL_rt, q_outL_ex, outL_bind, outL_ite, q_outDO_rt, q_outDO_nx, q_outDO_ex, outDO_bind, outDO_ite, q_outLO_rt, q_outLO_ex, outLO_bind, outLO_ite, q_un2_t, q_un3_t, borR_ok, addD_i, subD_i, negD_i, ltD_i, leD_i, gtD_i, geD_i, max2_i, min2_i, isM_in, isM_nn, isM_tn, isM_ln, noM_in, noM_nn, noM_tn, noM_ln, isM_bb, blM_b, yesM_d, ixO_i, lnD_l, lnD_t, iterM_l, iterM_t, tupD_l, tupD_t, lstL_l, lstL_t, revL_l, slD_l, slD_t, slL_l, sumD_l, sumD_t, sumD_b, maxK_l, maxK_t, srtL_l, srtRL_l, srtR2_l, allD_l, anyD_l, zipM_l, zipM_t, ixD_l0, ixD_lm0, ixD_tm0, ixD_t0, ixD_l1, ixD_t1, eqD_i, eqD_b, neD_b, stepL_l, neD_i, inD_i, niD_i, isiD_i, isiD_l, isiD_t, noL_s, noL_n, noLs_i, noL_ti, borB_ok, bor_i, bor_b, noL_i, noL_b, Bool.not_true, Bool.not_false, Bool.false_eq_true, if_true, if_false, List.length_map, un2_P, augD_i])
  generalize (c % 2147483647 * 48271 + k * 69621 + 1048583) = z
  have h1 := Int.emod_nonneg z (b := 2147483629) (by decide)
  have h2 := Int.emod_lt_of_pos z (b := 2147483629) (by decide)
  generalize z % 2147483629 = m at h1 h2
  rw [mulD_i m m (.inr (by omega))]
  (try simp only [q_ok_bind, q_ex_bind, q_bad_bind, q_ok_nox, q_sq_nx, q_sq_rt, q_sq_bk, q_sq_ct, q_sq_ex, sq_bind, sq_ite, q_exit_rt, q_exit_bk, q_exit_ct, q_exit_ex, exit_bind, exit_ite, q_outD_rt, q_outD_nx, q_outD_ex, outD_bind, outD_ite, q_outL_rt, q_outL_ex, outL_bind, outL_ite, q_outDO_rt, q_outDO_nx, q_outDO_ex, outDO_bind, outDO_ite, q_outLO_rt, q_outLO_ex, outLO_bind, outLO_ite, q_un2_t, q_un3_t, borR_ok, addD_i, subD_i, negD_i, ltD_i, leD_i, gtD_i, geD_i, max2_i, min2_i, isM_in, isM_nn, isM_tn, isM_ln, noM_in, noM_nn, noM_tn, noM_ln, isM_bb, blM_b, yesM_d, ixO_i, lnD_l, lnD_t, iterM_l, iterM_t, tupD_l, tupD_t, lstL_l, lstL_t, revL_l, slD_l, slD_t, slL_l, sumD_l, sumD_t, sumD_b, maxK_l, maxK_t, srtL_l, srtRL_l, srtR2_l, allD_l, anyD_l, zipM_l, zipM_t, ixD_l0, ixD_lm0, ixD_tm0, ixD_t0, ixD_l1, ixD_t1, eqD_i, eqD_b, neD_b, stepL_l, neD_i, inD_i, niD_i, isiD_i, isiD_l, isiD_t, noL_s, noL_n, noLs_i, noL_ti, borB_ok, bor_i, bor_b, noL_i, noL_b, Bool.not_true, Bool.not_false, Bool.false_eq_true, if_true, if_false, List.length_map, un2_P, augD_i])
  rw [modD_i _ _ (by decide)]
  (try simp only [q_ok_bind, q_ex_bind, q_bad_bind, q_ok_nox, q_sq_nx, q_sq_rt, q_sq_bk, q_sq_ct, q_sq_ex, sq_bind, sq_ite, q_exit_rt, q_exit_bk, q_exit_ct, q_exit_ex, exit_bind, exit_ite, q_outD_rt, q_outD_nx, q_outD_ex, outD_bind, outD_ite, q_outL_rt, q_outL_ex, outL_bind, outL_ite, q_outDO_rt, q_outDO_nx, q_outDO_ex, outDO_bind, outDO_ite, q_outLO_rt, q_outLO_ex, outLO_bind, outLO_ite, q_un2_t, q_un3_t, borR_ok, addD_i, subD_i, negD_i, ltD_i, leD_i, gtD_i, geD_i, max2_i, min2_i, isM_in, isM_nn, isM_tn, isM_ln, noM_in, noM_nn, noM_tn, noM_ln, isM_bb, blM_b, yesM_d, ixO_i, lnD_l, lnD_t, iterM_l, iterM_t, tupD_l, tupD_t, lstL_l, lstL_t, revL_l, slD_l, slD_t, slL_l, sumD_l, sumD_t, sumD_b, maxK_l, maxK_t, srtL_l, srtRL_l, srtR2_l, allD_l, anyD_l, zipM_l, zipM_t, ixD_l0, ixD_lm0, ixD_tm0, ixD_t0, ixD_l1, ixD_t1, eqD_i, eqD_b, neD_b, stepL_l, neD_i, inD_i, niD_i, isiD_i, isiD_l, isiD_t, noL_s, noL_n, noLs_i, noL_ti, borB_ok, bor_i, bor_b, noL_i, noL_b, Bool.not_true, Bool.not_false, Bool.false_eq_true, if_true, if_false, List.length_map, un2_P, augD_i])
  have h3 := Int.emod_nonneg (m * m) (b := 2147483587) (by decide)
  have h4 := Int.emod_lt_of_pos (m * m) (b := 2147483587) (by decide)
  rw [mulD_i _ _ (.inl (by omega))]
  (try simp only [q_ok_bind, q_ex_bind, q_bad_bind, q_ok_nox, q_sq_nx, q_sq_rt, q_sq_bk, q_sq_ct, q_sq_ex, sq_bind, sq_ite, q_exit_rt, q_exit_bk, q_exit_ct, q_exit_ex, exit_bind, exit_ite, q_outD_rt, q_outD_nx, q_outD_ex, outD_bind, outD_ite, q_outL_rt, q_outL_ex, outL_bind, outL_ite, q_outDO_rt, q_outDO_nx, q_outDO_ex, outDO_bind, outDO_ite, q_outLO_rt, q_outLO_ex, outLO_bind, outLO_ite, q_un2_t, q_un3_t, borR_ok, addD_i, subD_i, negD_i, ltD_i, leD_i, gtD_i, geD_i, max2_i, min2_i, isM_in, isM_nn, isM_tn, isM_ln, noM_in, noM_nn, noM_tn, noM_ln, isM_bb, blM_b, yesM_d, ixO_i, lnD_l, lnD_t, iterM_l, iterM_t, tupD_l, tupD_t, lstL_l, lstL_t, revL_l, slD_l, slD_t, slL_l, sumD_l, sumD_t, sumD_b, maxK_l, maxK_t, srtL_l, srtRL_l, srtR2_l, allD_l, anyD_l, zipM_l, zipM_t, ixD_l0, ixD_lm0, ixD_tm0, ixD_t0, ixD_l1, ixD_t1, eqD_i, eqD_b, neD_b, stepL_l, neD_i, inD_i, niD_i, isiD_i, isiD_l, isiD_t, noL_s, noL_n, noLs_i, noL_ti, borB_ok, bor_i, bor_b, noL_i, noL_b, Bool.not_true, Bool.not_false, Bool.false_eq_true, if_true, if_false, List.length_map, un2_P, augD_i])
  rw [modD_i _ _ (by decide)]
  (try simp only [q_ok_bind, q_ex_bind, q_bad_bind, q_ok_nox, q_sq_nx, q_sq_rt, q_sq_bk, q_sq_ct, q_sq_ex, sq_bind, sq_ite, q_exit_rt, q_exit_bk, q_exit_ct, q_exit_ex, exit_bind, exit_ite, q_outD_rt, q_outD_nx, q_outD_ex, outD_bind, outD_ite, q_outL_rt, q_outL_ex, outL_bind, outL_ite, q_outDO_rt, q_outDO_nx, q_outDO_ex, outDO_bind, outDO_ite, q_outLO_rt, q_outLO_ex, outLO_bind, outLO_ite, q_un2_t, q_un3_t, borR_ok, addD_i, subD_i, negD_i, ltD_i, leD_i, gtD_i, geD_i, max2_i, min2_i, isM_in, isM_nn, isM_tn, isM_ln, noM_in, noM_nn, noM_tn, noM_ln, isM_bb, blM_b, yesM_d, ixO_i, lnD_l, lnD_t, iterM_l, iterM_t, tupD_l, tupD_t, lstL_l, lstL_t, revL_l, slD_l, slD_t, slL_l, sumD_l, sumD_t, sumD_b, maxK_l, maxK_t, srtL_l, srtRL_l, srtR2_l, allD_l, anyD_l, zipM_l, zipM_t, ixD_l0, ixD_lm0, ixD_tm0, ixD_t0, ixD_l1, ixD_t1, eqD_i, eqD_b, neD_b, stepL_l, neD_i, inD_i, niD_i, isiD_i, isiD_l, isiD_t, noL_s, noL_n, noLs_i, noL_ti, borB_ok, bor_i, bor_b, noL_i, noL_b, Bool.not_true, Bool.not_false, Bool.false_eq_true, if_true, if_false, List.length_map, un2_P, augD_i])
theorem q__law_cell (ns : List Int) {k : Int} (hk : 0 ≤ k) : m__law_cell ns (.int k) = .ok (.int (cellV ns k)) := by
  have key : sq (N := Unit) (L := Empty) (M := D) ((ltD (.int k) (.int ns.length)).bind fun t2 => if t2 = true then (ixK ns (.int k)).bind fun t4 => .ok (.nx t4) else .ok (.nx (.int 0))) = fun q => q (.int (cellAt ns k)) := by
    funext q
    by_cases h : k < ns.length
    · (try simp only [q_ok_bind, q_ex_bind, q_bad_bind, q_ok_nox, q_sq_nx, q_sq_rt, q_sq_bk, q_sq_ct, q_sq_ex, sq_bind, sq_ite, q_exit_rt, q_exit_bk, q_exit_ct, q_exit_ex, exit_bind, exit_ite, q_outD_rt, q_outD_nx, q_outD_ex, outD_bind, outD_ite, q_outL_rt, q_outL_ex, outL_bind, outL_ite, q_outDO_rt, q_outDO_nx, q_outDO_ex, outDO_bind, outDO_ite, q_outLO_rt, q_outLO_ex, outLO_bind, outLO_ite, q_un2_t, q_un3_t, borR_ok, addD_i, subD_i, negD_i, ltD_i, leD_i, gtD_i, geD_i, max2_i, min2_i, isM_in, isM_nn, isM_tn, isM_ln, noM_in, noM_nn, noM_tn, noM_ln, isM_bb, blM_b, yesM_d, ixO_i, lnD_l, lnD_t, iterM_l, iterM_t, tupD_l, tupD_t, lstL_l, lstL_t, revL_l, slD_l, slD_t, slL_l, sumD_l, sumD_t, sumD_b, maxK_l, maxK_t, srtL_l, srtRL_l, srtR2_l, allD_l, anyD_l, zipM_l, zipM_t, ixD_l0, ixD_lm0, ixD_tm0, ixD_t0, ixD_l1, ixD_t1, eqD_i, eqD_b, neD_b, stepL_l, neD_i, inD_i, niD_i, isiD_i, isiD_l, isiD_t, noL_s, noL_n, noLs_i, noL_ti, borB_ok, bor_i, bor_b, noL_i, noL_b, Bool.not_true, Bool.not_false, Bool.false_eq_true, if_true, if_false, List.length_map, un2_P, augD_i])
      simp only [h, decide_true, if_true]
      have e := cell_at hk h
      unfold ixK
      simp only [e]
      rfl
    · (try simp only [q_ok_bind, q_ex_bind, q_bad_bind, q_ok_nox, q_sq_nx, q_sq_rt, q_sq_bk, q_sq_ct, q_sq_ex, sq_bind, sq_ite, q_exit_rt, q_exit_bk, q_exit_ct, q_exit_ex, exit_bind, exit_ite, q_outD_rt, q_outD_nx, q_outD_ex, outD_bind, outD_ite, q_outL_rt, q_outL_ex, outL_bind, outL_ite, q_outDO_rt, q_outDO_nx, q_outDO_ex, outDO_bind, outDO_ite, q_outLO_rt, q_outLO_ex, outLO_bind, outLO_ite, q_un2_t, q_un3_t, borR_ok, addD_i, subD_i, negD_i, ltD_i, leD_i, gtD_i, geD_i, max2_i, min2_i, isM_in, isM_nn, isM_tn, isM_ln, noM_in, noM_nn, noM_tn, noM_ln, isM_bb, blM_b, yesM_d, ixO_i, lnD_l, lnD_t, iterM_l, iterM_t, tupD_l, tupD_t, lstL_l, lstL_t, revL_l, slD_l, slD_t, slL_l, sumD_l, sumD_t, sumD_b, maxK_l, maxK_t, srtL_l, srtRL_l, srtR2_l, allD_l, anyD_l, zipM_l, zipM_t, ixD_l0, ixD_lm0, ixD_tm0, ixD_t0, ixD_l1, ixD_t1, eqD_i, eqD_b, neD_b, stepL_l, neD_i, inD_i, niD_i, isiD_i, isiD_l, isiD_t, noL_s, noL_n, noLs_i, noL_ti, borB_ok, bor_i, bor_b, noL_i, noL_b, Bool.not_true, Bool.not_false, Bool.false_eq_true, if_true, if_false, List.length_map, un2_P, augD_i])
      simp only [h, decide_false, Bool.false_eq_true, if_false]
      unfold cellAt
      rw [if_neg h]
  unfold m__law_cell
  rw [key]
  have p1 : powD (.int 10) (.int 18) = .ok (.int ((10 : Int) ^ (18 : Int).toNat)) := powD_i _ _ (by decide)
  have p2 : powD (.int 10) (.int 60) = .ok (.int ((10 : Int) ^ (60 : Int).toNat)) := powD_i _ _ (by decide)
  have p3 : mulD (.int ((10 : Int) ^ (60 : Int).toNat)) (.int ((10 : Int) ^ (60 : Int).toNat)) = .ok (.int ((10 : Int) ^ (60 : Int).toNat * (10 : Int) ^ (60 : Int).toNat)) := by
    exact mulD_big (by decide +kernel)
  have p4 : mulD (.int ((10 : Int) ^ (60 : Int).toNat * (10 : Int) ^ (60 : Int).toNat)) (.int ((10 : Int) ^ (60 : Int).toNat)) = .ok (.int ((10 : Int) ^ (60 : Int).toNat * (10 : Int) ^ (60 : Int).toNat * (10 : Int) ^ (60 : Int).toNat)) := by
    exact mulD_big (by decide +kernel)
  have p5 : mulD (.int ((10 : Int) ^ (60 : Int).toNat * (10 : Int) ^ (60 : Int).toNat * (10 : Int) ^ (60 : Int).toNat)) (.int ((10 : Int) ^ (60 : Int).toNat)) = .ok (.int ((10 : Int) ^ (60 : Int).toNat * (10 : Int) ^ (60 : Int).toNat * (10 : Int) ^ (60 : Int).toNat * (10 : Int) ^ (60 : Int).toNat)) := by
    exact mulD_big (by decide +kernel)
  simp only [p1, p2, R.ok_bind, p3, p4, p5, geD_i, subD_i]
  unfold cellV
  by_cases h : (10 : Int) ^ (18 : Int).toNat ≤ cellAt ns k
  · rw [if_pos h, if_pos (by simpa using h), modD_i _ _ (by decide +kernel)]
    rfl
  · rw [if_neg h, if_neg (by simpa using h), rg1_i (by decide)]
    simp only [R.ok_bind]
    rw [forM_at (L := Empty) (fun q : Int => PyData.int q) (fun f j => f * 2147483579 + mixV (cellAt ns k) (7 * k + 100 * j + j * j)) (fun _ => True) 0 (by rfl) trivial (fun x hx s _ => ⟨by
      have hx := mem_rgI.mp hx
      rw [mulD_i _ _ (.inr (by decide)), mulD_i _ _ (.inl (by decide)), mulD_i _ _ (.inl (by decide)), mulD_i x x (.inl (by simp at hx; omega))]
      simp only [R.ok_bind, addD_i, q__law_mixed], trivial⟩)]
    rfl
theorem q__law_take (c : Int) {n : Int} (h : 0 < n ∧ n < 1073741824) : m__law_take [.int c] (.int n) = .ok (.int (c % n), [.int (c / n)]) := by
  unfold m__law_take
  (try simp only [q_ok_bind, q_ex_bind, q_bad_bind, q_ok_nox, q_sq_nx, q_sq_rt, q_sq_bk, q_sq_ct, q_sq_ex, sq_bind, sq_ite, q_exit_rt, q_exit_bk, q_exit_ct, q_exit_ex, exit_bind, exit_ite, q_outD_rt, q_outD_nx, q_outD_ex, outD_bind, outD_ite, q_outL_rt, q_outL_ex, outL_bind, outL_ite, q_outDO_rt, q_outDO_nx, q_outDO_ex, outDO_bind, outDO_ite, q_outLO_rt, q_outLO_ex, outLO_bind, outLO_ite, q_un2_t, q_un3_t, borR_ok, addD_i, subD_i, negD_i, ltD_i, leD_i, gtD_i, geD_i, max2_i, min2_i, isM_in, isM_nn, isM_tn, isM_ln, noM_in, noM_nn, noM_tn, noM_ln, isM_bb, blM_b, yesM_d, ixO_i, lnD_l, lnD_t, iterM_l, iterM_t, tupD_l, tupD_t, lstL_l, lstL_t, revL_l, slD_l, slD_t, slL_l, sumD_l, sumD_t, sumD_b, maxK_l, maxK_t, srtL_l, srtRL_l, srtR2_l, allD_l, anyD_l, zipM_l, zipM_t, ixD_l0, ixD_lm0, ixD_tm0, ixD_t0, ixD_l1, ixD_t1, eqD_i, eqD_b, neD_b, stepL_l, neD_i, inD_i, niD_i, isiD_i, isiD_l, isiD_t, noL_s, noL_n, noLs_i, noL_ti, borB_ok, bor_i, bor_b, noL_i, noL_b, Bool.not_true, Bool.not_false, Bool.false_eq_true, if_true, if_false, List.length_map, un2_P, augD_i])
  rw [modD_i _ _ h.1, fdivD_i _ _ h]
  (try simp only [q_ok_bind, q_ex_bind, q_bad_bind, q_ok_nox, q_sq_nx, q_sq_rt, q_sq_bk, q_sq_ct, q_sq_ex, sq_bind, sq_ite, q_exit_rt, q_exit_bk, q_exit_ct, q_exit_ex, exit_bind, exit_ite, q_outD_rt, q_outD_nx, q_outD_ex, outD_bind, outD_ite, q_outL_rt, q_outL_ex, outL_bind, outL_ite, q_outDO_rt, q_outDO_nx, q_outDO_ex, outDO_bind, outDO_ite, q_outLO_rt, q_outLO_ex, outLO_bind, outLO_ite, q_un2_t, q_un3_t, borR_ok, addD_i, subD_i, negD_i, ltD_i, leD_i, gtD_i, geD_i, max2_i, min2_i, isM_in, isM_nn, isM_tn, isM_ln, noM_in, noM_nn, noM_tn, noM_ln, isM_bb, blM_b, yesM_d, ixO_i, lnD_l, lnD_t, iterM_l, iterM_t, tupD_l, tupD_t, lstL_l, lstL_t, revL_l, slD_l, slD_t, slL_l, sumD_l, sumD_t, sumD_b, maxK_l, maxK_t, srtL_l, srtRL_l, srtR2_l, allD_l, anyD_l, zipM_l, zipM_t, ixD_l0, ixD_lm0, ixD_tm0, ixD_t0, ixD_l1, ixD_t1, eqD_i, eqD_b, neD_b, stepL_l, neD_i, inD_i, niD_i, isiD_i, isiD_l, isiD_t, noL_s, noL_n, noLs_i, noL_ti, borB_ok, bor_i, bor_b, noL_i, noL_b, Bool.not_true, Bool.not_false, Bool.false_eq_true, if_true, if_false, List.length_map, un2_P, augD_i])
  rw [setM0]
  (try simp only [q_ok_bind, q_ex_bind, q_bad_bind, q_ok_nox, q_sq_nx, q_sq_rt, q_sq_bk, q_sq_ct, q_sq_ex, sq_bind, sq_ite, q_exit_rt, q_exit_bk, q_exit_ct, q_exit_ex, exit_bind, exit_ite, q_outD_rt, q_outD_nx, q_outD_ex, outD_bind, outD_ite, q_outL_rt, q_outL_ex, outL_bind, outL_ite, q_outDO_rt, q_outDO_nx, q_outDO_ex, outDO_bind, outDO_ite, q_outLO_rt, q_outLO_ex, outLO_bind, outLO_ite, q_un2_t, q_un3_t, borR_ok, addD_i, subD_i, negD_i, ltD_i, leD_i, gtD_i, geD_i, max2_i, min2_i, isM_in, isM_nn, isM_tn, isM_ln, noM_in, noM_nn, noM_tn, noM_ln, isM_bb, blM_b, yesM_d, ixO_i, lnD_l, lnD_t, iterM_l, iterM_t, tupD_l, tupD_t, lstL_l, lstL_t, revL_l, slD_l, slD_t, slL_l, sumD_l, sumD_t, sumD_b, maxK_l, maxK_t, srtL_l, srtRL_l, srtR2_l, allD_l, anyD_l, zipM_l, zipM_t, ixD_l0, ixD_lm0, ixD_tm0, ixD_t0, ixD_l1, ixD_t1, eqD_i, eqD_b, neD_b, stepL_l, neD_i, inD_i, niD_i, isiD_i, isiD_l, isiD_t, noL_s, noL_n, noLs_i, noL_ti, borB_ok, bor_i, bor_b, noL_i, noL_b, Bool.not_true, Bool.not_false, Bool.false_eq_true, if_true, if_false, List.length_map, un2_P, augD_i])
/-! ### closed calls, checked by the kernel -/
def isEx {α : Type} (m : R α) (n : Str) : Bool := match m with
  | .ex e => decide (e.cls = n)
  | _ => false
theorem of_isEx {α : Type} {m : R α} {n : Str} (h : isEx m n = true) : ∃ fs, m = .ex ⟨n, fs⟩ := by
  unfold isEx at h
  split at h
  · rename_i e
    obtain ⟨c, fs⟩ := e
    exact ⟨fs, by rw [show c = n from of_decide_eq_true h]⟩
  · cases h
def isEx0 {α : Type} (m : R α) (n : Str) : Bool := match m with
  | .ex e => decide (e.cls = n) && e.fs.isEmpty
  | _ => false
theorem of_isEx0 {α : Type} {m : R α} {n : Str} (h : isEx0 m n = true) : m = .ex ⟨n, []⟩ := by
  unfold isEx0 at h
  split at h
  · rename_i e
    obtain ⟨c, fs⟩ := e
    rw [Bool.and_eq_true] at h
    have h1 : c = n := of_decide_eq_true h.1
    have h2 : fs = [] := List.isEmpty_iff.mp h.2
    rw [h1, h2]
  · cases h
mutual
def sameD : D → D → Bool
  | .none, .none => true
  | .bool a, .bool b => decide (a = b)
  | .int a, .int b => decide (a = b)
  | .str a, .str b => decide (a = b)
  | .list a, .list b => sameA a b
  | .tuple a, .tuple b => sameA a b
  | _, _ => false
def sameA : List D → List D → Bool
  | [], [] => true
  | x :: xs, y :: ys => sameD x y && sameA xs ys
  | _, _ => false
end
mutual
theorem of_sameD : ∀ {a b : D}, sameD a b = true → a = b
  | .none, b, h => by cases b <;> simp [sameD] at h; rfl
  | .bool _, b, h => by cases b <;> simp [sameD] at h; rw [h]
  | .int _, b, h => by cases b <;> simp [sameD] at h; rw [h]
  | .str _, b, h => by cases b <;> simp [sameD] at h; rw [h]
  | .list x, b, h => by
    cases b <;> simp [sameD] at h
    rw [of_sameA h]
  | .tuple x, b, h => by
    cases b <;> simp [sameD] at h
    rw [of_sameA h]
  | .dict _, b, h => by cases b <;> simp [sameD] at h
theorem of_sameA : ∀ {a b : List D}, sameA a b = true → a = b
  | [], b, h => by cases b <;> simp [sameA] at h; rfl
  | x :: xs, b, h => by
    cases b with
    | nil => simp [sameA] at h
    | cons y ys =>
      rw [sameA, Bool.and_eq_true] at h
      rw [of_sameD h.1, of_sameA h.2]
end
def chk (m : R D) (d : D) : Bool := match m with
  | .ok x => sameD x d
  | _ => false
theorem of_chk {m : R D} {d : D} (h : chk m d = true) : m = .ok d := by
  unfold chk at h
  split at h
  · rw [of_sameD h]
  · cases h
def chkL (m : R (List D)) (d : List D) : Bool := match m with
  | .ok x => sameA x d
  | _ => false
theorem of_chkL {m : R (List D)} {d : List D} (h : chkL m d = true) : m = .ok d := by
  unfold chkL at h
  split at h
  · rw [of_sameA h]
  · cases h
/-! ### the lots that a lot covers, told by their beginnings -/
theorem sum_nn : ∀ {l : List Int}, (∀ x ∈ l, 0 ≤ x) → 0 ≤ l.sum
  | [], _ => by simp
  | x :: l, h => by
    have := sum_nn (l := l) fun y hy => h y (List.mem_cons_of_mem _ hy)
    have := h x List.mem_cons_self
    rw [List.sum_cons]; omega
theorem rgI_add (lo : Int) : ∀ a b : Nat, rgI lo (a + b) = rgI lo a ++ rgI (lo + a) b
  | 0, b => by rw [Nat.zero_add]; show rgI lo b = [] ++ rgI (lo + (0 : Nat)) b; rw [List.nil_append]; congr 1; omega
  | a + 1, b => by
    rw [show a + 1 + b = (a + b) + 1 by omega]
    show lo :: rgI (lo + 1) (a + b) = lo :: rgI (lo + 1) a ++ rgI (lo + (a + 1 : Nat)) b
    rw [rgI_add (lo + 1) a b, List.cons_append]
    congr 3; omega
def ntW (T : List Int) (p : Nat) (last tot : Int) : Nat := (min last ((T.take (p + 1)).sum - tot)).toNat
def covT (T : List Int) : Nat → Nat → Int → Int → List (List Int)
  | 0, _, _, _ => [[]]
  | n + 1, p, last, tot => [] :: (rgI 1 (ntW T p last tot)).flatMap fun v => (covT T n (p + 1) v (tot + v)).map (v :: ·)
def allL : Nat → Int → Int → List (List Int)
  | 0, _, _ => [[]]
  | n + 1, tot, most => [] :: (rgI 1 (min tot most).toNat).flatMap fun v => (allL n (tot - v) v).map (v :: ·)
def okT (T : List Int) : Nat → Int → Int → List Int → Bool
  | _, _, _, [] => true
  | p, last, tot, v :: y => decide (v ≤ last) && decide (v ≤ (T.take (p + 1)).sum - tot) && okT T (p + 1) v (tot + v) y
theorem take_le_sum : ∀ {T : List Int} (_ : ∀ x ∈ T, 1 ≤ x) (k : Nat), (T.take k).sum ≤ T.sum
  | [], _, k => by simp
  | x :: T, h, 0 => by
    have := sum_nn (l := x :: T) fun y hy => by have := h y hy; omega
    simpa using this
  | x :: T, h, k + 1 => by
    have := take_le_sum (T := T) (fun y hy => h y (List.mem_cons_of_mem _ hy)) k
    rw [List.take_succ_cons, List.sum_cons, List.sum_cons]; omega
theorem flatMap_nil_of {α β : Type} {f : α → List β} : ∀ {l : List α}, (∀ x ∈ l, f x = []) → l.flatMap f = []
  | [], _ => rfl
  | x :: l, h => by rw [List.flatMap_cons, h x List.mem_cons_self, flatMap_nil_of fun y hy => h y (List.mem_cons_of_mem _ hy)]; rfl
theorem flatMap_eq_of {α β : Type} {f g : α → List β} : ∀ {l : List α}, (∀ x ∈ l, f x = g x) → l.flatMap f = l.flatMap g
  | [], _ => rfl
  | x :: l, h => by rw [List.flatMap_cons, List.flatMap_cons, h x List.mem_cons_self, flatMap_eq_of fun y hy => h y (List.mem_cons_of_mem _ hy)]
theorem cov_all {T : List Int} (hT : ∀ x ∈ T, 1 ≤ x) : ∀ (n p : Nat) (last tot : Int), (allL n (T.sum - tot) last).filter (okT T p last tot) = covT T n p last tot
  | 0, _, _, _ => rfl
  | n + 1, p, last, tot => by
    have hk := take_le_sum hT (p + 1)
    have e : (min (T.sum - tot) last).toNat = ntW T p last tot + ((min (T.sum - tot) last).toNat - ntW T p last tot) := by unfold ntW; omega
    show List.filter (okT T p last tot) ([] :: (rgI 1 (min (T.sum - tot) last).toNat).flatMap fun v => (allL n (T.sum - tot - v) v).map (v :: ·)) = [] :: (rgI 1 (ntW T p last tot)).flatMap fun v => (covT T n (p + 1) v (tot + v)).map (v :: ·)
    rw [List.filter_cons_of_pos rfl, List.filter_flatMap, e, rgI_add, List.flatMap_append]
    rw [flatMap_nil_of (l := rgI (1 + (ntW T p last tot : Nat)) _) fun v hv => ?_, List.append_nil]
    · congr 1
      refine flatMap_eq_of fun v hv => ?_
      have hv := mem_rgI.mp hv
      have h1 : v ≤ last ∧ v ≤ (T.take (p + 1)).sum - tot := by unfold ntW at hv; omega
      rw [List.filter_map, show T.sum - tot - v = T.sum - (tot + v) by omega, ← cov_all hT n (p + 1) v (tot + v)]
      congr 1
      refine List.filter_congr fun y _ => ?_
      show (decide (v ≤ last) && decide (v ≤ (T.take (p + 1)).sum - tot) && okT T (p + 1) v (tot + v) y) = _
      rw [decide_eq_true h1.1, decide_eq_true h1.2]; rfl
    · have hv := mem_rgI.mp hv
      rw [List.filter_eq_nil_iff]
      intro y hy
      obtain ⟨z, _, rfl⟩ := List.mem_map.mp hy
      show ¬ (decide (v ≤ last) && decide (v ≤ (T.take (p + 1)).sum - tot) && okT T (p + 1) v (tot + v) z) = true
      have h1 : ¬ (v ≤ last ∧ v ≤ (T.take (p + 1)).sum - tot) := by
        intro ⟨a, b⟩
        have : v < 1 + (ntW T p last tot : Int) := by unfold ntW; omega
        omega
      intro h
      simp only [Bool.and_eq_true, decide_eq_true_eq] at h
      exact h1 h.1
structure AllOk (tot most : Int) (l : List Int) : Prop where
  pos : ∀ x ∈ l, 1 ≤ x
  desc : Desc l
  sum : l.sum ≤ tot
  le : ∀ x ∈ l, x ≤ most
theorem all_ok : ∀ {n : Nat} {tot most : Int} {l : List Int}, 0 ≤ tot → l ∈ allL n tot most → AllOk tot most l
  | 0, tot, most, l, h0, h => by
    rw [List.mem_singleton.mp h]; exact ⟨by simp, by simp [Desc], by simpa using h0, by simp⟩
  | n + 1, tot, most, l, h0, h => by
    rcases List.mem_cons.mp h with rfl | h
    · exact ⟨by simp, by simp [Desc], by simpa using h0, by simp⟩
    · obtain ⟨v, hv, h⟩ := List.mem_flatMap.mp h
      obtain ⟨y, hy, rfl⟩ := List.mem_map.mp h
      have hv := mem_rgI.mp hv
      have k := all_ok (n := n) (by omega) hy
      refine ⟨fun x hx => ?_, .cons (fun x hx => k.le x hx) k.desc, by have := k.sum; rw [List.sum_cons]; omega, fun x hx => ?_⟩
      · rcases List.mem_cons.mp hx with rfl | hx
        · omega
        · exact k.pos x hx
      · rcases List.mem_cons.mp hx with rfl | hx
        · omega
        · have := k.le x hx; omega
/-- what is told by prefixes -/
theorem okT_iff {T : List Int} : ∀ {y : List Int} {p : Nat} {last tot : Int}, Desc y → (∀ x ∈ y, x ≤ last) → (okT T p last tot y = true ↔ ∀ k : Nat, k < y.length → tot + (y.take (k + 1)).sum ≤ (T.take (p + k + 1)).sum)
  | [], p, last, tot, _, _ => by simp [okT]
  | v :: y, p, last, tot, hd, hl => by
    have ih := okT_iff (T := T) (y := y) (p := p + 1) (last := v) (tot := tot + v) (desc_tail hd) (fun x hx => desc_head hd hx)
    show (decide (v ≤ last) && decide (v ≤ (T.take (p + 1)).sum - tot) && okT T (p + 1) v (tot + v) y) = true ↔ _
    rw [decide_eq_true (hl v List.mem_cons_self), Bool.true_and, Bool.and_eq_true, decide_eq_true_iff, ih]
    constructor
    · rintro ⟨h1, h2⟩ k hk
      cases k with
      | zero => simp; omega
      | succ k =>
        have := h2 k (by simpa using hk)
        rw [show p + (k + 1) + 1 = p + 1 + k + 1 by omega, List.take_succ_cons, List.sum_cons]; omega
    · intro h
      refine ⟨by have := h 0 (by simp); simp at this; omega, fun k hk => ?_⟩
      have := h (k + 1) (by simpa using hk)
      rw [show p + (k + 1) + 1 = p + 1 + k + 1 by omega, List.take_succ_cons, List.sum_cons] at this; omega
theorem okT_cov {T y : List Int} (hT : Desc T) (pT : ∀ x ∈ T, 1 ≤ x) (hd : Desc y) (hp : ∀ x ∈ y, 1 ≤ x) (hl : ∀ x ∈ y, x ≤ T.sum) : okT T 0 T.sum 0 y = true ↔ ∀ n, 1 ≤ n → capOf y n ≤ capOf T n := by
  rw [okT_iff hd hl]
  constructor
  · intro h n hn
    refine caps_of_tops hd (fun k hk => ?_) hn
    cases k with
    | zero => simp
    | succ k => have := h k hk; rw [show 0 + k + 1 = k + 1 by omega] at this; omega
  · intro h k hk
    have := tops_of_caps hT pT h (k + 1)
    rw [show 0 + k + 1 = k + 1 by omega]; omega
/-! ### their number -/
def cntN (T : List Int) : Nat → Nat → Int → Int → Int
  | 0, _, _, _ => 1
  | n + 1, p, last, tot => 1 + ((rgI 1 (ntW T p last tot)).map fun v => cntN T n (p + 1) v (tot + v)).sum
theorem sum_map_eq {α : Type} {f g : α → Int} : ∀ {l : List α}, (∀ x ∈ l, f x = g x) → (l.map f).sum = (l.map g).sum
  | [], _ => rfl
  | x :: l, h => by rw [List.map_cons, List.map_cons, List.sum_cons, List.sum_cons, h x List.mem_cons_self, sum_map_eq fun y hy => h y (List.mem_cons_of_mem _ hy)]
theorem sum_map_le {α : Type} {f g : α → Int} : ∀ {l : List α}, (∀ x ∈ l, f x ≤ g x) → (l.map f).sum ≤ (l.map g).sum
  | [], _ => by simp
  | x :: l, h => by
    rw [List.map_cons, List.map_cons, List.sum_cons, List.sum_cons]
    have := h x List.mem_cons_self
    have := sum_map_le (l := l) fun y hy => h y (List.mem_cons_of_mem _ hy)
    omega
theorem len_flatMap {α β : Type} (f : α → List β) : ∀ l : List α, ((l.flatMap f).length : Int) = (l.map fun x => ((f x).length : Int)).sum
  | [] => rfl
  | x :: l => by rw [List.flatMap_cons, List.length_append, List.map_cons, List.sum_cons, ← len_flatMap f l]; omega
theorem cov_len (T : List Int) : ∀ (n p : Nat) (last tot : Int), ((covT T n p last tot).length : Int) = cntN T n p last tot
  | 0, _, _, _ => rfl
  | n + 1, p, last, tot => by
    show (([] :: (rgI 1 (ntW T p last tot)).flatMap fun v => (covT T n (p + 1) v (tot + v)).map (v :: ·) : List (List Int)).length : Int) = 1 + ((rgI 1 (ntW T p last tot)).map fun v => cntN T n (p + 1) v (tot + v)).sum
    rw [List.length_cons, show (((rgI 1 (ntW T p last tot)).flatMap fun v => (covT T n (p + 1) v (tot + v)).map (v :: ·)).length + 1 : Nat) = ((((rgI 1 (ntW T p last tot)).flatMap fun v => (covT T n (p + 1) v (tot + v)).map (v :: ·)).length : Int) + 1) by omega, len_flatMap]
    rw [sum_map_eq (g := fun v => cntN T n (p + 1) v (tot + v)) fun v _ => by rw [List.length_map, cov_len T n (p + 1) v (tot + v)]]
    omega
theorem cnt_fuel {T : List Int} (hT : ∀ x ∈ T, 1 ≤ x) : ∀ (n m p : Nat) (last tot : Int), T.sum - tot < n → T.sum - tot < m → tot ≤ T.sum → cntN T n p last tot = cntN T m p last tot
  | 0, m, p, last, tot, h, _, h3 => by omega
  | n + 1, 0, p, last, tot, _, h, h3 => by omega
  | n + 1, m + 1, p, last, tot, h1, h2, h3 => by
    have hk := take_le_sum hT (p + 1)
    show 1 + _ = 1 + _
    congr 1
    refine sum_map_eq fun v hv => ?_
    have hv := mem_rgI.mp hv
    have : v ≤ (T.take (p + 1)).sum - tot := by unfold ntW at hv; omega
    exact cnt_fuel hT n m (p + 1) v (tot + v) (by omega) (by omega) (by omega)
def cntV (T : List Int) (p : Nat) (last tot : Int) : Int := cntN T ((T.sum - tot).toNat + 1) p last tot
theorem cntV_is {T : List Int} (hT : ∀ x ∈ T, 1 ≤ x) {n p : Nat} {last tot : Int} (h : T.sum - tot < n) (h3 : tot ≤ T.sum) : cntN T n p last tot = cntV T p last tot := cnt_fuel hT _ _ _ _ _ h (by omega) h3
theorem cntV_step {T : List Int} (hT : ∀ x ∈ T, 1 ≤ x) {p : Nat} {last tot : Int} (h3 : tot ≤ T.sum) : cntV T p last tot = 1 + ((rgI 1 (ntW T p last tot)).map fun v => cntV T (p + 1) v (tot + v)).sum := by
  have hk := take_le_sum hT (p + 1)
  unfold cntV
  show 1 + _ = 1 + _
  congr 1
  refine sum_map_eq fun v hv => ?_
  have hv := mem_rgI.mp hv
  have : v ≤ (T.take (p + 1)).sum - tot := by unfold ntW at hv; omega
  exact cnt_fuel hT _ _ _ _ _ (by omega) (by omega) (by omega)
theorem cntN_pos (T : List Int) : ∀ (n p : Nat) (last tot : Int), 1 ≤ cntN T n p last tot
  | 0, _, _, _ => by show (1 : Int) ≤ 1; omega
  | n + 1, p, last, tot => by
    show (1 : Int) ≤ 1 + _
    have : 0 ≤ ((rgI 1 (ntW T p last tot)).map fun v => cntN T n (p + 1) v (tot + v)).sum := sum_nn fun x hx => by
      obtain ⟨v, _, rfl⟩ := List.mem_map.mp hx
      have := cntN_pos T n (p + 1) v (tot + v); omega
    omega
theorem cntV_pos (T : List Int) (p : Nat) (last tot : Int) : 1 ≤ cntV T p last tot := cntN_pos T _ _ _ _
/-- the numbers when only the sum binds -/
def parN : Nat → Nat → Nat → Nat
  | 0, _, _ => 1
  | _ + 1, _, 0 => 1
  | n + 1, left, m + 1 => parN n left m + if m + 1 ≤ left then parN n (left - (m + 1)) (m + 1) else 0
/-! ### the mirrors -/
theorem q_next_tools {T : List Int} (hT : Lot T) {p : Nat} {last tot : Int} (hp : p ≤ 1000) (hl : 0 ≤ last ∧ last ≤ 200) (ht : 0 ≤ tot ∧ tot ≤ 200) : m_next_tools (.tuple (T.map .int)) (.int (p : Int)) (.int last) (.int tot) = .ok ((rgI 1 (ntW T p last tot)).map .int) := by
  unfold m_next_tools
  have h1 := take_le_sum hT.pos (p + 1)
  have h2 := hT.sum
  have h3 : 0 ≤ (T.take (p + 1)).sum := sum_nn fun x hx => by have := hT.pos x (List.mem_of_mem_take hx); omega
  (try simp only [q_ok_bind, q_ex_bind, q_bad_bind, q_ok_nox, q_sq_nx, q_sq_rt, q_sq_bk, q_sq_ct, q_sq_ex, sq_bind, sq_ite, q_exit_rt, q_exit_bk, q_exit_ct, q_exit_ex, exit_bind, exit_ite, q_outD_rt, q_outD_nx, q_outD_ex, outD_bind, outD_ite, q_outL_rt, q_outL_ex, outL_bind, outL_ite, q_outDO_rt, q_outDO_nx, q_outDO_ex, outDO_bind, outDO_ite, q_outLO_rt, q_outLO_ex, outLO_bind, outLO_ite, q_un2_t, q_un3_t, borR_ok, addD_i, subD_i, negD_i, ltD_i, leD_i, gtD_i, geD_i, max2_i, min2_i, isM_in, isM_nn, isM_tn, isM_ln, noM_in, noM_nn, noM_tn, noM_ln, isM_bb, blM_b, yesM_d, ixO_i, lnD_l, lnD_t, iterM_l, iterM_t, tupD_l, tupD_t, lstL_l, lstL_t, revL_l, slD_l, slD_t, slL_l, sumD_l, sumD_t, sumD_b, maxK_l, maxK_t, srtL_l, srtRL_l, srtR2_l, allD_l, anyD_l, zipM_l, zipM_t, ixD_l0, ixD_lm0, ixD_tm0, ixD_t0, ixD_l1, ixD_t1, eqD_i, eqD_b, neD_b, stepL_l, neD_i, inD_i, niD_i, isiD_i, isiD_l, isiD_t, noL_s, noL_n, noLs_i, noL_ti, borB_ok, bor_i, bor_b, noL_i, noL_b, Bool.not_true, Bool.not_false, Bool.false_eq_true, if_true, if_false, List.length_map, un2_P, augD_i])
  rw [cut_to (by omega), show (((p : Int) + 1).toNat) = p + 1 by omega]
  (try simp only [q_ok_bind, q_ex_bind, q_bad_bind, q_ok_nox, q_sq_nx, q_sq_rt, q_sq_bk, q_sq_ct, q_sq_ex, sq_bind, sq_ite, q_exit_rt, q_exit_bk, q_exit_ct, q_exit_ex, exit_bind, exit_ite, q_outD_rt, q_outD_nx, q_outD_ex, outD_bind, outD_ite, q_outL_rt, q_outL_ex, outL_bind, outL_ite, q_outDO_rt, q_outDO_nx, q_outDO_ex, outDO_bind, outDO_ite, q_outLO_rt, q_outLO_ex, outLO_bind, outLO_ite, q_un2_t, q_un3_t, borR_ok, addD_i, subD_i, negD_i, ltD_i, leD_i, gtD_i, geD_i, max2_i, min2_i, isM_in, isM_nn, isM_tn, isM_ln, noM_in, noM_nn, noM_tn, noM_ln, isM_bb, blM_b, yesM_d, ixO_i, lnD_l, lnD_t, iterM_l, iterM_t, tupD_l, tupD_t, lstL_l, lstL_t, revL_l, slD_l, slD_t, slL_l, sumD_l, sumD_t, sumD_b, maxK_l, maxK_t, srtL_l, srtRL_l, srtR2_l, allD_l, anyD_l, zipM_l, zipM_t, ixD_l0, ixD_lm0, ixD_tm0, ixD_t0, ixD_l1, ixD_t1, eqD_i, eqD_b, neD_b, stepL_l, neD_i, inD_i, niD_i, isiD_i, isiD_l, isiD_t, noL_s, noL_n, noLs_i, noL_ti, borB_ok, bor_i, bor_b, noL_i, noL_b, Bool.not_true, Bool.not_false, Bool.false_eq_true, if_true, if_false, List.length_map, un2_P, augD_i])
  rw [lrg2_i ⟨by omega, by omega, by omega, by omega⟩]
  (try simp only [q_ok_bind, q_ex_bind, q_bad_bind, q_ok_nox, q_sq_nx, q_sq_rt, q_sq_bk, q_sq_ct, q_sq_ex, sq_bind, sq_ite, q_exit_rt, q_exit_bk, q_exit_ct, q_exit_ex, exit_bind, exit_ite, q_outD_rt, q_outD_nx, q_outD_ex, outD_bind, outD_ite, q_outL_rt, q_outL_ex, outL_bind, outL_ite, q_outDO_rt, q_outDO_nx, q_outDO_ex, outDO_bind, outDO_ite, q_outLO_rt, q_outLO_ex, outLO_bind, outLO_ite, q_un2_t, q_un3_t, borR_ok, addD_i, subD_i, negD_i, ltD_i, leD_i, gtD_i, geD_i, max2_i, min2_i, isM_in, isM_nn, isM_tn, isM_ln, noM_in, noM_nn, noM_tn, noM_ln, isM_bb, blM_b, yesM_d, ixO_i, lnD_l, lnD_t, iterM_l, iterM_t, tupD_l, tupD_t, lstL_l, lstL_t, revL_l, slD_l, slD_t, slL_l, sumD_l, sumD_t, sumD_b, maxK_l, maxK_t, srtL_l, srtRL_l, srtR2_l, allD_l, anyD_l, zipM_l, zipM_t, ixD_l0, ixD_lm0, ixD_tm0, ixD_t0, ixD_l1, ixD_t1, eqD_i, eqD_b, neD_b, stepL_l, neD_i, inD_i, niD_i, isiD_i, isiD_l, isiD_t, noL_s, noL_n, noLs_i, noL_ti, borB_ok, bor_i, bor_b, noL_i, noL_b, Bool.not_true, Bool.not_false, Bool.false_eq_true, if_true, if_false, List.length_map, un2_P, augD_i])
  rw [show (min last ((T.take (p + 1)).sum - tot) + 1 - 1).toNat = ntW T p last tot by unfold ntW; omega]
def lastF (T f : List Int) : Int := match f.getLast? with
  | none => T.sum
  | some v => v
theorem lastF_app (T f : List Int) (v : Int) : lastF T (f ++ [v]) = v := by unfold lastF; rw [List.getLast?_concat]
theorem lastF_is (T f : List Int) : ((gtD (.int (f.length : Int)) (.int 0)).bind fun t4 => (if t4 = true then (negD (.int 1)).bind fun t5 => (ixD (.tuple (f.map .int)) t5).bind fun t6 => R.ok t6 else (sumD (.tuple (T.map .int))).bind fun t7 => R.ok t7)) = .ok (.int (lastF T f)) := by
  rcases List.eq_nil_or_concat f with rfl | ⟨g, v, rfl⟩
  · simp [lastF]
  · rw [List.concat_eq_append, lastF_app]
    have e : ixD (.tuple ((g ++ [v]).map .int)) (.int (-1)) = .ok (.int v) := by
      refine ixD_t .int ?_
      have hn : L2.ixN (g ++ [v]).length (-1) = some ((g ++ [v]).length - 1) := by
        unfold L2.ixN
        simp only [show ¬ ((0 : Int) ≤ -1) from by decide, if_false]
        split
        · congr 1; rw [List.length_append, List.length_singleton]; omega
        · rename_i h; rw [List.length_append, List.length_singleton] at h; omega
      unfold atI; rw [hn]; simp
    simp only [gtD_i, R.ok_bind]
    rw [decide_eq_true (show (0 : Int) < ((g ++ [v]).length : Int) by rw [List.length_append, List.length_singleton]; omega)]
    simp only [if_true, negD_i, R.ok_bind, e]
theorem all_len : ∀ (n : Nat) (tot most : Int) (k : Nat), tot ≤ k → ((allL n tot most).length : Int) ≤ 2 ^ k
  | 0, tot, most, k, _ => by
    show (1 : Int) ≤ 2 ^ k
    have : (0 : Int) < 2 ^ k := Int.pow_pos (by decide)
    omega
  | n + 1, tot, most, k, hk => by
    have key : ∀ (m : Nat) (lo : Int), 1 ≤ lo → lo + m ≤ k + 1 → ((rgI lo m).map fun v => ((allL n (tot - v) v).length : Int)).sum ≤ 2 ^ (k + 1 - lo.toNat) - 1 := by
      intro m
      induction m with
      | zero =>
        intro lo h1 h2
        show (0 : Int) ≤ _
        have : (0 : Int) < 2 ^ (k + 1 - lo.toNat) := Int.pow_pos (by decide)
        omega
      | succ m ih =>
        intro lo h1 h2
        show ((allL n (tot - lo) lo).length : Int) + ((rgI (lo + 1) m).map fun v => ((allL n (tot - v) v).length : Int)).sum ≤ _
        have a := all_len n (tot - lo) lo (k - lo.toNat) (by omega)
        have b := ih (lo + 1) (by omega) (by omega)
        rw [show k + 1 - (lo + 1).toNat = k - lo.toNat by omega] at b
        rw [show k + 1 - lo.toNat = (k - lo.toNat) + 1 by omega, Int.pow_succ]
        omega
    show (([] :: (rgI 1 (min tot most).toNat).flatMap fun v => (allL n (tot - v) v).map (v :: ·) : List (List Int)).length : Int) ≤ _
    rw [List.length_cons, show (((rgI 1 (min tot most).toNat).flatMap fun v => (allL n (tot - v) v).map (v :: ·)).length + 1 : Nat) = ((((rgI 1 (min tot most).toNat).flatMap fun v => (allL n (tot - v) v).map (v :: ·)).length : Int) + 1) by omega, len_flatMap]
    rw [sum_map_eq (g := fun v => ((allL n (tot - v) v).length : Int)) fun v _ => by rw [List.length_map]]
    have := key (min tot most).toNat 1 (by omega) (by omega)
    rw [show k + 1 - (1 : Int).toNat = k by simp] at this
    omega
theorem cov_le_all {T : List Int} (hT : ∀ x ∈ T, 1 ≤ x) (n p : Nat) (last tot : Int) : (covT T n p last tot).length ≤ (allL n (T.sum - tot) last).length := by
  rw [← cov_all hT]; exact List.length_filter_le _ _
theorem lastF_k {β : Type} (T f : List Int) (k : D → R β) : ((gtD (.int (f.length : Int)) (.int 0)).bind fun t4 => (if t4 = true then (negD (.int 1)).bind fun t5 => (ixD (.tuple (f.map .int)) t5).bind fun t6 => R.ok t6 else (sumD (.tuple (T.map .int))).bind fun t7 => R.ok t7).bind fun t8 => k t8) = k (.int (lastF T f)) := by
  rw [← R.bind_assoc, lastF_is]; rfl
theorem foldl_flat {α β : Type} (g : α → List β) : ∀ (l : List α) (a : List β), l.foldl (fun acc v => acc ++ g v) a = a ++ l.flatMap g
  | [], a => by simp
  | x :: l, a => by rw [List.foldl_cons, foldl_flat g l, List.flatMap_cons, List.append_assoc]
theorem srtX_t {ls : List (List Int)} (h : ls.length ≤ 1000000) : srtXL (.list (ls.map (eT .int))) = .ok ((srtRows ls).map (eT .int)) := by
  have e : tupsOf (ls.map (eT .int)) = some ls := tupsOf_map ls
  unfold srtXL
  simp only [e, if_pos h]
/-! ### the number, with its memo -/
def MemoOk (T : List Int) (es : List D) : Prop := ∀ e ∈ es, ∃ (p : Nat) (last tot : Int), e = entE [(p : Int), last, tot] (.int (cntV T p last tot))
theorem memo_at {T : List Int} {es : List D} (h : MemoOk T es) {p : Nat} {last tot : Int} (ha : (es.any fun e => decide (keyE e = [(p : Int), last, tot])) = true) : ixE es (.tuple [.int (p : Int), .int last, .int tot]) = .ok (.int (cntV T p last tot)) := by
  show (match es.find? fun e => decide (keyE e = [(p : Int), last, tot]) with
    | some e => R.ok (vlE e)
    | none => .bad) = _
  cases hf : es.find? fun e => decide (keyE e = [(p : Int), last, tot]) with
  | none =>
    rw [List.find?_eq_none] at hf
    rw [List.any_eq_true] at ha
    obtain ⟨e, he, hk⟩ := ha
    exact absurd hk (hf e he)
  | some e =>
    have h1 := List.find?_some hf
    obtain ⟨p', last', tot', rfl⟩ := h e (List.mem_of_find?_eq_some hf)
    have h1 := of_decide_eq_true h1
    unfold entE at h1
    rw [keyE_ent] at h1
    have e1 : (p' : Int) = p := by injection h1
    have e2 : last' = last := by injection h1 with _ h; injection h
    have e3 : tot' = tot := by injection h1 with _ h; injection h with _ h; injection h
    have e1 : p' = p := by omega
    subst e1; subst e2; subst e3
    rfl
theorem memo_put {T : List Int} {es : List D} (h : MemoOk T es) (p : Nat) (last tot : Int) : MemoOk T (putE es [(p : Int), last, tot] (.int (cntV T p last tot))) := by
  intro e he
  unfold putE at he
  split at he
  · obtain ⟨e', he', rfl⟩ := List.mem_map.mp he
    split
    · exact ⟨_, _, _, rfl⟩
    · exact h _ he'
  · rcases List.mem_append.mp he with he | he
    · exact h _ he
    · rw [List.mem_singleton.mp he]; exact ⟨_, _, _, rfl⟩
theorem put_any (es : List D) (k : List Int) (d : D) : ((putE es k d).any fun e => decide (keyE e = k)) = true := by
  have hk : keyE (entE k d) = k := keyE_ent k d
  unfold putE
  split
  · rename_i h
    rw [List.any_eq_true] at h ⊢
    obtain ⟨e, he, h1⟩ := h
    have h1 := of_decide_eq_true h1
    refine ⟨_, List.mem_map.mpr ⟨e, he, rfl⟩, ?_⟩
    rw [if_pos h1]; exact decide_eq_true hk
  · rw [List.any_append, Bool.or_eq_true]
    right
    simp [hk]
theorem putE_len (es : List D) (k : List Int) (d : D) : (putE es k d).length ≤ es.length + 1 := by
  unfold putE
  split
  · rw [List.length_map]; omega
  · simp
theorem q_count {T : List Int} (hT : Lot T) : ∀ (n : Nat) (es : List D) (p : Nat) (last tot : Int), MemoOk T es → 0 ≤ last ∧ last ≤ 200 → 0 ≤ tot ∧ tot ≤ T.sum → (p : Int) ≤ tot → T.sum - tot < n → (es.length : Int) + cntV T p last tot ≤ 16000000 →
    ∃ es', m_count n es (.tuple (T.map .int)) (.int (p : Int)) (.int last) (.int tot) = .ok (.int (cntV T p last tot), es') ∧ MemoOk T es' ∧ (es'.length : Int) ≤ es.length + cntV T p last tot
  | 0, es, p, last, tot, _, _, _, _, h, _ => by omega
  | n + 1, es, p, last, tot, hm, hl, ht, hp, hn, hb => by
    have h200 := hT.sum
    have hc := cntV_pos T p last tot
    have hni : ninM es (.tuple [.int (p : Int), .int last, .int tot]) = .ok (!(es.any fun e => decide (keyE e = [(p : Int), last, tot]))) := rfl
    unfold m_count
    rw [hni]
    cases ha : es.any fun e => decide (keyE e = [(p : Int), last, tot]) with
    | true =>
      refine ⟨es, ?_, hm, by omega⟩
      (try simp only [q_ok_bind, q_ex_bind, q_bad_bind, q_ok_nox, q_sq_nx, q_sq_rt, q_sq_bk, q_sq_ct, q_sq_ex, sq_bind, sq_ite, q_exit_rt, q_exit_bk, q_exit_ct, q_exit_ex, exit_bind, exit_ite, q_outD_rt, q_outD_nx, q_outD_ex, outD_bind, outD_ite, q_outL_rt, q_outL_ex, outL_bind, outL_ite, q_outDO_rt, q_outDO_nx, q_outDO_ex, outDO_bind, outDO_ite, q_outLO_rt, q_outLO_ex, outLO_bind, outLO_ite, q_un2_t, q_un3_t, borR_ok, addD_i, subD_i, negD_i, ltD_i, leD_i, gtD_i, geD_i, max2_i, min2_i, isM_in, isM_nn, isM_tn, isM_ln, noM_in, noM_nn, noM_tn, noM_ln, isM_bb, blM_b, yesM_d, ixO_i, lnD_l, lnD_t, iterM_l, iterM_t, tupD_l, tupD_t, lstL_l, lstL_t, revL_l, slD_l, slD_t, slL_l, sumD_l, sumD_t, sumD_b, maxK_l, maxK_t, srtL_l, srtRL_l, srtR2_l, allD_l, anyD_l, zipM_l, zipM_t, ixD_l0, ixD_lm0, ixD_tm0, ixD_t0, ixD_l1, ixD_t1, eqD_i, eqD_b, neD_b, stepL_l, neD_i, inD_i, niD_i, isiD_i, isiD_l, isiD_t, noL_s, noL_n, noLs_i, noL_ti, borB_ok, bor_i, bor_b, noL_i, noL_b, Bool.not_true, Bool.not_false, Bool.false_eq_true, if_true, if_false, List.length_map, un2_P, augD_i])
      try simp only [Bool.not_true, Bool.false_eq_true, if_false]
      (try simp only [q_ok_bind, q_ex_bind, q_bad_bind, q_ok_nox, q_sq_nx, q_sq_rt, q_sq_bk, q_sq_ct, q_sq_ex, sq_bind, sq_ite, q_exit_rt, q_exit_bk, q_exit_ct, q_exit_ex, exit_bind, exit_ite, q_outD_rt, q_outD_nx, q_outD_ex, outD_bind, outD_ite, q_outL_rt, q_outL_ex, outL_bind, outL_ite, q_outDO_rt, q_outDO_nx, q_outDO_ex, outDO_bind, outDO_ite, q_outLO_rt, q_outLO_ex, outLO_bind, outLO_ite, q_un2_t, q_un3_t, borR_ok, addD_i, subD_i, negD_i, ltD_i, leD_i, gtD_i, geD_i, max2_i, min2_i, isM_in, isM_nn, isM_tn, isM_ln, noM_in, noM_nn, noM_tn, noM_ln, isM_bb, blM_b, yesM_d, ixO_i, lnD_l, lnD_t, iterM_l, iterM_t, tupD_l, tupD_t, lstL_l, lstL_t, revL_l, slD_l, slD_t, slL_l, sumD_l, sumD_t, sumD_b, maxK_l, maxK_t, srtL_l, srtRL_l, srtR2_l, allD_l, anyD_l, zipM_l, zipM_t, ixD_l0, ixD_lm0, ixD_tm0, ixD_t0, ixD_l1, ixD_t1, eqD_i, eqD_b, neD_b, stepL_l, neD_i, inD_i, niD_i, isiD_i, isiD_l, isiD_t, noL_s, noL_n, noLs_i, noL_ti, borB_ok, bor_i, bor_b, noL_i, noL_b, Bool.not_true, Bool.not_false, Bool.false_eq_true, if_true, if_false, List.length_map, un2_P, augD_i])
      rw [memo_at hm ha]
      (try simp only [q_ok_bind, q_ex_bind, q_bad_bind, q_ok_nox, q_sq_nx, q_sq_rt, q_sq_bk, q_sq_ct, q_sq_ex, sq_bind, sq_ite, q_exit_rt, q_exit_bk, q_exit_ct, q_exit_ex, exit_bind, exit_ite, q_outD_rt, q_outD_nx, q_outD_ex, outD_bind, outD_ite, q_outL_rt, q_outL_ex, outL_bind, outL_ite, q_outDO_rt, q_outDO_nx, q_outDO_ex, outDO_bind, outDO_ite, q_outLO_rt, q_outLO_ex, outLO_bind, outLO_ite, q_un2_t, q_un3_t, borR_ok, addD_i, subD_i, negD_i, ltD_i, leD_i, gtD_i, geD_i, max2_i, min2_i, isM_in, isM_nn, isM_tn, isM_ln, noM_in, noM_nn, noM_tn, noM_ln, isM_bb, blM_b, yesM_d, ixO_i, lnD_l, lnD_t, iterM_l, iterM_t, tupD_l, tupD_t, lstL_l, lstL_t, revL_l, slD_l, slD_t, slL_l, sumD_l, sumD_t, sumD_b, maxK_l, maxK_t, srtL_l, srtRL_l, srtR2_l, allD_l, anyD_l, zipM_l, zipM_t, ixD_l0, ixD_lm0, ixD_tm0, ixD_t0, ixD_l1, ixD_t1, eqD_i, eqD_b, neD_b, stepL_l, neD_i, inD_i, niD_i, isiD_i, isiD_l, isiD_t, noL_s, noL_n, noLs_i, noL_ti, borB_ok, bor_i, bor_b, noL_i, noL_b, Bool.not_true, Bool.not_false, Bool.false_eq_true, if_true, if_false, List.length_map, un2_P, augD_i])
    | false =>
      have hk := take_le_sum hT.pos (p + 1)
      have hst := cntV_step hT.pos (p := p) (last := last) ht.2
      obtain ⟨s', e, es2, c, rfl, i1, i2, i3, _⟩ := forM_rinv (L := Empty) (e := PyData.int) (f := fun (c7 : List D × D) x9 => (addD (.int (p : Int)) (.int 1)).bind fun t10 => (addD (.int tot) x9).bind fun t11 => ((m_count n c7.1 (.tuple (T.map .int)) t10 x9 t11).nox).bind fun q12 => (augD (fun i j => i + j) c7.2 q12.1).bind fun t13 => .ok (.nx (q12.2, t13)))
        (fun r s => ∃ es2 c, s = (es2, .int c) ∧ MemoOk T es2 ∧ c + (r.map fun v => cntV T (p + 1) v (tot + v)).sum = cntV T p last tot ∧ (es2.length : Int) + 1 + (r.map fun v => cntV T (p + 1) v (tot + v)).sum ≤ es.length + cntV T p last tot ∧ ∀ v ∈ r, 1 ≤ v ∧ v ≤ T.sum - tot ∧ v ≤ last)
        (rgI 1 (ntW T p last tot)) (es, .int 1) ⟨es, 1, rfl, hm, by omega, by omega, fun v hv => by have hv := mem_rgI.mp hv; unfold ntW at hv; omega⟩ (fun v r s hs hv => by
          obtain ⟨es2, c, rfl, i1, i2, i3, i4⟩ := hs
          rw [List.map_cons, List.sum_cons] at i2 i3
          have hv := i4 v List.mem_cons_self
          have hr : 0 ≤ (r.map fun v => cntV T (p + 1) v (tot + v)).sum := sum_nn fun x hx => by
            obtain ⟨v, _, rfl⟩ := List.mem_map.mp hx
            have := cntV_pos T (p + 1) v (tot + v); omega
          obtain ⟨es3, e3, j1, j2⟩ := q_count hT n es2 (p + 1) v (tot + v) i1 (by omega) (by omega) (by omega) (by omega) (by omega)
          refine ⟨(es3, .int (c + cntV T (p + 1) v (tot + v))), ?_, es3, _, rfl, j1, by omega, by omega, fun x hx => i4 x (List.mem_cons_of_mem _ hx)⟩
          simp only [addD_i, q_ok_bind]
          rw [show (p : Int) + 1 = ((p + 1 : Nat) : Int) by omega, e3]
          rfl)
      simp only [List.map_nil, List.sum_nil] at i2 i3
      have hcv : c = cntV T p last tot := by omega
      subst hcv
      have hl2 : es2.length ≤ 16000000 := by omega
      have hpl := putE_len es2 [(p : Int), last, tot] (.int (cntV T p last tot))
      refine ⟨putE es2 [(p : Int), last, tot] (.int (cntV T p last tot)), ?_, memo_put i1 p last tot, by omega⟩
      simp only [q_ok_bind, Bool.not_false, if_true]
      rw [q_next_tools hT (by omega) (by omega) (by omega)]
      simp only [q_ok_bind, iterM_l]
      rw [e]
      have hput : putM es2 (.tuple [.int (p : Int), .int last, .int tot]) (.int (cntV T p last tot)) = .ok (putE es2 [(p : Int), last, tot] (.int (cntV T p last tot))) := if_pos hl2
      (try simp only [q_ok_bind, q_ex_bind, q_bad_bind, q_ok_nox, q_sq_nx, q_sq_rt, q_sq_bk, q_sq_ct, q_sq_ex, sq_bind, sq_ite, q_exit_rt, q_exit_bk, q_exit_ct, q_exit_ex, exit_bind, exit_ite, q_outD_rt, q_outD_nx, q_outD_ex, outD_bind, outD_ite, q_outL_rt, q_outL_ex, outL_bind, outL_ite, q_outDO_rt, q_outDO_nx, q_outDO_ex, outDO_bind, outDO_ite, q_outLO_rt, q_outLO_ex, outLO_bind, outLO_ite, q_un2_t, q_un3_t, borR_ok, addD_i, subD_i, negD_i, ltD_i, leD_i, gtD_i, geD_i, max2_i, min2_i, isM_in, isM_nn, isM_tn, isM_ln, noM_in, noM_nn, noM_tn, noM_ln, isM_bb, blM_b, yesM_d, ixO_i, lnD_l, lnD_t, iterM_l, iterM_t, tupD_l, tupD_t, lstL_l, lstL_t, revL_l, slD_l, slD_t, slL_l, sumD_l, sumD_t, sumD_b, maxK_l, maxK_t, srtL_l, srtRL_l, srtR2_l, allD_l, anyD_l, zipM_l, zipM_t, ixD_l0, ixD_lm0, ixD_tm0, ixD_t0, ixD_l1, ixD_t1, eqD_i, eqD_b, neD_b, stepL_l, neD_i, inD_i, niD_i, isiD_i, isiD_l, isiD_t, noL_s, noL_n, noLs_i, noL_ti, borB_ok, bor_i, bor_b, noL_i, noL_b, Bool.not_true, Bool.not_false, Bool.false_eq_true, if_true, if_false, List.length_map, un2_P, augD_i])
      rw [hput]
      (try simp only [q_ok_bind, q_ex_bind, q_bad_bind, q_ok_nox, q_sq_nx, q_sq_rt, q_sq_bk, q_sq_ct, q_sq_ex, sq_bind, sq_ite, q_exit_rt, q_exit_bk, q_exit_ct, q_exit_ex, exit_bind, exit_ite, q_outD_rt, q_outD_nx, q_outD_ex, outD_bind, outD_ite, q_outL_rt, q_outL_ex, outL_bind, outL_ite, q_outDO_rt, q_outDO_nx, q_outDO_ex, outDO_bind, outDO_ite, q_outLO_rt, q_outLO_ex, outLO_bind, outLO_ite, q_un2_t, q_un3_t, borR_ok, addD_i, subD_i, negD_i, ltD_i, leD_i, gtD_i, geD_i, max2_i, min2_i, isM_in, isM_nn, isM_tn, isM_ln, noM_in, noM_nn, noM_tn, noM_ln, isM_bb, blM_b, yesM_d, ixO_i, lnD_l, lnD_t, iterM_l, iterM_t, tupD_l, tupD_t, lstL_l, lstL_t, revL_l, slD_l, slD_t, slL_l, sumD_l, sumD_t, sumD_b, maxK_l, maxK_t, srtL_l, srtRL_l, srtR2_l, allD_l, anyD_l, zipM_l, zipM_t, ixD_l0, ixD_lm0, ixD_tm0, ixD_t0, ixD_l1, ixD_t1, eqD_i, eqD_b, neD_b, stepL_l, neD_i, inD_i, niD_i, isiD_i, isiD_l, isiD_t, noL_s, noL_n, noLs_i, noL_ti, borB_ok, bor_i, bor_b, noL_i, noL_b, Bool.not_true, Bool.not_false, Bool.false_eq_true, if_true, if_false, List.length_map, un2_P, augD_i])
      rw [memo_at (memo_put i1 p last tot) (put_any _ _ _)]
      (try simp only [q_ok_bind, q_ex_bind, q_bad_bind, q_ok_nox, q_sq_nx, q_sq_rt, q_sq_bk, q_sq_ct, q_sq_ex, sq_bind, sq_ite, q_exit_rt, q_exit_bk, q_exit_ct, q_exit_ex, exit_bind, exit_ite, q_outD_rt, q_outD_nx, q_outD_ex, outD_bind, outD_ite, q_outL_rt, q_outL_ex, outL_bind, outL_ite, q_outDO_rt, q_outDO_nx, q_outDO_ex, outDO_bind, outDO_ite, q_outLO_rt, q_outLO_ex, outLO_bind, outLO_ite, q_un2_t, q_un3_t, borR_ok, addD_i, subD_i, negD_i, ltD_i, leD_i, gtD_i, geD_i, max2_i, min2_i, isM_in, isM_nn, isM_tn, isM_ln, noM_in, noM_nn, noM_tn, noM_ln, isM_bb, blM_b, yesM_d, ixO_i, lnD_l, lnD_t, iterM_l, iterM_t, tupD_l, tupD_t, lstL_l, lstL_t, revL_l, slD_l, slD_t, slL_l, sumD_l, sumD_t, sumD_b, maxK_l, maxK_t, srtL_l, srtRL_l, srtR2_l, allD_l, anyD_l, zipM_l, zipM_t, ixD_l0, ixD_lm0, ixD_tm0, ixD_t0, ixD_l1, ixD_t1, eqD_i, eqD_b, neD_b, stepL_l, neD_i, inD_i, niD_i, isiD_i, isiD_l, isiD_t, noL_s, noL_n, noLs_i, noL_ti, borB_ok, bor_i, bor_b, noL_i, noL_b, Bool.not_true, Bool.not_false, Bool.false_eq_true, if_true, if_false, List.length_map, un2_P, augD_i])
theorem q_check_small {T : List Int} (hT : Lot T) {m : Int} (h : T.sum ≤ m) : m_check_small (.tuple (T.map .int)) (.int m) = .ok .none := by
  unfold m_check_small
  rw [q_check_lot hT]
  (try simp only [q_ok_bind, q_ex_bind, q_bad_bind, q_ok_nox, q_sq_nx, q_sq_rt, q_sq_bk, q_sq_ct, q_sq_ex, sq_bind, sq_ite, q_exit_rt, q_exit_bk, q_exit_ct, q_exit_ex, exit_bind, exit_ite, q_outD_rt, q_outD_nx, q_outD_ex, outD_bind, outD_ite, q_outL_rt, q_outL_ex, outL_bind, outL_ite, q_outDO_rt, q_outDO_nx, q_outDO_ex, outDO_bind, outDO_ite, q_outLO_rt, q_outLO_ex, outLO_bind, outLO_ite, q_un2_t, q_un3_t, borR_ok, addD_i, subD_i, negD_i, ltD_i, leD_i, gtD_i, geD_i, max2_i, min2_i, isM_in, isM_nn, isM_tn, isM_ln, noM_in, noM_nn, noM_tn, noM_ln, isM_bb, blM_b, yesM_d, ixO_i, lnD_l, lnD_t, iterM_l, iterM_t, tupD_l, tupD_t, lstL_l, lstL_t, revL_l, slD_l, slD_t, slL_l, sumD_l, sumD_t, sumD_b, maxK_l, maxK_t, srtL_l, srtRL_l, srtR2_l, allD_l, anyD_l, zipM_l, zipM_t, ixD_l0, ixD_lm0, ixD_tm0, ixD_t0, ixD_l1, ixD_t1, eqD_i, eqD_b, neD_b, stepL_l, neD_i, inD_i, niD_i, isiD_i, isiD_l, isiD_t, noL_s, noL_n, noLs_i, noL_ti, borB_ok, bor_i, bor_b, noL_i, noL_b, Bool.not_true, Bool.not_false, Bool.false_eq_true, if_true, if_false, List.length_map, un2_P, augD_i])
  simp only [show ¬ m < T.sum by omega, decide_false, Bool.false_eq_true, if_false]
  (try simp only [q_ok_bind, q_ex_bind, q_bad_bind, q_ok_nox, q_sq_nx, q_sq_rt, q_sq_bk, q_sq_ct, q_sq_ex, sq_bind, sq_ite, q_exit_rt, q_exit_bk, q_exit_ct, q_exit_ex, exit_bind, exit_ite, q_outD_rt, q_outD_nx, q_outD_ex, outD_bind, outD_ite, q_outL_rt, q_outL_ex, outL_bind, outL_ite, q_outDO_rt, q_outDO_nx, q_outDO_ex, outDO_bind, outDO_ite, q_outLO_rt, q_outLO_ex, outLO_bind, outLO_ite, q_un2_t, q_un3_t, borR_ok, addD_i, subD_i, negD_i, ltD_i, leD_i, gtD_i, geD_i, max2_i, min2_i, isM_in, isM_nn, isM_tn, isM_ln, noM_in, noM_nn, noM_tn, noM_ln, isM_bb, blM_b, yesM_d, ixO_i, lnD_l, lnD_t, iterM_l, iterM_t, tupD_l, tupD_t, lstL_l, lstL_t, revL_l, slD_l, slD_t, slL_l, sumD_l, sumD_t, sumD_b, maxK_l, maxK_t, srtL_l, srtRL_l, srtR2_l, allD_l, anyD_l, zipM_l, zipM_t, ixD_l0, ixD_lm0, ixD_tm0, ixD_t0, ixD_l1, ixD_t1, eqD_i, eqD_b, neD_b, stepL_l, neD_i, inD_i, niD_i, isiD_i, isiD_l, isiD_t, noL_s, noL_n, noLs_i, noL_ti, borB_ok, bor_i, bor_b, noL_i, noL_b, Bool.not_true, Bool.not_false, Bool.false_eq_true, if_true, if_false, List.length_map, un2_P, augD_i])
theorem q_count_covered {T : List Int} (hT : Lot T) (h : T.sum ≤ 40) (hb : cntV T 0 T.sum 0 ≤ 16000000) : m_count_covered (.tuple (T.map .int)) = .ok (.int (cntV T 0 T.sum 0)) := by
  have h0 : 0 ≤ T.sum := sum_nn fun x hx => by have := hT.pos x hx; omega
  obtain ⟨es', e, _, _⟩ := q_count hT 70 [] 0 T.sum 0 (fun e he => by cases he) (by omega) (by omega) (by omega) (by omega) (by simpa using hb)
  unfold m_count_covered
  rw [q_check_small hT h]
  simp only [q_ok_bind, q_ok_nox, sumD_t]
  have e2 : L_count 70 [] (PyData.tuple (T.map .int) :: [PyData.int 0, .int T.sum, .int 0]) = .ok (.int (cntV T 0 T.sum 0), es') := e
  rw [e2]
  (try simp only [q_ok_bind, q_ex_bind, q_bad_bind, q_ok_nox, q_sq_nx, q_sq_rt, q_sq_bk, q_sq_ct, q_sq_ex, sq_bind, sq_ite, q_exit_rt, q_exit_bk, q_exit_ct, q_exit_ex, exit_bind, exit_ite, q_outD_rt, q_outD_nx, q_outD_ex, outD_bind, outD_ite, q_outL_rt, q_outL_ex, outL_bind, outL_ite, q_outDO_rt, q_outDO_nx, q_outDO_ex, outDO_bind, outDO_ite, q_outLO_rt, q_outLO_ex, outLO_bind, outLO_ite, q_un2_t, q_un3_t, borR_ok, addD_i, subD_i, negD_i, ltD_i, leD_i, gtD_i, geD_i, max2_i, min2_i, isM_in, isM_nn, isM_tn, isM_ln, noM_in, noM_nn, noM_tn, noM_ln, isM_bb, blM_b, yesM_d, ixO_i, lnD_l, lnD_t, iterM_l, iterM_t, tupD_l, tupD_t, lstL_l, lstL_t, revL_l, slD_l, slD_t, slL_l, sumD_l, sumD_t, sumD_b, maxK_l, maxK_t, srtL_l, srtRL_l, srtR2_l, allD_l, anyD_l, zipM_l, zipM_t, ixD_l0, ixD_lm0, ixD_tm0, ixD_t0, ixD_l1, ixD_t1, eqD_i, eqD_b, neD_b, stepL_l, neD_i, inD_i, niD_i, isiD_i, isiD_l, isiD_t, noL_s, noL_n, noLs_i, noL_ti, borB_ok, bor_i, bor_b, noL_i, noL_b, Bool.not_true, Bool.not_false, Bool.false_eq_true, if_true, if_false, List.length_map, un2_P, augD_i])
/-! ### numbers of all lots, by a table -/
theorem all_fuel : ∀ (n m : Nat) (tot most : Int), tot < n → tot < m → 0 ≤ tot → allL n tot most = allL m tot most
  | 0, m, tot, most, h, _, h0 => by omega
  | n + 1, 0, tot, most, _, h, h0 => by omega
  | n + 1, m + 1, tot, most, h1, h2, h0 => by
    show [] :: _ = [] :: _
    congr 1
    refine flatMap_eq_of fun v hv => ?_
    have hv := mem_rgI.mp hv
    rw [all_fuel n m (tot - v) v (by omega) (by omega) (by omega)]
def parV (tot most : Nat) : Nat := (allL (tot + 1) (tot : Int) (most : Int)).length
theorem parV_is {n tot most : Nat} (h : tot < n) : (allL n (tot : Int) (most : Int)).length = parV tot most := by unfold parV; rw [all_fuel n (tot + 1) tot most (by omega) (by omega) (by omega)]
theorem parV_zero (tot : Nat) : parV tot 0 = 1 := by
  unfold parV
  show ([] :: (rgI 1 (min (tot : Int) ((0 : Nat) : Int)).toNat).flatMap _ : List (List Int)).length = 1
  rw [show (min (tot : Int) ((0 : Nat) : Int)).toNat = 0 by omega]; rfl
theorem parV_step (tot m : Nat) : parV tot (m + 1) = parV tot m + if m + 1 ≤ tot then parV (tot - (m + 1)) (m + 1) else 0 := by
  have e : ∀ k : Nat, parV tot k = ([] :: (rgI 1 (min (tot : Int) (k : Int)).toNat).flatMap fun v => (allL tot ((tot : Int) - v) v).map (v :: ·) : List (List Int)).length := fun k => rfl
  rw [e, e]
  by_cases h : m + 1 ≤ tot
  · rw [if_pos h, show (min (tot : Int) ((m + 1 : Nat) : Int)).toNat = m + 1 by omega, show (min (tot : Int) (m : Int)).toNat = m by omega, rgI_snoc, List.flatMap_append, List.length_cons, List.length_cons, List.length_append]
    have e2 : ([1 + (m : Int)].flatMap fun v => (allL tot ((tot : Int) - v) v).map (v :: ·)).length = parV (tot - (m + 1)) (m + 1) := by
      rw [List.flatMap_singleton, List.length_map, show (tot : Int) - (1 + (m : Int)) = ((tot - (m + 1) : Nat) : Int) by omega, show 1 + (m : Int) = ((m + 1 : Nat) : Int) by omega, parV_is (by omega)]
    rw [e2]; omega
  · rw [if_neg h, show (min (tot : Int) ((m + 1 : Nat) : Int)).toNat = (min (tot : Int) (m : Int)).toNat by omega]; omega
/-- the next row -/
def rowN (m : Nat) (r : List Nat) : List Nat := (r.foldl (fun acc x => (x + (acc[m]?).getD 0) :: acc) []).reverse
theorem rowN_acc (m : Nat) : ∀ k : Nat, ((List.range k).map fun l => parV l m).foldl (fun acc x => (x + (acc[m]?).getD 0) :: acc) [] = ((List.range k).map fun l => parV l (m + 1)).reverse
  | 0 => rfl
  | k + 1 => by
    rw [List.range_succ, List.map_append, List.foldl_append, rowN_acc m k]
    rw [List.map_append, List.reverse_append]
    show (parV k m + ((((List.range k).map fun l => parV l (m + 1)).reverse)[m]?).getD 0) :: _ = parV k (m + 1) :: _
    congr 1
    rw [parV_step]
    congr 1
    by_cases h : m + 1 ≤ k
    · rw [if_pos h, List.getElem?_reverse (by simp; omega)]
      simp only [List.length_map, List.length_range, List.getElem?_map]
      rw [List.getElem?_range (by omega)]
      show parV (k - 1 - m) (m + 1) = _
      rw [show k - 1 - m = k - (m + 1) by omega]
    · rw [if_neg h, List.getElem?_eq_none (by simp; omega)]; rfl
def rowsN (k : Nat) : Nat → List Nat
  | 0 => List.replicate k 1
  | m + 1 => rowN m (rowsN k m)
theorem rowsN_is (k : Nat) : ∀ m : Nat, rowsN k m = (List.range k).map fun l => parV l m
  | 0 => by
    show List.replicate k 1 = _
    rw [List.map_congr_left (g := fun _ => 1) fun l _ => parV_zero l, List.map_const', List.length_range]
  | m + 1 => by
    show rowN m (rowsN k m) = _
    rw [rowsN_is k m]
    unfold rowN
    rw [rowN_acc, List.reverse_reverse]
theorem parV_mono (tot : Nat) {m : Nat} : ∀ d : Nat, parV tot m ≤ parV tot (m + d)
  | 0 => Nat.le_refl _
  | d + 1 => by have := parV_mono tot (m := m) d; have := parV_step tot (m + d); rw [show m + (d + 1) = m + d + 1 by omega]; omega
theorem row40 : (rowsN 41 40).all (fun x => decide (x ≤ 215308)) = true ∧ (rowsN 41 40)[40]? = some 215308 := by decide +kernel
theorem par_le {s : Nat} (h : s ≤ 40) : parV s s ≤ 215308 := by
  have a := parV_mono s (m := s) (40 - s)
  rw [show s + (40 - s) = 40 by omega] at a
  have b := List.all_eq_true.mp row40.1 (parV s 40) (by rw [rowsN_is]; exact List.mem_map.mpr ⟨s, List.mem_range.mpr (by omega), rfl⟩)
  have := of_decide_eq_true b
  omega
theorem par_40 : parV 40 40 = 215308 := by
  have h := row40.2
  rw [rowsN_is, List.getElem?_map, List.getElem?_range (by decide)] at h
  exact Option.some.inj h
theorem cnt_le {T : List Int} (hT : ∀ x ∈ T, 1 ≤ x) (h : T.sum ≤ 40) : cntV T 0 T.sum 0 ≤ 215308 := by
  have h0 : 0 ≤ T.sum := sum_nn fun x hx => by have := hT x hx; omega
  have a := cov_le_all hT (T.sum.toNat + 1) 0 T.sum 0
  have b := par_le (s := T.sum.toNat) (by omega)
  have e : (allL (T.sum.toNat + 1) (T.sum - 0) T.sum).length = parV T.sum.toNat T.sum.toNat := by
    rw [show T.sum - 0 = ((T.sum.toNat : Nat) : Int) by omega, show allL (T.sum.toNat + 1) ((T.sum.toNat : Nat) : Int) T.sum = allL (T.sum.toNat + 1) ((T.sum.toNat : Nat) : Int) ((T.sum.toNat : Nat) : Int) by rw [show ((T.sum.toNat : Nat) : Int) = T.sum by omega]]
    rfl
  have c := cov_len T (T.sum.toNat + 1) 0 T.sum 0
  rw [cntV_is hT (by omega) h0] at c
  omega
/-- when the sum alone binds -/
theorem cov_top {s : Int} (h : 0 ≤ s) : ∀ (n p : Nat) (last tot : Int), covT [s] n p last tot = allL n (s - tot) last
  | 0, _, _, _ => rfl
  | n + 1, p, last, tot => by
    show [] :: _ = [] :: _
    have e : ntW [s] p last tot = (min (s - tot) last).toNat := by unfold ntW; simp; omega
    rw [e]
    congr 1
    refine flatMap_eq_of fun v _ => ?_
    rw [cov_top h n (p + 1) v (tot + v), show s - (tot + v) = s - tot - v by omega]
theorem cnt_40 : cntV [40] 0 40 0 = 215308 := by
  unfold cntV
  rw [← cov_len, cov_top (by decide)]
  have e := par_40
  unfold parV at e
  have e2 : (allL (((40 : Int) - 0).toNat + 1) (40 - 0) 40).length = 215308 := e
  show (((allL (((40 : Int) - 0).toNat + 1) (40 - 0) 40).length : Nat) : Int) = 215308
  rw [e2]; rfl
/-! ### the law's own count, with a memo that is handed on -/
theorem q__law_count {T : List Int} (hT : Lot T) : ∀ (n : Nat) (es : List D) (p : Nat) (last tot : Int), MemoOk T es → 0 ≤ last ∧ last ≤ 200 → 0 ≤ tot ∧ tot ≤ T.sum → (p : Int) ≤ tot → T.sum - tot < n → (es.length : Int) + cntV T p last tot ≤ 16000000 →
    ∃ es', m__law_count n es (.tuple (T.map .int)) (.int (p : Int)) (.int last) (.int tot) = .ok (.int (cntV T p last tot), es') ∧ MemoOk T es' ∧ (es'.length : Int) ≤ es.length + cntV T p last tot
  | 0, es, p, last, tot, _, _, _, _, h, _ => by omega
  | n + 1, es, p, last, tot, hm, hl, ht, hp, hn, hb => by
    have h200 := hT.sum
    have hc := cntV_pos T p last tot
    have hni : ninM es (.tuple [.int (p : Int), .int last, .int tot]) = .ok (!(es.any fun e => decide (keyE e = [(p : Int), last, tot]))) := rfl
    unfold m__law_count
    rw [hni]
    cases ha : es.any fun e => decide (keyE e = [(p : Int), last, tot]) with
    | true =>
      refine ⟨es, ?_, hm, by omega⟩
      (try simp only [q_ok_bind, q_ex_bind, q_bad_bind, q_ok_nox, q_sq_nx, q_sq_rt, q_sq_bk, q_sq_ct, q_sq_ex, sq_bind, sq_ite, q_exit_rt, q_exit_bk, q_exit_ct, q_exit_ex, exit_bind, exit_ite, q_outD_rt, q_outD_nx, q_outD_ex, outD_bind, outD_ite, q_outL_rt, q_outL_ex, outL_bind, outL_ite, q_outDO_rt, q_outDO_nx, q_outDO_ex, outDO_bind, outDO_ite, q_outLO_rt, q_outLO_ex, outLO_bind, outLO_ite, q_un2_t, q_un3_t, borR_ok, addD_i, subD_i, negD_i, ltD_i, leD_i, gtD_i, geD_i, max2_i, min2_i, isM_in, isM_nn, isM_tn, isM_ln, noM_in, noM_nn, noM_tn, noM_ln, isM_bb, blM_b, yesM_d, ixO_i, lnD_l, lnD_t, iterM_l, iterM_t, tupD_l, tupD_t, lstL_l, lstL_t, revL_l, slD_l, slD_t, slL_l, sumD_l, sumD_t, sumD_b, maxK_l, maxK_t, srtL_l, srtRL_l, srtR2_l, allD_l, anyD_l, zipM_l, zipM_t, ixD_l0, ixD_lm0, ixD_tm0, ixD_t0, ixD_l1, ixD_t1, eqD_i, eqD_b, neD_b, stepL_l, neD_i, inD_i, niD_i, isiD_i, isiD_l, isiD_t, noL_s, noL_n, noLs_i, noL_ti, borB_ok, bor_i, bor_b, noL_i, noL_b, Bool.not_true, Bool.not_false, Bool.false_eq_true, if_true, if_false, List.length_map, un2_P, augD_i])
      try simp only [Bool.not_true, Bool.false_eq_true, if_false]
      (try simp only [q_ok_bind, q_ex_bind, q_bad_bind, q_ok_nox, q_sq_nx, q_sq_rt, q_sq_bk, q_sq_ct, q_sq_ex, sq_bind, sq_ite, q_exit_rt, q_exit_bk, q_exit_ct, q_exit_ex, exit_bind, exit_ite, q_outD_rt, q_outD_nx, q_outD_ex, outD_bind, outD_ite, q_outL_rt, q_outL_ex, outL_bind, outL_ite, q_outDO_rt, q_outDO_nx, q_outDO_ex, outDO_bind, outDO_ite, q_outLO_rt, q_outLO_ex, outLO_bind, outLO_ite, q_un2_t, q_un3_t, borR_ok, addD_i, subD_i, negD_i, ltD_i, leD_i, gtD_i, geD_i, max2_i, min2_i, isM_in, isM_nn, isM_tn, isM_ln, noM_in, noM_nn, noM_tn, noM_ln, isM_bb, blM_b, yesM_d, ixO_i, lnD_l, lnD_t, iterM_l, iterM_t, tupD_l, tupD_t, lstL_l, lstL_t, revL_l, slD_l, slD_t, slL_l, sumD_l, sumD_t, sumD_b, maxK_l, maxK_t, srtL_l, srtRL_l, srtR2_l, allD_l, anyD_l, zipM_l, zipM_t, ixD_l0, ixD_lm0, ixD_tm0, ixD_t0, ixD_l1, ixD_t1, eqD_i, eqD_b, neD_b, stepL_l, neD_i, inD_i, niD_i, isiD_i, isiD_l, isiD_t, noL_s, noL_n, noLs_i, noL_ti, borB_ok, bor_i, bor_b, noL_i, noL_b, Bool.not_true, Bool.not_false, Bool.false_eq_true, if_true, if_false, List.length_map, un2_P, augD_i])
      rw [memo_at hm ha]
      (try simp only [q_ok_bind, q_ex_bind, q_bad_bind, q_ok_nox, q_sq_nx, q_sq_rt, q_sq_bk, q_sq_ct, q_sq_ex, sq_bind, sq_ite, q_exit_rt, q_exit_bk, q_exit_ct, q_exit_ex, exit_bind, exit_ite, q_outD_rt, q_outD_nx, q_outD_ex, outD_bind, outD_ite, q_outL_rt, q_outL_ex, outL_bind, outL_ite, q_outDO_rt, q_outDO_nx, q_outDO_ex, outDO_bind, outDO_ite, q_outLO_rt, q_outLO_ex, outLO_bind, outLO_ite, q_un2_t, q_un3_t, borR_ok, addD_i, subD_i, negD_i, ltD_i, leD_i, gtD_i, geD_i, max2_i, min2_i, isM_in, isM_nn, isM_tn, isM_ln, noM_in, noM_nn, noM_tn, noM_ln, isM_bb, blM_b, yesM_d, ixO_i, lnD_l, lnD_t, iterM_l, iterM_t, tupD_l, tupD_t, lstL_l, lstL_t, revL_l, slD_l, slD_t, slL_l, sumD_l, sumD_t, sumD_b, maxK_l, maxK_t, srtL_l, srtRL_l, srtR2_l, allD_l, anyD_l, zipM_l, zipM_t, ixD_l0, ixD_lm0, ixD_tm0, ixD_t0, ixD_l1, ixD_t1, eqD_i, eqD_b, neD_b, stepL_l, neD_i, inD_i, niD_i, isiD_i, isiD_l, isiD_t, noL_s, noL_n, noLs_i, noL_ti, borB_ok, bor_i, bor_b, noL_i, noL_b, Bool.not_true, Bool.not_false, Bool.false_eq_true, if_true, if_false, List.length_map, un2_P, augD_i])
    | false =>
      have hk := take_le_sum hT.pos (p + 1)
      have h3 : 0 ≤ (T.take (p + 1)).sum := sum_nn fun x hx => by have := hT.pos x (List.mem_of_mem_take hx); omega
      have hst := cntV_step hT.pos (p := p) (last := last) ht.2
      obtain ⟨s', e, es2, c, rfl, i1, i2, i3, _⟩ := forM_rinv (L := Empty) (e := PyData.int) (f := fun (c13 : List D × D) x15 => (addD (.int (p : Int)) (.int 1)).bind fun t16 => (addD (.int tot) x15).bind fun t17 => ((m__law_count n c13.1 (.tuple (T.map .int)) t16 x15 t17).nox).bind fun q18 => (addD c13.2 q18.1).bind fun t19 => .ok (.nx (q18.2, t19)))
        (fun r s => ∃ es2 c, s = (es2, .int c) ∧ MemoOk T es2 ∧ c + (r.map fun v => cntV T (p + 1) v (tot + v)).sum = cntV T p last tot ∧ (es2.length : Int) + 1 + (r.map fun v => cntV T (p + 1) v (tot + v)).sum ≤ es.length + cntV T p last tot ∧ ∀ v ∈ r, 1 ≤ v ∧ v ≤ T.sum - tot ∧ v ≤ last)
        (rgI 1 (ntW T p last tot)) (es, .int 1) ⟨es, 1, rfl, hm, by omega, by omega, fun v hv => by have hv := mem_rgI.mp hv; unfold ntW at hv; omega⟩ (fun v r s hs hv => by
          obtain ⟨es2, c, rfl, i1, i2, i3, i4⟩ := hs
          rw [List.map_cons, List.sum_cons] at i2 i3
          have hv := i4 v List.mem_cons_self
          have hr : 0 ≤ (r.map fun v => cntV T (p + 1) v (tot + v)).sum := sum_nn fun x hx => by
            obtain ⟨v, _, rfl⟩ := List.mem_map.mp hx
            have := cntV_pos T (p + 1) v (tot + v); omega
          obtain ⟨es3, e3, j1, j2⟩ := q__law_count hT n es2 (p + 1) v (tot + v) i1 (by omega) (by omega) (by omega) (by omega) (by omega)
          refine ⟨(es3, .int (c + cntV T (p + 1) v (tot + v))), ?_, es3, _, rfl, j1, by omega, by omega, fun x hx => i4 x (List.mem_cons_of_mem _ hx)⟩
          simp only [addD_i, q_ok_bind]
          rw [show (p : Int) + 1 = ((p + 1 : Nat) : Int) by omega, e3]
          rfl)
      simp only [List.map_nil, List.sum_nil] at i2 i3
      have hcv : c = cntV T p last tot := by omega
      subst hcv
      have hl2 : es2.length ≤ 16000000 := by omega
      have hpl := putE_len es2 [(p : Int), last, tot] (.int (cntV T p last tot))
      refine ⟨putE es2 [(p : Int), last, tot] (.int (cntV T p last tot)), ?_, memo_put i1 p last tot, by omega⟩
      simp only [q_ok_bind, Bool.not_false, if_true, addD_i, ixO_i, slD_t]
      rw [cut_to (by omega), show (((p : Int) + 1).toNat) = p + 1 by omega]
      simp only [q_ok_bind, sumD_t, subD_i, min2_i, addD_i]
      rw [rg2_i ⟨by omega, by omega⟩ ⟨by decide, by decide⟩, show (min last ((T.take (p + 1)).sum - tot) + 1 - 1).toNat = ntW T p last tot by unfold ntW; omega]
      simp only [q_ok_bind]
      have e := e
      simp only [addD_i, q_ok_bind] at e
      rw [e]
      have hput : putM es2 (.tuple [.int (p : Int), .int last, .int tot]) (.int (cntV T p last tot)) = .ok (putE es2 [(p : Int), last, tot] (.int (cntV T p last tot))) := if_pos hl2
      (try simp only [q_ok_bind, q_ex_bind, q_bad_bind, q_ok_nox, q_sq_nx, q_sq_rt, q_sq_bk, q_sq_ct, q_sq_ex, sq_bind, sq_ite, q_exit_rt, q_exit_bk, q_exit_ct, q_exit_ex, exit_bind, exit_ite, q_outD_rt, q_outD_nx, q_outD_ex, outD_bind, outD_ite, q_outL_rt, q_outL_ex, outL_bind, outL_ite, q_outDO_rt, q_outDO_nx, q_outDO_ex, outDO_bind, outDO_ite, q_outLO_rt, q_outLO_ex, outLO_bind, outLO_ite, q_un2_t, q_un3_t, borR_ok, addD_i, subD_i, negD_i, ltD_i, leD_i, gtD_i, geD_i, max2_i, min2_i, isM_in, isM_nn, isM_tn, isM_ln, noM_in, noM_nn, noM_tn, noM_ln, isM_bb, blM_b, yesM_d, ixO_i, lnD_l, lnD_t, iterM_l, iterM_t, tupD_l, tupD_t, lstL_l, lstL_t, revL_l, slD_l, slD_t, slL_l, sumD_l, sumD_t, sumD_b, maxK_l, maxK_t, srtL_l, srtRL_l, srtR2_l, allD_l, anyD_l, zipM_l, zipM_t, ixD_l0, ixD_lm0, ixD_tm0, ixD_t0, ixD_l1, ixD_t1, eqD_i, eqD_b, neD_b, stepL_l, neD_i, inD_i, niD_i, isiD_i, isiD_l, isiD_t, noL_s, noL_n, noLs_i, noL_ti, borB_ok, bor_i, bor_b, noL_i, noL_b, Bool.not_true, Bool.not_false, Bool.false_eq_true, if_true, if_false, List.length_map, un2_P, augD_i])
      rw [hput]
      (try simp only [q_ok_bind, q_ex_bind, q_bad_bind, q_ok_nox, q_sq_nx, q_sq_rt, q_sq_bk, q_sq_ct, q_sq_ex, sq_bind, sq_ite, q_exit_rt, q_exit_bk, q_exit_ct, q_exit_ex, exit_bind, exit_ite, q_outD_rt, q_outD_nx, q_outD_ex, outD_bind, outD_ite, q_outL_rt, q_outL_ex, outL_bind, outL_ite, q_outDO_rt, q_outDO_nx, q_outDO_ex, outDO_bind, outDO_ite, q_outLO_rt, q_outLO_ex, outLO_bind, outLO_ite, q_un2_t, q_un3_t, borR_ok, addD_i, subD_i, negD_i, ltD_i, leD_i, gtD_i, geD_i, max2_i, min2_i, isM_in, isM_nn, isM_tn, isM_ln, noM_in, noM_nn, noM_tn, noM_ln, isM_bb, blM_b, yesM_d, ixO_i, lnD_l, lnD_t, iterM_l, iterM_t, tupD_l, tupD_t, lstL_l, lstL_t, revL_l, slD_l, slD_t, slL_l, sumD_l, sumD_t, sumD_b, maxK_l, maxK_t, srtL_l, srtRL_l, srtR2_l, allD_l, anyD_l, zipM_l, zipM_t, ixD_l0, ixD_lm0, ixD_tm0, ixD_t0, ixD_l1, ixD_t1, eqD_i, eqD_b, neD_b, stepL_l, neD_i, inD_i, niD_i, isiD_i, isiD_l, isiD_t, noL_s, noL_n, noLs_i, noL_ti, borB_ok, bor_i, bor_b, noL_i, noL_b, Bool.not_true, Bool.not_false, Bool.false_eq_true, if_true, if_false, List.length_map, un2_P, augD_i])
      rw [memo_at (memo_put i1 p last tot) (put_any _ _ _)]
      (try simp only [q_ok_bind, q_ex_bind, q_bad_bind, q_ok_nox, q_sq_nx, q_sq_rt, q_sq_bk, q_sq_ct, q_sq_ex, sq_bind, sq_ite, q_exit_rt, q_exit_bk, q_exit_ct, q_exit_ex, exit_bind, exit_ite, q_outD_rt, q_outD_nx, q_outD_ex, outD_bind, outD_ite, q_outL_rt, q_outL_ex, outL_bind, outL_ite, q_outDO_rt, q_outDO_nx, q_outDO_ex, outDO_bind, outDO_ite, q_outLO_rt, q_outLO_ex, outLO_bind, outLO_ite, q_un2_t, q_un3_t, borR_ok, addD_i, subD_i, negD_i, ltD_i, leD_i, gtD_i, geD_i, max2_i, min2_i, isM_in, isM_nn, isM_tn, isM_ln, noM_in, noM_nn, noM_tn, noM_ln, isM_bb, blM_b, yesM_d, ixO_i, lnD_l, lnD_t, iterM_l, iterM_t, tupD_l, tupD_t, lstL_l, lstL_t, revL_l, slD_l, slD_t, slL_l, sumD_l, sumD_t, sumD_b, maxK_l, maxK_t, srtL_l, srtRL_l, srtR2_l, allD_l, anyD_l, zipM_l, zipM_t, ixD_l0, ixD_lm0, ixD_tm0, ixD_t0, ixD_l1, ixD_t1, eqD_i, eqD_b, neD_b, stepL_l, neD_i, inD_i, niD_i, isiD_i, isiD_l, isiD_t, noL_s, noL_n, noLs_i, noL_ti, borB_ok, bor_i, bor_b, noL_i, noL_b, Bool.not_true, Bool.not_false, Bool.false_eq_true, if_true, if_false, List.length_map, un2_P, augD_i])
/-- where the count begins, the last tool does not bind -/
theorem cnt_first {T : List Int} (hT : Lot T) {m : Int} (hm : ∀ x ∈ T, x ≤ m) : cntV T 0 m 0 = cntV T 0 T.sum 0 := by
  have h0 : 0 ≤ T.sum := sum_nn fun x hx => by have := hT.pos x hx; omega
  rw [cntV_step hT.pos h0, cntV_step hT.pos h0]
  have e : ntW T 0 m 0 = ntW T 0 T.sum 0 := by
    unfold ntW
    cases T with
    | nil => simp; omega
    | cons x T =>
      have h1 := hm x List.mem_cons_self
      have h2 := take_le_sum hT.pos 1
      simp at h2 ⊢
      omega
  rw [e]
theorem atI_lst {α : Type} {xs : List α} (h : xs.length ≠ 0) : atI xs (-1) = xs[xs.length - 1]? := by
  have e : L2.ixN xs.length (-1) = some (xs.length - 1) := by
    unfold L2.ixN
    simp only [show ¬ ((0 : Int) ≤ -1) from by decide, if_false]
    split
    · congr 1; omega
    · omega
  unfold atI; rw [e]; rfl
theorem last_app (m : List Int) (v : Int) : ixD (.list ((m ++ [v]).map .int)) (.int (-1)) = .ok (.int v) := by
  refine ixD_l .int ?_
  rw [atI_lst (by simp)]
  simp
theorem sum_srt (l : List Int) : (srt l).sum = l.sum := sum_perm (srt_perm l)
theorem q__law_lot_up_to (c left : Int) (h1 : 1 ≤ left) (h40 : left ≤ 40) : ∃ (T : List Int) (c' : Int), m__law_lot_up_to [.int c] (.int left) = .ok (.tuple (T.map .int), [.int c']) ∧ Lot T ∧ T.sum = left := by
  obtain ⟨s', e, ⟨o, left', ts, rfl, i1, i2, i3, i4⟩, hp⟩ := whileM_inv (L := Empty) (S := List D × D × List D) (t := fun c3 => (gtD c3.2.1 (.int 0)).bind fun t5 => R.ok t5)
    (f := fun c3 => ((m__law_take c3.1 c3.2.1).nox).bind fun q6 => (addD (.int 1) q6.1).bind fun t7 => (min2 c3.2.1 t7).bind fun t8 => ((m__law_take q6.2 t8).nox).bind fun q9 => (addD (.int 1) q9.1).bind fun t10 => (appM c3.2.2 t10).bind fun l12 => (bor ((negD (.int 1)).bind fun t13 => (ixD (.list l12) t13).bind fun t14 => R.ok t14)).bind fun t15 => (subD c3.2.1 t15).bind fun t16 => .ok (.nx (q9.2, t16, l12)))
    (I := fun s => ∃ (o left' : Int) (ts : List Int), s = ([.int o], .int left', ts.map .int) ∧ 0 ≤ left' ∧ (∀ x ∈ ts, 1 ≤ x) ∧ ts.sum + left' = left ∧ (ts.length : Int) + left' ≤ 40) (μ := fun s => match s.2.1 with | .int i => i.toNat | _ => 0) (p := fun s => match s.2.1 with | .int i => decide (0 < i) | _ => false)
    (fun s hs => by obtain ⟨o, left', ts, rfl, _⟩ := hs; simp) (fun s hs hp => by
      obtain ⟨o, left', ts, rfl, i1, i2, i3, i4⟩ := hs
      have hp : 0 < left' := of_decide_eq_true hp
      have hs0 : 0 ≤ ts.sum := sum_nn fun x hx => by have := i2 x hx; omega
      have g1 := Int.emod_nonneg o (b := left') (by omega)
      have g2 := Int.emod_lt_of_pos o (b := left') (by omega)
      generalize hr : o % left' = r at g1 g2
      generalize hd : o / left' = d
      have h1 := Int.emod_nonneg d (b := min left' (1 + r)) (by omega)
      have h2 := Int.emod_lt_of_pos d (b := min left' (1 + r)) (by omega)
      generalize hq : d % min left' (1 + r) = q at h1 h2
      refine ⟨([.int (d / min left' (1 + r))], .int (left' - (1 + q)), (ts ++ [1 + q]).map .int), ?_, ⟨_, _, _, rfl, by omega, fun x hx => ?_, by rw [List.sum_append]; simp; omega, by rw [List.length_append]; simp; omega⟩, ?_⟩
      · show ((m__law_take [.int o] (.int left')).nox).bind _ = _
        rw [q__law_take o (by omega)]
        simp only [q_ok_nox, q_ok_bind, addD_i, min2_i]
        rw [hr, hd, q__law_take d (by omega)]
        simp only [q_ok_nox, q_ok_bind, addD_i]
        rw [hq, appM_m .int _ (by omega)]
        simp only [q_ok_bind, negD_i]
        have e : ixD (.list ((ts ++ [1 + q]).map .int)) (.int (-1)) = .ok (.int (1 + q)) := last_app _ _
        rw [e]
        rfl
      · rcases List.mem_append.mp hx with hx | hx
        · exact i2 x hx
        · rw [List.mem_singleton.mp hx]; omega
      · show (left' - (1 + q)).toNat < left'.toNat
        omega) 1000000 ([.int c], .int left, []) ⟨_, _, [], rfl, by omega, by simp, by simp, by simp; omega⟩ (by show left.toNat < _; omega)
  have hp : ¬ 0 < left' := of_decide_eq_false hp
  have hl : left' = 0 := by omega
  refine ⟨(srt ts).reverse, o, ?_, ⟨fun x hx => i2 x (srt_mem.mp (List.mem_reverse.mp hx)), srtD_sorted ts, by rw [List.length_reverse, srt_len]; omega, by rw [List.sum_reverse, sum_srt]; omega⟩, by rw [List.sum_reverse, sum_srt]; omega⟩
  unfold m__law_lot_up_to
  rw [e]
  (try simp only [q_ok_bind, q_ex_bind, q_bad_bind, q_ok_nox, q_sq_nx, q_sq_rt, q_sq_bk, q_sq_ct, q_sq_ex, sq_bind, sq_ite, q_exit_rt, q_exit_bk, q_exit_ct, q_exit_ex, exit_bind, exit_ite, q_outD_rt, q_outD_nx, q_outD_ex, outD_bind, outD_ite, q_outL_rt, q_outL_ex, outL_bind, outL_ite, q_outDO_rt, q_outDO_nx, q_outDO_ex, outDO_bind, outDO_ite, q_outLO_rt, q_outLO_ex, outLO_bind, outLO_ite, q_un2_t, q_un3_t, borR_ok, addD_i, subD_i, negD_i, ltD_i, leD_i, gtD_i, geD_i, max2_i, min2_i, isM_in, isM_nn, isM_tn, isM_ln, noM_in, noM_nn, noM_tn, noM_ln, isM_bb, blM_b, yesM_d, ixO_i, lnD_l, lnD_t, iterM_l, iterM_t, tupD_l, tupD_t, lstL_l, lstL_t, revL_l, slD_l, slD_t, slL_l, sumD_l, sumD_t, sumD_b, maxK_l, maxK_t, srtL_l, srtRL_l, srtR2_l, allD_l, anyD_l, zipM_l, zipM_t, ixD_l0, ixD_lm0, ixD_tm0, ixD_t0, ixD_l1, ixD_t1, eqD_i, eqD_b, neD_b, stepL_l, neD_i, inD_i, niD_i, isiD_i, isiD_l, isiD_t, noL_s, noL_n, noLs_i, noL_ti, borB_ok, bor_i, bor_b, noL_i, noL_b, Bool.not_true, Bool.not_false, Bool.false_eq_true, if_true, if_false, List.length_map, un2_P, augD_i])
  rw [← List.map_reverse]
theorem count_is {T : List Int} (hT : Lot T) (h : T.sum ≤ 40) : L_count_covered [.tuple (T.map .int)] = .ok (.int (cntV T 0 T.sum 0)) := q_count_covered hT h (by have := cnt_le hT.pos h; omega)
theorem law_count_is {T : List Int} (hT : Lot T) (h : T.sum ≤ 40) (hne : T ≠ []) : ∃ es, L__law_count 70 [] ([.tuple (T.map .int)] ++ [.int 0, .int (maxD 0 T), .int 0]) = .ok (.int (cntV T 0 T.sum 0), es) := by
  have h0 : 0 ≤ T.sum := sum_nn fun x hx => by have := hT.pos x hx; omega
  have hm := maxD_mem (d := 0) (l := T) hne
  have hm2 := hT.le hm.1
  have e := cnt_first hT (m := maxD 0 T) hm.2
  have hb := cnt_le hT.pos h
  obtain ⟨es', e1, _, _⟩ := q__law_count hT 70 [] 0 (maxD 0 T) 0 (fun e he => by cases he) (by omega) (by omega) (by omega) (by omega) (by rw [e]; simp; omega)
  rw [e] at e1
  exact ⟨es', e1⟩
theorem ones_count : cntV (List.replicate 40 1) 0 (List.replicate 40 (1 : Int)).sum 0 = 41 := by decide +kernel
theorem law_61 (ns : List Int) (hns : ns.length ≤ 63) : m_law ns = .ok (.bool true) := by
  unfold m_law
  simp only [min2_i, max2_i, q_ok_bind]
  rw [rg1_i ⟨by omega, by omega⟩]
  simp only [q_ok_bind]
  refine for_out (fun _ => True) trivial (fun x hx s _ => ?_) (fun s _ => ?_)
  · obtain ⟨i, hi, rfl⟩ := List.mem_map.mp hx
    have hi := mem_rgI.mp hi
    refine ⟨(), ?_, trivial⟩
    rw [q__law_cell ns hi.1]
    simp only [q_ok_nox, q_ok_bind]
    rw [rg1_i (by decide)]
    simp only [q_ok_bind]
    refine for_eq (fun s => ∃ c : Int, s = [.int c]) ⟨_, rfl⟩ (fun x _ s hs => ?_) (fun s _ => rfl)
    obtain ⟨c, rfl⟩ := hs
    rw [q__law_take c (by decide)]
    simp only [q_ok_nox, q_ok_bind]
    have hpk : ∃ v, ixD (.list [.int 12, .int 25, .int 40]) (.int (c % 3)) = .ok (.int v) ∧ 12 ≤ v ∧ v ≤ 40 := by
      have h1 := Int.emod_nonneg c (b := 3) (by decide)
      have h2 := Int.emod_lt_of_pos c (b := 3) (by decide)
      generalize c % 3 = r at h1 h2
      rcases (show r = 0 ∨ r = 1 ∨ r = 2 by omega) with rfl | rfl | rfl
      · exact ⟨12, rfl, by omega, by omega⟩
      · exact ⟨25, rfl, by omega, by omega⟩
      · exact ⟨40, rfl, by omega, by omega⟩
    obtain ⟨v, e0, hv1, hv2⟩ := hpk
    rw [e0]
    simp only [q_ok_bind]
    have g1 := Int.emod_nonneg (c / 3) (b := 6) (by decide)
    have g2 := Int.emod_lt_of_pos (c / 3) (b := 6) (by decide)
    rw [q__law_take (c / 3) (by decide)]
    simp only [q_ok_nox, q_ok_bind, subD_i]
    obtain ⟨T, c', e, hT, hs⟩ := q__law_lot_up_to (c / 3 / 6) (v - c / 3 % 6) (by omega) (by omega)
    have hne : T ≠ [] := by rintro rfl; simp at hs; omega
    refine ⟨[.int c'], ?_, _, rfl⟩
    rw [e]
    simp only [q_ok_nox, q_ok_bind]
    rw [count_is hT (by omega)]
    simp only [q_ok_bind]
    rw [maxM_t (List.length_pos_iff.mpr hne)]
    simp only [q_ok_nox, q_ok_bind]
    obtain ⟨es, e2⟩ := law_count_is hT (by omega) hne
    rw [e2]
    simp only [q_ok_nox, q_ok_bind, neD_i]
    simp
  · have m40 : mulD (.tuple [.int 1]) (.int 40) = .ok (.tuple ((List.replicate 40 (1 : Int)).map .int)) := of_chk (by decide +kernel)
    have e1 := count_is (T := List.replicate 40 1) ⟨by decide, by unfold Desc; decide, by decide, by decide⟩ (by decide)
    have e2 := count_is (T := [40]) ⟨by decide, by unfold Desc; decide, by decide, by decide⟩ (by decide)
    rw [ones_count] at e1
    rw [show cntV [40] 0 ([40] : List Int).sum 0 = 215308 from cnt_40] at e2
    rw [m40]
    simp only [q_ok_bind]
    rw [e1]
    simp only [q_ok_bind]
    rw [show (PyData.tuple [.int 40]) = .tuple (([40] : List Int).map .int) from rfl, e2]
    rfl

end Kn

namespace Kn
open PySem PySem.Spec PyProof.Rows L2
def topS (i : Nat) : Stmt := PySem.Challenge.pw_keenlot_k61_covered_lots_counted.main.body.getD i (.Pass ⟨0, 0, 0, 0⟩)
structure Txt (mg : Str → Option Value) : Prop where
  n_all : mg "all" = none
  n_bool : mg "bool" = none
  n_int : mg "int" = none
  n_isinstance : mg "isinstance" = none
  n_len : mg "len" = none
  n_list : mg "list" = none
  n_max : mg "max" = none
  n_min : mg "min" = none
  n_range : mg "range" = none
  n_sorted : mg "sorted" = none
  n_sum : mg "sum" = none
  n_tuple : mg "tuple" = none
  n_zip : mg "zip" = none
  c_LIMIT : CG mg "LIMIT" (.int 200)
  c_MOST_COUNTED : CG mg "MOST_COUNTED" (.int 40)
  c_MOST_TOOLS : CG mg "MOST_TOOLS" (.int 60)
def s_is_integer : Stmt := topS 7
abbrev N_is_integer : List Str := ["value", "low", "high"]
theorem scis_integer : FnScope N_is_integer ["value", "low", "high"] (defScope s_is_integer) := ⟨rfl, rfl, rfl, by decide +kernel, rfl, by decide +kernel, by decide +kernel⟩
def s_fits : Stmt := topS 8
abbrev N_fits : List Str := ["lot"]
theorem scfits : FnScope N_fits ["lot"] (defScope s_fits) := ⟨rfl, rfl, rfl, by decide +kernel, rfl, by decide +kernel, by decide +kernel⟩
def s_is_lot : Stmt := topS 9
abbrev N_is_lot : List Str := ["value", "tool", "first", "second"]
theorem scis_lot : FnScope N_is_lot ["value"] (defScope s_is_lot) := ⟨rfl, rfl, rfl, by decide +kernel, rfl, by decide +kernel, by decide +kernel⟩
def s_check_lot : Stmt := topS 10
abbrev N_check_lot : List Str := ["value"]
theorem sccheck_lot : FnScope N_check_lot ["value"] (defScope s_check_lot) := ⟨rfl, rfl, rfl, by decide +kernel, rfl, by decide +kernel, by decide +kernel⟩
def s_check_small : Stmt := topS 13
abbrev N_check_small : List Str := ["lot", "most"]
theorem sccheck_small : FnScope N_check_small ["lot", "most"] (defScope s_check_small) := ⟨rfl, rfl, rfl, by decide +kernel, rfl, by decide +kernel, by decide +kernel⟩
def s_next_tools : Stmt := topS 14
abbrev N_next_tools : List Str := ["lot", "place", "last", "total"]
theorem scnext_tools : FnScope N_next_tools ["lot", "place", "last", "total"] (defScope s_next_tools) := ⟨rfl, rfl, rfl, by decide +kernel, rfl, by decide +kernel, by decide +kernel⟩
abbrev s_init_Counts : Stmt := inClass (topS 15) 0
theorem sci_Counts : FnScope ["self", "lot"] ["self", "lot"] (defScope s_init_Counts) := ⟨rfl, rfl, rfl, by decide +kernel, rfl, by decide +kernel, by decide +kernel⟩
def s_count : Stmt := inClass (topS 15) 1
abbrev N_count : List Str := ["self", "place", "last", "total", "key", "found", "tool"]
theorem sccount : FnScope N_count ["self", "place", "last", "total"] (defScope s_count) := ⟨rfl, rfl, rfl, by decide +kernel, rfl, by decide +kernel, by decide +kernel⟩
def s_count_covered : Stmt := topS 16
abbrev N_count_covered : List Str := ["lot"]
theorem sccount_covered : FnScope N_count_covered ["lot"] (defScope s_count_covered) := ⟨rfl, rfl, rfl, by decide +kernel, rfl, by decide +kernel, by decide +kernel⟩
def s_law_mixed : Stmt := topS 18
abbrev N__law_mixed : List Str := ["cell", "k", "number"]
theorem sc_law_mixed : FnScope N__law_mixed ["cell", "k"] (defScope s_law_mixed) := ⟨rfl, rfl, rfl, by decide +kernel, rfl, by decide +kernel, by decide +kernel⟩
def s_law_cell : Stmt := topS 19
abbrev N__law_cell : List Str := ["script", "k", "cell", "found", "j"]
theorem sc_law_cell : FnScope N__law_cell ["script", "k"] (defScope s_law_cell) := ⟨rfl, rfl, rfl, by decide +kernel, rfl, by decide +kernel, by decide +kernel⟩
def s_law_take : Stmt := topS 20
abbrev N__law_take : List Str := ["digits", "size", "digit"]
theorem sc_law_take : FnScope N__law_take ["digits", "size"] (defScope s_law_take) := ⟨rfl, rfl, rfl, by decide +kernel, rfl, by decide +kernel, by decide +kernel⟩
def s_law_count : Stmt := topS 21
abbrev N__law_count : List Str := ["lot", "known", "many", "most", "total", "key", "found", "top", "tool"]
theorem sc_law_count : FnScope N__law_count ["lot", "known", "many", "most", "total"] (defScope s_law_count) := ⟨rfl, rfl, rfl, by decide +kernel, rfl, by decide +kernel, by decide +kernel⟩
def s_law_lot_up_to : Stmt := topS 22
abbrev N__law_lot_up_to : List Str := ["digits", "left", "tools"]
theorem sc_law_lot_up_to : FnScope N__law_lot_up_to ["digits", "left"] (defScope s_law_lot_up_to) := ⟨rfl, rfl, rfl, by decide +kernel, rfl, by decide +kernel, by decide +kernel⟩
def s_law : Stmt := topS 23
abbrev N_law : List Str := ["script", "turn", "digits", "k", "lot"]
theorem sclaw : FnScope N_law ["script"] (defScope s_law) := ⟨rfl, rfl, rfl, by decide +kernel, rfl, by decide +kernel, by decide +kernel⟩
section
variable {P : Program} {w : World} {K : PySem.W.Frag} {mg : Str → Option Value} {base : Heap} {CA : Str → Addr}
include CA
theorem ok_is_integer {f : Addr} {fd : FuncData} (F : Fun K "is_integer" "is_integer" s_is_integer f fd) (m : mg "is_integer" = some (.ref f)) (T : Txt mg) : CalM P w K mg base [] "is_integer" 1 ["value", "low", "high"] (spM CA Rv.d L_is_integer) f fd := by
  refine ⟨m, F.kp, funG (CX := L2.CX P w) F scis_integer (lenM fun ds h => by obtain ⟨_, _, _, rfl⟩ := A3_ne h; rfl) (fun cdv A outer s H vs Q E hr h => ?_), Binds.no (F.binds (fun _ _ _ _ _ _ us hl => match us, hl with | [_, _, _], _ => rfl))⟩
  refine ⟨_, (pss_one (ps_ret (pe_and (pe_callB call_isi (by rfl) T.n_isinstance bt_isinstance (pa_cons (pv 0) (pa_cons (pe_bltn (v := .ty "int") (by rfl) T.n_int bt_int rfl) pa_nil))) (pe_and (pe_not (pe_callB call_isi (by rfl) T.n_isinstance bt_isinstance (pa_cons (pv 0) (pa_cons (pe_bltn (v := .ty "bool") (by rfl) T.n_bool bt_bool rfl) pa_nil)))) (pe_one (pe_chain op_le op_le (pv 1) (pv 0) (pv 2))))))), bodyM h fun ds hne => ?_⟩
  obtain ⟨v_value, v_low, v_high, rfl⟩ := A3_ne hne
  exact ⟨_, rfl, (m_ret (b := false) (ρs := fun _ : Unit => ([.dat v_value, .dat v_low, .dat v_high] : En)) (s0 := ()) (o := fun o => []) (g_bv (g_and0 (g_isi (g_var fun _ => rfl) kit_int) (g_and0 (g_not (g_isi (g_var fun _ => rfl) kit_bool)) (g_chain (g_var fun _ => rfl) (g_var fun _ => rfl) (fun _ => (g_var fun _ => rfl)) om_le om_le)))) (fun _ => trivial))⟩
theorem ok_fits {f : Addr} {fd : FuncData} (F : Fun K "fits" "fits" s_fits f fd) (m : mg "fits" = some (.ref f)) (T : Txt mg) : CalM P w K mg base [] "fits" 1 ["lot"] (spM CA Rv.d L_fits) f fd := by
  refine ⟨m, F.kp, funG (CX := L2.CX P w) F scfits (lenM fun ds h => by obtain ⟨_, rfl⟩ := A1_ne h; rfl) (fun cdv A outer s H vs Q E hr h => ?_), Binds.no (F.binds (fun _ _ _ _ _ _ us hl => match us, hl with | [_], _ => rfl))⟩
  refine ⟨_, (pss_one (ps_ret (pe_and (pe_cmpR op_le (pe_callB kr_len (by rfl) T.n_len bt_len (pa_cons (pv 0) pa_nil)) (pe_gl (by rfl) T.c_MOST_TOOLS) (nomark _)) (pe_one (pe_cmpR op_le (pe_callB (kr_sumM rfl) (by rfl) T.n_sum bt_sum (pa_cons (pv 0) pa_nil)) (pe_gl (by rfl) T.c_LIMIT) (nomark _)))))), bodyM h fun ds hne => ?_⟩
  obtain ⟨v_lot, rfl⟩ := A1_ne hne
  exact ⟨_, rfl, (m_ret (b := false) (ρs := fun _ : Unit => ([.dat v_lot] : En)) (s0 := ()) (o := fun o => []) (g_bv (g_and0 (g_op (g_cb (g_var fun _ => rfl) rcm_len) g_int om_le) (g_op (g_cb (g_var fun _ => rfl) rcm_sum) g_int om_le))) (fun _ => trivial))⟩
theorem ok_is_lot {f : Addr} {fd : FuncData} (F : Fun K "is_lot" "is_lot" s_is_lot f fd) (m : mg "is_lot" = some (.ref f)) (T : Txt mg) {f_is_integer : Addr} {d_is_integer : FuncData} (C_is_integer : CalM P w K mg base [] "is_integer" 1 ["value", "low", "high"] (spM CA Rv.d L_is_integer) f_is_integer d_is_integer) {f_fits : Addr} {d_fits : FuncData} (C_fits : CalM P w K mg base [] "fits" 1 ["lot"] (spM CA Rv.d L_fits) f_fits d_fits) : CalM P w K mg base [] "is_lot" 2 ["value"] (spM CA Rv.d L_is_lot) f fd := by
  refine ⟨m, F.kp, funG (CX := L2.CX P w) F scis_lot (lenM fun ds h => by obtain ⟨_, rfl⟩ := A1_ne h; rfl) (fun cdv A outer s H vs Q E hr h => ?_), Binds.no (F.binds (fun _ _ _ _ _ _ us hl => match us, hl with | [_], _ => rfl))⟩
  refine ⟨_, (pss_cons (ps_if (PW.pt (pw_or (pt_not (pt_val (pe_callB call_isi (by rfl) T.n_isinstance bt_isinstance (pa_cons (pv 0) (pa_cons (pe_bltn (v := .ty "tuple") (by rfl) T.n_tuple bt_tuple rfl) pa_nil))))) (pw_or1 (pt_not (pt_val (pe_callB (cr_all rfl) (by rfl) T.n_all bt_all (pa_cons (pe_lc (own := [("tool", 1)]) (g := (gName 1)) (tt := tYes) rfl scis_lot.nd (pi_sq (pv 0)) (blkOk_by (N := N_is_lot) (sc := defScope s_is_lot) (by decide +kernel)) (fun _ _ _ _ _ => (pg_name (i := 1) scis_lot.nd rfl (Or.inl rfl) (Or.inr rfl))) (fun _ _ _ _ _ => pts_nil) (fun _ _ _ _ _ => (pe_calM C_is_integer hr (by decide) takes0 (by rfl) (pa_cons (pv 1) (pa_cons pe_int (pa_cons (pe_gl (by rfl) T.c_LIMIT) pa_nil)))))) pa_nil))))))) (pss_one (ps_ret pe_bl)) pss_nil) (pss_one (ps_ret (pe_and (pe_callB (cr_all rfl) (by rfl) T.n_all bt_all (pa_cons (pe_lc (own := [("first", 2), ("second", 3)]) (g := (gTup K 2 (gCons (gName 2) (gCons (gName 3) gNil)))) (tt := tYes) rfl scis_lot.nd (RZ.pi_zipA (by rfl) T.n_zip (pa_cons (pv 0) (pa_cons (pe_slice sl_M (pv 0) (po_some pe_int) po_none) pa_nil))) (blkOk_by (N := N_is_lot) (sc := defScope s_is_lot) (by decide +kernel)) (fun _ _ _ _ _ => (pg_tup rfl (pgs_cons (pg_name (i := 2) scis_lot.nd rfl (Or.inl rfl) (Or.inr rfl)) (pgs_cons (pg_name (i := 3) scis_lot.nd rfl (Or.inl rfl) (Or.inr rfl)) pgs_nil)))) (fun _ _ _ _ _ => pts_nil) (fun _ _ _ _ _ => (pe_cmpR op_ge (pv 2) (pv 3) (nomark _)))) pa_nil)) (pe_one (pe_calM C_fits hr (by decide) (takes_of rfl rfl rfl rfl) (by rfl) (pa_cons (pv 0) pa_nil))))))), bodyM h fun ds hne => ?_⟩
  obtain ⟨v_value, rfl⟩ := A1_ne hne
  exact ⟨_, rfl, (m_ifX (b := false) (ρs := fun _ : Unit => ([.dat v_value, .un, .un, .un] : En)) (s0 := ()) (gt_or0 (gt_not (gt_B (g_isi (g_var fun _ => rfl) kit_tuple))) (gt_not (gt_B (g_cb (g_fz (g_lc (gi_sq (g_var fun _ => rfl)) fun _ => lch_1 (z := zB CA 4) (by decide) (fun x_3 => gt_yes) (fun x_3 => (g_call (F := L_is_integer) (dds := []) (ga_cons (g_var fun _ => rfl) (ga_cons g_int (ga_cons g_int ga_nil))) (fun _ => Wk.uns rfl))))) rcm_all)))) (fun _ => (m_ret (b := false) (ρs := fun _ : Unit => ([.dat v_value, .un, .un, .un] : En)) (s0 := ()) (o := fun o => []) g_bl (fun _ => trivial))) (fun _ => (m_ret (b := false) (ρs := fun _ : Unit => ([.dat v_value, .un, .un, .un] : En)) (s0 := ()) (o := fun o => []) (g_bv (g_and0 (g_cb (g_fz (g_lc (gi_zip (g_var fun _ => rfl) (g_sl (g_var fun _ => rfl) (go_s g_int) go_n slm)) fun _ => lch_2y (z := zB CA 4) ⟨by decide, by decide⟩ (fun x_11 x_12 => (g_bv (g_op (g_var fun _ => rfl) (g_var fun _ => rfl) om_ge))))) rcm_all) (g_vb (g_call (F := L_fits) (dds := []) (ga_cons (g_var fun _ => rfl) ga_nil) (fun _ => Wk.uns rfl))))) (fun _ => trivial))))⟩
theorem ok_check_lot {f : Addr} {fd : FuncData} (F : Fun K "check_lot" "check_lot" s_check_lot f fd) (m : mg "check_lot" = some (.ref f)) (T : Txt mg) {f_is_lot : Addr} {d_is_lot : FuncData} (C_is_lot : CalM P w K mg base [] "is_lot" 2 ["value"] (spM CA Rv.d L_is_lot) f_is_lot d_is_lot) : CalM P w K mg base [] "check_lot" 3 ["value"] (spM CA Rv.d L_check_lot) f fd := by
  refine ⟨m, F.kp, funG (CX := L2.CX P w) F sccheck_lot (lenM fun ds h => by obtain ⟨_, rfl⟩ := A1_ne h; rfl) (fun cdv A outer s H vs Q E hr h => ?_), Binds.no (F.binds (fun _ _ _ _ _ _ us hl => match us, hl with | [_], _ => rfl))⟩
  refine ⟨_, (pss_one (ps_if (pt_not (pt_val (pe_calM C_is_lot hr (by decide) (takes_of rfl rfl rfl rfl) (by rfl) (pa_cons (pv 0) pa_nil)))) (pss_one ps_never) pss_nil)), bodyM h fun ds hne => ?_⟩
  obtain ⟨v_value, rfl⟩ := A1_ne hne
  exact ⟨_, rfl, (m_if (b := false) (ρs := fun _ : Unit => ([.dat v_value] : En)) (s0 := ()) (gt_not (gt_B (g_vb (g_call (F := L_is_lot) (dds := []) (ga_cons (g_var fun _ => rfl) ga_nil) (fun _ => Wk.uns rfl))))) (fun _ => m_bad) (fun _ => (m_nx (s := ()) (p := 0) (w := Wk.uns rfl))))⟩
theorem ok_check_small {f : Addr} {fd : FuncData} (F : Fun K "check_small" "check_small" s_check_small f fd) (m : mg "check_small" = some (.ref f)) (T : Txt mg) {f_check_lot : Addr} {d_check_lot : FuncData} (C_check_lot : CalM P w K mg base [] "check_lot" 3 ["value"] (spM CA Rv.d L_check_lot) f_check_lot d_check_lot) : CalM P w K mg base [] "check_small" 4 ["lot", "most"] (spM CA Rv.d L_check_small) f fd := by
  refine ⟨m, F.kp, funG (CX := L2.CX P w) F sccheck_small (lenM fun ds h => by obtain ⟨_, _, rfl⟩ := A2_ne h; rfl) (fun cdv A outer s H vs Q E hr h => ?_), Binds.no (F.binds (fun _ _ _ _ _ _ us hl => match us, hl with | [_, _], _ => rfl))⟩
  refine ⟨_, (pss_cons (ps_expr (pe_calM C_check_lot hr (by decide) (takes_of rfl rfl rfl rfl) (by rfl) (pa_cons (pv 0) pa_nil))) (pss_one (ps_if (pt_cmpR op_gt (pe_callB (kr_sumM rfl) (by rfl) T.n_sum bt_sum (pa_cons (pv 0) pa_nil)) (pv 1) (nomark _)) (pss_one ps_never) pss_nil))), bodyM h fun ds hne => ?_⟩
  obtain ⟨v_lot, v_most, rfl⟩ := A2_ne hne
  exact ⟨_, rfl, (m_drop (b := false) (ρs := fun _ : Unit => ([.dat v_lot, .dat v_most] : En)) (s0 := ()) (g_call (F := L_check_lot) (dds := []) (ga_cons (g_var fun _ => rfl) ga_nil) (fun _ => Wk.uns rfl)) fun _ _ => (m_if (b := false) (ρs := fun _ : Unit => ([.dat v_lot, .dat v_most] : En)) (s0 := ()) (gt_t (g_op (g_cb (g_var fun _ => rfl) rcm_sum) (g_var fun _ => rfl) om_gt)) (fun _ => m_bad) (fun _ => (m_nx (s := ()) (p := 0) (w := Wk.uns rfl)))))⟩
theorem ok_next_tools {f : Addr} {fd : FuncData} (F : Fun K "next_tools" "next_tools" s_next_tools f fd) (m : mg "next_tools" = some (.ref f)) (T : Txt mg) : CalM P w K mg base [] "next_tools" 1 ["lot", "place", "last", "total"] (spM CA Rv.l L_next_tools) f fd := by
  refine ⟨m, F.kp, funG (CX := L2.CX P w) F scnext_tools (lenM fun ds h => by obtain ⟨_, _, _, _, rfl⟩ := A4_ne h; rfl) (fun cdv A outer s H vs Q E hr h => ?_), Binds.no (F.binds (fun _ _ _ _ _ _ us hl => match us, hl with | [_, _, _, _], _ => rfl))⟩
  refine ⟨_, (pss_one (ps_ret (pe_listRg rfl (by rfl) T.n_list (prg_2 (by rfl) T.n_range pe_int (pe_op op_addM (pe_callB (kr_min2 rfl) (by rfl) T.n_min bt_min (pa_cons (pv 2) (pa_cons (pe_op op_sub (pe_callB (kr_sumM rfl) (by rfl) T.n_sum bt_sum (pa_cons (pe_slice sl_M (pv 0) po_none (po_some (pe_op op_addM (pv 1) pe_int))) pa_nil)) (pv 3)) pa_nil))) pe_int))))), bodyL h fun ds hne => ?_⟩
  obtain ⟨v_lot, v_place, v_last, v_total, rfl⟩ := A4_ne hne
  exact ⟨_, rfl, (m_retL (b := false) (ρs := fun _ : Unit => ([.dat v_lot, .dat v_place, .dat v_last, .dat v_total] : En)) (s0 := ()) (o := fun o => []) (g_lrg2 g_int (g_op (g_cb2 (g_var fun _ => rfl) (g_op (g_cb (g_sl (g_var fun _ => rfl) go_n (go_s (g_op (g_var fun _ => rfl) g_int om_add)) slm) rcm_sum) (g_var fun _ => rfl) om_sub) rcm_min2) g_int om_add)) (fun _ => trivial))⟩
theorem ok_init_Counts {f CC : Addr} {fd : FuncData} (F : Fun K "__init__" "Counts.__init__" s_init_Counts f fd) (cl_ : Cls K CC) (na_1 : NoAttr K CC "lot") (na_2 : NoAttr K CC "numbers") : FnOk P w K mg base CX0 1 f fd ["self", "lot"] (spInit2 P w CC "lot" "numbers") := by
  refine F.ok sci_Counts (fun vs H Q E h => ?_) (fun cdv A outer s H vs Q E hr h => ⟨_, ?_, init2 cl_ na_1 na_2 (by decide +kernel) h⟩)
  · obtain ⟨x, dx, v, rfl, _⟩ := h; rfl
  · exact pss_cons (ps_fld (pv 0) (pv 1) rfl) (pss_one (ps_fld (pv 0) pe_newX rfl))
theorem ok_count {f CC : Addr} {fd : FuncData} (F : Fun K "count" "Counts.count" s_count f fd) (cl_ : Cls K CC) (mt_ : Meth K CC "count" f) (na_1 : NoAttr K CC "lot") (na_2 : NoAttr K CC "numbers") (T : Txt mg) {f_next_tools : Addr} {d_next_tools : FuncData} (C_next_tools : CalM P w K mg base [] "next_tools" 1 ["lot", "place", "last", "total"] (spM CA Rv.l L_next_tools) f_next_tools d_next_tools) (n : Nat) : MetM P w K mg base CC "count" (2 + n) ["self", "place", "last", "total"] (spR Rv.d (selfR P w CC "lot" "numbers") (fun c => [c.2.2.2]) (L_count n)) f fd := by
  induction n with
  | zero =>
    refine ⟨cl_, mt_, funG (CX := L2.CX P w) F sccount (lenR fun xs c ds h => by obtain ⟨_, _, _, rfl⟩ := A4_neR h; rfl) (fun cdv A outer s H vs Q E hr h => ?_), F.binds (fun _ _ _ _ _ _ us hl => match us, hl with | [_, _, _, _], _ => rfl)⟩
    exact (spBadR (fun xs ds => by unfold L_count A4; split <;> rfl) h).elim
  | succ n C_count =>
    refine ⟨cl_, mt_, funG (CX := L2.CX P w) F (k := 2 + n) sccount (lenR fun xs c ds h => by obtain ⟨_, _, _, rfl⟩ := A4_neR h; rfl) (fun cdv A outer s H vs Q E hr h => ?_), F.binds (fun _ _ _ _ _ _ us hl => match us, hl with | [_, _, _, _], _ => rfl)⟩
    refine ⟨_, (pss_cons (ps_set (i := 4) sccount.nd rfl (Or.inl rfl) (pe_tup (pa_cons (pv 1) (pa_cons (pv 2) (pa_cons (pv 3) pa_nil))))) (pss_cons (ps_if (pt_cmp (pc_ninX (Nat.lt_of_le_of_lt (Nat.add_le_add_left (by decide) _) (room65 hr.r)) (pv 4) (pe_fld (pv 0) rfl))) (pss_cons (ps_set (i := 5) sccount.nd rfl (Or.inl rfl) pe_int) (pss_cons (ps_for (passes_of rfl) rfl (pi_sq (pe_calM C_next_tools hr (by omega) takes0 (by rfl) (pa_cons (pe_fld (pv 0) rfl) (pa_cons (pv 1) (pa_cons (pv 2) (pa_cons (pv 3) pa_nil)))))) (pg_name (i := 6) sccount.nd rfl (Or.inl rfl)) (pss_one (ps_aug (i := 5) sccount.nd rfl (Or.inl rfl) (pe_metM C_count hr (by omega) takes0 (pv 0) (pa_cons (pe_op op_addM (pv 1) pe_int) (pa_cons (pv 6) (pa_cons (pe_op op_addM (pv 3) (pv 6)) pa_nil)))) ip_add))) (pss_one (ps_putX (Nat.lt_of_le_of_lt (Nat.add_le_add_left (by decide) _) (room65 hr.r)) (pe_fld (pv 0) rfl) (pv 4) (pv 5) (by rfl))))) pss_nil) (pss_one (ps_ret (pe_subX (Nat.lt_of_le_of_lt (Nat.add_le_add_left (by decide) _) (room65 hr.r)) (pe_fld (pv 0) rfl) (pv 4) (fun _ _ => rfl)))))), bodyMR (CA := CA) (selfR_S P w CC "lot" "numbers") outDO_is h (fun c_self o_self ds hne => ?_) (by decide)⟩
    obtain ⟨v_place, v_last, v_total, rfl⟩ := A4_neR hne
    exact ⟨_, rfl, (m_asg (b := false) (ρs := fun _ : Unit => ([.rg (selfR P w CC "lot" "numbers" c_self o_self), .dat v_place, .dat v_last, .dat v_total, .un, .un, .un] : En)) (s0 := ()) (g_tup (ga_cons (g_var fun _ => rfl) (ga_cons (g_var fun _ => rfl) (ga_cons (g_var fun _ => rfl) ga_nil)))) fun v1 _ => (m_seqJ (eJ := fun (s17 : List D) pp3 => ([.rg (selfR P w CC "lot" "numbers" c_self s17), .dat v_place, .dat v_last, .dat v_total, .dat v1, .un, .un] : En)) (m_if (b := false) (ρs := fun _ : Unit => ([.rg (selfR P w CC "lot" "numbers" c_self o_self), .dat v_place, .dat v_last, .dat v_total, .dat v1, .un, .un] : En)) (s0 := ()) (gt_B (g_ninS cl_ na_2 rfl (fun _ => rfl) (fun _ => rfl))) (fun _ => (m_asg (b := false) (ρs := fun _ : Unit => ([.rg (selfR P w CC "lot" "numbers" c_self o_self), .dat v_place, .dat v_last, .dat v_total, .dat v1, .un, .un] : En)) (s0 := ()) g_int fun v4 _ => (m_seqJ (eJ := fun (c7 : List D × D) pp8 => ([.rg (selfR P w CC "lot" "numbers" c_self c7.1), .dat v_place, .dat v_last, .dat v_total, .dat v1, .dat c7.2, .un] : En)) (m_for (b := false) (ρs := fun _ : Unit => ([.rg (selfR P w CC "lot" "numbers" c_self o_self), .dat v_place, .dat v_last, .dat v_total, .dat v1, .dat v4, .un] : En)) (s0 := ()) (i0 := fun _ => ((o_self, v4) : List D × D)) (p0 := 0) (gi_sq (g_fz (g_call (F := L_next_tools) (dds := []) (ga_cons (g_fldS cl_ na_1 (fun _ => rfl)) (ga_cons (g_var fun _ => rfl) (ga_cons (g_var fun _ => rfl) (ga_cons (g_var fun _ => rfl) ga_nil)))) (fun _ => Wk.uns rfl)))) (fun _ => ⟨.inr rfl, .inr rfl, .inr rfl, .inr rfl, .inr rfl, .inr rfl, .inl rfl, trivial⟩) (fun c7 pp8 x9 => (bd_1 (m_last (m_aug (f := (fun i j => i + j)) (i := 5) (b := true) (ρs := fun o => ([.rg (selfR P w CC "lot" "numbers" c_self o), .dat v_place, .dat v_last, .dat v_total, .dat v1, .dat c7.2, .dat x9] : En)) (s0 := c7.1) rfl (g_metR (rv := Rv.d) (F := (L_count n)) (X := fun c => [c.2.2.2]) (i := 0) (c := c_self) (selfR_S P w CC "lot" "numbers") (selfR_in rfl rfl) (fun _ => rfl) (fun _ _ => rfl) (ga_cons (g_op (g_var fun _ => rfl) g_int om_add) (ga_cons (g_var fun _ => rfl) (ga_cons (g_op (g_var fun _ => rfl) (g_var fun _ => rfl) om_add) ga_nil)))) fun t13 o14 => (m_nx (s := (o14, t13)) (p := 0) (w := ⟨.inr rfl, .inr rfl, .inr rfl, .inr rfl, .inr rfl, .inr rfl, .inl rfl, trivial⟩))))))) fun s15 pp8 => (m_last (m_putS (i := 0) (j := 4) (b := false) (ρs := fun _ : Unit => ([.rg (selfR P w CC "lot" "numbers" c_self s15.1), .dat v_place, .dat v_last, .dat v_total, .dat v1, .dat s15.2, .un] : En)) (s0 := ()) cl_ na_2 rfl (fun _ => rfl) (fun _ => rfl) (g_var fun _ => rfl) fun l16 _ => (m_nx (s := l16) (p := 0) (w := ⟨.inr rfl, .inr rfl, .inr rfl, .inr rfl, .inr rfl, .inl rfl, .inl rfl, trivial⟩))))))) (fun _ => (m_nx (s := o_self) (p := 0) (w := ⟨.inr rfl, .inr rfl, .inr rfl, .inr rfl, .inr rfl, .inl rfl, .inl rfl, trivial⟩)))) fun s17 pp3 => (m_ret (b := false) (ρs := fun _ : Unit => ([.rg (selfR P w CC "lot" "numbers" c_self s17), .dat v_place, .dat v_last, .dat v_total, .dat v1, .un, .un] : En)) (s0 := ()) (o := fun o => s17) (g_subS cl_ na_2 rfl (fun _ => rfl) (fun _ => rfl)) (fun _ => rfl))))⟩
theorem ok_count_covered {f : Addr} {fd : FuncData} (F : Fun K "count_covered" "count_covered" s_count_covered f fd) (m : mg "count_covered" = some (.ref f)) (T : Txt mg) {f_check_small : Addr} {d_check_small : FuncData} (C_check_small : CalM P w K mg base [] "check_small" 4 ["lot", "most"] (spM CA Rv.d L_check_small) f_check_small d_check_small) {f_count : Addr} {d_count : FuncData} {CC fI_Counts : Addr} {dI_Counts : FuncData} (M_Counts : Mk K CC fI_Counts) (gC_Counts : mg "Counts" = some (.ref CC)) (GI_Counts : FnOk P w K mg base CX0 1 fI_Counts dI_Counts ["self", "lot"] (spInit2 P w CC "lot" "numbers")) (bI_Counts : Binds K dI_Counts ["self", "lot"] []) (C_count : MetM P w K mg base CC "count" 72 ["self", "place", "last", "total"] (spR Rv.d (selfR P w CC "lot" "numbers") (fun c => [c.2.2.2]) (L_count 70)) f_count d_count) : CalM P w K mg base [] "count_covered" 73 ["lot"] (spM CA Rv.d L_count_covered) f fd := by
  refine ⟨m, F.kp, funG (CX := L2.CX P w) F sccount_covered (lenM fun ds h => by obtain ⟨_, rfl⟩ := A1_ne h; rfl) (fun cdv A outer s H vs Q E hr h => ?_), Binds.no (F.binds (fun _ _ _ _ _ _ us hl => match us, hl with | [_], _ => rfl))⟩
  refine ⟨_, (pss_cons (ps_expr (pe_calM C_check_small hr (by decide) (takes_of rfl rfl rfl rfl) (by rfl) (pa_cons (pv 0) (pa_cons (pe_gl (by rfl) T.c_MOST_COUNTED) pa_nil)))) (pss_one (ps_ret (pe_metM C_count hr (by decide) (takes_of rfl rfl rfl rfl) (pe_make M_Counts GI_Counts (hr.r.mono (by decide)) (by rfl) gC_Counts bI_Counts .nil pass0 (pa_cons (pv 0) pa_nil)) (pa_cons pe_int (pa_cons (pe_callB (kr_sumM rfl) (by rfl) T.n_sum bt_sum (pa_cons (pv 0) pa_nil)) (pa_cons pe_int pa_nil))))))), bodyM h fun ds hne => ?_⟩
  obtain ⟨v_lot, rfl⟩ := A1_ne hne
  exact ⟨_, rfl, (m_drop (b := false) (ρs := fun _ : Unit => ([.dat v_lot] : En)) (s0 := ()) (g_call (F := L_check_small) (dds := []) (ga_cons (g_var fun _ => rfl) (ga_cons g_int ga_nil)) (fun _ => Wk.uns rfl)) fun _ _ => (m_ret (b := false) (ρs := fun _ : Unit => ([.dat v_lot] : En)) (s0 := ()) (o := fun o => []) (g_newM (rv := Rv.d) (F := (L_count 70)) rfl rfl (g_var fun _ => rfl) (ga_cons g_int (ga_cons (g_cb (g_var fun _ => rfl) rcm_sum) (ga_cons g_int ga_nil)))) (fun _ => trivial)))⟩
theorem ok__law_mixed {f : Addr} {fd : FuncData} (F : Fun K "_law_mixed" "_law_mixed" s_law_mixed f fd) (m : mg "_law_mixed" = some (.ref f)) (T : Txt mg) : CalM P w K mg base [] "_law_mixed" 1 ["cell", "k"] (spM CA Rv.d L__law_mixed) f fd := by
  refine ⟨m, F.kp, funG (CX := L2.CX P w) F sc_law_mixed (lenM fun ds h => by obtain ⟨_, _, rfl⟩ := A2_ne h; rfl) (fun cdv A outer s H vs Q E hr h => ?_), Binds.no (F.binds (fun _ _ _ _ _ _ us hl => match us, hl with | [_, _], _ => rfl))⟩
  refine ⟨_, (pss_cons (ps_set (i := 2) sc_law_mixed.nd rfl (Or.inl rfl) (pe_op op_mod (pe_op op_addM (pe_op op_addM (pe_op op_mulM (pe_op op_mod (pv 0) pe_int) pe_int) (pe_op op_mulM (pv 1) pe_int)) pe_int) pe_int)) (pss_cons (ps_set (i := 2) sc_law_mixed.nd rfl (Or.inl rfl) (pe_op op_mod (pe_op op_mulM (pv 2) (pv 2)) pe_int)) (pss_one (ps_ret (pe_op op_mod (pe_op op_mulM (pv 2) (pe_op op_addM (pv 2) pe_int)) pe_int))))), bodyM h fun ds hne => ?_⟩
  obtain ⟨v_cell, v_k, rfl⟩ := A2_ne hne
  exact ⟨_, rfl, (m_asg (b := false) (ρs := fun _ : Unit => ([.dat v_cell, .dat v_k, .un] : En)) (s0 := ()) (g_op (g_op (g_op (g_op (g_op (g_var fun _ => rfl) g_int om_mod) g_int om_mul) (g_op (g_var fun _ => rfl) g_int om_mul) om_add) g_int om_add) g_int om_mod) fun t6 _ => (m_asg (b := false) (ρs := fun _ : Unit => ([.dat v_cell, .dat v_k, .dat t6] : En)) (s0 := ()) (g_op (g_op (g_var fun _ => rfl) (g_var fun _ => rfl) om_mul) g_int om_mod) fun t8 _ => (m_ret (b := false) (ρs := fun _ : Unit => ([.dat v_cell, .dat v_k, .dat t8] : En)) (s0 := ()) (o := fun o => []) (g_op (g_op (g_var fun _ => rfl) (g_op (g_var fun _ => rfl) g_int om_add) om_mul) g_int om_mod) (fun _ => trivial))))⟩
theorem ok__law_cell {f : Addr} {fd : FuncData} (F : Fun K "_law_cell" "_law_cell" s_law_cell f fd) (m : mg "_law_cell" = some (.ref f)) (T : Txt mg) {f__law_mixed : Addr} {d__law_mixed : FuncData} (C__law_mixed : CalM P w K mg base [] "_law_mixed" 1 ["cell", "k"] (spM CA Rv.d L__law_mixed) f__law_mixed d__law_mixed) : CalM P w K mg base [] "_law_cell" 2 ["script", "k"] (spK K (RK Rv.d L__law_cell)) f fd := by
  refine ⟨m, F.kp, funG (CX := L2.CX P w) F sc_law_cell (lenMS fun ns ds h => by obtain ⟨_, rfl⟩ := A1_ne h; rfl) (fun cdv A outer s H vs Q E hr h => ?_), Binds.no (F.binds (fun _ _ _ _ _ _ us hl => match us, hl with | [_, _], _ => rfl))⟩
  refine ⟨_, (pss_cons (ps_set (i := 2) sc_law_cell.nd rfl (Or.inl rfl) pe_int) (pss_cons (ps_if (pt_cmpR op_lt (pv 1) (pe_callB kr_len (by rfl) T.n_len bt_len (pa_cons (pv 0) pa_nil)) (nomark _)) (pss_one (ps_set (i := 2) sc_law_cell.nd rfl (Or.inl rfl) (pe_ix ix_list (pv 0) (pv 1) (fun _ _ => rfl)))) pss_nil) (pss_cons (ps_if (pt_cmpR op_ge (pv 2) (pe_op op_pow pe_int pe_int) (nomark _)) (pss_one (ps_ret (pe_op op_mod (pe_op op_sub (pv 2) (pe_op op_pow pe_int pe_int)) (pe_op op_mulM (pe_op op_mulM (pe_op op_mulM (pe_op op_pow pe_int pe_int) (pe_op op_pow pe_int pe_int)) (pe_op op_pow pe_int pe_int)) (pe_op op_pow pe_int pe_int))))) pss_nil) (pss_cons (ps_set (i := 3) sc_law_cell.nd rfl (Or.inl rfl) pe_int) (pss_cons (ps_for (passes_of rfl) rfl (pi_range1 (by rfl) T.n_range (pa_cons pe_int pa_nil)) (pg_name (i := 4) sc_law_cell.nd rfl (Or.inl rfl)) (pss_one (ps_set (i := 3) sc_law_cell.nd rfl (Or.inl rfl) (pe_op op_addM (pe_op op_mulM (pv 3) pe_int) (pe_calM C__law_mixed hr (by decide) takes0 (by rfl) (pa_cons (pv 2) (pa_cons (pe_op op_addM (pe_op op_addM (pe_op op_mulM pe_int (pv 1)) (pe_op op_mulM pe_int (pv 4))) (pe_op op_mulM (pv 4) (pv 4))) pa_nil))))))) (pss_one (ps_ret (pv 3)))))))), bodyMS (CA := CA) h fun ns ds hne => ?_⟩
  obtain ⟨v_k, rfl⟩ := A1_ne hne
  exact ⟨_, rfl, (m_asg (b := false) (ρs := fun _ : Unit => ([.kl K ns, .dat v_k, .un, .un, .un] : En)) (s0 := ()) g_int fun v1 _ => (m_seqJ (eJ := fun (s5 : D) pp3 => ([.kl K ns, .dat v_k, .dat s5, .un, .un] : En)) (m_if (b := false) (ρs := fun _ : Unit => ([.kl K ns, .dat v_k, .dat v1, .un, .un] : En)) (s0 := ()) (gt_t (g_op (g_var fun _ => rfl) (g_lenK fun _ => rfl) om_lt)) (fun _ => (m_last (m_asg (b := false) (ρs := fun _ : Unit => ([.kl K ns, .dat v_k, .dat v1, .un, .un] : En)) (s0 := ()) (g_ixK (fun _ => rfl) (g_var fun _ => rfl)) fun t4 _ => (m_nx (s := t4) (p := 0) (w := ⟨.inr rfl, .inr rfl, .inr rfl, .inl rfl, .inl rfl, trivial⟩))))) (fun _ => (m_nx (s := v1) (p := 0) (w := ⟨.inr rfl, .inr rfl, .inr rfl, .inl rfl, .inl rfl, trivial⟩)))) fun s5 pp3 => (m_ifX (b := false) (ρs := fun _ : Unit => ([.kl K ns, .dat v_k, .dat s5, .un, .un] : En)) (s0 := ()) (gt_t (g_op (g_var fun _ => rfl) (g_op g_int g_int om_pow) om_ge)) (fun _ => (m_ret (b := false) (ρs := fun _ : Unit => ([.kl K ns, .dat v_k, .dat s5, .un, .un] : En)) (s0 := ()) (o := fun o => []) (g_op (g_op (g_var fun _ => rfl) (g_op g_int g_int om_pow) om_sub) (g_op (g_op (g_op (g_op g_int g_int om_pow) (g_op g_int g_int om_pow) om_mul) (g_op g_int g_int om_pow) om_mul) (g_op g_int g_int om_pow) om_mul) om_mod) (fun _ => trivial))) (fun _ => (m_asg (b := false) (ρs := fun _ : Unit => ([.kl K ns, .dat v_k, .dat s5, .un, .un] : En)) (s0 := ()) g_int fun v18 _ => (m_seqJ (eJ := fun (c20 : D) pp21 => ([.kl K ns, .dat v_k, .dat s5, .dat c20, .un] : En)) (m_for (b := false) (ρs := fun _ : Unit => ([.kl K ns, .dat v_k, .dat s5, .dat v18, .un] : En)) (s0 := ()) (i0 := fun _ => (v18 : D)) (p0 := 0) (gi_r1 g_int) (fun _ => ⟨.inr rfl, .inr rfl, .inr rfl, .inr rfl, .inl rfl, trivial⟩) (fun c20 pp21 x22 => (bd_1 (m_last (m_asg (b := false) (ρs := fun _ : Unit => ([.kl K ns, .dat v_k, .dat s5, .dat c20, .dat x22] : En)) (s0 := ()) (g_op (g_op (g_var fun _ => rfl) g_int om_mul) (g_call (F := L__law_mixed) (dds := []) (ga_cons (g_var fun _ => rfl) (ga_cons (g_op (g_op (g_op g_int (g_var fun _ => rfl) om_mul) (g_op g_int (g_var fun _ => rfl) om_mul) om_add) (g_op (g_var fun _ => rfl) (g_var fun _ => rfl) om_mul) om_add) ga_nil)) (fun _ => Wk.uns rfl)) om_add) fun t30 _ => (m_nx (s := t30) (p := 0) (w := ⟨.inr rfl, .inr rfl, .inr rfl, .inr rfl, .inl rfl, trivial⟩))))))) fun s31 pp21 => (m_ret (b := false) (ρs := fun _ : Unit => ([.kl K ns, .dat v_k, .dat s5, .dat s31, .un] : En)) (s0 := ()) (o := fun o => []) (g_var fun _ => rfl) (fun _ => trivial))))))))⟩
theorem ok__law_take {f : Addr} {fd : FuncData} (F : Fun K "_law_take" "_law_take" s_law_take f fd) (m : mg "_law_take" = some (.ref f)) (T : Txt mg) : CalM P w K mg base [] "_law_take" 1 ["digits", "size"] (spO (RO Rv.d L__law_take)) f fd := by
  refine ⟨m, F.kp, funG (CX := L2.CX P w) F sc_law_take (lenMO fun xs ds h => by obtain ⟨_, rfl⟩ := A1_ne h; rfl) (fun cdv A outer s H vs Q E hr h => ?_), Binds.no (F.binds (fun _ _ _ _ _ _ us hl => match us, hl with | [_, _], _ => rfl))⟩
  refine ⟨_, (pss_cons (ps_set (i := 2) sc_law_take.nd rfl (Or.inl rfl) (pe_op op_mod (pe_ix ix_M (pv 0) pe_int (fun _ _ => rfl)) (pv 1))) (pss_cons (ps_asg (pe_op op_fdiv (pe_ix ix_M (pv 0) pe_int (fun _ _ => rfl)) (pv 1)) (pg_subL (pv 0) pe_int)) (pss_one (ps_ret (pv 2))))), bodyMO (CA := CA) outDO_is h (fun p_digits o_digits ds hne => ?_) (by decide)⟩
  obtain ⟨v_size, rfl⟩ := A1_ne hne
  exact ⟨_, rfl, (m_asg (b := false) (ρs := fun _ : Unit => ([.mu p_digits o_digits, .dat v_size, .un] : En)) (s0 := ()) (g_op (g_bor (z' := zB CA 3) (chk := noL) 0 (fun _ => rfl) (fun _ h => h) fun _ => (g_op (g_var fun _ => rfl) g_int om_ix)) (g_var fun _ => rfl) om_mod) fun t3 _ => (m_setix (i := 0) (p := p_digits) (ys := fun o => o_digits) (b := false) (ρs := fun _ : Unit => ([.mu p_digits o_digits, .dat v_size, .dat t3] : En)) (s0 := ()) (fun _ => rfl) (g_op (g_bor (z' := zB CA 3) (chk := noL) 0 (fun _ => rfl) (fun _ h => h) fun _ => (g_op (g_var fun _ => rfl) g_int om_ix)) (g_var fun _ => rfl) om_fdiv) (fun _ => g_int) fun l8 _ => (m_ret (b := false) (ρs := fun _ : Unit => ([.mu p_digits l8, .dat v_size, .dat t3] : En)) (s0 := ()) (o := fun o => l8) (g_var fun _ => rfl) (fun _ => rfl))))⟩
theorem ok__law_count {f : Addr} {fd : FuncData} (F : Fun K "_law_count" "_law_count" s_law_count f fd) (m : mg "_law_count" = some (.ref f)) (T : Txt mg) (n : Nat) : CalM P w K mg base [] "_law_count" (1 + n) ["lot", "known", "many", "most", "total"] (spR1 Rv.d (rgD P w) (L__law_count n)) f fd := by
  induction n with
  | zero =>
    refine ⟨m, F.kp, funG (CX := L2.CX P w) F sc_law_count (lenR1 fun xs d0 ds h => by obtain ⟨_, _, _, rfl⟩ := A4_neR h; rfl) (fun cdv A outer s H vs Q E hr h => ?_), Binds.no (F.binds (fun _ _ _ _ _ _ us hl => match us, hl with | [_, _, _, _, _], _ => rfl))⟩
    exact (spBadR1 (fun xs ds => by unfold L__law_count A4; split <;> rfl) h).elim
  | succ n C__law_count =>
    refine ⟨m, F.kp, funG (CX := L2.CX P w) F (k := 1 + n) sc_law_count (lenR1 fun xs d0 ds h => by obtain ⟨_, _, _, rfl⟩ := A4_neR h; rfl) (fun cdv A outer s H vs Q E hr h => ?_), Binds.no (F.binds (fun _ _ _ _ _ _ us hl => match us, hl with | [_, _, _, _, _], _ => rfl))⟩
    refine ⟨_, (pss_cons (ps_set (i := 5) sc_law_count.nd rfl (Or.inl rfl) (pe_tup (pa_cons (pv 2) (pa_cons (pv 3) (pa_cons (pv 4) pa_nil))))) (pss_cons (ps_if (pt_cmp (pc_ninX (Nat.lt_of_le_of_lt (Nat.add_le_add_left (by decide) _) (room65 hr.r)) (pv 5) (pv 1))) (pss_cons (ps_set (i := 6) sc_law_count.nd rfl (Or.inl rfl) pe_int) (pss_cons (ps_set (i := 7) sc_law_count.nd rfl (Or.inl rfl) (pe_callB (kr_sumM rfl) (by rfl) T.n_sum bt_sum (pa_cons (pe_slice sl_M (pv 0) po_none (po_some (pe_op op_addM (pv 2) pe_int))) pa_nil))) (pss_cons (ps_for (passes_of rfl) rfl (pi_range2 (by rfl) T.n_range (pa_cons pe_int (pa_cons (pe_op op_addM (pe_callB (kr_min2 rfl) (by rfl) T.n_min bt_min (pa_cons (pv 3) (pa_cons (pe_op op_sub (pv 7) (pv 4)) pa_nil))) pe_int) pa_nil))) (pg_name (i := 8) sc_law_count.nd rfl (Or.inl rfl)) (pss_one (ps_set (i := 6) sc_law_count.nd rfl (Or.inl rfl) (pe_op op_addM (pv 6) (pe_calM C__law_count hr (by omega) takes0 (by rfl) (pa_cons (pv 0) (pa_cons (pv 1) (pa_cons (pe_op op_addM (pv 2) pe_int) (pa_cons (pv 8) (pa_cons (pe_op op_addM (pv 4) (pv 8)) pa_nil)))))))))) (pss_one (ps_putX (Nat.lt_of_le_of_lt (Nat.add_le_add_left (by decide) _) (room65 hr.r)) (pv 1) (pv 5) (pv 6) (by rfl)))))) pss_nil) (pss_one (ps_ret (pe_subX (Nat.lt_of_le_of_lt (Nat.add_le_add_left (by decide) _) (room65 hr.r)) (pv 1) (pv 5) (fun _ _ => rfl)))))), bodyMR1 (CA := CA) (rgD_S P w) outDO_is h (fun p_known v_lot o_known ds hne => ?_) (by decide)⟩
    obtain ⟨v_many, v_most, v_total, rfl⟩ := A4_neR hne
    exact ⟨_, rfl, (m_asg (b := false) (ρs := fun _ : Unit => ([.dat v_lot, .rg (rgD P w p_known o_known), .dat v_many, .dat v_most, .dat v_total, .un, .un, .un, .un] : En)) (s0 := ()) (g_tup (ga_cons (g_var fun _ => rfl) (ga_cons (g_var fun _ => rfl) (ga_cons (g_var fun _ => rfl) ga_nil)))) fun v1 _ => (m_seqJ (eJ := fun (s24 : List D) pp3 => ([.dat v_lot, .rg (rgD P w p_known s24), .dat v_many, .dat v_most, .dat v_total, .dat v1, .un, .un, .un] : En)) (m_if (b := false) (ρs := fun _ : Unit => ([.dat v_lot, .rg (rgD P w p_known o_known), .dat v_many, .dat v_most, .dat v_total, .dat v1, .un, .un, .un] : En)) (s0 := ()) (gt_B (g_ninD (fun _ => rfl) (fun _ => rfl))) (fun _ => (m_asg (b := false) (ρs := fun _ : Unit => ([.dat v_lot, .rg (rgD P w p_known o_known), .dat v_many, .dat v_most, .dat v_total, .dat v1, .un, .un, .un] : En)) (s0 := ()) g_int fun v4 _ => (m_asg (b := false) (ρs := fun _ : Unit => ([.dat v_lot, .rg (rgD P w p_known o_known), .dat v_many, .dat v_most, .dat v_total, .dat v1, .dat v4, .un, .un] : En)) (s0 := ()) (g_cb (g_sl (g_var fun _ => rfl) go_n (go_s (g_op (g_var fun _ => rfl) g_int om_add)) slm) rcm_sum) fun t8 _ => (m_seqJ (eJ := fun (c13 : List D × D) pp14 => ([.dat v_lot, .rg (rgD P w p_known c13.1), .dat v_many, .dat v_most, .dat v_total, .dat v1, .dat c13.2, .dat t8, .un] : En)) (m_for (b := false) (ρs := fun _ : Unit => ([.dat v_lot, .rg (rgD P w p_known o_known), .dat v_many, .dat v_most, .dat v_total, .dat v1, .dat v4, .dat t8, .un] : En)) (s0 := ()) (i0 := fun _ => ((o_known, v4) : List D × D)) (p0 := 0) (gi_r2 g_int (g_op (g_cb2 (g_var fun _ => rfl) (g_op (g_var fun _ => rfl) (g_var fun _ => rfl) om_sub) rcm_min2) g_int om_add)) (fun _ => ⟨.inr rfl, .inr rfl, .inr rfl, .inr rfl, .inr rfl, .inr rfl, .inr rfl, .inr rfl, .inl rfl, trivial⟩) (fun c13 pp14 x15 => (bd_1 (m_last (m_asg (b := true) (ρs := fun o => ([.dat v_lot, .rg (rgD P w p_known o), .dat v_many, .dat v_most, .dat v_total, .dat v1, .dat c13.2, .dat t8, .dat x15] : En)) (s0 := c13.1) (g_op (g_var fun _ => rfl) (g_callR1 (rv := Rv.d) (F := (L__law_count n)) (mk := rgD P w) (c := p_known) (j := 0) (i := 1) (rgD_S P w) (fun _ => rfl) (fun _ => rfl) (fun _ _ => rfl) (ga_cons (g_op (g_var fun _ => rfl) g_int om_add) (ga_cons (g_var fun _ => rfl) (ga_cons (g_op (g_var fun _ => rfl) (g_var fun _ => rfl) om_add) ga_nil)))) om_add) fun t19 o20 => (m_nx (s := (o20, t19)) (p := 0) (w := ⟨.inr rfl, .inr rfl, .inr rfl, .inr rfl, .inr rfl, .inr rfl, .inr rfl, .inr rfl, .inl rfl, trivial⟩))))))) fun s21 pp14 => (m_last (m_putD (i := 1) (p := p_known) (es := fun _ => s21.1) (b := false) (ρs := fun _ : Unit => ([.dat v_lot, .rg (rgD P w p_known s21.1), .dat v_many, .dat v_most, .dat v_total, .dat v1, .dat s21.2, .dat t8, .un] : En)) (s0 := ()) (fun _ => rfl) (g_var fun _ => rfl) (fun _ => (g_var fun _ => rfl)) fun l23 _ => (m_nx (s := l23) (p := 0) (w := ⟨.inr rfl, .inr rfl, .inr rfl, .inr rfl, .inr rfl, .inr rfl, .inl rfl, .inl rfl, .inl rfl, trivial⟩)))))))) (fun _ => (m_nx (s := o_known) (p := 0) (w := ⟨.inr rfl, .inr rfl, .inr rfl, .inr rfl, .inr rfl, .inr rfl, .inl rfl, .inl rfl, .inl rfl, trivial⟩)))) fun s24 pp3 => (m_ret (b := false) (ρs := fun _ : Unit => ([.dat v_lot, .rg (rgD P w p_known s24), .dat v_many, .dat v_most, .dat v_total, .dat v1, .un, .un, .un] : En)) (s0 := ()) (o := fun o => s24) (g_subD (fun _ => rfl) (fun _ => rfl)) (fun _ => rfl))))⟩
theorem ok__law_lot_up_to {f : Addr} {fd : FuncData} (F : Fun K "_law_lot_up_to" "_law_lot_up_to" s_law_lot_up_to f fd) (m : mg "_law_lot_up_to" = some (.ref f)) (T : Txt mg) {f__law_take : Addr} {d__law_take : FuncData} (C__law_take : CalM P w K mg base [] "_law_take" 1 ["digits", "size"] (spO (RO Rv.d L__law_take)) f__law_take d__law_take) : CalM P w K mg base [] "_law_lot_up_to" 2 ["digits", "left"] (spO (RO Rv.d L__law_lot_up_to)) f fd := by
  refine ⟨m, F.kp, funG (CX := L2.CX P w) F sc_law_lot_up_to (lenMO fun xs ds h => by obtain ⟨_, rfl⟩ := A1_ne h; rfl) (fun cdv A outer s H vs Q E hr h => ?_), Binds.no (F.binds (fun _ _ _ _ _ _ us hl => match us, hl with | [_, _], _ => rfl))⟩
  refine ⟨_, (pss_cons (ps_set (i := 2) sc_law_lot_up_to.nd rfl (Or.inl rfl) (pe_lst pa_nil)) (pss_cons (ps_while (passes_of rfl) (pt_cmpR op_gt (pv 1) pe_int (nomark _)) (pss_cons (ps_expr (pe_bm PySem.F.plainAttrs_list PySem.F.slot_list_append PySem.F.type_list_append mt_append (pv 2) (pa_cons (pe_op op_addM pe_int (pe_calM C__law_take hr (by decide) takes0 (by rfl) (pa_cons (pv 0) (pa_cons (pe_callB (kr_min2 rfl) (by rfl) T.n_min bt_min (pa_cons (pv 1) (pa_cons (pe_op op_addM pe_int (pe_calM C__law_take hr (by decide) takes0 (by rfl) (pa_cons (pv 0) (pa_cons (pv 1) pa_nil)))) pa_nil))) pa_nil)))) pa_nil))) (pss_one (ps_set (i := 1) sc_law_lot_up_to.nd rfl (Or.inl rfl) (pe_op op_sub (pv 1) (pe_ix ix_M (pv 2) (pe_un un_neg pe_int) (fun _ _ => rfl))))))) (pss_one (ps_ret (pe_callTy kr_tup (by rfl) T.n_tuple bt_tuple (pa_cons (pe_revL (pe_callB cr_sortedI (by rfl) T.n_sorted bt_sorted (pa_cons (pv 2) pa_nil))) pa_nil)))))), bodyMO (CA := CA) outDO_is h (fun p_digits o_digits ds hne => ?_) (by decide)⟩
  obtain ⟨v_left, rfl⟩ := A1_ne hne
  exact ⟨_, rfl, (m_asgL (b := false) (ρs := fun _ : Unit => ([.mu p_digits o_digits, .dat v_left, .un] : En)) (s0 := ()) (g_lst ga_nil) fun l1 _ p2 _ => (m_seqJ (eJ := fun (c3 : List D × D × List D) pp4 => ([.mu p_digits c3.1, .dat c3.2.1, .mu p2 c3.2.2] : En)) (m_while (fuel := 1000000) (i0 := ((o_digits, v_left, l1) : List D × D × List D)) (p0 := 0) ⟨.inr rfl, .inr rfl, .inr rfl, trivial⟩ (fun c3 pp4 => (gt_t (g_op (g_var fun _ => rfl) g_int om_gt))) (fun c3 pp4 => (m_app (i := 2) (p := p2) (ys := fun _ => c3.2.2) (b := true) (ρs := fun o => ([.mu p_digits o, .dat c3.2.1, .mu p2 c3.2.2] : En)) (s0 := c3.1) (fun _ => rfl) (g_op g_int (g_callO (F := L__law_take) (i := 0) (p := p_digits) (fun _ => rfl) (fun _ _ => rfl) (ga_cons (g_cb2 (g_var fun _ => rfl) (g_op g_int (g_callO (F := L__law_take) (i := 0) (p := p_digits) (fun _ => rfl) (fun _ _ => rfl) (ga_cons (g_var fun _ => rfl) ga_nil)) om_add) rcm_min2) ga_nil)) om_add) fun l12 o11 => (m_last (m_asg (b := false) (ρs := fun _ : Unit => ([.mu p_digits o11, .dat c3.2.1, .mu p2 l12] : En)) (s0 := ()) (g_op (g_var fun _ => rfl) (g_bor (z' := zB CA 3) (chk := noL) 2 (fun _ => rfl) (fun _ h => h) fun _ => (g_op (g_var fun _ => rfl) (g_un g_int um_neg) om_ix)) om_sub) fun t16 _ => (m_nx (s := (o11, t16, l12)) (p := 0) (w := ⟨.inr rfl, .inr rfl, .inr rfl, trivial⟩))))))) fun s17 pp4 => (m_fz 2 rfl (m_ret (b := false) (ρs := fun _ : Unit => ([.mu p_digits s17.1, .dat s17.2.1, .dat (.list s17.2.2)] : En)) (s0 := ()) (o := fun o => s17.1) (g_cb (g_fz (g_rev (g_fz (g_cb (g_var fun _ => rfl) rcm_sorted)))) rcm_tup) (fun _ => rfl)))))⟩
theorem ok_law {f : Addr} {fd : FuncData} (F : Fun K "law" "law" s_law f fd) (T : Txt mg) {f_count_covered : Addr} {d_count_covered : FuncData} (C_count_covered : CalM P w K mg base [] "count_covered" 73 ["lot"] (spM CA Rv.d L_count_covered) f_count_covered d_count_covered) {f__law_cell : Addr} {d__law_cell : FuncData} (C__law_cell : CalM P w K mg base [] "_law_cell" 2 ["script", "k"] (spK K (RK Rv.d L__law_cell)) f__law_cell d__law_cell) {f__law_take : Addr} {d__law_take : FuncData} (C__law_take : CalM P w K mg base [] "_law_take" 1 ["digits", "size"] (spO (RO Rv.d L__law_take)) f__law_take d__law_take) {f__law_count : Addr} {d__law_count : FuncData} (C__law_count : CalM P w K mg base [] "_law_count" 71 ["lot", "known", "many", "most", "total"] (spR1 Rv.d (rgD P w) (L__law_count 70)) f__law_count d__law_count) {f__law_lot_up_to : Addr} {d__law_lot_up_to : FuncData} (C__law_lot_up_to : CalM P w K mg base [] "_law_lot_up_to" 2 ["digits", "left"] (spO (RO Rv.d L__law_lot_up_to)) f__law_lot_up_to d__law_lot_up_to) (hl : ∀ ns : List Int, ns.length ≤ 63 → m_law ns = .ok (.bool true)) : FnOkG P w K mg base CX0 74 f fd ["script"] (spK K R_law) := by
  refine funG0 F sclaw (lenK fun ns ds r h => by obtain ⟨rfl, _⟩ := h; rfl) (fun cdv A outer s H vs Q E hr h => ?_)
  refine ⟨_, (pss_cons (ps_for PassesOwn.never rfl (pi_range1 (by rfl) T.n_range (pa_cons (pe_callB (kr_max2 rfl) (by rfl) T.n_max bt_max (pa_cons (pe_callB (kr_min2 rfl) (by rfl) T.n_min bt_min (pa_cons (pe_callB kr_len (by rfl) T.n_len bt_len (pa_cons (pv 0) pa_nil)) (pa_cons pe_int pa_nil))) (pa_cons pe_int pa_nil))) pa_nil)) (pg_name (i := 1) sclaw.nd rfl (Or.inl rfl)) (pss_cons (ps_set (i := 2) sclaw.nd rfl (Or.inl rfl) (pe_lst (pa_cons (pe_calM C__law_cell hr (by decide) takes0 (by rfl) (pa_cons (pv 0) (pa_cons (pv 1) pa_nil))) pa_nil))) (pss_one (ps_for PassesOwn.never rfl (pi_range1 (by rfl) T.n_range (pa_cons pe_int pa_nil)) (pg_name (i := 3) sclaw.nd rfl (Or.inl rfl)) (pss_cons (ps_set (i := 4) sclaw.nd rfl (Or.inl rfl) (pe_calM C__law_lot_up_to hr (by decide) takes0 (by rfl) (pa_cons (pv 2) (pa_cons (pe_op op_sub (pe_ix ix_M (pe_lst (pa_cons pe_int (pa_cons pe_int (pa_cons pe_int pa_nil)))) (pe_calM C__law_take hr (by decide) takes0 (by rfl) (pa_cons (pv 2) (pa_cons pe_int pa_nil))) (fun _ _ => rfl)) (pe_calM C__law_take hr (by decide) takes0 (by rfl) (pa_cons (pv 2) (pa_cons pe_int pa_nil)))) pa_nil)))) (pss_one (ps_if (pt_cmpR (op_neX hr.units) (pe_calM C_count_covered hr (by decide) takes0 (by rfl) (pa_cons (pv 4) pa_nil)) (pe_calM C__law_count hr (by decide) takes0 (by rfl) (pa_cons (pv 4) (pa_cons pe_newX (pa_cons pe_int (pa_cons (pe_callB (kr_maxI rfl) (by rfl) T.n_max bt_max (pa_cons (pv 4) pa_nil)) (pa_cons pe_int pa_nil)))))) (nomark _)) (pss_one (ps_ret pe_bl)) pss_nil))))))) (pss_one (ps_ret (pe_and (pe_cmpR (op_eqX hr.units) (pe_calM C_count_covered hr (by decide) takes0 (by rfl) (pa_cons (pe_op op_mulM (pe_tup (pa_cons pe_int pa_nil)) pe_int) pa_nil)) pe_int (nomark _)) (pe_one (pe_cmpR (op_eqX hr.units) (pe_calM C_count_covered hr (by decide) takes0 (by rfl) (pa_cons (pe_tup (pa_cons pe_int pa_nil)) pa_nil)) pe_int (nomark _))))))), bodyMS (CA := CA) (F := L_law) (law_to hl h) fun ns ds hne => ?_⟩
  obtain rfl := A0_ne hne
  exact ⟨_, rfl, (m_seqJ (eJ := fun (c4 : Unit) pp5 => ([.kl K ns, .un, .un, .un, .un] : En)) (m_for (b := false) (ρs := fun _ : Unit => ([.kl K ns, .un, .un, .un, .un] : En)) (s0 := ()) (i0 := fun _ => (() : Unit)) (p0 := 0) (gi_r1 (g_cb2 (g_cb2 (g_lenK fun _ => rfl) g_int rcm_min2) g_int rcm_max2)) (fun _ => ⟨.inr rfl, .inl rfl, .inl rfl, .inl rfl, .inl rfl, trivial⟩) (fun c4 pp5 x6 => (bd_1 (m_asgL (b := false) (ρs := fun _ : Unit => ([.kl K ns, .dat x6, .un, .un, .un] : En)) (s0 := ()) (g_lst (ga_cons (g_callS (F := L__law_cell) (fun _ => rfl) (ga_cons (g_var fun _ => rfl) ga_nil)) ga_nil)) fun l8 _ p9 _ => (m_last (m_seqJ (eJ := fun (c11 : List D) pp12 => ([.kl K ns, .dat x6, .mu p9 c11, .un, .un] : En)) (m_for (b := false) (ρs := fun _ : Unit => ([.kl K ns, .dat x6, .mu p9 l8, .un, .un] : En)) (s0 := ()) (i0 := fun _ => (l8 : List D)) (p0 := 0) (gi_r1 g_int) (fun _ => ⟨.inr rfl, .inr rfl, .inr rfl, .inl rfl, .inl rfl, trivial⟩) (fun c11 pp12 x13 => (bd_1 (m_asg (b := true) (ρs := fun o => ([.kl K ns, .dat x6, .mu p9 o, .dat x13, .un] : En)) (s0 := c11) (g_callO (F := L__law_lot_up_to) (i := 2) (p := p9) (fun _ => rfl) (fun _ _ => rfl) (ga_cons (g_op (g_op (g_fz (g_lst (ga_cons g_int (ga_cons g_int (ga_cons g_int ga_nil))))) (g_callO (F := L__law_take) (i := 2) (p := p9) (fun _ => rfl) (fun _ _ => rfl) (ga_cons g_int ga_nil)) om_ix) (g_callO (F := L__law_take) (i := 2) (p := p9) (fun _ => rfl) (fun _ _ => rfl) (ga_cons g_int ga_nil)) om_sub) ga_nil)) fun v20 o19 => (m_if (b := false) (ρs := fun _ : Unit => ([.kl K ns, .dat x6, .mu p9 o19, .dat x13, .dat v20] : En)) (s0 := ()) (gt_t (g_op (g_call (F := L_count_covered) (dds := []) (ga_cons (g_var fun _ => rfl) ga_nil) (fun _ => Wk.uns rfl)) (g_callN1 (rv := Rv.d) (F := (L__law_count 70)) (j := 4) (fun _ => rfl) (ga_cons g_int (ga_cons (g_cb (g_var fun _ => rfl) rcm_max) (ga_cons g_int ga_nil)))) om_ne)) (fun _ => (m_ret (b := false) (ρs := fun _ : Unit => ([.kl K ns, .dat x6, .mu p9 o19, .dat x13, .dat v20] : En)) (s0 := ()) (o := fun o => []) g_bl (fun _ => trivial))) (fun _ => (m_nx (s := o19) (p := 0) (w := ⟨.inr rfl, .inr rfl, .inr rfl, .inl rfl, .inl rfl, trivial⟩)))))))) fun s26 pp12 => (m_nx (s := ()) (p := 0) (w := ⟨.inr rfl, .inl rfl, .inl rfl, .inl rfl, .inl rfl, trivial⟩)))))))) fun s27 pp5 => (m_ret (b := false) (ρs := fun _ : Unit => ([.kl K ns, .un, .un, .un, .un] : En)) (s0 := ()) (o := fun o => []) (g_bv (g_and0 (g_op (g_call (F := L_count_covered) (dds := []) (ga_cons (g_op (g_tup (ga_cons g_int ga_nil)) g_int om_mul) ga_nil) (fun _ => Wk.uns rfl)) g_int om_eq) (g_op (g_call (F := L_count_covered) (dds := []) (ga_cons (g_tup (ga_cons g_int ga_nil)) ga_nil) (fun _ => Wk.uns rfl)) g_int om_eq))) (fun _ => trivial)))⟩
end
end Kn

namespace Kn
open PySem PySem.Spec PyProof.Rows L2
set_option maxHeartbeats 0 in
theorem all_mk {l : PySem.W.OpenLaw} {w : World} {K : PySem.W.Frag} {h : Heap} {mg : Str → Option Value} {fa : Addr} (X : K.In h) (G : h.Ns mainGlobals mg) (hfa : mg "law" = some (.ref fa))
    {f0 : Addr} {od0 an0 : Option Addr} {sl0 : Array (Option Value)} {oc0 kV0 dc0 pm0 cd0 ct0 : Value} {f1 : Addr} {od1 an1 : Option Addr} {sl1 : Array (Option Value)} {oc1 kV1 dc1 pm1 cd1 ct1 : Value} {f2 : Addr} {od2 an2 : Option Addr} {sl2 : Array (Option Value)} {oc2 kV2 dc2 pm2 cd2 ct2 : Value} {f3 : Addr} {od3 an3 : Option Addr} {sl3 : Array (Option Value)} {oc3 kV3 dc3 pm3 cd3 ct3 : Value} {f4 : Addr} {od4 an4 : Option Addr} {sl4 : Array (Option Value)} {oc4 kV4 dc4 pm4 cd4 ct4 : Value} {f5 : Addr} {od5 an5 : Option Addr} {sl5 : Array (Option Value)} {oc5 kV5 dc5 pm5 cd5 ct5 : Value} {f6 : Addr} {od6 an6 : Option Addr} {sl6 : Array (Option Value)} {oc6 kV6 dc6 pm6 cd6 ct6 : Value} {f7 : Addr} {od7 an7 : Option Addr} {sl7 : Array (Option Value)} {oc7 kV7 dc7 pm7 cd7 ct7 : Value} {f8 : Addr} {od8 an8 : Option Addr} {sl8 : Array (Option Value)} {oc8 kV8 dc8 pm8 cd8 ct8 : Value} {f9 : Addr} {od9 an9 : Option Addr} {sl9 : Array (Option Value)} {oc9 kV9 dc9 pm9 cd9 ct9 : Value} {f10 : Addr} {od10 an10 : Option Addr} {sl10 : Array (Option Value)} {oc10 kV10 dc10 pm10 cd10 ct10 : Value} {f11 : Addr} {od11 an11 : Option Addr} {sl11 : Array (Option Value)} {oc11 kV11 dc11 pm11 cd11 ct11 : Value} {f12 : Addr} {od12 an12 : Option Addr} {sl12 : Array (Option Value)} {oc12 kV12 dc12 pm12 cd12 ct12 : Value} {f13 : Addr} {od13 an13 : Option Addr} {sl13 : Array (Option Value)} {oc13 kV13 dc13 pm13 cd13 ct13 : Value}
    {MC0 MF0 : Addr} {Mod0 Man0 : Option Addr} {Msl0 : Array (Option Value)} {Moc0 MkV0 Mdc0 Mpm0 Mcd0 Mct0 : Value}
    {t0 : Tok} {t1 : Tok} {t2 : Tok}
    (mC0 : PySem.W.nsIn K mainGlobals "Counts" = some (some (.ref MC0))) (mi0 : PySem.W.findIn K (.ref MC0) "__init__" = some (some (.ref MF0))) (mf0 : PySem.W.isFn K (.ref MF0) = true) (ml0 : K.lookup MF0 = some ⟨Moc0, Mod0, .func (PySem.W.fnOf "__init__" "Counts.__init__" (defArgs s_init_Counts) (defBody s_init_Counts) (defScope s_init_Counts) .none MkV0 Mdc0 Mpm0 Man0 Mcd0 Mct0), Msl0⟩) (mc0 : PySem.W.codeIn K Mcd0 "Counts.__init__" = true) (mk0 : PySem.W.keepIn K (.ref MF0) = true)
    (mpg0 : PySem.W.plainGet K MC0 Str.empty = true) (mhd0 : PySem.W.hasDictIn K MC0 = true) (mpo0 : PySem.W.plainOver K MC0 = true) (msa0 : PySem.W.findIn K (.ref MC0) "__setattr__" = some (some (.builtin "object.__setattr__"))) (mmk0 : PySem.W.makesIn K MC0 = true) (mkc0 : PySem.W.keepIn K (.ref MC0) = true) (mna0 : PySem.W.findIn K (.ref MC0) "lot" = some none) (mnb0 : PySem.W.findIn K (.ref MC0) "numbers" = some none)
    (a0 : PySem.W.nsIn K mainGlobals "is_integer" = some (some (.ref f0))) (l0 : K.lookup f0 = some ⟨oc0, od0, .func (PySem.W.fnOf "is_integer" "is_integer" (defArgs s_is_integer) (defBody s_is_integer) (defScope s_is_integer) .none kV0 dc0 pm0 an0 cd0 ct0), sl0⟩) (c0 : PySem.W.codeIn K cd0 "is_integer" = true) (k0 : PySem.W.keepIn K (.ref f0) = true)
    (a1 : PySem.W.nsIn K mainGlobals "fits" = some (some (.ref f1))) (l1 : K.lookup f1 = some ⟨oc1, od1, .func (PySem.W.fnOf "fits" "fits" (defArgs s_fits) (defBody s_fits) (defScope s_fits) .none kV1 dc1 pm1 an1 cd1 ct1), sl1⟩) (c1 : PySem.W.codeIn K cd1 "fits" = true) (k1 : PySem.W.keepIn K (.ref f1) = true)
    (a2 : PySem.W.nsIn K mainGlobals "is_lot" = some (some (.ref f2))) (l2 : K.lookup f2 = some ⟨oc2, od2, .func (PySem.W.fnOf "is_lot" "is_lot" (defArgs s_is_lot) (defBody s_is_lot) (defScope s_is_lot) .none kV2 dc2 pm2 an2 cd2 ct2), sl2⟩) (c2 : PySem.W.codeIn K cd2 "is_lot" = true) (k2 : PySem.W.keepIn K (.ref f2) = true)
    (a3 : PySem.W.nsIn K mainGlobals "check_lot" = some (some (.ref f3))) (l3 : K.lookup f3 = some ⟨oc3, od3, .func (PySem.W.fnOf "check_lot" "check_lot" (defArgs s_check_lot) (defBody s_check_lot) (defScope s_check_lot) .none kV3 dc3 pm3 an3 cd3 ct3), sl3⟩) (c3 : PySem.W.codeIn K cd3 "check_lot" = true) (k3 : PySem.W.keepIn K (.ref f3) = true)
    (a4 : PySem.W.nsIn K mainGlobals "check_small" = some (some (.ref f4))) (l4 : K.lookup f4 = some ⟨oc4, od4, .func (PySem.W.fnOf "check_small" "check_small" (defArgs s_check_small) (defBody s_check_small) (defScope s_check_small) .none kV4 dc4 pm4 an4 cd4 ct4), sl4⟩) (c4 : PySem.W.codeIn K cd4 "check_small" = true) (k4 : PySem.W.keepIn K (.ref f4) = true)
    (a5 : PySem.W.nsIn K mainGlobals "next_tools" = some (some (.ref f5))) (l5 : K.lookup f5 = some ⟨oc5, od5, .func (PySem.W.fnOf "next_tools" "next_tools" (defArgs s_next_tools) (defBody s_next_tools) (defScope s_next_tools) .none kV5 dc5 pm5 an5 cd5 ct5), sl5⟩) (c5 : PySem.W.codeIn K cd5 "next_tools" = true) (k5 : PySem.W.keepIn K (.ref f5) = true)
    (a6 : PySem.W.findIn K (.ref MC0) "count" = some (some (.ref f6))) (i6 : PySem.W.isFn K (.ref f6) = true) (l6 : K.lookup f6 = some ⟨oc6, od6, .func (PySem.W.fnOf "count" "Counts.count" (defArgs s_count) (defBody s_count) (defScope s_count) .none kV6 dc6 pm6 an6 cd6 ct6), sl6⟩) (c6 : PySem.W.codeIn K cd6 "Counts.count" = true) (k6 : PySem.W.keepIn K (.ref f6) = true)
    (a7 : PySem.W.nsIn K mainGlobals "count_covered" = some (some (.ref f7))) (l7 : K.lookup f7 = some ⟨oc7, od7, .func (PySem.W.fnOf "count_covered" "count_covered" (defArgs s_count_covered) (defBody s_count_covered) (defScope s_count_covered) .none kV7 dc7 pm7 an7 cd7 ct7), sl7⟩) (c7 : PySem.W.codeIn K cd7 "count_covered" = true) (k7 : PySem.W.keepIn K (.ref f7) = true)
    (a8 : PySem.W.nsIn K mainGlobals "_law_mixed" = some (some (.ref f8))) (l8 : K.lookup f8 = some ⟨oc8, od8, .func (PySem.W.fnOf "_law_mixed" "_law_mixed" (defArgs s_law_mixed) (defBody s_law_mixed) (defScope s_law_mixed) .none kV8 dc8 pm8 an8 cd8 ct8), sl8⟩) (c8 : PySem.W.codeIn K cd8 "_law_mixed" = true) (k8 : PySem.W.keepIn K (.ref f8) = true)
    (a9 : PySem.W.nsIn K mainGlobals "_law_cell" = some (some (.ref f9))) (l9 : K.lookup f9 = some ⟨oc9, od9, .func (PySem.W.fnOf "_law_cell" "_law_cell" (defArgs s_law_cell) (defBody s_law_cell) (defScope s_law_cell) .none kV9 dc9 pm9 an9 cd9 ct9), sl9⟩) (c9 : PySem.W.codeIn K cd9 "_law_cell" = true) (k9 : PySem.W.keepIn K (.ref f9) = true)
    (a10 : PySem.W.nsIn K mainGlobals "_law_take" = some (some (.ref f10))) (l10 : K.lookup f10 = some ⟨oc10, od10, .func (PySem.W.fnOf "_law_take" "_law_take" (defArgs s_law_take) (defBody s_law_take) (defScope s_law_take) .none kV10 dc10 pm10 an10 cd10 ct10), sl10⟩) (c10 : PySem.W.codeIn K cd10 "_law_take" = true) (k10 : PySem.W.keepIn K (.ref f10) = true)
    (a11 : PySem.W.nsIn K mainGlobals "_law_count" = some (some (.ref f11))) (l11 : K.lookup f11 = some ⟨oc11, od11, .func (PySem.W.fnOf "_law_count" "_law_count" (defArgs s_law_count) (defBody s_law_count) (defScope s_law_count) .none kV11 dc11 pm11 an11 cd11 ct11), sl11⟩) (c11 : PySem.W.codeIn K cd11 "_law_count" = true) (k11 : PySem.W.keepIn K (.ref f11) = true)
    (a12 : PySem.W.nsIn K mainGlobals "_law_lot_up_to" = some (some (.ref f12))) (l12 : K.lookup f12 = some ⟨oc12, od12, .func (PySem.W.fnOf "_law_lot_up_to" "_law_lot_up_to" (defArgs s_law_lot_up_to) (defBody s_law_lot_up_to) (defScope s_law_lot_up_to) .none kV12 dc12 pm12 an12 cd12 ct12), sl12⟩) (c12 : PySem.W.codeIn K cd12 "_law_lot_up_to" = true) (k12 : PySem.W.keepIn K (.ref f12) = true)
    (a13 : PySem.W.nsIn K mainGlobals "law" = some (some (.ref f13))) (l13 : K.lookup f13 = some ⟨oc13, od13, .func (PySem.W.fnOf "law" "law" (defArgs s_law) (defBody s_law) (defScope s_law) .none kV13 dc13 pm13 an13 cd13 ct13), sl13⟩) (c13 : PySem.W.codeIn K cd13 "law" = true) (k13 : PySem.W.keepIn K (.ref f13) = true)
    (z0 : PySem.W.nsIn K mainGlobals "all" = some none)
    (z1 : PySem.W.nsIn K mainGlobals "bool" = some none)
    (z2 : PySem.W.nsIn K mainGlobals "int" = some none)
    (z3 : PySem.W.nsIn K mainGlobals "isinstance" = some none)
    (z4 : PySem.W.nsIn K mainGlobals "len" = some none)
    (z5 : PySem.W.nsIn K mainGlobals "list" = some none)
    (z6 : PySem.W.nsIn K mainGlobals "max" = some none)
    (z7 : PySem.W.nsIn K mainGlobals "min" = some none)
    (z8 : PySem.W.nsIn K mainGlobals "range" = some none)
    (z9 : PySem.W.nsIn K mainGlobals "sorted" = some none)
    (z10 : PySem.W.nsIn K mainGlobals "sum" = some none)
    (z11 : PySem.W.nsIn K mainGlobals "tuple" = some none)
    (z12 : PySem.W.nsIn K mainGlobals "zip" = some none)
    (v0 : PySem.W.nsIn K mainGlobals "LIMIT" = some (some (.int 200 t0)))
    (v1 : PySem.W.nsIn K mainGlobals "MOST_COUNTED" = some (some (.int 40 t1)))
    (v2 : PySem.W.nsIn K mainGlobals "MOST_TOOLS" = some (some (.int 60 t2))) :
    ∃ fd : FuncData, (∀ (s : Shared) (v : Value), BindsTo s fd ⟨[v], []⟩ [("script", v)]) ∧ ∀ base : Heap, K.In base → base.Ns mainGlobals mg → FnOkG l.prog w K mg base CX0 74 fa fd ["script"] (spK K R_law) := by
  have e := hfa.symm.trans (PySem.W.mg_of X G a13)
  cases e
  have F0 := fun_mk (st := s_is_integer) l0 c0 k0
  have F1 := fun_mk (st := s_fits) l1 c1 k1
  have F2 := fun_mk (st := s_is_lot) l2 c2 k2
  have F3 := fun_mk (st := s_check_lot) l3 c3 k3
  have F4 := fun_mk (st := s_check_small) l4 c4 k4
  have F5 := fun_mk (st := s_next_tools) l5 c5 k5
  have F6 := fun_mk (st := s_count) l6 c6 k6
  have F7 := fun_mk (st := s_count_covered) l7 c7 k7
  have F8 := fun_mk (st := s_law_mixed) l8 c8 k8
  have F9 := fun_mk (st := s_law_cell) l9 c9 k9
  have F10 := fun_mk (st := s_law_take) l10 c10 k10
  have F11 := fun_mk (st := s_law_count) l11 c11 k11
  have F12 := fun_mk (st := s_law_lot_up_to) l12 c12 k12
  have F13 := fun_mk (st := s_law) l13 c13 k13
  have T : Txt mg := ⟨PySem.W.mg_none_of X G z0, PySem.W.mg_none_of X G z1, PySem.W.mg_none_of X G z2, PySem.W.mg_none_of X G z3, PySem.W.mg_none_of X G z4, PySem.W.mg_none_of X G z5, PySem.W.mg_none_of X G z6, PySem.W.mg_none_of X G z7, PySem.W.mg_none_of X G z8, PySem.W.mg_none_of X G z9, PySem.W.mg_none_of X G z10, PySem.W.mg_none_of X G z11, PySem.W.mg_none_of X G z12, ⟨_, PySem.W.mg_of X G v0, ⟨_, rfl⟩⟩, ⟨_, PySem.W.mg_of X G v1, ⟨_, rfl⟩⟩, ⟨_, PySem.W.mg_of X G v2, ⟨_, rfl⟩⟩⟩
  refine ⟨PySem.W.fnOf "law" "law" (defArgs s_law) (defBody s_law) (defScope s_law) .none kV13 dc13 pm13 an13 cd13 ct13, fun s v => .of_eq rfl, fun base _ _ => ?_⟩
  have MCL0 : Cls K MC0 := ⟨mpg0, mhd0, mpo0, msa0⟩
  have MFI0 := fun_mk (st := s_init_Counts) ml0 mc0 mk0
  have MGC0 : mg "Counts" = some (.ref MC0) := PySem.W.mg_of X G mC0
  have MGI0 := ok_init_Counts (P := l.prog) (w := w) (mg := mg) (base := base) (CA := fun _ => 0) MFI0 MCL0 mna0 mnb0
  have MMK0 : Mk K MC0 MF0 := ⟨mmk0, mi0, mf0, mkc0⟩
  have MBI0 := MFI0.binds (ps := ["self", "lot"]) fun _ _ _ _ _ _ us hl => match us, hl with | [_, _], _ => rfl
  have C0 := ok_is_integer (P := l.prog) (w := w) (base := base) (CA := fun _ => 0) F0 (PySem.W.mg_of X G a0) T
  have C1 := ok_fits (P := l.prog) (w := w) (base := base) (CA := fun _ => 0) F1 (PySem.W.mg_of X G a1) T
  have C2 := ok_is_lot (P := l.prog) (w := w) (base := base) (CA := fun _ => 0) F2 (PySem.W.mg_of X G a2) T C0 C1
  have C3 := ok_check_lot (P := l.prog) (w := w) (base := base) (CA := fun _ => 0) F3 (PySem.W.mg_of X G a3) T C2
  have C4 := ok_check_small (P := l.prog) (w := w) (base := base) (CA := fun _ => 0) F4 (PySem.W.mg_of X G a4) T C3
  have C5 := ok_next_tools (P := l.prog) (w := w) (base := base) (CA := fun _ => 0) F5 (PySem.W.mg_of X G a5) T
  have C6 := ok_count (P := l.prog) (w := w) (base := base) (CA := fun _ => 0) F6 MCL0 ⟨a6, i6, k6⟩ mna0 mnb0 T C5 70
  have C7 := ok_count_covered (P := l.prog) (w := w) (base := base) (CA := fun _ => 0) F7 (PySem.W.mg_of X G a7) T C4 MMK0 MGC0 MGI0 MBI0 C6
  have C8 := ok__law_mixed (P := l.prog) (w := w) (base := base) (CA := fun _ => 0) F8 (PySem.W.mg_of X G a8) T
  have C9 := ok__law_cell (P := l.prog) (w := w) (base := base) (CA := fun _ => 0) F9 (PySem.W.mg_of X G a9) T C8
  have C10 := ok__law_take (P := l.prog) (w := w) (base := base) (CA := fun _ => 0) F10 (PySem.W.mg_of X G a10) T
  have C11 := ok__law_count (P := l.prog) (w := w) (base := base) (CA := fun _ => 0) F11 (PySem.W.mg_of X G a11) T 70
  have C12 := ok__law_lot_up_to (P := l.prog) (w := w) (base := base) (CA := fun _ => 0) F12 (PySem.W.mg_of X G a12) T C10
  exact ok_law (P := l.prog) (w := w) (base := base) (CA := fun _ => 0) F13 T C7 C9 C10 C11 C12 law_61
end Kn
open PySem PySem.W PyProof.Rows
set_option maxRecDepth 100000 in
set_option maxHeartbeats 0 in
theorem PySem.Challenge.cw_keenlot_k61_covered_lots_counted_holds : PySem.Challenge.rw_keenlot_k61_covered_lots_counted.Holds := by
  w_on; o_law; k_head; (case hw => w_witness2)
  k_fill
  refine Kn.walk_ofG (l := PySem.Challenge.rw_keenlot_k61_covered_lots_counted) (n := 63) (k := 74) (x := "script") (CX := L2.CX0) (sp := fun K => Kn.spK K Kn.R_law) rfl (by decide) rfl ⟨rfl, by decide, by decide⟩ (fun w h Y => PySem.W.kIn_of Y) ?F (fun K H a ns hl _ hS => Kn.law_start K H a ns hl hS) (fun _ _ _ _ h => h)
  case F =>
    intro w mg fa h KX G hmg
    refine' Kn.all_mk KX G hmg ?mC0 ?mi0 ?mf0 ?ml0 ?mc0 ?mk0 ?mpg0 ?mhd0 ?mpo0 ?msa0 ?mmk0 ?mkc0 ?mna0 ?mnb0 ?a0 ?l0 ?c0 ?k0 ?a1 ?l1 ?c1 ?k1 ?a2 ?l2 ?c2 ?k2 ?a3 ?l3 ?c3 ?k3 ?a4 ?l4 ?c4 ?k4 ?a5 ?l5 ?c5 ?k5 ?a6 ?i6 ?l6 ?c6 ?k6 ?a7 ?l7 ?c7 ?k7 ?a8 ?l8 ?c8 ?k8 ?a9 ?l9 ?c9 ?k9 ?a10 ?l10 ?c10 ?k10 ?a11 ?l11 ?c11 ?k11 ?a12 ?l12 ?c12 ?k12 ?a13 ?l13 ?c13 ?k13 ?z0 ?z1 ?z2 ?z3 ?z4 ?z5 ?z6 ?z7 ?z8 ?z9 ?z10 ?z11 ?z12 ?v0 ?v1 ?v2
    (case mC0 => k_is); (case mi0 => k_is); (case mf0 => k_is); (case ml0 => k_is); (case mc0 => k_is); (case mk0 => k_is); (case mpg0 => k_is); (case mhd0 => k_is); (case mpo0 => k_is); (case msa0 => k_is); (case mmk0 => k_is); (case mkc0 => k_is); (case mna0 => k_is); (case mnb0 => k_is); (case a0 => k_is); (case l0 => k_is); (case c0 => k_is); (case k0 => k_is); (case a1 => k_is); (case l1 => k_is); (case c1 => k_is); (case k1 => k_is); (case a2 => k_is); (case l2 => k_is); (case c2 => k_is); (case k2 => k_is); (case a3 => k_is); (case l3 => k_is); (case c3 => k_is); (case k3 => k_is); (case a4 => k_is); (case l4 => k_is); (case c4 => k_is); (case k4 => k_is); (case a5 => k_is); (case l5 => k_is); (case c5 => k_is); (case k5 => k_is); (case a6 => k_is); (case i6 => k_is); (case l6 => k_is); (case c6 => k_is); (case k6 => k_is); (case a7 => k_is); (case l7 => k_is); (case c7 => k_is); (case k7 => k_is); (case a8 => k_is); (case l8 => k_is); (case c8 => k_is); (case k8 => k_is); (case a9 => k_is); (case l9 => k_is); (case c9 => k_is); (case k9 => k_is); (case a10 => k_is); (case l10 => k_is); (case c10 => k_is); (case k10 => k_is); (case a11 => k_is); (case l11 => k_is); (case c11 => k_is); (case k11 => k_is); (case a12 => k_is); (case l12 => k_is); (case c12 => k_is); (case k12 => k_is); (case a13 => k_is); (case l13 => k_is); (case c13 => k_is); (case k13 => k_is); (case z0 => k_is); (case z1 => k_is); (case z2 => k_is); (case z3 => k_is); (case z4 => k_is); (case z5 => k_is); (case z6 => k_is); (case z7 => k_is); (case z8 => k_is); (case z9 => k_is); (case z10 => k_is); (case z11 => k_is); (case z12 => k_is); (case v0 => k_is); (case v1 => k_is); (case v2 => k_is)

