import PyProof.Rows.All
import Wide.All
import OpenK.AllK
import Wide.FinOn
import HandS.ForMost
import HandS.Exc
import HandS.ExcCtx
import HandS.WordsExc
import HandS.Lambda
import HandS.Defaults
import HandS.CallSlots
import HandS.ExcOwn
import HandS.SortInts
import HandS.Zip
import HandS.WideBits
import HandS.More
import HandS.SetFor
import HandS.Conv
import HandS.OwnEq
import HandS.NoneIn
import KE.GoesMore
import HandS.Codes
import HandS.Head0
import HandS.Head1
import HandS.Head2
import HandS.HeadEnd
import HandS.HeadHook1
import HandS.HeadHook2
import HandS.HeadHook3
import HandS.HeadHook4
import HandS.HeadWalk
import HandS.EndTab
import HandS.TupAny
import HandS.HotCalls
import HandS.ExcIs
import HandS.ExcField
import HandS.IsInst
import HandS.SetBool
import HandS.SortKw
import PyProof.MinMaxWalk
import HandS.Strs
import HandS.Dict
import HandS.Style
import PySem.Challenge.RW_foldberth_k54_whole_gathers_reach_all
set_option Elab.async false
set_option linter.all false
set_option autoImplicit false
set_option maxRecDepth 100000
set_option maxHeartbeats 4000000
namespace Mm
open PySem L2

/-! ### the machine's data -/
inductive D where
  | non | bl (b : Bool) | int (i : Int) | str (x : Str)
  | lst (xs : List D) | tup (xs : List D) | ins (c : Str) (fs : List (Str × D)) | ref (n : Nat) | scr (ns : List Int) | ty (n : String) | cls (c : Str)
  | adr (a : Addr) | set (xs : List Int) | dic (ks : List (Key × D))
inductive Cell where
  | lst (xs : List D) | ins (c : Str) (fs : List (Str × D)) | dic (ks : List (Key × D))
def Cell.d : Cell → D
  | .lst xs => .lst xs
  | .ins c fs => .ins c fs
  | .dic ks => .dic ks
inductive Sl where
  | no | v (d : D) | o (c : Cell)
abbrev Sto := List Cell
abbrev Envr := List Sl
inductive R (α : Type) where
  | stuck | exc (c : Str) (p : Option D) (s : Sto) | ok (a : α) (s : Sto)
inductive Ret where
  | val (d : D) | own (c : Cell)
def Ret.d : Ret → D
  | .val d => d
  | .own c => c.d
inductive Out where
  | stuck | nx (e : Envr) (s : Sto) | rt (r : Ret) (s : Sto) | bk (e : Envr) (s : Sto) | ct (e : Envr) (s : Sto) | exc (c : Str) (p : Option D) (e : Envr) (s : Sto)

/-! ### what stands for what -/
structure Gam where
  K : PySem.W.Frag
  ca : Str → Addr
  T : List (Addr × Str)
structure Wd where
  rho : List Addr
  G : Hp
mutual
def Rep (g : Gam) (w : Wd) : D → V → Prop
  | .non, v => v = .non
  | .bl b, v => v = .bl b
  | .int i, v => v = .int i
  | .str x, v => v = .str x
  | .lst ds, v => ∃ a vs, v = .ref a ∧ w.G a = some (.lst vs) ∧ RepL g w ds vs
  | .tup ds, v => ∃ a vs, v = .ref a ∧ SqT g.K w.G a vs ∧ RepL g w ds vs
  | .ins c fs, v => ∃ a dx gs, v = .ref a ∧ w.G a = some (.ins (g.ca c) dx gs) ∧ RepF g w fs gs
  | .ref n, v => ∃ a, w.rho[n]? = some a ∧ v = .ref a
  | .scr ns, v => ∃ a, v = .ref a ∧ SqL g.K w.G a (ns.map V.int)
  | .ty n, v => v = .ty n
  | .cls c, v => v = .ref (g.ca c)
  | .adr a, v => v = .ref a
  | .set xs, v => ∃ a S, v = .ref a ∧ w.G a = some (.set S xs.length) ∧ xs.Nodup ∧ ∀ i, S i = decide (i ∈ xs)
  | .dic ks, v => ∃ a vs, v = .ref a ∧ w.G a = some (.dK vs) ∧ RepK g w ks vs
def RepL (g : Gam) (w : Wd) : List D → List V → Prop
  | [], vs => vs = []
  | d :: ds, vs => ∃ v r, vs = v :: r ∧ Rep g w d v ∧ RepL g w ds r
def RepF (g : Gam) (w : Wd) : List (Str × D) → List (Str × V) → Prop
  | [], gs => gs = []
  | (f, d) :: fs, gs => ∃ v r, gs = (f, v) :: r ∧ Rep g w d v ∧ RepF g w fs r
def RepK (g : Gam) (w : Wd) : List (Key × D) → List (Key × V) → Prop
  | [], gs => gs = []
  | (f, d) :: fs, gs => ∃ v r, gs = (f, v) :: r ∧ Rep g w d v ∧ RepK g w fs r
end
structure Wd.le (w w' : Wd) : Prop where
  pre : ∃ t, w'.rho = w.rho ++ t
  ex : Same w.G w'.G
theorem Wd.le.refl (w : Wd) : w.le w := ⟨⟨[], by simp⟩, Same.refl _⟩
theorem Wd.le.trans {a b c : Wd} (x : a.le b) (y : b.le c) : a.le c := by
  obtain ⟨t, e⟩ := x.pre
  obtain ⟨u, e'⟩ := y.pre
  exact ⟨⟨t ++ u, by rw [e', e, List.append_assoc]⟩, x.ex.trans y.ex⟩
theorem Wd.le.get {a b : Wd} (x : a.le b) {n : Nat} {p : Addr} (h : a.rho[n]? = some p) : b.rho[n]? = some p := by
  obtain ⟨t, e⟩ := x.pre
  rw [e, List.getElem?_append_left (List.getElem?_eq_some_iff.mp h).1]
  exact h
theorem same_sqT {K : PySem.W.Frag} {H H' : Hp} {a : Addr} {xs : List V} (e : Same H H') (h : SqT K H a xs) : SqT K H' a xs := by
  rcases h with (h | ⟨o, h⟩) | h
  · exact .inl (.inl (e _ _ h))
  · exact .inl (.inr ⟨o, e _ _ h⟩)
  · exact .inr h
mutual
theorem Rep.mono {g : Gam} {w w' : Wd} (l : w.le w') : ∀ {d : D} {v : V}, Rep g w d v → Rep g w' d v
  | .non, _, h => h
  | .bl _, _, h => h
  | .int _, _, h => h
  | .str _, _, h => h
  | .lst ds, v, h => by
    unfold Rep at h ⊢
    obtain ⟨a, vs, e, q, r⟩ := h
    exact ⟨a, vs, e, l.ex _ _ q, RepL.mono l r⟩
  | .tup ds, v, h => by
    unfold Rep at h ⊢
    obtain ⟨a, vs, e, q, r⟩ := h
    exact ⟨a, vs, e, same_sqT l.ex q, RepL.mono l r⟩
  | .ins c fs, v, h => by
    unfold Rep at h ⊢
    obtain ⟨a, dx, gs, e, q, r⟩ := h
    exact ⟨a, dx, gs, e, l.ex _ _ q, RepF.mono l r⟩
  | .ref n, v, h => by
    unfold Rep at h ⊢
    obtain ⟨a, e, q⟩ := h
    exact ⟨a, l.get e, q⟩
  | .scr ns, v, h => by
    unfold Rep at h ⊢
    obtain ⟨a, e, q⟩ := h
    exact ⟨a, e, l.ex.seq q⟩
  | .ty _, _, h => h
  | .cls _, _, h => h
  | .adr _, _, h => h
  | .set xs, v, h => by
    unfold Rep at h ⊢
    obtain ⟨a, q, e, r, s⟩ := h
    exact ⟨a, q, e, l.ex _ _ r, s⟩
  | .dic ds, v, h => by
    unfold Rep at h ⊢
    obtain ⟨a, vs, e, q, r⟩ := h
    exact ⟨a, vs, e, l.ex _ _ q, RepK.mono l r⟩
theorem RepL.mono {g : Gam} {w w' : Wd} (l : w.le w') : ∀ {ds : List D} {vs : List V}, RepL g w ds vs → RepL g w' ds vs
  | [], _, h => h
  | d :: ds, vs, h => by
    unfold RepL at h ⊢
    obtain ⟨v, r, e, a, b⟩ := h
    exact ⟨v, r, e, Rep.mono l a, RepL.mono l b⟩
theorem RepF.mono {g : Gam} {w w' : Wd} (l : w.le w') : ∀ {ds : List (Str × D)} {vs : List (Str × V)}, RepF g w ds vs → RepF g w' ds vs
  | [], _, h => h
  | (f, d) :: ds, vs, h => by
    unfold RepF at h ⊢
    obtain ⟨v, r, e, a, b⟩ := h
    exact ⟨v, r, e, Rep.mono l a, RepF.mono l b⟩
theorem RepK.mono {g : Gam} {w w' : Wd} (l : w.le w') : ∀ {ds : List (Key × D)} {vs : List (Key × V)}, RepK g w ds vs → RepK g w' ds vs
  | [], _, h => h
  | (f, d) :: ds, vs, h => by
    unfold RepK at h ⊢
    obtain ⟨v, r, e, a, b⟩ := h
    exact ⟨v, r, e, Rep.mono l a, RepK.mono l b⟩
end
theorem RepL.nil_ {g : Gam} {w : Wd} : RepL g w [] [] := by unfold RepL; rfl
theorem RepL.cons_ {g : Gam} {w : Wd} {d : D} {ds : List D} {v : V} {vs : List V} (a : Rep g w d v) (b : RepL g w ds vs) : RepL g w (d :: ds) (v :: vs) := by
  unfold RepL
  exact ⟨v, vs, rfl, a, b⟩
theorem RepL.len {g : Gam} {w : Wd} : ∀ {ds : List D} {vs : List V}, RepL g w ds vs → ds.length = vs.length
  | [], vs, h => by
    unfold RepL at h
    rw [h]
    rfl
  | d :: ds, vs, h => by
    unfold RepL at h
    obtain ⟨v, r, e, a, b⟩ := h
    rw [e, List.length_cons, List.length_cons, RepL.len b]
theorem RepL.append_ {g : Gam} {w : Wd} : ∀ {ds es : List D} {vs us : List V}, RepL g w ds vs → RepL g w es us → RepL g w (ds ++ es) (vs ++ us)
  | [], es, vs, us, h, k => by
    unfold RepL at h
    rw [h]
    exact k
  | d :: ds, es, vs, us, h, k => by
    unfold RepL at h
    obtain ⟨v, r, e, a, b⟩ := h
    rw [e]
    exact RepL.cons_ a (RepL.append_ b k)
theorem RepL.at_ {g : Gam} {w : Wd} : ∀ {ds : List D} {vs : List V} {i : Nat} {d : D}, RepL g w ds vs → ds[i]? = some d → ∃ v, vs[i]? = some v ∧ Rep g w d v
  | [], _, _, _, _, e => by simp at e
  | d :: ds, vs, 0, d', h, e => by
    unfold RepL at h
    obtain ⟨v, r, e1, a, b⟩ := h
    have e2 : d = d' := by simpa using e
    rw [e1, ← e2]
    exact ⟨v, rfl, a⟩
  | d :: ds, vs, i + 1, d', h, e => by
    unfold RepL at h
    obtain ⟨v, r, e1, a, b⟩ := h
    rw [e1]
    exact RepL.at_ (i := i) b (by simpa using e)
theorem RepL.drop_ {g : Gam} {w : Wd} : ∀ {ds : List D} {vs : List V} (n : Nat), RepL g w ds vs → RepL g w (ds.drop n) (vs.drop n)
  | _, _, 0, h => h
  | [], vs, n + 1, h => by
    unfold RepL at h
    rw [h]
    exact RepL.nil_
  | d :: ds, vs, n + 1, h => by
    unfold RepL at h
    obtain ⟨v, r, e, a, b⟩ := h
    rw [e]
    exact RepL.drop_ n b
theorem RepL.take_ {g : Gam} {w : Wd} : ∀ {ds : List D} {vs : List V} (n : Nat), RepL g w ds vs → RepL g w (ds.take n) (vs.take n)
  | _, _, 0, h => RepL.nil_
  | [], vs, n + 1, h => by
    unfold RepL at h
    rw [h]
    exact RepL.nil_
  | d :: ds, vs, n + 1, h => by
    unfold RepL at h
    obtain ⟨v, r, e, a, b⟩ := h
    rw [e]
    exact RepL.cons_ a (RepL.take_ n b)
theorem RepL.set_ {g : Gam} {w : Wd} {d : D} {v : V} (q : Rep g w d v) : ∀ {ds : List D} {vs : List V} (n : Nat), RepL g w ds vs → RepL g w (ds.set n d) (vs.set n v)
  | [], vs, n, h => by
    unfold RepL at h
    rw [h]
    exact RepL.nil_
  | e :: ds, vs, 0, h => by
    unfold RepL at h
    obtain ⟨u, r, e1, a, b⟩ := h
    rw [e1]
    exact RepL.cons_ q b
  | e :: ds, vs, n + 1, h => by
    unfold RepL at h
    obtain ⟨u, r, e1, a, b⟩ := h
    rw [e1]
    exact RepL.cons_ a (RepL.set_ q n b)
/-- ints, bools -/
theorem RepL.ints {g : Gam} {w : Wd} : ∀ (ns : List Int), RepL g w (ns.map D.int) (ns.map V.int)
  | [] => RepL.nil_
  | n :: ns => RepL.cons_ (by unfold Rep; rfl) (RepL.ints ns)
theorem RepL.of_ints {g : Gam} {w : Wd} : ∀ {ns : List Int} {vs : List V}, RepL g w (ns.map D.int) vs → vs = ns.map V.int
  | [], vs, h => by
    unfold List.map RepL at h
    exact h
  | n :: ns, vs, h => by
    unfold List.map RepL at h
    obtain ⟨v, r, e, a, b⟩ := h
    unfold Rep at a
    rw [e, a, RepL.of_ints b]
    rfl

/-! ### cells, slots, frames -/
def CellR (g : Gam) (w : Wd) (H : Hp) (a : Addr) : Cell → Prop
  | .lst ds => ∃ vs, H a = some (.lst vs) ∧ RepL g w ds vs
  | .ins c fs => ∃ dx gs, H a = some (.ins (g.ca c) dx gs) ∧ RepF g w fs gs
  | .dic ks => ∃ gs, H a = some (.dK gs) ∧ RepK g w ks gs
theorem CellR.some_ {g : Gam} {w : Wd} {H : Hp} {a : Addr} {c : Cell} (h : CellR g w H a c) : ∃ o, H a = some o ∧ ∀ ps, o ≠ .tbl ps := by
  cases c with
  | lst ds =>
    obtain ⟨vs, e, _⟩ := h
    exact ⟨_, e, fun ps z => by cases z⟩
  | ins c fs =>
    obtain ⟨dx, gs, e, _⟩ := h
    exact ⟨_, e, fun ps z => by cases z⟩
  | dic ks =>
    obtain ⟨gs, e, _⟩ := h
    exact ⟨_, e, fun ps z => by cases z⟩
theorem CellR.noext {g : Gam} {w : Wd} {H : Hp} {a : Addr} {c : Cell} (h : CellR g w H a c) (φ : Heap → Prop) : H a ≠ some (.ext φ) := fun z => by
  cases c with
  | lst ds =>
    obtain ⟨vs, e, _⟩ := h
    rw [e] at z
    cases z
  | ins c fs =>
    obtain ⟨dx, gs, e, _⟩ := h
    rw [e] at z
    cases z
  | dic ks =>
    obtain ⟨gs, e, _⟩ := h
    rw [e] at z
    cases z
theorem tabs_upd {T : List (Addr × Str)} {H : Hp} {p : Addr} {o : HO} (t : LamX.Tabs T H) (h1 : ∀ ps, H p ≠ some (.tbl ps)) (h2 : ∀ φ, H p ≠ some (.ext φ)) : LamX.Tabs T (upd H p o) := fun x hx => by
  obtain ⟨ps, a, b, c⟩ := t x hx
  refine ⟨ps, by rw [upd_ne (fun z => h1 ps (by rw [← z]; exact a))]; exact a, b, fun pos cv e => ?_⟩
  obtain ⟨c0, e1, e2⟩ := c pos cv e
  exact ⟨c0, e1, by rw [upd_ne (fun z => h2 _ (by rw [← z]; exact e2))]; exact e2⟩
theorem CellR.move {g : Gam} {w w' : Wd} {H H' : Hp} {a : Addr} {c : Cell} (h : CellR g w H a c) (l : w.le w') (e : H' a = H a) : CellR g w' H' a c := by
  cases c with
  | lst ds =>
    obtain ⟨vs, e1, r⟩ := h
    exact ⟨vs, e.trans e1, r.mono l⟩
  | ins c fs =>
    obtain ⟨dx, gs, e1, r⟩ := h
    exact ⟨dx, gs, e.trans e1, r.mono l⟩
  | dic ks =>
    obtain ⟨gs, e1, r⟩ := h
    exact ⟨gs, e.trans e1, r.mono l⟩
structure CellsR (g : Gam) (w : Wd) (H : Hp) (S : Sto) : Prop where
  nd : ∀ (i j : Nat) (a : Addr), w.rho[i]? = some a → w.rho[j]? = some a → i = j
  len : w.rho.length = S.length
  at_ : ∀ (n : Nat) (a : Addr) (c : Cell), w.rho[n]? = some a → S[n]? = some c → w.G a = none ∧ CellR g w H a c
theorem CellsR.in_ {g : Gam} {w : Wd} {H : Hp} {S : Sto} (h : CellsR g w H S) {a : Addr} (m : a ∈ w.rho) : w.G a = none ∧ ∃ o, H a = some o := by
  obtain ⟨n, hn⟩ := List.getElem?_of_mem m
  have l : n < S.length := by
    rw [← h.len]
    exact (List.getElem?_eq_some_iff.mp hn).1
  obtain ⟨h1, h2⟩ := h.at_ n a S[n] hn (List.getElem?_eq_getElem l)
  obtain ⟨o, e, _⟩ := h2.some_
  exact ⟨h1, o, e⟩
/-- the heap and what is known of it -/
structure Ok (g : Gam) (w : Wd) (H : Hp) (S : Sto) : Prop where
  ex : Same w.G H
  cells : CellsR g w H S
  tabs : LamX.Tabs g.T H
  notab : ∀ a ps, w.G a ≠ some (.tbl ps)
/-- what has come to pass since w0, H0 -/
structure Frame (w0 : Wd) (H0 : Hp) (w : Wd) (H : Hp) : Prop where
  le : w0.le w
  keep : ∀ a o, H0 a = some o → a ∉ w0.rho → (∀ ps, o ≠ .tbl ps) → H a = some o
  newG : ∀ a, H0 a ≠ none → w.G a = w0.G a
  rho : ∀ a ∈ w.rho, a ∈ w0.rho ∨ H0 a = none
  dom : ∀ a, H0 a ≠ none → H a ≠ none
theorem Frame.refl (w : Wd) (H : Hp) : Frame w H w H := ⟨.refl w, fun _ _ h _ _ => h, fun _ _ => rfl, fun _ h => .inl h, fun _ h => h⟩
theorem Frame.trans {w0 w1 w2 : Wd} {H0 H1 H2 : Hp} (a : Frame w0 H0 w1 H1) (b : Frame w1 H1 w2 H2) : Frame w0 H0 w2 H2 where
  le := a.le.trans b.le
  keep := fun p o h n t => b.keep p o (a.keep p o h n t) (fun z => by
    rcases a.rho p z with z | z
    · exact n z
    · rw [z] at h
      cases h) t
  newG := fun p h => (b.newG p (a.dom p h)).trans (a.newG p h)
  rho := fun p h => by
    rcases b.rho p h with z | z
    · exact a.rho p z
    · refine .inr ?_
      cases e : H0 p with
      | none => rfl
      | some o => exact absurd z (a.dom p (by rw [e]; exact fun q => nomatch q))
  dom := fun p h => b.dom p (a.dom p h)
def SlotR (g : Gam) (w : Wd) (H : Hp) : Sl → Option V → Option Addr → Prop
  | .no, _, o => o = none
  | .v d, x, o => o = none ∧ ∃ v, x = some v ∧ Rep g w d v
  | .o c, x, o => ∃ p, o = some p ∧ x = some (.ref p) ∧ w.G p = none ∧ CellR g w H p c
structure StR (g : Gam) (w0 : Wd) (H0 : Hp) (w : Wd) (H : Hp) (σ : L2.St) (env : Envr) (S : Sto) (O : List (Option Addr)) : Prop where
  ok : Ok g w H S
  fr : Frame w0 H0 w H
  l1 : env.length = σ.length
  l2 : O.length = σ.length
  sl : ∀ (i : Nat) (s : Sl) (x : Option V) (o : Option Addr), env[i]? = some s → σ[i]? = some x → O[i]? = some o → SlotR g w H s x o
  inj : ∀ (i j : Nat) (p : Addr), O[i]? = some (some p) → O[j]? = some (some p) → i = j
  fresh : ∀ (i : Nat) (p : Addr), O[i]? = some (some p) → H0 p = none ∧ p ∉ w.rho ∧ ∃ c, env[i]? = some (.o c)
section
variable {g : Gam} {w0 w w' : Wd} {H0 H H' : Hp} {σ : L2.St} {env : Envr} {S S' : Sto} {O : List (Option Addr)}
/-- behind a call -/
theorem StR.after (h : StR g w0 H0 w H σ env S O) (f : Frame w H w' H') (k : Ok g w' H' S') : StR g w0 H0 w' H' σ env S' O := by
  have own : ∀ (i : Nat) (p : Addr), O[i]? = some (some p) → ∃ o, H p = some o ∧ (∀ ps, o ≠ .tbl ps) := fun i p e => by
    obtain ⟨_, _, c, hc⟩ := h.fresh i p e
    have hi : i < σ.length := by
      rw [← h.l2]
      exact (List.getElem?_eq_some_iff.mp e).1
    have q := h.sl i (.o c) σ[i] (some p) hc (List.getElem?_eq_getElem hi) e
    obtain ⟨p', e1, e2, e3, e4⟩ := q
    cases e1
    exact e4.some_
  refine ⟨k, h.fr.trans f, h.l1, h.l2, fun i s x o e1 e2 e3 => ?_, h.inj, fun i p e => ?_⟩
  · have q := h.sl i s x o e1 e2 e3
    cases s with
    | no => exact q
    | v d =>
      obtain ⟨q1, v, q2, q3⟩ := q
      exact ⟨q1, v, q2, q3.mono f.le⟩
    | o c =>
      obtain ⟨p, q1, q2, q3, q4⟩ := q
      obtain ⟨ob, z1, z2⟩ := q4.some_
      rw [q1] at e3
      refine ⟨p, q1, q2, (f.newG p (by rw [z1]; exact fun q => nomatch q)).trans q3, q4.move f.le ?_⟩
      rw [f.keep p ob z1 (h.fresh i p e3).2.1 z2, z1]
  · obtain ⟨z1, z2, z3⟩ := h.fresh i p e
    refine ⟨z1, fun m => ?_, z3⟩
    obtain ⟨ob, z4, _⟩ := own i p e
    rcases f.rho p m with z | z
    · exact z2 z
    · rw [z4] at z
      cases z
end
/-- new objects that never change -/
inductive Grow (w : Wd) (H : Hp) : Wd → Hp → Prop
  | refl : Grow w H w H
  | new {w1 : Wd} {H1 : Hp} {p : Addr} {o : HO} : Grow w H w1 H1 → H1 p = none → (∀ ps, o ≠ .tbl ps) → Grow w H ⟨w1.rho, upd w1.G p o⟩ (upd H1 p o)
theorem Grow.one {w : Wd} {H : Hp} {p : Addr} {o : HO} (h : H p = none) (n : ∀ ps, o ≠ .tbl ps) : Grow w H ⟨w.rho, upd w.G p o⟩ (upd H p o) := .new .refl h n
theorem same_upd {H : Hp} {p : Addr} {o : HO} (h : H p = none) : Same H (upd H p o) := fun b x e => by
  rw [upd_ne (ne_of_none e h)]
  exact e
theorem same_upd2 {G H : Hp} {p : Addr} {o : HO} (h : Same G H) : Same (upd G p o) (upd H p o) := fun b x e => by
  by_cases hb : b = p
  · rw [hb, upd_same] at e ⊢
    exact e
  · rw [upd_ne hb] at e ⊢
    exact h b x e
theorem none_of_same {G H : Hp} {p : Addr} (h : Same G H) (e : H p = none) : G p = none := h.free e
theorem ok_new {g : Gam} {w : Wd} {H : Hp} {S : Sto} {p : Addr} {o : HO} (k : Ok g w H S) (h : H p = none) (n : ∀ ps, o ≠ .tbl ps) : Ok g ⟨w.rho, upd w.G p o⟩ (upd H p o) S ∧ Frame w H ⟨w.rho, upd w.G p o⟩ (upd H p o) := by
  have hG : w.G p = none := none_of_same k.ex h
  have le : w.le ⟨w.rho, upd w.G p o⟩ := ⟨⟨[], by simp⟩, same_upd hG⟩
  refine ⟨⟨same_upd2 k.ex, ⟨k.cells.nd, k.cells.len, fun m a c e1 e2 => ?_⟩, k.tabs.ext (same_upd h), fun a ps e => ?_⟩, ⟨le, fun a x e _ _ => same_upd h a x e, fun a e => ?_, fun a m => .inl m, fun a e => ?_⟩⟩
  · obtain ⟨q1, q2⟩ := k.cells.at_ m a c e1 e2
    obtain ⟨x, q3, _⟩ := q2.some_
    have ne : a ≠ p := ne_of_none q3 h
    exact ⟨(upd_ne ne).trans q1, q2.move le (upd_ne ne)⟩
  · by_cases ha : a = p
    · rw [ha] at e
      have e2 : upd w.G p o p = some (.tbl ps) := e
      rw [upd_same] at e2
      exact n ps (Option.some.inj e2)
    · have e2 : upd w.G p o a = some (.tbl ps) := e
      rw [upd_ne ha] at e2
      exact k.notab a ps e2
  · have ne : a ≠ p := fun z => e (by rw [z]; exact h)
    exact upd_ne ne
  · have ne : a ≠ p := fun z => e (by rw [z]; exact h)
    rw [upd_ne ne]
    exact e
theorem Grow.ok {g : Gam} {w w' : Wd} {H H' : Hp} {S : Sto} (q : Grow w H w' H') (k : Ok g w H S) : Ok g w' H' S ∧ Frame w H w' H' := by
  induction q with
  | refl => exact ⟨k, Frame.refl w H⟩
  | new q hp hn ih =>
    obtain ⟨k1, f1⟩ := ih
    obtain ⟨k2, f2⟩ := ok_new k1 hp hn
    exact ⟨k2, f1.trans f2⟩
theorem StR.grow {g : Gam} {w0 w w' : Wd} {H0 H H' : Hp} {σ : L2.St} {env : Envr} {S : Sto} {O : List (Option Addr)} (h : StR g w0 H0 w H σ env S O) (q : Grow w H w' H') : StR g w0 H0 w' H' σ env S O :=
  let ⟨k, f⟩ := q.ok h.ok
  h.after f k
theorem Grow.le {g : Gam} {w w' : Wd} {H H' : Hp} {S : Sto} (q : Grow w H w' H') (k : Ok g w H S) : w.le w' := (q.ok k).2.le
/-- what is raised -/
def ExcR (g : Gam) (w : Wd) (H : Hp) (c : Str) (p : Option D) (cls : Value) (dd : Option Addr) : Prop :=
  cls = .ref (g.ca c) ∧ match p with
    | none => dd = none
    | some d => ∃ a f v, dd = some a ∧ H a = some (.xd [(f, v)]) ∧ Rep g w d v
end Mm
namespace Mm
open PySem L2
/-! ### results in a row -/
def R.bind {α β : Type} (r : R α) (f : α → Sto → R β) : R β := match r with
  | .stuck => .stuck
  | .exc c p s => .exc c p s
  | .ok a s => f a s
def opt {α : Type} (o : Option α) (s : Sto) : R α := match o with
  | none => .stuck
  | some a => .ok a s
/-- an exception is not looked for -/
def R.calm {α : Type} : R α → R α
  | .exc _ _ _ => .stuck
  | r => r
def PostX (g : Gam) (W : WX) (w0 : Wd) (H0 : Hp) (w : Wd) (σ : L2.St) (env : Envr) (O : List (Option Addr)) {α : Type} (r : R α) (k : α → Sto → Wd → Hp → Prop) : Prop := match r with
  | .stuck => False
  | .ok a S => ∀ w' H', StR g w0 H0 w' H' σ env S O → w.le w' → k a S w' H'
  | .exc c p S => ∀ w' H' cls dd, StR g w0 H0 w' H' σ env S O → w.le w' → ExcR g w' H' c p cls dd → W cls dd σ H'
section
variable {g : Gam} {W : WX} {w0 w w1 : Wd} {H0 H H1 : Hp} {σ : L2.St} {env : Envr} {S S1 : Sto} {O : List (Option Addr)} {α β : Type}
theorem PostX.mono {r : R α} {k : α → Sto → Wd → Hp → Prop} (h : PostX g W w0 H0 w σ env O r k) (l : w.le w1) : PostX g W w0 H0 w1 σ env O r k := by
  cases r with
  | stuck => exact h
  | ok a S => exact fun w' H' st l' => h w' H' st (l.trans l')
  | exc c p S => exact fun w' H' cls dd st l' => h w' H' cls dd st (l.trans l')
theorem PostX.imp {r : R α} {k k' : α → Sto → Wd → Hp → Prop} (h : PostX g W w0 H0 w σ env O r k) (f : ∀ a S w' H', StR g w0 H0 w' H' σ env S O → w.le w' → k a S w' H' → k' a S w' H') : PostX g W w0 H0 w σ env O r k' := by
  cases r with
  | stuck => exact h
  | ok a S => exact fun w' H' st l' => f a S w' H' st l' (h w' H' st l')
  | exc c p S => exact h
theorem PostX.bind {r : R α} {f : α → Sto → R β} {k : β → Sto → Wd → Hp → Prop} (h : PostX g W w0 H0 w σ env O (r.bind f) k) :
    PostX g W w0 H0 w σ env O r (fun a S w' _ => PostX g W w0 H0 w' σ env O (f a S) k) := by
  cases r with
  | stuck => exact h
  | ok a S => exact fun w' H' _ l' => PostX.mono (show PostX g W w0 H0 w σ env O (f a S) k from h) l'
  | exc c p S => exact h
theorem PostX.opt_ {o : Option α} {k : α → Sto → Wd → Hp → Prop} (h : PostX g W w0 H0 w σ env O (opt o S) k) (st : StR g w0 H0 w H σ env S O) : ∃ a, o = some a ∧ ∀ w' H', StR g w0 H0 w' H' σ env S O → w.le w' → k a S w' H' := by
  cases o with
  | none => exact False.elim h
  | some a => exact ⟨a, rfl, h⟩
end
/-! ### the machine's kinds, and what it is for a reading to follow them -/
abbrev ME := Envr → Sto → R D
abbrev MF := Envr → Sto → R Cell
abbrev MT := Envr → Sto → R Bool
abbrev MA := Envr → Sto → R (List D)
/-- a thing of one's own that stands in no slot -/
structure OwnAt (g : Gam) (w : Wd) (H0 H : Hp) (O : List (Option Addr)) (c : Cell) (p : Addr) : Prop where
  n0 : H0 p = none
  ng : w.G p = none
  nr : p ∉ w.rho
  no : ∀ i : Nat, O[i]? ≠ some (some p)
  at_ : CellR g w H p c
def SimE (g : Gam) (W : WX) (t : TE) (m : ME) : Prop := ∀ w0 H0 w H σ env S O (Q : VK), StR g w0 H0 w H σ env S O →
  PostX g W w0 H0 w σ env O (m env S) (fun d _ w' H' => ∀ v, Rep g w' d v → Q v H') → t σ H Q
def SimF (g : Gam) (W : WX) (t : TE) (m : MF) : Prop := ∀ w0 H0 w H σ env S O (Q : VK), StR g w0 H0 w H σ env S O →
  PostX g W w0 H0 w σ env O (m env S) (fun c _ w' H' => ∀ p, OwnAt g w' H0 H' O c p → Q (.ref p) H') → t σ H Q
def SimT (g : Gam) (W : WX) (t : TT) (m : MT) : Prop := ∀ w0 H0 w H σ env S O (Q : Bool → Hp → Prop), StR g w0 H0 w H σ env S O →
  PostX g W w0 H0 w σ env O (m env S) (fun b _ w' H' => Q b H') → t σ H Q
def SimA (g : Gam) (W : WX) (t : TA) (m : MA) : Prop := ∀ w0 H0 w H σ env S O (Q : List V → Hp → Prop), StR g w0 H0 w H σ env S O →
  PostX g W w0 H0 w σ env O (m env S) (fun ds _ w' H' => ∀ vs, RepL g w' ds vs → Q vs H') → t σ H Q
structure SE (X : Cx) (Y : Gam) (W : WX) (e : Expr) (t : TE) (m : ME) : Prop where
  pe : PE X e t
  sim : SimE Y W t m
structure SF (X : Cx) (Y : Gam) (W : WX) (e : Expr) (t : TE) (m : MF) : Prop where
  pe : PE X e t
  sim : SimF Y W t m
structure SC (X : Cx) (Y : Gam) (W : WX) (e : Expr) (t : TT) (m : MT) : Prop where
  pt : PT X e t
  sim : SimT Y W t m
structure SA (X : Cx) (Y : Gam) (W : WX) (es : List Expr) (t : TA) (m : MA) : Prop where
  pa : PA X es t
  sim : SimA Y W t m
  len : ∀ env S ds S1, m env S = .ok ds S1 → ds.length = es.length
/-! ### an own thing is laid, is frozen -/
section
variable {g : Gam} {W : WX} {w0 w w1 : Wd} {H0 H H1 : Hp} {σ : L2.St} {env : Envr} {S S1 : Sto} {O : List (Option Addr)} {α β : Type}
theorem ok_lay {p : Addr} {o : HO} (k : Ok g w H S) (h : H p = none) (n : ∀ ps, o ≠ .tbl ps) : Ok g w (upd H p o) S ∧ Frame w H w (upd H p o) := by
  refine ⟨⟨k.ex.trans (same_upd h), ⟨k.cells.nd, k.cells.len, fun m a c e1 e2 => ?_⟩, k.tabs.ext (same_upd h), k.notab⟩, ⟨.refl w, fun a x e _ _ => same_upd h a x e, fun a _ => rfl, fun a m => .inl m, fun a e => ?_⟩⟩
  · obtain ⟨q1, q2⟩ := k.cells.at_ m a c e1 e2
    obtain ⟨x, q3, _⟩ := q2.some_
    exact ⟨q1, q2.move (.refl w) (upd_ne (ne_of_none q3 h))⟩
  · have ne : a ≠ p := fun z => e (by rw [z]; exact h)
    rw [upd_ne ne]
    exact e
theorem StR.lay {p : Addr} {o : HO} (st : StR g w0 H0 w H σ env S O) (h : H p = none) (n : ∀ ps, o ≠ .tbl ps) : StR g w0 H0 w (upd H p o) σ env S O :=
  let ⟨k, f⟩ := ok_lay st.ok h n
  st.after f k
theorem StR.out {p : Addr} (st : StR g w0 H0 w H σ env S O) (h : H p = none) : H0 p = none ∧ w.G p = none ∧ p ∉ w.rho ∧ ∀ i : Nat, O[i]? ≠ some (some p) := by
  refine ⟨?_, none_of_same st.ok.ex h, fun m => ?_, fun i e => ?_⟩
  · cases e : H0 p with
    | none => rfl
    | some o => exact absurd h (st.fr.dom p (by rw [e]; exact fun q => nomatch q))
  · obtain ⟨_, o, e⟩ := st.ok.cells.in_ m
    rw [h] at e
    cases e
  · obtain ⟨_, _, c, hc⟩ := st.fresh i p e
    have hi : i < σ.length := by
      rw [← st.l2]
      exact (List.getElem?_eq_some_iff.mp e).1
    obtain ⟨p', e1, _, _, e4⟩ := st.sl i (.o c) σ[i] (some p) hc (List.getElem?_eq_getElem hi) e
    cases e1
    obtain ⟨o, e5, _⟩ := e4.some_
    rw [h] at e5
    cases e5
theorem StR.own_new {p : Addr} {o : HO} {c : Cell} (st : StR g w0 H0 w H σ env S O) (h : H p = none) (hc : CellR g w (upd H p o) p c) : OwnAt g w H0 (upd H p o) O c p := by
  obtain ⟨h1, h2, h3, h4⟩ := st.out h
  exact ⟨h1, h2, h3, h4, hc⟩
/-- an own thing becomes a value -/
theorem own_freeze {c : Cell} {p : Addr} (st : StR g w0 H0 w H σ env S O) (a : OwnAt g w H0 H O c p) : ∃ w', StR g w0 H0 w' H σ env S O ∧ w.le w' ∧ Rep g w' c.d (.ref p) := by
  obtain ⟨o, ho, nt⟩ := a.at_.some_
  have le : w.le ⟨w.rho, upd w.G p o⟩ := ⟨⟨[], by simp⟩, same_upd a.ng⟩
  refine ⟨⟨w.rho, upd w.G p o⟩, ⟨⟨fun b x e => ?_, ⟨st.ok.cells.nd, st.ok.cells.len, fun m b c e1 e2 => ?_⟩, st.ok.tabs, fun b ps e => ?_⟩, ⟨st.fr.le.trans le, st.fr.keep, fun b e => ?_, st.fr.rho, st.fr.dom⟩, st.l1, st.l2, fun i s x q e1 e2 e3 => ?_, st.inj, st.fresh⟩, le, ?_⟩
  · by_cases hb : b = p
    · have e2 : upd w.G p o b = some x := e
      rw [hb, upd_same] at e2
      rw [hb, ho, e2]
    · have e2 : upd w.G p o b = some x := e
      rw [upd_ne hb] at e2
      exact st.ok.ex b x e2
  · obtain ⟨q1, q2⟩ := st.ok.cells.at_ m b c e1 e2
    have ne : b ≠ p := fun z => a.nr (by rw [← z]; exact List.mem_of_getElem? e1)
    exact ⟨(upd_ne ne).trans q1, q2.move le rfl⟩
  · by_cases hb : b = p
    · have e2 : upd w.G p o b = some (.tbl ps) := e
      rw [hb, upd_same] at e2
      exact nt ps (Option.some.inj e2)
    · have e2 : upd w.G p o b = some (.tbl ps) := e
      rw [upd_ne hb] at e2
      exact st.ok.notab b ps e2
  · have ne : b ≠ p := fun z => e (by rw [z]; exact a.n0)
    exact (upd_ne ne).trans (st.fr.newG b e)
  · have q' := st.sl i s x q e1 e2 e3
    cases s with
    | no => exact q'
    | v d =>
      obtain ⟨z1, v, z2, z3⟩ := q'
      exact ⟨z1, v, z2, z3.mono le⟩
    | o c' =>
      obtain ⟨p', z1, z2, z3, z4⟩ := q'
      have ne : p' ≠ p := fun z => a.no i (by rw [e3, z1, z])
      exact ⟨p', z1, z2, (upd_ne ne).trans z3, z4.move le rfl⟩
  · have c2 := a.at_.move le (rfl : H p = H p)
    cases c with
    | lst ds =>
      obtain ⟨vs, e1, e2⟩ := c2
      rw [ho] at e1
      unfold Cell.d Rep
      refine ⟨p, vs, rfl, ?_, e2⟩
      show upd w.G p o p = _
      rw [upd_same, e1]
    | ins c fs =>
      obtain ⟨dx, gs, e1, e2⟩ := c2
      rw [ho] at e1
      unfold Cell.d Rep
      refine ⟨p, dx, gs, rfl, ?_, e2⟩
      show upd w.G p o p = _
      rw [upd_same, e1]
    | dic ks =>
      obtain ⟨gs, e1, e2⟩ := c2
      rw [ho] at e1
      unfold Cell.d Rep
      refine ⟨p, gs, rfl, ?_, e2⟩
      show upd w.G p o p = _
      rw [upd_same, e1]
end
section
variable {X : Cx} {Y : Gam} {W : WX} {e a b : Expr} {es : List Expr} {ta tb te : TE} {tt tu : TT} {ma mb me : ME} {mt mu : MT} {t : TA} {m : MA} {pos : Pos}
def mFrz (mf : MF) : ME := fun env S => (mf env S).bind fun c S1 => .ok c.d S1
theorem SF.val {mf : MF} (h : SF X Y W e te mf) : SE X Y W e te (mFrz mf) := by
  refine ⟨h.pe, fun w0 H0 w H σ env S O Q st p => h.sim w0 H0 w H σ env S O Q st ((PostX.bind p).imp fun c S1 w1 H1 st1 l1 p1 q ow => ?_)⟩
  obtain ⟨w2, st2, l2, r⟩ := own_freeze st1 ow
  exact p1 w2 H1 st2 l2 _ r
/-! ### names, constants -/
def eV (i : Nat) : ME := fun env S => match env[i]? with
  | some (.v d) => .ok d S
  | _ => .stuck
theorem sim_var {g : Gam} {i : Nat} : SimE g W (tVar i) (eV i) := fun w0 H0 w H σ env S O Q st p => by
  unfold eV at p
  split at p
  · rename_i d e
    have hi : i < σ.length := by
      rw [← st.l1]
      exact (List.getElem?_eq_some_iff.mp e).1
    have hO : i < O.length := by
      rw [st.l2]
      exact hi
    obtain ⟨_, v, e1, r⟩ := st.sl i (.v d) σ[i] O[i] e (List.getElem?_eq_getElem hi) (List.getElem?_eq_getElem hO)
    exact ⟨v, by rw [List.getElem?_eq_getElem hi, e1], p w H st (.refl w) v r⟩
  · exact p.elim
theorem sv (i : Nat) {x : Str} (hN : X.N[i]? = some x := by rfl) (hv : Vis X.env.scope x := by first | exact Or.inl rfl | exact Or.inr (Or.inl rfl) | exact Or.inr (Or.inr rfl)) (hd : (x == ("__debug__" : Str)) = false := by decide)
    (hcd : (x == ("__classdict__" : Str)) = false := by decide) : SE X Y W (.Name x pos) (tVar i) (eV i) := ⟨pv i hN hv hd hcd, sim_var⟩
def eC (d : D) : ME := fun _ S => .ok d S
theorem sim_c {g : Gam} {v : V} {d : D} (h : ∀ w, Rep g w d v) : SimE g W (tC v) (eC d) := fun w0 H0 w H σ env S O Q st p => p w H st (.refl w) v (h w)
theorem s_int {i j} : SE X Y W (.Constant (.int i) j pos) (tC (.int i)) (eC (.int i)) := ⟨pe_int, sim_c fun _ => by unfold Rep; rfl⟩
theorem s_bl {i j} : SE X Y W (.Constant (.bool i) j pos) (tC (.bl i)) (eC (.bl i)) := ⟨pe_bl, sim_c fun _ => by unfold Rep; rfl⟩
theorem s_non {j} : SE X Y W (.Constant .none j pos) (tC .non) (eC .non) := ⟨pe_non, sim_c fun _ => by unfold Rep; rfl⟩
theorem s_str {i j} : SE X Y W (.Constant (.str i) j pos) (tC (.str i)) (eC (.str i)) := ⟨pe_str, sim_c fun _ => by unfold Rep; rfl⟩
/-- a module's number -/
theorem s_gint {x : Str} {i : Int} {u : Tok} (hm : X.mg x = some (.int i u)) (hg : Gl X x := by rfl) (hd : (x == ("__debug__" : Str)) = false := by decide) : SE X Y W (.Name x pos) (tC (.int i)) (eC (.int i)) :=
  ⟨pe_glob hg hm ⟨u, rfl⟩ hd, sim_c fun _ => by unfold Rep; rfl⟩
/-! ### two-place operations -/
def OpD (g : Gam) (r : R2) (f : Sto → D → D → Option D) : Prop := ∀ w H S d1 d2 v1 v2 d (Q : VK), Ok g w H S → Rep g w d1 v1 → Rep g w d2 v2 → f S d1 d2 = some d → (∀ w' H' v, Grow w H w' H' → Rep g w' d v → Q v H') → r v1 v2 H Q
def eOp (f : Sto → D → D → Option D) (ma mb : ME) : ME := fun env S => (ma env S).bind fun d1 S1 => (mb env S1).bind fun d2 S2 => opt (f S2 d1 d2) S2
theorem sim_op {g : Gam} {r : R2} {f : Sto → D → D → Option D} (ho : OpD g r f) (ha : SimE g W ta ma) (hb : SimE g W tb mb) : SimE g W (tOp r ta tb) (eOp f ma mb) := fun w0 H0 w H σ env S O Q st p =>
  ha w0 H0 w H σ env S O _ st ((PostX.bind p).imp fun d1 S1 w1 H1 st1 l1 p1 v1 r1 => hb w0 H0 w1 H1 σ env S1 O _ st1 ((PostX.bind p1).imp fun d2 S2 w2 H2 st2 l2 p2 v2 r2 => by
    obtain ⟨d, e, k⟩ := PostX.opt_ p2 st2
    exact ho w2 H2 S2 d1 d2 v1 v2 d Q st2.ok (r1.mono l2) r2 e fun w3 H3 v q r => k w3 H3 (st2.grow q) (q.le st2.ok) v r))
theorem s_op {op : Operator} {r : R2} {f : Sto → D → D → Option D} (hd : OpD Y r f) (ho : OpR X (binaryOp op) r) (ha : SE X Y W a ta ma) (hb : SE X Y W b tb mb) : SE X Y W (.BinOp a op b pos) (tOp r ta tb) (eOp f ma mb) := ⟨pe_op ho ha.pe hb.pe, sim_op hd ha.sim hb.sim⟩
theorem s_cmp {op : CmpOp} {r : R2} {f : Sto → D → D → Option D} (hd : OpD Y r f) (ho : OpR X (compareOp op) r) (ha : SE X Y W a ta ma) (hb : SE X Y W b tb mb) (hm : behindInMarks op b = false) : SE X Y W (.Compare a [op] [b] pos) (tOp r ta tb) (eOp f ma mb) := ⟨pe_cmpR ho ha.pe hb.pe hm, sim_op hd ha.sim hb.sim⟩
theorem s_ix {r : R2} {f : Sto → D → D → Option D} (hd : OpD Y r f) (ho : IxR X r) (ha : SE X Y W a ta ma) (hb : SE X Y W b tb mb) (hs : PlainIx b) : SE X Y W (.Subscript a b pos) (tOp r ta tb) (eOp f ma mb) := ⟨pe_ix ho ha.pe hb.pe hs, sim_op hd ha.sim hb.sim⟩
/-- either of two readings -/
theorem OpR.or {X : Cx} {f : Value → Value → Sem Value} {r r' : R2} (h : OpR X f r) (h' : OpR X f r') : OpR X f (fun x y H Q => r x y H Q ∨ r' x y H Q) := fun pins s σ H x y v u Q I r1 r2 q =>
  q.elim (h pins s σ H x y v u Q I r1 r2) (h' pins s σ H x y v u Q I r1 r2)
theorem OpD.or {g : Gam} {r r' : R2} {f f' : Sto → D → D → Option D} (h : OpD g r f) (h' : OpD g r' f') : OpD g (fun x y H Q => r x y H Q ∨ r' x y H Q) (fun S a b => (f S a b).or (f' S a b)) := fun w H S d1 d2 v1 v2 d Q k r1 r2 e q => by
  have e : (f S d1 d2).or (f' S d1 d2) = some d := e
  cases z : f S d1 d2 with
  | some d' =>
    rw [z] at e
    have e2 : d' = d := by simpa using e
    exact .inl (h w H S d1 d2 v1 v2 d Q k r1 r2 (by rw [z, e2]) q)
  | none =>
    rw [z] at e
    exact .inr (h' w H S d1 d2 v1 v2 d Q k r1 r2 (by simpa using e) q)
/-- ints -/
def fI (g : Int → Int → D) (c : Int → Int → Bool) : Sto → D → D → Option D
  | _, .int i, .int j => if c i j then some (g i j) else none
  | _, _, _ => none
theorem rep_int {g : Gam} {w : Wd} {i : Int} {v : V} (h : Rep g w (.int i) v) : v = .int i := by
  unfold Rep at h
  exact h
theorem rep_int' {g : Gam} {w : Wd} {i : Int} : Rep g w (.int i) (.int i) := by
  unfold Rep
  rfl
theorem rep_bl' {g : Gam} {w : Wd} {i : Bool} : Rep g w (.bl i) (.bl i) := by
  unfold Rep
  rfl
theorem od_I {g : Gam} {C : Int → Int → Prop} {h : Int → Int → V} {k : Int → Int → D} {c : Int → Int → Bool} (hc : ∀ i j, c i j = true → C i j) (hk : ∀ i j w, Rep g w (k i j) (h i j)) : OpD g (rI C h) (fI k c) := fun w H S d1 d2 v1 v2 d Q _ r1 r2 e q => by
  unfold fI at e
  split at e
  · rename_i i j
    split at e
    · rename_i z
      cases e
      exact ⟨i, j, rep_int r1, rep_int r2, hc i j z, q w H _ .refl (hk i j w)⟩
    · cases e
  · cases e
theorem od_I0 {g : Gam} {h : Int → Int → V} {k : Int → Int → D} (hk : ∀ i j w, Rep g w (k i j) (h i j)) : OpD g (rI0 h) (fI k fun _ _ => true) := fun w H S d1 d2 v1 v2 d Q _ r1 r2 e q => by
  unfold fI at e
  split at e
  · rename_i i j
    simp only [if_true] at e
    cases e
    exact ⟨i, j, rep_int r1, rep_int r2, q w H _ .refl (hk i j w)⟩
  · cases e
end
end Mm
namespace Mm
open PySem L2
section
variable {X : Cx} {Y : Gam} {W : WX} {e a b c : Expr} {es rest : List Expr} {ta tb te : TE} {tt tu : TT} {ma mb me : ME} {mt mu : MT} {t : TA} {m : MA} {pos : Pos}
/-! ### tests -/
def cB (me : ME) : MT := fun env S => (me env S).bind fun d S1 => match d with
  | .bl k => .ok k S1
  | _ => .stuck
theorem sim_test {g : Gam} (h : SimE g W te me) : SimT g W (tTest te) (cB me) := fun w0 H0 w H σ env S O Q st p =>
  h w0 H0 w H σ env S O _ st ((PostX.bind p).imp fun d S1 w1 H1 st1 l1 p1 v r => by
    cases d with
    | bl k =>
      unfold Rep at r
      exact ⟨k, r, p1 w1 H1 st1 (.refl w1)⟩
    | _ => exact False.elim p1)
theorem c_val {te : TE} (h : SE X Y W e te me) (he : ∀ whole, isTrue e X.env whole = (do let v ← whole; standAt e.pos; holding [v] (truthy v)) := by intro _; rfl) : SC X Y W e (tB te) (cB me) := ⟨pt_val h.pe he, sim_test h.sim⟩
theorem c_cmp {op : CmpOp} {r : R2} {f : Sto → D → D → Option D} (hd : OpD Y r f) (ho : OpR X (compareOp op) r) (ha : SE X Y W a ta ma) (hb : SE X Y W b tb mb) (hm : behindInMarks op b = false) : SC X Y W (.Compare a [op] [b] pos) (tTest (tOp r ta tb)) (cB (eOp f ma mb)) :=
  ⟨pt_cmpR ho ha.pe hb.pe hm, sim_test (sim_op hd ha.sim hb.sim)⟩
structure SW (X : Cx) (Y : Gam) (W : WX) (e : Expr) (t : TT) (m : MT) : Prop where
  pw : PW X e t
  sim : SimT Y W t m
theorem SW.sc (h : SW X Y W e tt mt) : SC X Y W e tt mt := ⟨h.pw.pt, h.sim⟩
def cAnd (a b : MT) : MT := fun env S => (a env S).bind fun k S1 => if k = true then b env S1 else .ok false S1
def cOr (a b : MT) : MT := fun env S => (a env S).bind fun k S1 => if k = true then .ok true S1 else b env S1
def cNot (a : MT) : MT := fun env S => (a env S).bind fun k S1 => .ok (!k) S1
theorem sim_and {g : Gam} (h1 : SimT g W tt mt) (h2 : SimT g W tu mu) : SimT g W (tAnd tt tu) (cAnd mt mu) := fun w0 H0 w H σ env S O Q st p =>
  h1 w0 H0 w H σ env S O _ st ((PostX.bind p).imp fun k S1 w1 H1 st1 l1 p1 => by
    cases k with
    | true =>
      simp only [if_true] at p1 ⊢
      exact h2 w0 H0 w1 H1 σ env S1 O Q st1 p1
    | false =>
      simp only [Bool.false_eq_true, if_false] at p1 ⊢
      exact p1 w1 H1 st1 (.refl w1))
theorem sim_or {g : Gam} (h1 : SimT g W tt mt) (h2 : SimT g W tu mu) : SimT g W (tOr tt tu) (cOr mt mu) := fun w0 H0 w H σ env S O Q st p =>
  h1 w0 H0 w H σ env S O _ st ((PostX.bind p).imp fun k S1 w1 H1 st1 l1 p1 => by
    cases k with
    | false =>
      simp only [Bool.false_eq_true, if_false] at p1 ⊢
      exact h2 w0 H0 w1 H1 σ env S1 O Q st1 p1
    | true =>
      simp only [if_true] at p1 ⊢
      exact p1 w1 H1 st1 (.refl w1))
theorem sim_not {g : Gam} (h1 : SimT g W tt mt) : SimT g W (tNot tt) (cNot mt) := fun w0 H0 w H σ env S O Q st p =>
  h1 w0 H0 w H σ env S O _ st ((PostX.bind p).imp fun k S1 w1 H1 st1 l1 p1 => p1 w1 H1 st1 (.refl w1))
theorem w_and1 (ha : SC X Y W a tt mt) : SW X Y W (.BoolOp .And [a] pos) tt mt := ⟨pw_and1 ha.pt, ha.sim⟩
theorem w_or1 (ha : SC X Y W a tt mt) : SW X Y W (.BoolOp .Or [a] pos) tt mt := ⟨pw_or1 ha.pt, ha.sim⟩
theorem w_and (ha : SC X Y W a tt mt) (hb : SW X Y W (.BoolOp .And (b :: rest) pos) tu mu) : SW X Y W (.BoolOp .And (a :: b :: rest) pos) (tAnd tt tu) (cAnd mt mu) := ⟨pw_and ha.pt hb.pw, sim_and ha.sim hb.sim⟩
theorem w_or (ha : SC X Y W a tt mt) (hb : SW X Y W (.BoolOp .Or (b :: rest) pos) tu mu) : SW X Y W (.BoolOp .Or (a :: b :: rest) pos) (tOr tt tu) (cOr mt mu) := ⟨pw_or ha.pt hb.pw, sim_or ha.sim hb.sim⟩
theorem c_not (ha : SC X Y W a tt mt) : SC X Y W (.UnaryOp .Not a pos) (tNot tt) (cNot mt) := ⟨pt_not ha.pt, sim_not ha.sim⟩
/-! ### as values -/
def eAnd (a b : ME) : ME := fun env S => (a env S).bind fun d S1 => match d with
  | .bl true => b env S1
  | .bl false => .ok (.bl false) S1
  | _ => .stuck
def eOr (a b : ME) : ME := fun env S => (a env S).bind fun d S1 => match d with
  | .bl true => .ok (.bl true) S1
  | .bl false => b env S1
  | _ => .stuck
def eNot (a : ME) : ME := fun env S => (a env S).bind fun d S1 => match d with
  | .bl k => .ok (.bl (!k)) S1
  | _ => .stuck
theorem sim_andV {g : Gam} (h1 : SimE g W ta ma) (h2 : SimE g W tb mb) : SimE g W (tAndV ta tb) (eAnd ma mb) := fun w0 H0 w H σ env S O Q st p =>
  h1 w0 H0 w H σ env S O _ st ((PostX.bind p).imp fun d S1 w1 H1 st1 l1 p1 v r => by
    cases d with
    | bl k =>
      unfold Rep at r
      refine ⟨k, r, ?_⟩
      cases k with
      | true =>
        simp only [if_true]
        exact h2 w0 H0 w1 H1 σ env S1 O Q st1 p1
      | false =>
        simp only [Bool.false_eq_true, if_false]
        exact p1 w1 H1 st1 (.refl w1) _ rep_bl'
    | _ => exact False.elim p1)
theorem sim_orV {g : Gam} (h1 : SimE g W ta ma) (h2 : SimE g W tb mb) : SimE g W (tOrV ta tb) (eOr ma mb) := fun w0 H0 w H σ env S O Q st p =>
  h1 w0 H0 w H σ env S O _ st ((PostX.bind p).imp fun d S1 w1 H1 st1 l1 p1 v r => by
    cases d with
    | bl k =>
      unfold Rep at r
      refine ⟨k, r, ?_⟩
      cases k with
      | false =>
        simp only [Bool.false_eq_true, if_false]
        exact h2 w0 H0 w1 H1 σ env S1 O Q st1 p1
      | true =>
        simp only [if_true]
        exact p1 w1 H1 st1 (.refl w1) _ rep_bl'
    | _ => exact False.elim p1)
theorem sim_notV {g : Gam} (h1 : SimE g W ta ma) : SimE g W (tNotV ta) (eNot ma) := fun w0 H0 w H σ env S O Q st p =>
  h1 w0 H0 w H σ env S O _ st ((PostX.bind p).imp fun d S1 w1 H1 st1 l1 p1 v r => by
    cases d with
    | bl k =>
      unfold Rep at r
      exact ⟨k, r, p1 w1 H1 st1 (.refl w1) _ rep_bl'⟩
    | _ => exact False.elim p1)
theorem s_one {op} (h : SE X Y W a te me) : SE X Y W (.BoolOp op [a] pos) te me := ⟨pe_one h.pe, h.sim⟩
theorem s_and (ha : SE X Y W a ta ma) (hb : SE X Y W (.BoolOp .And (b :: rest) pos) tb mb) : SE X Y W (.BoolOp .And (a :: b :: rest) pos) (tAndV ta tb) (eAnd ma mb) := ⟨pe_and ha.pe hb.pe, sim_andV ha.sim hb.sim⟩
theorem s_or (ha : SE X Y W a ta ma) (hb : SE X Y W (.BoolOp .Or (b :: rest) pos) tb mb) : SE X Y W (.BoolOp .Or (a :: b :: rest) pos) (tOrV ta tb) (eOr ma mb) := ⟨pe_or ha.pe hb.pe, sim_orV ha.sim hb.sim⟩
theorem s_not (ha : SE X Y W a ta ma) : SE X Y W (.UnaryOp .Not a pos) (tNotV ta) (eNot ma) := ⟨pe_not ha.pe, sim_notV ha.sim⟩
def eIf (t : MT) (a b : ME) : ME := fun env S => (t env S).bind fun k S1 => if k = true then a env S1 else b env S1
theorem s_if (hc : SC X Y W c tt mt) (ha : SE X Y W a ta ma) (hb : SE X Y W b tb mb) : SE X Y W (.IfExp c a b pos) (tIf tt ta tb) (eIf mt ma mb) := ⟨pe_ifExp hc.pt ha.pe hb.pe, fun w0 H0 w H σ env S O Q st p =>
  hc.sim w0 H0 w H σ env S O _ st ((PostX.bind p).imp fun k S1 w1 H1 st1 l1 p1 => by
    cases k with
    | true =>
      simp only [if_true] at p1 ⊢
      exact ha.sim w0 H0 w1 H1 σ env S1 O Q st1 p1
    | false =>
      simp only [Bool.false_eq_true, if_false] at p1 ⊢
      exact hb.sim w0 H0 w1 H1 σ env S1 O Q st1 p1)⟩
/-! ### one-place operations -/
def UnD (g : Gam) (r : V → Hp → VK → Prop) (f : Sto → D → Option D) : Prop := ∀ w H S d1 v1 d (Q : VK), Ok g w H S → Rep g w d1 v1 → f S d1 = some d → (∀ w' H' v, Grow w H w' H' → Rep g w' d v → Q v H') → r v1 H Q
def eUn (f : Sto → D → Option D) (ma : ME) : ME := fun env S => (ma env S).bind fun d1 S1 => opt (f S1 d1) S1
theorem s_un {op : UnaryOp} {r : V → Hp → VK → Prop} {f : Sto → D → Option D} (hd : UnD Y r f) (ho : UnR X (unaryOp op) r) (ha : SE X Y W a ta ma) : SE X Y W (.UnaryOp op a pos) (tUn r ta) (eUn f ma) := ⟨pe_un ho ha.pe, fun w0 H0 w H σ env S O Q st p =>
  ha.sim w0 H0 w H σ env S O _ st ((PostX.bind p).imp fun d1 S1 w1 H1 st1 l1 p1 v1 r1 => by
    obtain ⟨d, e, k⟩ := PostX.opt_ p1 st1
    exact hd w1 H1 S1 d1 v1 d Q st1.ok r1 e fun w3 H3 v q r => k w3 H3 (st1.grow q) (q.le st1.ok) v r)⟩
def fNeg : Sto → D → Option D
  | _, .int i => some (.int (-i))
  | _, _ => none
theorem ud_neg {g : Gam} : UnD g (rU fun i => .int (-i)) fNeg := fun w H S d1 v1 d Q _ r1 e q => by
  unfold fNeg at e
  split at e
  · rename_i i
    cases e
    exact ⟨i, rep_int r1, q w H _ .refl rep_int'⟩
  · cases e
/-! ### argument lists, displays -/
def aNil : MA := fun _ S => .ok [] S
def aCons (ma : ME) (mr : MA) : MA := fun env S => (ma env S).bind fun d S1 => (mr env S1).bind fun ds S2 => .ok (d :: ds) S2
theorem a_nil : SA X Y W [] tNil aNil := ⟨pa_nil, fun w0 H0 w H σ env S O Q st p => p w H st (.refl w) [] RepL.nil_, fun env S ds S1 e => by cases e; rfl⟩
theorem a_cons (ha : SE X Y W e te me) (hr : SA X Y W es t m) (hs : starEach (e :: es) X.env = (false, eval e X.env) :: starEach es X.env := by rfl) : SA X Y W (e :: es) (tCons te t) (aCons me m) := ⟨pa_cons ha.pe hr.pa hs, fun w0 H0 w H σ env S O Q st p =>
  ha.sim w0 H0 w H σ env S O _ st ((PostX.bind p).imp fun d S1 w1 H1 st1 l1 p1 v r => hr.sim w0 H0 w1 H1 σ env S1 O _ st1 ((PostX.bind p1).imp fun ds S2 w2 H2 st2 l2 p2 vs rs => p2 w2 H2 st2 (.refl w2) (v :: vs) (RepL.cons_ (r.mono l2) rs))), fun env S ds S1 h => by
  unfold aCons at h
  cases e1 : me env S with
  | stuck => rw [e1] at h; cases h
  | exc c q s => rw [e1] at h; cases h
  | ok d s =>
    rw [e1] at h
    have h : ((m env s).bind fun ds S2 => R.ok (d :: ds) S2) = .ok ds S1 := h
    cases e2 : m env s with
    | stuck => rw [e2] at h; cases h
    | exc c q s => rw [e2] at h; cases h
    | ok d2 s2 =>
      rw [e2] at h
      have h : R.ok (d :: d2) s2 = .ok ds S1 := h
      cases h
      rw [List.length_cons, List.length_cons, hr.len _ _ _ _ e2]⟩
def szB (n : Nat) : Bool := decide (n ≤ 100000)
theorem szB_le {n : Nat} (h : szB n = true) : n ≤ sizeLine := Nat.le_trans (of_decide_eq_true h) (by decide)
theorem nt_tup {xs : List V} : ∀ ps, HO.tup xs ≠ .tbl ps := fun _ z => by cases z
theorem nt_lst {xs : List V} : ∀ ps, HO.lst xs ≠ .tbl ps := fun _ z => by cases z
theorem nt_ins {C dx : Addr} {fs : List (Str × V)} : ∀ ps, HO.ins C dx fs ≠ .tbl ps := fun _ z => by cases z
theorem nt_own {x : Addr} : ∀ ps, HO.own x ≠ .tbl ps := fun _ z => by cases z
def eTup (m : MA) : ME := fun env S => (m env S).bind fun ds S1 => if szB ds.length then .ok (.tup ds) S1 else .stuck
theorem rep_tup_new {g : Gam} {w : Wd} {H : Hp} {S : Sto} {p : Addr} {ds : List D} {vs : List V} (k : Ok g w H S) (h : H p = none) (r : RepL g w ds vs) : Rep g ⟨w.rho, upd w.G p (.tup vs)⟩ (.tup ds) (.ref p) := by
  unfold Rep
  exact ⟨p, vs, rfl, .inl (.inl upd_same), r.mono (Grow.le (Grow.one h nt_tup) k)⟩
theorem rep_lst_new {g : Gam} {w : Wd} {H : Hp} {S : Sto} {p : Addr} {ds : List D} {vs : List V} (k : Ok g w H S) (h : H p = none) (r : RepL g w ds vs) : Rep g ⟨w.rho, upd w.G p (.lst vs)⟩ (.lst ds) (.ref p) := by
  unfold Rep
  exact ⟨p, vs, rfl, upd_same, r.mono (Grow.le (Grow.one h nt_lst) k)⟩
theorem s_tup {x1} (h : SA X Y W es t m) : SE X Y W (.Tuple es x1 pos) (tTup t) (eTup m) := ⟨pe_tup h.pa, fun w0 H0 w H σ env S O Q st p =>
  h.sim w0 H0 w H σ env S O _ st ((PostX.bind p).imp fun ds S1 w1 H1 st1 l1 p1 vs r => by
    split at p1
    · rename_i z
      refine ⟨by rw [← r.len]; exact szB_le z, fun q hq => ?_⟩
      have G := Grow.one (w := w1) (o := .tup vs) hq nt_tup
      exact p1 _ _ (st1.grow G) (G.le st1.ok) _ (rep_tup_new st1.ok hq r)
    · exact False.elim p1)⟩
def fLst (m : MA) : MF := fun env S => (m env S).bind fun ds S1 => if szB ds.length then .ok (.lst ds) S1 else .stuck
theorem f_lst (h : SA X Y W es t m) : SF X Y W (.List es pos) (tLst t) (fLst m) := ⟨pe_lst h.pa, fun w0 H0 w H σ env S O Q st p =>
  h.sim w0 H0 w H σ env S O _ st ((PostX.bind p).imp fun ds S1 w1 H1 st1 l1 p1 vs r => by
    split at p1
    · rename_i z
      refine ⟨by rw [← r.len]; exact szB_le z, fun q hq => ?_⟩
      exact p1 w1 _ (st1.lay hq nt_lst) (.refl w1) q (st1.own_new hq ⟨vs, upd_same, r⟩)
    · exact False.elim p1)⟩
/-! ### what a def promises -/
def RetR (g : Gam) (w : Wd) (H0 H : Hp) (r : Ret) (v : V) : Prop := match r with
  | .val d => Rep g w d v
  | .own c => ∃ p, v = .ref p ∧ H0 p = none ∧ w.G p = none ∧ p ∉ w.rho ∧ CellR g w H p c
def PostF (g : Gam) (w : Wd) (H : Hp) (Q : VK) (E : XK) : R Ret → Prop
  | .stuck => False
  | .ok r S => ∀ w' H' v, Frame w H w' H' → Ok g w' H' S → RetR g w' H H' r v → Q v H'
  | .exc c p S => ∀ w' H' cls dd, Frame w H w' H' → Ok g w' H' S → ExcR g w' H' c p cls dd → E cls dd H'
abbrev MFn := List D → Sto → R Ret
def spOf (g : Gam) (n : Nat) (m : MFn) : Sp := fun vs H Q E => vs.length = n ∧ ∃ w ds S, Ok g w H S ∧ RepL g w ds vs ∧ PostF g w H Q E (m ds S)
/-- a call's end, seen from the caller -/
theorem post_val {g : Gam} {w0 w : Wd} {H0 H : Hp} {σ : L2.St} {env : Envr} {S : Sto} {O : List (Option Addr)} {Q : VK} {r : R Ret} (st : StR g w0 H0 w H σ env S O)
    (p : PostX g W w0 H0 w σ env O (r.bind fun r S2 => R.ok r.d S2) (fun d _ w' H' => ∀ v, Rep g w' d v → Q v H')) : PostF g w H Q (fun cls dd H' => W cls dd σ H') r := by
  cases r with
  | stuck => exact p
  | exc c q S2 => exact fun w' H' cls dd f k x => p w' H' cls dd (st.after f k) f.le x
  | ok r S2 =>
    intro w' H' v f k x
    have st2 := st.after f k
    cases r with
    | val d => exact p w' H' st2 f.le v x
    | own c =>
      obtain ⟨q, e, n0, ng, nr, at_⟩ := x
      have ow : OwnAt g w' H0 H' O c q := by
        obtain ⟨z1, z2, z3, z4⟩ := st.out n0
        exact ⟨z1, ng, nr, z4, at_⟩
      obtain ⟨w3, st3, l3, r3⟩ := own_freeze st2 ow
      rw [e]
      exact p w3 H' st3 (f.le.trans l3) _ r3
def rOwn : Ret → Sto → R Cell
  | .own c, S => .ok c S
  | .val _, _ => .stuck
theorem post_own {g : Gam} {w0 w : Wd} {H0 H : Hp} {σ : L2.St} {env : Envr} {S : Sto} {O : List (Option Addr)} {Q : VK} {r : R Ret} (st : StR g w0 H0 w H σ env S O)
    (p : PostX g W w0 H0 w σ env O (r.bind rOwn) (fun c _ w' H' => ∀ p, OwnAt g w' H0 H' O c p → Q (.ref p) H')) : PostF g w H Q (fun cls dd H' => W cls dd σ H') r := by
  cases r with
  | stuck => exact p
  | exc c q S2 => exact fun w' H' cls dd f k x => p w' H' cls dd (st.after f k) f.le x
  | ok r S2 =>
    intro w' H' v f k x
    have st2 := st.after f k
    cases r with
    | val d => exact False.elim p
    | own c =>
      obtain ⟨q, e, n0, ng, nr, at_⟩ := x
      obtain ⟨z1, z2, z3, z4⟩ := st.out n0
      rw [e]
      exact p w' H' st2 f.le q ⟨z1, ng, nr, z4, at_⟩
def eCall (f : MFn) (dd : List D) (m : MA) : ME := fun env S => (m env S).bind fun ds S1 => (f (ds ++ dd) S1).bind fun r S2 => .ok r.d S2
def fCall (f : MFn) (dd : List D) (m : MA) : MF := fun env S => (m env S).bind fun ds S1 => (f (ds ++ dd) S1).bind rOwn
variable {k n : Nat} {f : Addr} {fd : FuncData} {ps : List Str} {mf : MFn} {dvs : List V} {ds : List Value} {dd : List D} {x : Str} {p : Pos}
theorem sim_callA {g : Gam} (hdv : ∀ w, RepL g w dd dvs) (ha : SimA g W t m) (hlen : ∀ env S ds S1, m env S = .ok ds S1 → ds.length + dd.length = n) {w0 w : Wd} {H0 H : Hp} {σ : L2.St} {env : Envr} {S : Sto} {O : List (Option Addr)} {α : Type} {F : Ret → Sto → R α} {kk : α → Sto → Wd → Hp → Prop} {Q : VK}
    (st : StR g w0 H0 w H σ env S O) (p : PostX g W w0 H0 w σ env O ((m env S).bind fun ds S1 => (mf (ds ++ dd) S1).bind F) kk)
    (fin : ∀ w1 H1 S1 r, StR g w0 H0 w1 H1 σ env S1 O → PostX g W w0 H0 w1 σ env O (r.bind F) kk → PostF g w1 H1 Q (WE W σ) r) : t σ H (fun vs H1 => spOf g n mf (vs ++ dvs) H1 Q (WE W σ)) := by
  refine ha w0 H0 w H σ env S O _ st ?_
  have p2 := PostX.bind p
  cases e : m env S with
  | stuck =>
    rw [e] at p2
    exact p2
  | exc c q S2 =>
    rw [e] at p2
    exact p2
  | ok ds S1 =>
    rw [e] at p2
    intro w1 H1 st1 l1 vs rs
    have p3 := p2 w1 H1 st1 l1
    have r2 := rs.append_ (hdv w1)
    refine ⟨?_, w1, ds ++ dd, S1, st1.ok, r2, fin w1 H1 S1 _ st1 p3⟩
    rw [← r2.len, List.length_append]
    exact hlen env S ds S1 e
/-- f(e, ..) -/
theorem s_call (F : FnOk X.prog X.w X.K X.mg X.base (L2N.CX X.prog X.w) k f fd ps (spOf Y n mf)) (hr : Room k X.A) (hm : X.mg x = some (.ref f)) (hk : PySem.W.keepIn X.K (.ref f) = true) (hb : Binds X.K fd ps ds) (hd : Vals dvs ds) (hdv : ∀ w, RepL Y w dd dvs) (tk : L2N.Takes X W)
    (ha : SA X Y W (e :: es) t m) (hn : (e :: es).length + dd.length = n := by rfl) (hg : Gl X x := by rfl) (hdb : (x == ("__debug__" : Str)) = false := by decide) (he : starEach (e :: es) X.env = (false, eval e X.env) :: starEach es X.env := by rfl) (hpl : (backTo pos (starEach es X.env)).any (·.1) = false := by rfl) :
    SE X Y W (.Call (.Name x p) (e :: es) [] pos) (tCallSD (spOf Y n mf) dvs (WE W) t) (eCall mf dd m) :=
  ⟨pe_callSD F hr hg hm hk hb hd (fun σ => L2N.passAt tk σ) ha.pa hdb he hpl, fun w0 H0 w H σ env S O Q st p => sim_callA hdv ha.sim (fun env S ds S1 h => by rw [ha.len _ _ _ _ h]; exact hn) st p fun w1 H1 S1 r st1 p1 => post_val st1 p1⟩
theorem f_call (F : FnOk X.prog X.w X.K X.mg X.base (L2N.CX X.prog X.w) k f fd ps (spOf Y n mf)) (hr : Room k X.A) (hm : X.mg x = some (.ref f)) (hk : PySem.W.keepIn X.K (.ref f) = true) (hb : Binds X.K fd ps ds) (hd : Vals dvs ds) (hdv : ∀ w, RepL Y w dd dvs) (tk : L2N.Takes X W)
    (ha : SA X Y W (e :: es) t m) (hn : (e :: es).length + dd.length = n := by rfl) (hg : Gl X x := by rfl) (hdb : (x == ("__debug__" : Str)) = false := by decide) (he : starEach (e :: es) X.env = (false, eval e X.env) :: starEach es X.env := by rfl) (hpl : (backTo pos (starEach es X.env)).any (·.1) = false := by rfl) :
    SF X Y W (.Call (.Name x p) (e :: es) [] pos) (tCallSD (spOf Y n mf) dvs (WE W) t) (fCall mf dd m) :=
  ⟨pe_callSD F hr hg hm hk hb hd (fun σ => L2N.passAt tk σ) ha.pa hdb he hpl, fun w0 H0 w H σ env S O Q st p => sim_callA hdv ha.sim (fun env S ds S1 h => by rw [ha.len _ _ _ _ h]; exact hn) st p fun w1 H1 S1 r st1 p1 => post_own st1 p1⟩
end
end Mm
namespace Mm
open PySem L2
/-! ### slots change -/
section
variable {g : Gam} {w0 w w1 : Wd} {H0 H H1 : Hp} {σ : L2.St} {env : Envr} {S S1 : Sto} {O : List (Option Addr)}
theorem StR.set_v (st : StR g w0 H0 w H σ env S O) (i : Nat) {d : D} {v : V} (r : Rep g w d v) : StR g w0 H0 w H (σ.set i (some v)) (env.set i (.v d)) S (O.set i none) := by
  refine ⟨st.ok, st.fr, by rw [List.length_set, List.length_set]; exact st.l1, by rw [List.length_set, List.length_set]; exact st.l2, fun j s x o e1 e2 e3 => ?_, fun j k p e1 e2 => ?_, fun j p e => ?_⟩
  · rw [List.getElem?_set] at e1 e2 e3
    by_cases hj : i = j
    · rw [if_pos hj] at e1 e2 e3
      split at e1
      · split at e2
        · split at e3
          · cases e1
            cases e2
            cases e3
            exact ⟨rfl, v, rfl, r⟩
          · cases e3
        · cases e2
      · cases e1
    · rw [if_neg hj] at e1 e2 e3
      exact st.sl j s x o e1 e2 e3
  · rw [List.getElem?_set] at e1 e2
    have h1 : i ≠ j := fun z => by
      rw [if_pos z] at e1
      split at e1 <;> cases e1
    have h2 : i ≠ k := fun z => by
      rw [if_pos z] at e2
      split at e2 <;> cases e2
    rw [if_neg h1] at e1
    rw [if_neg h2] at e2
    exact st.inj j k p e1 e2
  · rw [List.getElem?_set] at e
    have h1 : i ≠ j := fun z => by
      rw [if_pos z] at e
      split at e <;> cases e
    rw [if_neg h1] at e
    obtain ⟨a, b, c, hc⟩ := st.fresh j p e
    exact ⟨a, b, c, by rw [List.getElem?_set, if_neg h1]; exact hc⟩
theorem StR.set_o (st : StR g w0 H0 w H σ env S O) (i : Nat) {c : Cell} {p : Addr} (r : OwnAt g w H0 H O c p) (hi : i < σ.length) : StR g w0 H0 w H (σ.set i (some (.ref p))) (env.set i (.o c)) S (O.set i (some p)) := by
  refine ⟨st.ok, st.fr, by rw [List.length_set, List.length_set]; exact st.l1, by rw [List.length_set, List.length_set]; exact st.l2, fun j s x o e1 e2 e3 => ?_, fun j k q e1 e2 => ?_, fun j q e => ?_⟩
  · rw [List.getElem?_set] at e1 e2 e3
    by_cases hj : i = j
    · rw [if_pos hj, if_pos (by rw [st.l1]; exact hi)] at e1
      rw [if_pos hj, if_pos hi] at e2
      rw [if_pos hj, if_pos (by rw [st.l2]; exact hi)] at e3
      cases e1
      cases e2
      cases e3
      exact ⟨p, rfl, rfl, r.ng, r.at_⟩
    · rw [if_neg hj] at e1 e2 e3
      exact st.sl j s x o e1 e2 e3
  · rw [List.getElem?_set] at e1 e2
    by_cases h1 : i = j
    · by_cases h2 : i = k
      · exact h1.symm.trans h2
      · rw [if_neg h2] at e2
        rw [if_pos h1] at e1
        split at e1
        · cases e1
          exact absurd e2 (r.no k)
        · cases e1
    · rw [if_neg h1] at e1
      by_cases h2 : i = k
      · rw [if_pos h2] at e2
        split at e2
        · cases e2
          exact absurd e1 (r.no j)
        · cases e2
      · rw [if_neg h2] at e2
        exact st.inj j k q e1 e2
  · rw [List.getElem?_set] at e
    by_cases h1 : i = j
    · rw [if_pos h1] at e
      split at e
      · cases e
        exact ⟨r.n0, r.nr, c, by rw [List.getElem?_set, if_pos h1, if_pos (by rw [st.l1]; exact hi)]⟩
      · cases e
    · rw [if_neg h1] at e
      obtain ⟨a, b, c, hc⟩ := st.fresh j q e
      exact ⟨a, b, c, by rw [List.getElem?_set, if_neg h1]; exact hc⟩
/-- what stands in an own slot -/
theorem StR.own_at (st : StR g w0 H0 w H σ env S O) {i : Nat} {c : Cell} (h : env[i]? = some (.o c)) : ∃ p, σ[i]? = some (some (.ref p)) ∧ O[i]? = some (some p) ∧ w.G p = none ∧ CellR g w H p c ∧ H0 p = none ∧ p ∉ w.rho ∧ i < σ.length := by
  have hi : i < σ.length := by
    rw [← st.l1]
    exact (List.getElem?_eq_some_iff.mp h).1
  have hO : i < O.length := by
    rw [st.l2]
    exact hi
  obtain ⟨p, e1, e2, e3, e4⟩ := st.sl i (.o c) σ[i] O[i] h (List.getElem?_eq_getElem hi) (List.getElem?_eq_getElem hO)
  have e5 : O[i]? = some (some p) := by rw [List.getElem?_eq_getElem hO, e1]
  exact ⟨p, by rw [List.getElem?_eq_getElem hi, e2], e5, e3, e4, (st.fresh i p e5).1, (st.fresh i p e5).2.1, hi⟩
/-- the thing in an own slot changes -/
theorem StR.mut (st : StR g w0 H0 w H σ env S O) {i : Nat} {c c' : Cell} {p : Addr} {o : HO} (h : env[i]? = some (.o c)) (hO : O[i]? = some (some p)) (r : CellR g w (upd H p o) p c') (nt : ∀ ps, o ≠ .tbl ps) : StR g w0 H0 w (upd H p o) σ (env.set i (.o c')) S O := by
  obtain ⟨p', e1, e2, e3, e4, e5, e6, hi⟩ := st.own_at h
  rw [hO] at e2
  cases e2
  obtain ⟨x, e7, e8⟩ := e4.some_
  have noG : ∀ b, w.G b ≠ none → b ≠ p := fun b q z => q (by rw [z]; exact e3)
  refine ⟨⟨fun b u e => ?_, ⟨st.ok.cells.nd, st.ok.cells.len, fun m b q e9 e10 => ?_⟩, tabs_upd st.ok.tabs (fun ps z => by rw [e7] at z; exact e8 ps (Option.some.inj z)) (fun φ z => e4.noext φ z), st.ok.notab⟩, ⟨st.fr.le, fun b u q1 q2 q3 => ?_, st.fr.newG, st.fr.rho, fun b q => ?_⟩, by rw [List.length_set]; exact st.l1, st.l2, fun j s y q z1 z2 z3 => ?_, st.inj, fun j q e => ?_⟩
  · rw [upd_ne (noG b (by rw [e]; exact fun z => nomatch z))]
    exact st.ok.ex b u e
  · obtain ⟨q1, q2⟩ := st.ok.cells.at_ m b q e9 e10
    exact ⟨q1, q2.move (.refl w) (upd_ne fun z => e6 (by rw [← z]; exact List.mem_of_getElem? e9))⟩
  · rw [upd_ne (fun z => by rw [z, e5] at q1; cases q1)]
    exact st.fr.keep b u q1 q2 q3
  · by_cases hb : b = p
    · rw [hb, upd_same]
      exact fun z => nomatch z
    · rw [upd_ne hb]
      exact st.fr.dom b q
  · rw [List.getElem?_set] at z1
    by_cases hj : i = j
    · rw [if_pos hj, if_pos (by rw [st.l1]; exact hi)] at z1
      cases z1
      rw [hj] at hO e1
      rw [hO] at z3
      rw [e1] at z2
      cases z3
      cases z2
      exact ⟨p, rfl, rfl, e3, r⟩
    · rw [if_neg hj] at z1
      have q' := st.sl j s y q z1 z2 z3
      cases s with
      | no => exact q'
      | v d => exact q'
      | o cj =>
        obtain ⟨pj, y1, y2, y3, y4⟩ := q'
        rw [y1] at z3
        have ne : pj ≠ p := fun z => hj (st.inj i j p hO (by rw [z3, z]))
        exact ⟨pj, y1, y2, y3, y4.move (.refl w) (upd_ne ne)⟩
  · obtain ⟨a, b, cj, hc⟩ := st.fresh j q e
    refine ⟨a, b, ?_⟩
    by_cases hj : i = j
    · exact ⟨c', by rw [List.getElem?_set, if_pos hj, if_pos (by rw [st.l1]; exact hi)]⟩
    · exact ⟨cj, by rw [List.getElem?_set, if_neg hj]; exact hc⟩
/-- a cell changes -/
theorem ok_cell (k : Ok g w H S) {n : Nat} {c c' : Cell} {a : Addr} {o : HO} (hn : w.rho[n]? = some a) (hc : S[n]? = some c) (r : CellR g w (upd H a o) a c') (nt : ∀ ps, o ≠ .tbl ps) : Ok g w (upd H a o) (S.set n c') ∧ Frame w H w (upd H a o) := by
  obtain ⟨e3, e4⟩ := k.cells.at_ n a c hn hc
  obtain ⟨x, e7, e8⟩ := e4.some_
  have noG : ∀ b, w.G b ≠ none → b ≠ a := fun b q z => q (by rw [z]; exact e3)
  refine ⟨⟨fun b u e => ?_, ⟨k.cells.nd, by rw [List.length_set]; exact k.cells.len, fun m b q e9 e10 => ?_⟩, tabs_upd k.tabs (fun ps z => by rw [e7] at z; exact e8 ps (Option.some.inj z)) (fun φ z => e4.noext φ z), k.notab⟩, ⟨.refl w, fun b u q1 q2 q3 => ?_, fun _ _ => rfl, fun b q => .inl q, fun b q => ?_⟩⟩
  · rw [upd_ne (noG b (by rw [e]; exact fun z => nomatch z))]
    exact k.ex b u e
  · rw [List.getElem?_set] at e10
    by_cases hj : n = m
    · rw [if_pos hj] at e10
      split at e10
      · cases e10
        rw [← hj, hn] at e9
        cases e9
        exact ⟨e3, r⟩
      · cases e10
    · rw [if_neg hj] at e10
      obtain ⟨q1, q2⟩ := k.cells.at_ m b q e9 e10
      exact ⟨q1, q2.move (.refl w) (upd_ne fun z => hj (k.cells.nd n m a hn (by rw [← z]; exact e9)))⟩
  · rw [upd_ne (fun z => q2 (by rw [z]; exact List.mem_of_getElem? hn))]
    exact q1
  · by_cases hb : b = a
    · rw [hb, upd_same]
      exact fun z => nomatch z
    · rw [upd_ne hb]
      exact q
end
/-! ### statements -/
abbrev MS := Envr → Sto → Out
def PostS (g : Gam) (W : WX) (w0 : Wd) (H0 : Hp) (w : Wd) (Dn : Ends) : Out → Prop
  | .stuck => False
  | .nx e S => ∀ w' H' σ' O', StR g w0 H0 w' H' σ' e S O' → w.le w' → Dn.nx σ' H'
  | .bk e S => ∀ w' H' σ' O', StR g w0 H0 w' H' σ' e S O' → w.le w' → Dn.bk σ' H'
  | .ct e S => ∀ w' H' σ' O', StR g w0 H0 w' H' σ' e S O' → w.le w' → Dn.ct σ' H'
  | .rt r S => ∀ w' H' v, Ok g w' H' S → Frame w0 H0 w' H' → RetR g w' H0 H' r v → Dn.rt v H'
  | .exc c p e S => ∀ w' H' σ' O' cls dd, StR g w0 H0 w' H' σ' e S O' → w.le w' → ExcR g w' H' c p cls dd → W cls dd σ' H'
def SimS (g : Gam) (W : WX) (t : TS) (m : MS) : Prop := ∀ w0 H0 w H σ env S O (Dn : Ends), StR g w0 H0 w H σ env S O → PostS g W w0 H0 w Dn (m env S) → t Dn σ H
structure SS (X : Cx) (Y : Gam) (W : WX) (st : Stmt) (t : TS) (m : MS) : Prop where
  ps : PS X st t
  sim : SimS Y W t m
structure SB (X : Cx) (Y : Gam) (W : WX) (st : List Stmt) (t : TS) (m : MS) : Prop where
  pss : PSs X st t
  sim : SimS Y W t m
theorem PostS.mono {g : Gam} {W : WX} {w0 w w1 : Wd} {H0 : Hp} {Dn : Ends} {o : Out} (h : PostS g W w0 H0 w Dn o) (l : w.le w1) : PostS g W w0 H0 w1 Dn o := by
  cases o with
  | stuck => exact h
  | nx e S => exact fun w' H' σ' O' st l' => h w' H' σ' O' st (l.trans l')
  | bk e S => exact fun w' H' σ' O' st l' => h w' H' σ' O' st (l.trans l')
  | ct e S => exact fun w' H' σ' O' st l' => h w' H' σ' O' st (l.trans l')
  | rt r S => exact h
  | exc c p e S => exact fun w' H' σ' O' cls dd st l' => h w' H' σ' O' cls dd st (l.trans l')
/-- a result of an expression goes into a statement -/
def R.out {α : Type} (r : R α) (env : Envr) (f : α → Sto → Out) : Out := match r with
  | .stuck => .stuck
  | .exc c p s => .exc c p env s
  | .ok a s => f a s
theorem PostS.out {g : Gam} {W : WX} {w0 w : Wd} {H0 : Hp} {σ : L2.St} {env : Envr} {O : List (Option Addr)} {Dn : Ends} {α : Type} {r : R α} {f : α → Sto → Out} (h : PostS g W w0 H0 w Dn (r.out env f)) :
    PostX g W w0 H0 w σ env O r (fun a S w' _ => PostS g W w0 H0 w' Dn (f a S)) := by
  cases r with
  | stuck => exact h
  | exc c p s => exact fun w' H' cls dd st l x => h w' H' σ O cls dd st l x
  | ok a s => exact fun w' H' st l => PostS.mono (show PostS g W w0 H0 w Dn (f a s) from h) l
section
variable {X : Cx} {Y : Gam} {W : WX} {e a b c : Expr} {es rest : List Expr} {ta tb te : TE} {tt tu : TT} {ma mb me : ME} {mt mu : MT} {mf : MF} {t : TA} {m : MA} {pos : Pos} {s : Stmt} {ss : List Stmt} {t1 t2 : TS} {m1 m2 : MS}
def sNil : MS := fun env S => .nx env S
def sSeq (a b : MS) : MS := fun env S => match a env S with
  | .nx e S1 => b e S1
  | o => o
theorem b_nil : SB X Y W [] tNext sNil := ⟨pss_nil, fun w0 H0 w H σ env S O Dn st p => p w H σ O st (.refl w)⟩
theorem b_cons (h1 : SS X Y W s t1 m1) (h2 : SB X Y W ss t2 m2) : SB X Y W (s :: ss) (tSeq t1 t2) (sSeq m1 m2) := ⟨pss_cons h1.ps h2.pss, fun w0 H0 w H σ env S O Dn st p => by
  refine h1.sim w0 H0 w H σ env S O { Dn with nx := t2 Dn } st ?_
  unfold sSeq at p
  cases q : m1 env S with
  | stuck => rw [q] at p; exact p
  | bk e S => rw [q] at p; exact p
  | ct e S => rw [q] at p; exact p
  | rt r S => rw [q] at p; exact p
  | exc c p' e S => rw [q] at p; exact p
  | nx e1 S1 =>
    rw [q] at p
    exact fun w' H' σ' O' st' l' => h2.sim w0 H0 w' H' σ' e1 S1 O' Dn st' (p.mono l')⟩
theorem b_one (h1 : SS X Y W s t1 m1) : SB X Y W [s] t1 m1 := ⟨pss_one h1.ps, h1.sim⟩
theorem t_pass : SS X Y W (.Pass pos) tNext sNil := ⟨ps_pass, b_nil (X := X).sim⟩
def sBrk : MS := fun env S => .bk env S
def sCnt : MS := fun env S => .ct env S
theorem t_break : SS X Y W (.Break pos) tBreak sBrk := ⟨ps_break, fun w0 H0 w H σ env S O Dn st p => p w H σ O st (.refl w)⟩
theorem t_continue : SS X Y W (.Continue pos) tCont sCnt := ⟨ps_continue, fun w0 H0 w H σ env S O Dn st p => p w H σ O st (.refl w)⟩
def sExpr (me : ME) : MS := fun env S => (me env S).out env fun _ S1 => .nx env S1
theorem t_expr (h : SE X Y W e te me) (hs : swapsWith e none pos.line X.env = pure false := by rfl) : SS X Y W (.Expr e pos) (tDrop te) (sExpr me) := ⟨ps_expr h.pe hs, fun w0 H0 w H σ env S O Dn st p =>
  h.sim w0 H0 w H σ env S O _ st ((PostS.out p).imp fun d S1 w1 H1 st1 l1 p1 v r => p1 w1 H1 σ O st1 (.refl w1))⟩
def sRet (me : ME) : MS := fun env S => (me env S).out env fun d S1 => .rt (.val d) S1
theorem t_ret (h : SE X Y W e te me) : SS X Y W (.Return (some e) pos) (tRet te) (sRet me) := ⟨ps_ret h.pe, fun w0 H0 w H σ env S O Dn st p =>
  h.sim w0 H0 w H σ env S O _ st ((PostS.out p).imp fun d S1 w1 H1 st1 l1 p1 v r => p1 w1 H1 v st1.ok st1.fr r)⟩
def sRetF (mf : MF) : MS := fun env S => (mf env S).out env fun c S1 => .rt (.own c) S1
theorem t_retF (h : SF X Y W e te mf) : SS X Y W (.Return (some e) pos) (tRet te) (sRetF mf) := ⟨ps_ret h.pe, fun w0 H0 w H σ env S O Dn st p =>
  h.sim w0 H0 w H σ env S O _ st ((PostS.out p).imp fun d S1 w1 H1 st1 l1 p1 v r => p1 w1 H1 _ st1.ok st1.fr ⟨v, rfl, r.n0, r.ng, r.nr, r.at_⟩)⟩
def sRetO (i : Nat) : MS := fun env S => match env[i]? with
  | some (.o c) => .rt (.own c) S
  | some (.v d) => .rt (.val d) S
  | _ => .stuck
theorem t_retO (i : Nat) {x : Str} {p : Pos} (hN : X.N[i]? = some x := by rfl) (hv : Vis X.env.scope x := by first | exact Or.inl rfl | exact Or.inr (Or.inl rfl) | exact Or.inr (Or.inr rfl)) (hd : (x == ("__debug__" : Str)) = false := by decide)
    (hcd : (x == ("__classdict__" : Str)) = false := by decide) : SS X Y W (.Return (some (.Name x p)) pos) (tRet (tVar i)) (sRetO i) := ⟨ps_ret (pv i hN hv hd hcd), fun w0 H0 w H σ env S O Dn st p => by
  unfold sRetO at p
  split at p
  · rename_i c e
    obtain ⟨q, e1, e2, e3, e4, e5, e6, hi⟩ := st.own_at e
    exact ⟨_, e1, p w H _ st.ok st.fr ⟨q, rfl, e5, e3, e6, e4⟩⟩
  · rename_i d e
    exact sim_var (W := W) w0 H0 w H σ env S O Dn.rt st (by
      unfold eV
      rw [e]
      exact fun w' H' st' l' v r => p w' H' v st'.ok st'.fr r)
  · exact p.elim⟩
def sRetN : MS := fun env S => .rt (.val .non) S
theorem t_retN : SS X Y W (.Return none pos) tRetN sRetN := ⟨ps_retN, fun w0 H0 w H σ env S O Dn st p => p w H _ st.ok st.fr (by unfold RetR Rep; rfl)⟩
def sIf (c : MT) (a b : MS) : MS := fun env S => (c env S).out env fun k S1 => if k = true then a env S1 else b env S1
theorem t_if {x y : List Stmt} (hc : SC X Y W c tt mt) (ha : SB X Y W x t1 m1) (hb : SB X Y W y t2 m2) : SS X Y W (.If c x y pos) (tIfS tt t1 t2) (sIf mt m1 m2) := ⟨ps_if hc.pt ha.pss hb.pss, fun w0 H0 w H σ env S O Dn st p =>
  hc.sim w0 H0 w H σ env S O _ st ((PostS.out p).imp fun k S1 w1 H1 st1 l1 p1 => by
    cases k with
    | true =>
      simp only [if_true] at p1 ⊢
      exact ha.sim w0 H0 w1 H1 σ env S1 O Dn st1 p1
    | false =>
      simp only [Bool.false_eq_true, if_false] at p1 ⊢
      exact hb.sim w0 H0 w1 H1 σ env S1 O Dn st1 p1)⟩
/-! ### targets -/
abbrev MG := D → Envr → Option Envr
/-- all slots but those of the list are as they were -/
def Slots (is : List Nat) (σ σ' : L2.St) : Prop := σ'.length = σ.length ∧ ∀ k, k ∉ is → σ'[k]? = σ[k]?
theorem Slots.refl {is : List Nat} (σ : L2.St) : Slots is σ σ := ⟨rfl, fun _ _ => rfl⟩
theorem Slots.set {i : Nat} {is : List Nat} {x : Option V} (σ : L2.St) (h : i ∈ is) : Slots is σ (σ.set i x) := ⟨List.length_set, fun k hk => by
  rw [List.getElem?_set_ne]
  intro z
  exact hk (z ▸ h)⟩
theorem Slots.trans {is : List Nat} {a b c : L2.St} (x : Slots is a b) (y : Slots is b c) : Slots is a c := ⟨y.1.trans x.1, fun k h => (y.2 k h).trans (x.2 k h)⟩
theorem Slots.mono {is js : List Nat} {a b : L2.St} (x : Slots is a b) (h : ∀ i ∈ is, i ∈ js) : Slots js a b := ⟨x.1, fun k hk => x.2 k fun z => hk (h k z)⟩
def SimG (g : Gam) (is : List Nat) (t : TG) (m : MG) : Prop := ∀ w0 H0 w H σ env S O d v (Q : L2.St → Hp → Prop) e, StR g w0 H0 w H σ env S O → Rep g w d v → m d env = some e → (∀ σ' O', StR g w0 H0 w H σ' e S O' → Slots is σ σ' → Q σ' H) → t v σ H Q
structure SG (X : Cx) (Y : Gam) (is : List Nat) (e : Expr) (t : TG) (m : MG) : Prop where
  pg : PG X e t
  sim : SimG Y is t m
abbrev MGs := List D → Envr → Option Envr
def SimGs (g : Gam) (is : List Nat) (t : TGs) (m : MGs) : Prop := ∀ w0 H0 w H σ env S O d v (Q : L2.St → Hp → Prop) e, StR g w0 H0 w H σ env S O → RepL g w d v → m d env = some e → (∀ σ' O', StR g w0 H0 w H σ' e S O' → Slots is σ σ' → Q σ' H) → t v σ H Q
structure SGs (X : Cx) (Y : Gam) (is : List Nat) (e : List Expr) (t : TGs) (m : MGs) : Prop where
  pg : PGs X e t
  sim : SimGs Y is t m
  len : ∀ ds env e', m ds env = some e' → ds.length = e.length
def gN (i : Nat) : MG := fun d env => some (env.set i (.v d))
theorem g_name {i : Nat} {x : Str} (hN : X.N.Nodup) (hi : X.N[i]? = some x) (hx : Loc X.env.scope x) (hf : X.fn x = true ∨ X.env.scope.names.lookup x = some .local := by first | exact .inl rfl | exact .inr rfl | assumption) : SG X Y [i] (.Name x pos) (gName i) (gN i) :=
  ⟨pg_name hN hi hx hf, fun w0 H0 w H σ env S O d v Q e st r h q => by
    cases h
    exact q _ _ (st.set_v i r) (Slots.set σ (by simp))⟩
def gN0 : MGs := fun ds env => match ds with
  | [] => some env
  | _ => none
def gNC (a : MG) (b : MGs) : MGs := fun ds env => match ds with
  | d :: r => (a d env).bind fun e => b r e
  | _ => none
theorem gs_nil : SGs X Y [] [] gNil gN0 := ⟨pgs_nil, fun w0 H0 w H σ env S O d v Q e st r h q => by
  unfold gN0 at h
  split at h
  · cases h
    unfold RepL at r
    exact ⟨r, q _ _ st (Slots.refl σ)⟩
  · simp at h, fun ds env e' h => by
  unfold gN0 at h
  split at h
  · rfl
  · simp at h⟩
theorem gs_cons {is js : List Nat} {tg : TG} {tgs : TGs} {mg : MG} {mgs : MGs} (h1 : SG X Y is e tg mg) (h2 : SGs X Y js es tgs mgs) (hs : (assignEach (e :: es) X.env).map (·.2) = assign e X.env :: (assignEach es X.env).map (·.2) := by rfl) : SGs X Y (is ++ js) (e :: es) (gCons tg tgs) (gNC mg mgs) :=
  ⟨pgs_cons h1.pg h2.pg hs, fun w0 H0 w H σ env S O d v Q e' st r h q => by
    unfold gNC at h
    split at h
    · rename_i d1 dr
      unfold RepL at r
      obtain ⟨v1, vr, ev, r1, r2⟩ := r
      cases z : mg d1 env with
      | none => rw [z] at h; cases h
      | some e1 =>
        rw [z] at h
        have h : mgs dr e1 = some e' := h
        exact ⟨v1, vr, ev, h1.sim w0 H0 w H σ env S O d1 v1 _ e1 st r1 z fun σ1 O1 st1 s1 => h2.sim w0 H0 w H σ1 e1 S O1 dr vr Q e' st1 r2 h fun σ2 O2 st2 s2 => q σ2 O2 st2 ((s1.mono fun i hi => List.mem_append_left _ hi).trans (s2.mono fun i hi => List.mem_append_right _ hi))⟩
    · simp at h, fun ds env e' h => by
    unfold gNC at h
    split at h
    · rename_i d1 dr
      cases z : mg d1 env with
      | none => rw [z] at h; cases h
      | some e1 =>
        rw [z] at h
        have h : mgs dr e1 = some e' := h
        rw [List.length_cons, List.length_cons, h2.len dr e1 e' h]
    · cases h⟩
def gT (b : MGs) : MG := fun d env => match d with
  | .tup ds => b ds env
  | _ => none
theorem g_tup {is : List Nat} {k : Nat} {tgs : TGs} {mgs : MGs} (h : SGs X Y is es tgs mgs) (hK : X.K = Y.K := by rfl) (hc : X.calm = true := by rfl) (hn : (assignEach es X.env).length = es.length := by rfl) (hst : (assignEach es X.env).findIdx? (·.1) = none := by rfl) : SG X Y is (.Tuple es k pos) (gTup Y.K es.length tgs) (gT mgs) :=
  ⟨hK ▸ pg_tup hc h.pg hn hst, fun w0 H0 w H σ env S O d v Q e' st r h' q => by
    unfold gT at h'
    split at h'
    · rename_i ds
      unfold Rep at r
      obtain ⟨a, vs, e1, e2, e3⟩ := r
      exact ⟨a, vs, e1, same_sqT st.ok.ex e2, by rw [← e3.len]; exact h.len ds env e' h', h.sim w0 H0 w H σ env S O ds vs Q e' st e3 h' q⟩
    · cases h'⟩
def sAsg (me : ME) (mg : MG) : MS := fun env S => (me env S).out env fun d S1 => match mg d env with
  | some e => .nx e S1
  | none => .stuck
theorem sim_asg {g : Gam} {is : List Nat} {tg : TG} {mg : MG} (he : SimE g W te me) (hg : SimG g is tg mg) : SimS g W (tAsg te tg) (sAsg me mg) := fun w0 H0 w H σ env S O Dn st p =>
  he w0 H0 w H σ env S O _ st ((PostS.out p).imp fun d S1 w1 H1 st1 l1 p1 v r => by
    cases z : mg d env with
    | none => rw [z] at p1; exact False.elim p1
    | some e1 =>
      rw [z] at p1
      exact hg w0 H0 w1 H1 σ env S1 O d v Dn.nx e1 st1 r z fun σ' O' st' _ => p1 w1 H1 σ' O' st' (.refl w1))
theorem t_asg {tg : Expr} {is : List Nat} {g : TG} {mg : MG} (he : SE X Y W e te me) (hg : SG X Y is tg g mg) (hs : swapsWithSole [tg] e pos.line X.env = pure false := by rfl) (hw : swappedStores [tg] e X.env = pure none := by rfl)
    (h1 : (assignEach [tg] X.env).map (·.2) = [assign tg X.env] := by rfl) : SS X Y W (.Assign [tg] e pos) (tAsg te g) (sAsg me mg) := ⟨ps_asg he.pe hg.pg hs hw h1, sim_asg he.sim hg.sim⟩
theorem t_set {i : Nat} {x : Str} {pos' : Pos} (hN : X.N.Nodup) (hi : X.N[i]? = some x) (hx : Loc X.env.scope x) (he : SE X Y W e te me) (hs : swapsWith e (some (.Name x pos')) pos.line X.env = pure false := by rfl) (hf : X.fn x = true ∨ X.env.scope.names.lookup x = some .local := by first | exact .inl rfl | exact .inr rfl | assumption) :
    SS X Y W (.Assign [.Name x pos'] e pos) (tAsg te (gName i)) (sAsg me (gN i)) := ⟨ps_set hN hi hx he.pe hs hf, sim_asg (is := [i]) he.sim fun w0 H0 w H σ env S O d v Q e st r h q => by
    cases h
    exact q _ _ (st.set_v i r) (Slots.set σ (by simp))⟩
/-- x = a new thing, of one's own -/
def sOwn (i : Nat) (mf : MF) : MS := fun env S => (mf env S).out env fun c S1 => if i < env.length then .nx (env.set i (.o c)) S1 else .stuck
theorem sim_own {g : Gam} {i : Nat} (h : SimF g W te mf) : SimS g W (tAsg te (gName i)) (sOwn i mf) := fun w0 H0 w H σ env S O Dn st p =>
  h w0 H0 w H σ env S O _ st ((PostS.out p).imp fun c S1 w1 H1 st1 l1 p1 q ow => by
    split at p1
    · rename_i hi
      exact p1 w1 H1 _ _ (st1.set_o i ow (by rw [← st1.l1]; exact hi)) (.refl w1)
    · exact False.elim p1)
theorem t_own {i : Nat} {x : Str} {pos' : Pos} (hN : X.N.Nodup) (hi : X.N[i]? = some x) (hx : Loc X.env.scope x) (he : SF X Y W e te mf) (hs : swapsWith e (some (.Name x pos')) pos.line X.env = pure false := by rfl) (hf : X.fn x = true ∨ X.env.scope.names.lookup x = some .local := by first | exact .inl rfl | exact .inr rfl | assumption) :
    SS X Y W (.Assign [.Name x pos'] e pos) (tAsg te (gName i)) (sOwn i mf) := ⟨ps_set hN hi hx he.pe hs hf, sim_own he.sim⟩
/-- a, b = x, y -/
def sPar (i j : Nat) (m : MA) : MS := fun env S => (m env S).out env fun ds S1 => match ds with
  | [d1, d2] => .nx ((env.set i (.v d1)).set j (.v d2)) S1
  | _ => .stuck
theorem t_par {i j : Nat} {x y : Str} {px py pt : Pos} {kt k2 pt2} (hN : X.N.Nodup) (hi : X.N[i]? = some x) (hj : X.N[j]? = some y) (hij : i ≠ j)
    (hx : X.env.scope.names.lookup x = some .local) (hy : X.env.scope.names.lookup y = some .local) (ha : SA X Y W [a, b] t m)
    (hw : swappedStores [.Tuple [.Name x px, .Name y py] kt pt] (.Tuple [a, b] k2 pt2) X.env = pure (some [x, y])) (hc : X.calm = true := by rfl)
    (hs : swapsWithSole [.Tuple [.Name x px, .Name y py] kt pt] (.Tuple [a, b] k2 pt2) pos.line X.env = pure false := by rfl) :
    SS X Y W (.Assign [.Tuple [.Name x px, .Name y py] kt pt] (.Tuple [a, b] k2 pt2) pos) (tPar i j t) (sPar i j m) := ⟨ps_par hc hN hi hj hij hx hy ha.pa hw hs, fun w0 H0 w H σ env S O Dn st p =>
  ha.sim w0 H0 w H σ env S O _ st ((PostS.out p).imp fun ds S1 w1 H1 st1 l1 p1 vs r => by
    split at p1
    · rename_i d1 d2
      unfold RepL at r
      obtain ⟨v1, r1, e1, q1, r⟩ := r
      unfold RepL at r
      obtain ⟨v2, r2, e2, q2, r⟩ := r
      unfold RepL at r
      subst r e2
      exact ⟨v1, v2, e1, p1 w1 H1 _ _ ((st1.set_v i q1).set_v j q2) (.refl w1)⟩
    · exact False.elim p1)⟩
end
end Mm
namespace Mm
open PySem L2
/-! ### what is walked -/
def ItR (g : Gam) (w1 : Wd) (J : It) (ds : List D) : Prop := ∀ w H, w1.le w → Same w.G H →
  (∀ (i : Nat) d, ds[i]? = some d → J.go i H ∧ ∀ x H', J.yld i H x H' → ∃ w', Grow w H w' H' ∧ Rep g w' d x) ∧ J.stop ds.length H
theorem ItR.mono {g : Gam} {w1 w2 : Wd} {J : It} {ds : List D} (h : ItR g w1 J ds) (l : w1.le w2) : ItR g w2 J ds := fun w H l' e => h w H (l.trans l') e
abbrev MI := Envr → Sto → R (List D)
def SimI (g : Gam) (W : WX) (wi : TI) (m : MI) : Prop := ∀ w0 H0 w H σ env S O (Q : It → Hp → Prop), StR g w0 H0 w H σ env S O →
  PostX g W w0 H0 w σ env O (m env S) (fun ds _ w' H' => ∀ J, ItR g w' J ds → Q J H') → wi σ H Q
structure SI (X : Cx) (Y : Gam) (W : WX) (tg e : Expr) (wi : TI) (m : MI) : Prop where
  pi : PI X tg e wi
  sim : SimI Y W wi m
section
variable {X : Cx} {Y : Gam} {W : WX} {e a b c tg : Expr} {es rest : List Expr} {ta tb te : TE} {tt tu : TT} {ma mb me : ME} {mt mu : MT} {mf : MF} {t : TA} {m : MA} {pos : Pos} {s : Stmt} {ss : List Stmt} {t1 t2 : TS} {m1 m2 : MS} {wi : TI} {mi : MI}
/-! ### for -/
def forL (g : MG) (b : MS) : List D → MS
  | [], env, S => .nx env S
  | d :: ds, env, S => match g d env with
    | none => .stuck
    | some e1 => match b e1 S with
      | .nx e S1 => forL g b ds e S1
      | .ct e S1 => forL g b ds e S1
      | .bk e S1 => .nx e S1
      | o => o
def sFor (mi : MI) (g : MG) (b : MS) : MS := fun env S => (mi env S).out env fun ds S1 => forL g b ds env S1
theorem sim_for {g : Gam} {is : List Nat} {tg : TG} {mg : MG} (hi : SimI g W wi mi) (hg : SimG g is tg mg) (hb : SimS g W t1 m1) : SimS g W (tFor wi tg t1) (sFor mi mg m1) := fun w0 H0 w H σ env S O Dn st p =>
  hi w0 H0 w H σ env S O _ st ((PostS.out p).imp fun ds S1 w1 H1 st1 l1 p1 J hJ => by
    refine ⟨fun i m σ H => m + i = ds.length ∧ ∃ w env S O, StR g w0 H0 w H σ env S O ∧ w1.le w ∧ PostS g W w0 H0 w Dn (forL mg m1 (ds.drop i) env S), ⟨ds.length, by omega, w1, env, S1, O, st1, .refl w1, p1⟩, ?_⟩
    rintro i k σ2 H2 ⟨hk, w2, env2, S2, O2, st2, l2, p2⟩
    obtain ⟨hgo, hstop⟩ := hJ w2 H2 l2 st2.ok.ex
    by_cases hlt : i < ds.length
    · have ed : ds.drop i = ds[i] :: ds.drop (i + 1) := List.drop_eq_getElem_cons hlt
      obtain ⟨go, yld⟩ := hgo i ds[i] (List.getElem?_eq_getElem hlt)
      refine .inr ⟨go, fun σ' H' => ∃ w env S O, StR g w0 H0 w H' σ' env S O ∧ w1.le w ∧ PostS g W w0 H0 w Dn (forL mg m1 (ds.drop (i + 1)) env S), fun σ' H' h' => ⟨k - 1, by omega, by omega, h'⟩, fun x H' hy => ?_⟩
      obtain ⟨w3, gr, rx⟩ := yld x H' hy
      have st3 := st2.grow gr
      have l3 := gr.le st2.ok
      rw [ed] at p2
      unfold forL at p2
      cases z : mg ds[i] env2 with
      | none => rw [z] at p2; exact False.elim p2
      | some e1 =>
        rw [z] at p2
        refine hg w0 H0 w3 H' σ2 env2 S2 O2 ds[i] x _ e1 st3 rx z fun σ4 O4 st4 _ => ?_
        refine hb w0 H0 w3 H' σ4 e1 S2 O4 _ st4 ?_
        have p2 : PostS g W w0 H0 w2 Dn (match m1 e1 S2 with
          | .nx e S1 => forL mg m1 (ds.drop (i + 1)) e S1
          | .ct e S1 => forL mg m1 (ds.drop (i + 1)) e S1
          | .bk e S1 => .nx e S1
          | o => o) := p2
        cases y : m1 e1 S2 with
        | stuck => rw [y] at p2; exact p2
        | nx e S5 => rw [y] at p2; exact fun w' H' σ' O' st' l' => ⟨w', e, S5, O', st', (l2.trans l3).trans l', p2.mono (l3.trans l')⟩
        | ct e S5 => rw [y] at p2; exact fun w' H' σ' O' st' l' => ⟨w', e, S5, O', st', (l2.trans l3).trans l', p2.mono (l3.trans l')⟩
        | bk e S5 => rw [y] at p2; exact fun w' H' σ' O' st' l' => p2 w' H' σ' O' st' (l3.trans l')
        | rt r S5 => rw [y] at p2; exact p2
        | exc c q e S5 => rw [y] at p2; exact fun w' H' σ' O' cls dd st' l' x => p2 w' H' σ' O' cls dd st' (l3.trans l') x
    · have ei : i = ds.length := by omega
      refine .inl ⟨by rw [ei]; exact hstop, ?_⟩
      have ed : ds.drop i = [] := by rw [ei]; exact List.drop_length
      rw [ed] at p2
      exact p2 w2 H2 σ2 O2 st2 (.refl w2))
theorem t_for {tg iter : Expr} {body : List Stmt} {is : List Nat} {g : TG} {mg : MG} (hp : PassesOwn (model X.prog X.w) X.A X.env X.xe) (hi : SI X Y W tg iter wi mi) (hg : SG X Y is tg g mg) (hb : SB X Y W body t1 m1) (hc : X.calm = true := by rfl)
    (hs : ∀ x, foldedSetIterable iter X.env x = pure x := by intro _; rfl) : SS X Y W (.For tg iter body [] pos) (tFor wi g t1) (sFor mi mg m1) := ⟨ps_for hp hc hi.pi hg.pg hb.pss hs, sim_for hi.sim hg.sim hb.sim⟩
/-! ### while -/
def whL (c : MT) (b : MS) : Nat → MS
  | 0, _, _ => .stuck
  | n + 1, env, S => (c env S).out env fun k S1 => if k = true then (match b env S1 with
      | .nx e S2 => whL c b n e S2
      | .ct e S2 => whL c b n e S2
      | .bk e S2 => .nx e S2
      | o => o) else .nx env S1
theorem sim_while {g : Gam} {n : Nat} (hc : SimT g W tt mt) (hb : SimS g W t1 m1) : SimS g W (tWhile tt t1) (whL mt m1 n) := fun w0 H0 w H σ env S O Dn st p => by
  refine ⟨fun m σ H => ∃ w2 env S O, StR g w0 H0 w2 H σ env S O ∧ w.le w2 ∧ PostS g W w0 H0 w2 Dn (whL mt m1 m env S), ⟨n, w, env, S, O, st, .refl w, p⟩, ?_⟩
  rintro m σ2 H2 ⟨w2, env2, S2, O2, st2, l2, p2⟩
  cases m with
  | zero => exact False.elim p2
  | succ m =>
    unfold whL at p2
    refine hc w0 H0 w2 H2 σ2 env2 S2 O2 _ st2 ((PostS.out p2).imp fun k S3 w3 H3 st3 l3 p3 => ?_)
    cases k with
    | false =>
      simp only [Bool.false_eq_true, if_false] at p3 ⊢
      exact p3 w3 H3 σ2 O2 st3 (.refl w3)
    | true =>
      simp only [if_true] at p3 ⊢
      refine ⟨fun σ' H' => ∃ w4 env S O, StR g w0 H0 w4 H' σ' env S O ∧ w.le w4 ∧ PostS g W w0 H0 w4 Dn (whL mt m1 m env S), fun σ' H' h' => ⟨m, Nat.lt_succ_self _, h'⟩, ?_⟩
      refine hb w0 H0 w3 H3 σ2 env2 S3 O2 _ st3 ?_
      cases y : m1 env2 S3 with
      | stuck => rw [y] at p3; exact p3
      | nx e S5 => rw [y] at p3; exact fun w' H' σ' O' st' l' => ⟨w', e, S5, O', st', (l2.trans l3).trans l', PostS.mono p3 l'⟩
      | ct e S5 => rw [y] at p3; exact fun w' H' σ' O' st' l' => ⟨w', e, S5, O', st', (l2.trans l3).trans l', PostS.mono p3 l'⟩
      | bk e S5 => rw [y] at p3; exact fun w' H' σ' O' st' l' => p3 w' H' σ' O' st' l'
      | rt r S5 => rw [y] at p3; exact p3
      | exc c q e S5 => rw [y] at p3; exact fun w' H' σ' O' cls dd st' l' x => p3 w' H' σ' O' cls dd st' l' x
theorem t_while (n : Nat) {body : List Stmt} (hp : PassesOwn (model X.prog X.w) X.A X.env X.xe) (hc : SC X Y W c tt mt) (hb : SB X Y W body t1 m1) : SS X Y W (.While c body [] pos) (tWhile tt t1) (whL mt m1 n) := ⟨ps_while hp hc.pt hb.pss, sim_while hc.sim hb.sim⟩
/-! ### a list comprehension -/
def hideS : Sl → Sl
  | .o _ => .no
  | s => s
def wipeE (env : Envr) : List Nat → Envr
  | [] => env.map hideS
  | v :: vs => (wipeE env vs).set v .no
theorem wipeE_len (env : Envr) : ∀ vs : List Nat, (wipeE env vs).length = env.length
  | [] => List.length_map _
  | v :: vs => by
    unfold wipeE
    rw [List.length_set, wipeE_len env vs]
theorem wipe_get (σ : L2.St) : ∀ (vs : List Nat) (k : Nat), k ∉ vs → (wipe σ vs)[k]? = σ[k]?
  | [], _, _ => rfl
  | v :: vs, k, h => by
    unfold wipe
    rw [List.getElem?_set_ne (fun z => h (by rw [z]; exact List.mem_cons_self))]
    exact wipe_get σ vs k fun z => h (List.mem_cons_of_mem _ z)
theorem wipe_in (σ : L2.St) : ∀ (vs : List Nat) (k : Nat), k ∈ vs → k < σ.length → (wipe σ vs)[k]? = some none
  | v :: vs, k, h, l => by
    unfold wipe
    by_cases e : v = k
    · rw [e, List.getElem?_set_self (by rw [wipe_length]; exact l)]
    · rw [List.getElem?_set_ne e]
      rcases List.mem_cons.mp h with z | z
      · exact absurd z.symm e
      · exact wipe_in σ vs k z l
theorem wipe_slots {is : List Nat} {a b : L2.St} (h : Slots is a b) {vs : List Nat} (hv : ∀ i ∈ is, i ∈ vs) : wipe b vs = wipe a vs := by
  refine List.ext_getElem? fun k => ?_
  by_cases hk : k ∈ vs
  · by_cases hl : k < a.length
    · rw [wipe_in a vs k hk hl, wipe_in b vs k hk (by rw [h.1]; exact hl)]
    · have h1 := h.1
      rw [List.getElem?_eq_none (l := wipe b vs) (by rw [wipe_length]; omega), List.getElem?_eq_none (l := wipe a vs) (by rw [wipe_length]; omega)]
  · rw [wipe_get b vs k hk, wipe_get a vs k hk]
    exact h.2 k fun z => hk (hv k z)
theorem wipe_wipe {vs : List Nat} (σ : L2.St) : wipe (wipe σ vs) vs = wipe σ vs := wipe_slots (is := vs) ⟨wipe_length σ vs, fun k hk => wipe_get σ vs k hk⟩ fun _ h => h
theorem wipeE_get (env : Envr) : ∀ (vs : List Nat) (k : Nat) (s : Sl), (wipeE env vs)[k]? = some s → s = .no ∨ (∃ d, s = .v d ∧ env[k]? = some (.v d) ∧ k ∉ vs)
  | [], k, s, h => by
    unfold wipeE at h
    rw [List.getElem?_map] at h
    cases e : env[k]? with
    | none => rw [e] at h; cases h
    | some s' =>
      rw [e] at h
      cases s' with
      | no => exact .inl (Option.some.inj h).symm
      | o c => exact .inl (Option.some.inj h).symm
      | v d => exact .inr ⟨d, (Option.some.inj h).symm, rfl, by simp⟩
  | v :: vs, k, s, h => by
    unfold wipeE at h
    rw [List.getElem?_set] at h
    split at h
    · split at h
      · exact .inl (Option.some.inj h).symm
      · cases h
    · rename_i hne
      rcases wipeE_get env vs k s h with z | ⟨d, z1, z2, z3⟩
      · exact .inl z
      · exact .inr ⟨d, z1, z2, fun q => by
          rcases List.mem_cons.mp q with q | q
          · exact hne q.symm
          · exact z3 q⟩
theorem StR.hide {g : Gam} {w0 w : Wd} {H0 H : Hp} {σ : L2.St} {env : Envr} {S : Sto} {O : List (Option Addr)} (st : StR g w0 H0 w H σ env S O) (vs : List Nat) : StR g w H w H (wipe σ vs) (wipeE env vs) S (List.replicate σ.length none) := by
  have nn : ∀ (i : Nat) (p : Addr), (List.replicate σ.length (none : Option Addr))[i]? ≠ some (some p) := fun i p e => by
    rw [List.getElem?_replicate] at e
    split at e <;> cases e
  refine ⟨st.ok, .refl w H, by rw [wipeE_len, wipe_length]; exact st.l1, by rw [List.length_replicate, wipe_length], fun i s x o e1 e2 e3 => ?_, fun i j p e _ => absurd e (nn i p), fun i p e => absurd e (nn i p)⟩
  have eo : o = none := by
    rw [List.getElem?_replicate] at e3
    split at e3
    · exact (Option.some.inj e3).symm
    · cases e3
  rcases wipeE_get env vs i s e1 with z | ⟨d, z1, z2, z3⟩
  · rw [z]
    exact eo
  · rw [z1]
    rw [wipe_get σ vs i z3] at e2
    have hO : i < O.length := by
      rw [st.l2, ← st.l1]
      exact (List.getElem?_eq_some_iff.mp z2).1
    obtain ⟨_, v, q1, q2⟩ := st.sl i (.v d) x O[i] z2 e2 (List.getElem?_eq_getElem hO)
    exact ⟨eo, v, q1, q2⟩
theorem StR.rebase {g : Gam} {w0 w : Wd} {H0 H : Hp} {σ : L2.St} {env : Envr} {S : Sto} {n : Nat} (st : StR g w0 H0 w H σ env S (List.replicate n none)) : StR g w H w H σ env S (List.replicate n none) := by
  have nn : ∀ (i : Nat) (p : Addr), (List.replicate n (none : Option Addr))[i]? ≠ some (some p) := fun i p e => by
    rw [List.getElem?_replicate] at e
    split at e <;> cases e
  exact ⟨st.ok, .refl w H, st.l1, st.l2, st.sl, st.inj, fun i p e => absurd e (nn i p)⟩
def W0 : WX := fun _ _ _ _ => False
def lcR (g : MG) (tt : MT) (te : ME) (env : Envr) : List D → Sto → R (List D)
  | [], S => .ok [] S
  | d :: ds, S => match g d env with
    | none => .stuck
    | some e1 => match tt e1 S with
      | .ok true S1 => (match te e1 S1 with
        | .ok y S2 => (lcR g tt te env ds S2).bind fun ys S3 => .ok (y :: ys) S3
        | _ => .stuck)
      | .ok false S1 => lcR g tt te env ds S1
      | _ => .stuck
theorem lcR_noexc {g : MG} {tt : MT} {te : ME} {env : Envr} : ∀ (ds : List D) (S : Sto) (c : Str) (p : Option D) (s : Sto), lcR g tt te env ds S ≠ .exc c p s
  | [], S, c, p, s, h => by
    unfold lcR at h
    cases h
  | d :: ds, S, c, p, s, h => by
    unfold lcR at h
    split at h
    · cases h
    · split at h
      · split at h
        · rename_i y S2 _
          cases q : lcR g tt te env ds S2 with
          | stuck => rw [q] at h; cases h
          | exc c' p' s' => exact lcR_noexc ds S2 c' p' s' q
          | ok ys s' => rw [q] at h; cases h
        · cases h
      · exact lcR_noexc ds _ c p s h
      · cases h
theorem Frame.upd_new {w0 w : Wd} {H0 H : Hp} {p : Addr} {o : HO} (f : Frame w0 H0 w H) (h : H0 p = none) : Frame w0 H0 w (upd H p o) :=
  ⟨f.le, fun a x e n t => by
    rw [upd_ne (fun z => by rw [z, h] at e; cases e)]
    exact f.keep a x e n t, f.newG, f.rho, fun a e => by
    by_cases ha : a = p
    · rw [ha, upd_same]
      exact fun z => nomatch z
    · rw [upd_ne ha]
      exact f.dom a e⟩
theorem ok_upd {g : Gam} {w : Wd} {H : Hp} {S : Sto} {p : Addr} {xs : List V} {o : HO} (k : Ok g w H S) (e : H p = some (.lst xs)) (hg : w.G p = none) (hr : p ∉ w.rho) : Ok g w (upd H p o) S := by
  refine ⟨fun b u q => ?_, ⟨k.cells.nd, k.cells.len, fun m b q e9 e10 => ?_⟩, tabs_upd k.tabs (fun ps z => by rw [e] at z; cases z) (fun φ z => by rw [e] at z; cases z), k.notab⟩
  · rw [upd_ne (fun z => by rw [z, hg] at q; cases q)]
    exact k.ex b u q
  · obtain ⟨q1, q2⟩ := k.cells.at_ m b q e9 e10
    exact ⟨q1, q2.move (.refl w) (upd_ne fun z => hr (by rw [← z]; exact List.mem_of_getElem? e9))⟩
def fin (ys : List D) (S : Sto) : R Cell := if szB ys.length then .ok (.lst ys) S else .stuck
def fLc (mi : MI) (g : MG) (tt : MT) (te : ME) (vs : List Nat) : MF := fun env S => (mi env S).bind fun ds S1 => (lcR g tt te (wipeE env vs) ds S1).bind fin
theorem sim_lc {g : Gam} {is vs : List Nat} {tg : TG} {mg : MG} (hi : SimI g W wi mi) (hg : SimG g is tg mg) (hv : ∀ i ∈ is, i ∈ vs) (ht : SimT g W0 tt mt) (he : SimE g W0 te me) : SimF g W (tLc wi tg tt te vs) (fLc mi mg mt me vs) := fun w0 H0 w H σ env S O Q st p => by
  refine hi w0 H0 w H σ env S O _ st ((PostX.bind p).imp fun ds S1 w1 H1 st1 l1 p1 J hJ D hD => ?_)
  obtain ⟨o1, o2, o3, o4⟩ := st1.out hD
  refine ⟨fun i m H => m + i = ds.length ∧ ∃ w' S' acc accV, Frame w1 H1 w' H ∧ Ok g w' H S' ∧ H D = some (.lst accV) ∧ w'.G D = none ∧ D ∉ w'.rho ∧ RepL g w' acc accV ∧
    PostX g W w0 H0 w' σ env O ((lcR mg mt me (wipeE env vs) (ds.drop i) S').bind fun ys S3 => fin (acc ++ ys) S3) (fun c _ w' H' => ∀ p, OwnAt g w' H0 H' O c p → Q (.ref p) H'), ?_, ?_⟩
  · obtain ⟨k2, f2⟩ := ok_lay (o := .lst []) st1.ok hD nt_lst
    exact ⟨ds.length, by omega, w1, S1, [], [], f2, k2, upd_same, o2, o3, RepL.nil_, p1⟩
  · rintro i k H2 ⟨hk, w2, S2, acc, accV, f2, k2, e2, g2, r2, ra, p2⟩
    obtain ⟨hgo, hstop⟩ := hJ w2 H2 f2.le k2.ex
    have st2 : StR g w0 H0 w2 H2 σ env S2 O := st1.after f2 k2
    have stb : StR g w2 H2 w2 H2 (wipe σ vs) (wipeE env vs) S2 (List.replicate σ.length none) := st2.hide vs
    by_cases hlt : i < ds.length
    · have ed : ds.drop i = ds[i] :: ds.drop (i + 1) := List.drop_eq_getElem_cons hlt
      obtain ⟨go, yld⟩ := hgo i ds[i] (List.getElem?_eq_getElem hlt)
      refine .inr ⟨go, fun H => ∃ w' S' acc accV, Frame w1 H1 w' H ∧ Ok g w' H S' ∧ H D = some (.lst accV) ∧ w'.G D = none ∧ D ∉ w'.rho ∧ RepL g w' acc accV ∧
        PostX g W w0 H0 w' σ env O ((lcR mg mt me (wipeE env vs) (ds.drop (i + 1)) S').bind fun ys S3 => fin (acc ++ ys) S3) (fun c _ w' H' => ∀ p, OwnAt g w' H0 H' O c p → Q (.ref p) H'), fun H' h' => ⟨k - 1, by omega, by omega, h'⟩, fun x H' hy => ?_⟩
      obtain ⟨w3, gr, rx⟩ := yld x H' hy
      have st3 := stb.grow gr
      rw [ed] at p2
      unfold lcR at p2
      cases z : mg ds[i] (wipeE env vs) with
      | none => rw [z] at p2; exact False.elim p2
      | some e1 =>
        simp only [z] at p2
        refine hg w2 H2 w3 H' _ _ S2 _ ds[i] x _ e1 st3 rx z fun σ4 O4 st4 sl4 => ⟨?_, ?_⟩
        · rw [wipe_slots sl4 hv, wipe_wipe]
        · refine ht w2 H2 w3 H' σ4 e1 S2 O4 _ st4 ?_
          cases y : mt e1 S2 with
          | stuck => simp only [y] at p2; exact p2
          | exc c q s => simp only [y] at p2; exact False.elim p2
          | ok bb S5 =>
            intro w5 H5 st5 l5
            have keepD : ∀ {w6 : Wd} {H6 : Hp}, Frame w2 H2 w6 H6 → H6 D = some (.lst accV) ∧ w6.G D = none ∧ D ∉ w6.rho := fun {w6 H6} f6 =>
              ⟨f6.keep D _ e2 r2 nt_lst, (f6.newG D (by rw [e2]; exact fun z => nomatch z)).trans g2, fun q => by
                rcases f6.rho D q with z | z
                · exact r2 z
                · rw [e2] at z; cases z⟩
            cases bb with
            | false =>
              simp only [y] at p2
              simp only [Bool.false_eq_true, if_false]
              obtain ⟨q1, q2, q3⟩ := keepD st5.fr
              exact ⟨w5, S5, acc, accV, f2.trans st5.fr, st5.ok, q1, q2, q3, ra.mono st5.fr.le, PostX.mono p2 st5.fr.le⟩
            | true =>
              simp only [y] at p2
              simp only [if_true]
              refine he w2 H2 w5 H5 σ4 e1 S5 O4 _ st5 ?_
              cases u : me e1 S5 with
              | stuck => simp only [u] at p2; exact p2
              | exc c q s => simp only [u] at p2; exact False.elim p2
              | ok yv S6 =>
                simp only [u] at p2
                intro w6 H6 st6 l6 v6 r6
                obtain ⟨q1, q2, q3⟩ := keepD st6.fr
                have p3 : PostX g W w0 H0 w2 σ env O (((lcR mg mt me (wipeE env vs) (ds.drop (i + 1)) S6).bind fun ys S3 => R.ok (yv :: ys) S3).bind fun ys S3 => fin (acc ++ ys) S3) (fun c _ w' H' => ∀ p, OwnAt g w' H0 H' O c p → Q (.ref p) H') := p2
                have p4 : PostX g W w0 H0 w2 σ env O ((lcR mg mt me (wipeE env vs) (ds.drop (i + 1)) S6).bind fun ys S3 => fin ((acc ++ [yv]) ++ ys) S3) (fun c _ w' H' => ∀ p, OwnAt g w' H0 H' O c p → Q (.ref p) H') := by
                  cases q : lcR mg mt me (wipeE env vs) (ds.drop (i + 1)) S6 with
                  | stuck => rw [q] at p3; exact p3
                  | exc c a s => rw [q] at p3; exact p3
                  | ok ys s =>
                    rw [q] at p3
                    have p3 : PostX g W w0 H0 w2 σ env O (fin (acc ++ (yv :: ys)) s) _ := p3
                    show PostX g W w0 H0 w2 σ env O (fin ((acc ++ [yv]) ++ ys) s) _
                    rw [List.append_assoc]
                    exact p3
                have hsz : acc.length + 1 ≤ 100000 := by
                  cases q : lcR mg mt me (wipeE env vs) (ds.drop (i + 1)) S6 with
                  | stuck => rw [q] at p4; exact False.elim p4
                  | exc c a s => exact absurd q (lcR_noexc _ _ _ _ _)
                  | ok ys s =>
                    rw [q] at p4
                    have p4 : PostX g W w0 H0 w2 σ env O (fin ((acc ++ [yv]) ++ ys) s) _ := p4
                    unfold fin at p4
                    split at p4
                    · rename_i hz
                      have hz2 : ((acc ++ [yv]) ++ ys).length ≤ 100000 := of_decide_eq_true hz
                      simp only [List.length_append, List.length_cons, List.length_nil] at hz2
                      omega
                    · exact False.elim p4
                refine ⟨accV, q1, Nat.lt_of_lt_of_le (by rw [← ra.len]; omega) (by decide : 100000 ≤ sizeLine), ?_⟩
                have f7 := (f2.trans st6.fr).upd_new (o := .lst (accV ++ [v6])) hD
                have k7 := ok_upd (o := .lst (accV ++ [v6])) st6.ok q1 q2 q3
                exact ⟨w6, S6, acc ++ [yv], accV ++ [v6], f7, k7, upd_same, q2, q3, (ra.mono st6.fr.le).append_ (RepL.cons_ r6 RepL.nil_), PostX.mono p4 st6.fr.le⟩
    · have ei : i = ds.length := by omega
      refine .inl ⟨by rw [ei]; exact hstop, ?_⟩
      have ed : ds.drop i = [] := by rw [ei]; exact List.drop_length
      rw [ed] at p2
      have p2 : PostX g W w0 H0 w2 σ env O (fin (acc ++ []) S2) _ := p2
      rw [List.append_nil] at p2
      unfold fin at p2
      split at p2
      · exact p2 w2 H2 st2 (.refl w2) D ⟨o1, g2, r2, o4, ⟨accV, e2, ra⟩⟩
      · exact False.elim p2
end
end Mm
namespace Mm
open PySem L2
section
variable {X : Cx} {Y : Gam} {W : WX} {e a b c tg iter elt : Expr} {es rest ifs : List Expr} {ta tb te : TE} {tt tu : TT} {ma mb me : ME} {mt mu : MT} {mf : MF} {t : TA} {m : MA} {pos : Pos} {s : Stmt} {ss : List Stmt} {t1 t2 : TS} {m1 m2 : MS} {wi : TI} {mi : MI}
/-! ### list comprehensions as rules -/
structure ST (X : Cx) (Y : Gam) (W : WX) (ifs : List Expr) (t : TT) (m : MT) : Prop where
  pts : PTs X ifs t
  sim : SimT Y W t m
def cYes : MT := fun _ S => .ok true S
theorem ts_nil : ST X Y W [] tYes cYes := ⟨pts_nil, fun w0 H0 w H σ env S O Q st p => p w H st (.refl w)⟩
theorem ts_one (h : SC X Y W c tt mt) : ST X Y W [c] tt mt := ⟨pts_one h.pt, h.sim⟩
variable {scope : Scope} {own : List (Str × Nat)} {is : List Nat} {g : TG} {mg : MG}
theorem f_lc (hN : X.N.Nodup) (hi : SI X Y W tg iter wi mi) (ok : BlkOk X.N X.env.scope scope own) (hg : ∀ (s : Shared) (H : Hp) (C : Addr) (cl : List (Str × Addr)) (fp : List Addr), SG (X.blk s H scope (compEnvC scope cl C X.env) fp) Y is tg g mg)
    (ht : ∀ (s : Shared) (H : Hp) (C : Addr) (cl : List (Str × Addr)) (fp : List Addr), ST (X.blk s H scope (compEnvC scope cl C X.env) fp) Y W0 ifs tt mt)
    (he : ∀ (s : Shared) (H : Hp) (C : Addr) (cl : List (Str × Addr)) (fp : List Addr), SE (X.blk s H scope (compEnvC scope cl C X.env) fp) Y W0 elt te me) (hv : ∀ i ∈ is, i ∈ own.map (·.2) := by decide) (hc : X.calm = true := by rfl) (hs : ∀ x, foldedSetIterable iter X.env x = pure x := by intro _; rfl) :
    SF X Y W (.ListComp elt [⟨tg, iter, ifs, 0⟩] scope pos) (tLc wi g tt te (own.map (·.2))) (fLc mi mg mt me (own.map (·.2))) :=
  ⟨pe_lc hc hN hi.pi ok (fun s H C cl fp => (hg s H C cl fp).pg) (fun s H C cl fp => (ht s H C cl fp).pts) (fun s H C cl fp => (he s H C cl fp).pe) hs,
    sim_lc hi.sim (hg X.s_0 X.H_0 0 [] []).sim hv (ht X.s_0 X.H_0 0 [] []).sim (he X.s_0 X.H_0 0 [] []).sim⟩
theorem ps_lc {i : Nat} {y : Str} {py spos : Pos} (hN : X.N.Nodup) (hy : X.N[i]? = some y) (hyl : X.env.scope.names.lookup y = some .local) (hsw : swapsWith (.ListComp elt [⟨tg, iter, ifs, 0⟩] scope pos) (some (.Name y py)) spos.line X.env = pure true)
    (hi : SI X Y W tg iter wi mi) (ok : BlkOk X.N X.env.scope scope own) (hg : ∀ (s : Shared) (H : Hp) (C : Addr) (cl : List (Str × Addr)) (fp : List Addr), SG (X.blk s H scope (compEnvC scope cl C X.env) fp) Y is tg g mg)
    (ht : ∀ (s : Shared) (H : Hp) (C : Addr) (cl : List (Str × Addr)) (fp : List Addr), ST (X.blk s H scope (compEnvC scope cl C X.env) fp) Y W0 ifs tt mt)
    (he : ∀ (s : Shared) (H : Hp) (C : Addr) (cl : List (Str × Addr)) (fp : List Addr), SE (X.blk s H scope (compEnvC scope cl C X.env) fp) Y W0 elt te me) (hc : X.calm = true) (hs : ∀ x, foldedSetIterable iter X.env x = pure x) :
    PS X (.Assign [.Name y py] (.ListComp elt [⟨tg, iter, ifs, 0⟩] scope pos) spos) (tAsg (tLc wi g tt te (own.map (·.2))) (gName i)) :=
  ps_setLc hc hN hy hyl hsw hi.pi ok (fun s H C cl fp => (hg s H C cl fp).pg) (fun s H C cl fp => (ht s H C cl fp).pts) (fun s H C cl fp => (he s H C cl fp).pe) hs
/-- y = [..], of one's own -/
theorem t_ownLc {i : Nat} {y : Str} {py spos : Pos} (hN : X.N.Nodup) (hy : X.N[i]? = some y) (hyl : X.env.scope.names.lookup y = some .local) (hsw : swapsWith (.ListComp elt [⟨tg, iter, ifs, 0⟩] scope pos) (some (.Name y py)) spos.line X.env = pure true)
    (hi : SI X Y W tg iter wi mi) (ok : BlkOk X.N X.env.scope scope own) (hg : ∀ (s : Shared) (H : Hp) (C : Addr) (cl : List (Str × Addr)) (fp : List Addr), SG (X.blk s H scope (compEnvC scope cl C X.env) fp) Y is tg g mg)
    (ht : ∀ (s : Shared) (H : Hp) (C : Addr) (cl : List (Str × Addr)) (fp : List Addr), ST (X.blk s H scope (compEnvC scope cl C X.env) fp) Y W0 ifs tt mt)
    (he : ∀ (s : Shared) (H : Hp) (C : Addr) (cl : List (Str × Addr)) (fp : List Addr), SE (X.blk s H scope (compEnvC scope cl C X.env) fp) Y W0 elt te me) (hv : ∀ i ∈ is, i ∈ own.map (·.2) := by decide) (hc : X.calm = true := by rfl) (hs : ∀ x, foldedSetIterable iter X.env x = pure x := by intro _; rfl) :
    SS X Y W (.Assign [.Name y py] (.ListComp elt [⟨tg, iter, ifs, 0⟩] scope pos) spos) (tAsg (tLc wi g tt te (own.map (·.2))) (gName i)) (sOwn i (fLc mi mg mt me (own.map (·.2)))) :=
  ⟨ps_lc hN hy hyl hsw hi ok hg ht he hc hs, sim_own (sim_lc hi.sim (hg X.s_0 X.H_0 0 [] []).sim hv (ht X.s_0 X.H_0 0 [] []).sim (he X.s_0 X.H_0 0 [] []).sim)⟩
theorem sim_frz {g : Gam} (h : SimF g W te mf) : SimE g W te (mFrz mf) := fun w0 H0 w H σ env S O Q st p => h w0 H0 w H σ env S O Q st ((PostX.bind p).imp fun c S1 w1 H1 st1 l1 p1 q ow => by
  obtain ⟨w2, st2, l2, r⟩ := own_freeze st1 ow
  exact p1 w2 H1 st2 l2 _ r)
/-- y = [..], a value -/
theorem t_setLc {i : Nat} {y : Str} {py spos : Pos} (hN : X.N.Nodup) (hy : X.N[i]? = some y) (hyl : X.env.scope.names.lookup y = some .local) (hsw : swapsWith (.ListComp elt [⟨tg, iter, ifs, 0⟩] scope pos) (some (.Name y py)) spos.line X.env = pure true)
    (hi : SI X Y W tg iter wi mi) (ok : BlkOk X.N X.env.scope scope own) (hg : ∀ (s : Shared) (H : Hp) (C : Addr) (cl : List (Str × Addr)) (fp : List Addr), SG (X.blk s H scope (compEnvC scope cl C X.env) fp) Y is tg g mg)
    (ht : ∀ (s : Shared) (H : Hp) (C : Addr) (cl : List (Str × Addr)) (fp : List Addr), ST (X.blk s H scope (compEnvC scope cl C X.env) fp) Y W0 ifs tt mt)
    (he : ∀ (s : Shared) (H : Hp) (C : Addr) (cl : List (Str × Addr)) (fp : List Addr), SE (X.blk s H scope (compEnvC scope cl C X.env) fp) Y W0 elt te me) (hv : ∀ i ∈ is, i ∈ own.map (·.2) := by decide) (hc : X.calm = true := by rfl) (hs : ∀ x, foldedSetIterable iter X.env x = pure x := by intro _; rfl) :
    SS X Y W (.Assign [.Name y py] (.ListComp elt [⟨tg, iter, ifs, 0⟩] scope pos) spos) (tAsg (tLc wi g tt te (own.map (·.2))) (gName i)) (sAsg (mFrz (fLc mi mg mt me (own.map (·.2)))) (gN i)) :=
  ⟨ps_lc hN hy hyl hsw hi ok hg ht he hc hs, sim_asg (is := [i]) (sim_frz (sim_lc hi.sim (hg X.s_0 X.H_0 0 [] []).sim hv (ht X.s_0 X.H_0 0 [] []).sim (he X.s_0 X.H_0 0 [] []).sim)) fun w0 H0 w H σ env S O d v Q e st r h q => by
    cases h
    exact q _ _ (st.set_v i r) (Slots.set σ (by simp))⟩
/-! ### a def -/
def startE (n : Nat) (ds : List D) : Envr := ds.map Sl.v ++ List.replicate (n - ds.length) .no
def mFn (n : Nat) (m : MS) : MFn := fun ds S => match m (startE n ds) S with
  | .nx _ S1 => .ok (.val .non) S1
  | .rt r S1 => .ok r S1
  | .exc c p _ S1 => .exc c p S1
  | _ => .stuck
theorem stR_start {g : Gam} {w : Wd} {H : Hp} {S : Sto} {N : List Str} {ds : List D} {vs : List V} (k : Ok g w H S) (r : RepL g w ds vs) : StR g w H w H (L2.start N vs) (startE N.length ds) S (List.replicate (L2.start N vs).length none) := by
  have nn : ∀ (i : Nat) (p : Addr), (List.replicate (L2.start N vs).length (none : Option Addr))[i]? ≠ some (some p) := fun i p e => by
    rw [List.getElem?_replicate] at e
    split at e <;> cases e
  refine ⟨k, .refl w H, ?_, List.length_replicate, fun i s x o e1 e2 e3 => ?_, fun i j p e _ => absurd e (nn i p), fun i p e => absurd e (nn i p)⟩
  · unfold startE L2.start
    rw [List.length_append, List.length_append, List.length_map, List.length_map, List.length_replicate, List.length_replicate, r.len]
  · have eo : o = none := by
      rw [List.getElem?_replicate] at e3
      split at e3
      · exact (Option.some.inj e3).symm
      · cases e3
    unfold startE at e1
    unfold L2.start at e2
    by_cases hi : i < ds.length
    · rw [List.getElem?_append_left (by rw [List.length_map]; exact hi), List.getElem?_map, List.getElem?_eq_getElem hi] at e1
      obtain ⟨v, ev, rv⟩ := r.at_ (List.getElem?_eq_getElem hi)
      rw [List.getElem?_append_left (by rw [List.length_map, ← r.len]; exact hi), List.getElem?_map, ev] at e2
      cases e1
      cases e2
      exact ⟨eo, v, rfl, rv⟩
    · rw [List.getElem?_append_right (by rw [List.length_map]; omega), List.getElem?_replicate] at e1
      split at e1
      · cases e1
        exact eo
      · cases e1
theorem fn_post {g : Gam} {w : Wd} {H : Hp} {S : Sto} {N : List Str} {ds : List D} {vs : List V} {Q : VK} {E : XK} (k : Ok g w H S) (r : RepL g w ds vs) (h : SimS g (fun cls d _ H => E cls d H) t1 m1) (p : PostF g w H Q E (mFn N.length m1 ds S)) :
    t1 { nx := fun _ H' => Q .non H', rt := Q } (L2.start N vs) H := by
  refine h w H w H _ (startE N.length ds) S _ _ (stR_start k r) ?_
  unfold mFn at p
  cases q : m1 (startE N.length ds) S with
  | stuck => rw [q] at p; exact p
  | bk e S1 => rw [q] at p; exact False.elim p
  | ct e S1 => rw [q] at p; exact False.elim p
  | nx e S1 =>
    rw [q] at p
    exact fun w' H' σ' O' st' _ => p w' H' .non st'.fr st'.ok (by unfold RetR Rep; rfl)
  | rt rr S1 =>
    rw [q] at p
    exact fun w' H' v k' f' r' => p w' H' v f' k' r'
  | exc c x e S1 =>
    rw [q] at p
    exact fun w' H' σ' O' cls dd st' _ x => p w' H' cls dd st'.fr st'.ok x
theorem fn_sim {P : Program} {w : World} {K : PySem.W.Frag} {mg : Str → Option Value} {base : Heap} {x qual : Str} {params : Arguments} {body : List Stmt} {scope : Scope} {dvs : List V} {kws : List (Str × V)} {f : Addr} {fd : FuncData} {N ps : List Str} {k n : Nat} {m1 : MS} (Y : Gam)
    (F : FunD K x qual params body scope dvs kws f fd) (S : FnScope N ps scope) (hn : n = ps.length)
    (hbody : ∀ (cdv : Value) (A : Around) (outer : List Env) (s : Shared) (H : Hp) (E : XK), Room k (A.deeper (PyProof.Rows.envOfC qual scope s.heap.objs.size f cdv)) → L2N.Takes (cxOf (L2N.CX P w) P w K mg base N qual scope f cdv A outer s H E) (fun cls d _ H => E cls d H) →
      PassesOwn (model P w) (A.deeper (PyProof.Rows.envOfC qual scope s.heap.objs.size f cdv)) (PyProof.Rows.envOfC qual scope s.heap.objs.size f cdv) (cxOf (L2N.CX P w) P w K mg base N qual scope f cdv A outer s H E).xe →
      ∃ t1, SB (cxOf (L2N.CX P w) P w K mg base N qual scope f cdv A outer s H E) Y (fun cls d _ H => E cls d H) body t1 m1) :
    FnOk P w K mg base (L2N.CX P w) (k + 1) f fd ps (spOf Y n (mFn N.length m1)) :=
  F.ok S (fun vs H Q E h => by rw [h.1, hn]) (fun cdv A outer s H vs Q E hr h => by
    obtain ⟨_, w1, ds, S1, k1, r1, p1⟩ := h
    obtain ⟨t1, B⟩ := hbody cdv A outer s H E hr (L2N.takes_of rfl rfl rfl rfl) (passes_of rfl)
    exact ⟨_, B.pss, fn_post k1 r1 B.sim p1⟩)
end
end Mm
namespace Mm
open PySem L2
theorem rep_lst {g : Gam} {w : Wd} {ds : List D} {v : V} (h : Rep g w (.lst ds) v) : ∃ a vs, v = .ref a ∧ w.G a = some (.lst vs) ∧ RepL g w ds vs := by
  unfold Rep at h
  exact h
theorem rep_tup {g : Gam} {w : Wd} {ds : List D} {v : V} (h : Rep g w (.tup ds) v) : ∃ a vs, v = .ref a ∧ SqT g.K w.G a vs ∧ RepL g w ds vs := by
  unfold Rep at h
  exact h
theorem rep_str {g : Gam} {w : Wd} {x : Str} {v : V} (h : Rep g w (.str x) v) : v = .str x := by
  unfold Rep at h
  exact h
theorem rep_bl {g : Gam} {w : Wd} {x : Bool} {v : V} (h : Rep g w (.bl x) v) : v = .bl x := by
  unfold Rep at h
  exact h
theorem rep_non {g : Gam} {w : Wd} {v : V} (h : Rep g w .non v) : v = .non := by
  unfold Rep at h
  exact h
theorem rep_ref {g : Gam} {w : Wd} {n : Nat} {v : V} (h : Rep g w (.ref n) v) : ∃ a, w.rho[n]? = some a ∧ v = .ref a := by
  unfold Rep at h
  exact h
theorem rep_str' {g : Gam} {w : Wd} {x : Str} : Rep g w (.str x) (.str x) := by
  unfold Rep
  rfl
theorem rep_non' {g : Gam} {w : Wd} : Rep g w .non .non := by
  unfold Rep
  rfl
theorem repL_two {g : Gam} {w : Wd} {d1 d2 : D} {vs : List V} (h : RepL g w [d1, d2] vs) : ∃ v1 v2, vs = [v1, v2] ∧ Rep g w d1 v1 ∧ Rep g w d2 v2 := by
  unfold RepL at h
  obtain ⟨v1, r1, e1, q1, h⟩ := h
  unfold RepL at h
  obtain ⟨v2, r2, e2, q2, h⟩ := h
  unfold RepL at h
  subst h e2
  exact ⟨v1, v2, e1, q1, q2⟩
theorem repL_one {g : Gam} {w : Wd} {d1 : D} {vs : List V} (h : RepL g w [d1] vs) : ∃ v1, vs = [v1] ∧ Rep g w d1 v1 := by
  unfold RepL at h
  obtain ⟨v1, r1, e1, q1, h⟩ := h
  unfold RepL at h
  subst h
  exact ⟨v1, e1, q1⟩
/-! ### lists of one kind -/
def intsOf : List D → Option (List Int)
  | [] => some []
  | .int i :: ds => (intsOf ds).map (i :: ·)
  | _ => none
theorem intsOf_map (ns : List Int) : intsOf (ns.map D.int) = some ns := by
  induction ns with
  | nil => rfl
  | cons n ns ih =>
    unfold List.map intsOf
    rw [ih]
    rfl
theorem intsOf_rep {g : Gam} {w : Wd} : ∀ {ds : List D} {ns : List Int} {vs : List V}, intsOf ds = some ns → RepL g w ds vs → vs = ns.map V.int
  | [], ns, vs, h, r => by
    unfold intsOf at h
    unfold RepL at r
    cases h
    exact r
  | d :: ds, ns, vs, h, r => by
    cases d with
    | int i =>
      unfold intsOf at h
      cases q : intsOf ds with
      | none => rw [q] at h; cases h
      | some ns' =>
        rw [q] at h
        cases h
        unfold RepL at r
        obtain ⟨v, r', e1, a, b⟩ := r
        rw [e1, rep_int a, intsOf_rep q b]
        rfl
    | _ =>
      unfold intsOf at h
      cases h
def blsOf : List D → Option (List Bool)
  | [] => some []
  | .bl i :: ds => (blsOf ds).map (i :: ·)
  | _ => none
theorem blsOf_map (ns : List Bool) : blsOf (ns.map D.bl) = some ns := by
  induction ns with
  | nil => rfl
  | cons n ns ih =>
    unfold List.map blsOf
    rw [ih]
    rfl
theorem blsOf_rep {g : Gam} {w : Wd} : ∀ {ds : List D} {ns : List Bool} {vs : List V}, blsOf ds = some ns → RepL g w ds vs → vs = ns.map V.bl
  | [], ns, vs, h, r => by
    unfold blsOf at h
    unfold RepL at r
    cases h
    exact r
  | d :: ds, ns, vs, h, r => by
    cases d with
    | bl i =>
      unfold blsOf at h
      cases q : blsOf ds with
      | none => rw [q] at h; cases h
      | some ns' =>
        rw [q] at h
        cases h
        unfold RepL at r
        obtain ⟨v, r', e1, a, b⟩ := r
        rw [e1, rep_bl a, blsOf_rep q b]
        rfl
    | _ =>
      unfold blsOf at h
      cases h
/-! ### what is walked -/
section
variable {X : Cx} {Y : Gam} {W : WX} {e a b c tg iter elt : Expr} {es rest ifs : List Expr} {ta tb te : TE} {tt tu : TT} {ma mb me : ME} {mt mu : MT} {mf : MF} {t : TA} {m : MA} {pos p : Pos} {s : Stmt} {ss : List Stmt} {t1 t2 : TS} {m1 m2 : MS} {wi : TI} {mi : MI}
def iSeq (K : PySem.W.Frag) (tl : TE) : TI := fun σ H R => tl σ H fun x H1 => ∃ a, x = .ref a ∧ (((∃ xs, SqL K H1 a xs) ∧ R (Itl K a) H1) ∨ ((∃ xs, SqT K H1 a xs) ∧ R (Itt K a) H1))
theorem pi_seq {l : Expr} {tl : TE} (hl : PE X l tl) : PI X tg l (iSeq X.K tl) := by
  refine ⟨fun pins s σ H R I h => ?_⟩
  refine thn (hl.run pins s σ H _ I h) fun v s1 ⟨x, H1, I1, r1, q1⟩ => ?_
  obtain ⟨a, e, q1⟩ := q1
  subst e
  cases r1
  rcases q1 with ⟨⟨xs, hq⟩, q⟩ | ⟨⟨xs, hq⟩, q⟩
  · obtain ⟨its, rv, p, hz⟩ := I1.list hq
    refine wpAny_pyIter_list p.isList ?_
    refine ⟨s1.heap.objs.size, [s1.heap.objs.size], _, _, H1, rfl, I1.kept (t' := s1.toks) fun b o e => Heap.get?_push_of_some _ e, turn_list a _, ⟨_, Heap.get?_push_size _ rfl, rfl, rfl⟩, fun b hb => ?_, q⟩
    have e : b = s1.heap.objs.size := by simpa using hb
    subst e
    exact I1.fpOk (Nat.le_refl _) (I1.hok.fresh (Nat.le_refl _))
  · obtain ⟨its, rv, p, hz⟩ := I1.tuple hq
    refine wpAny_pyIter_tuple (show s1.heap.IsTuple a its.toArray from p) ?_
    refine ⟨s1.heap.objs.size, [s1.heap.objs.size], _, _, H1, rfl, I1.kept (t' := s1.toks) fun b o e => Heap.get?_push_of_some _ e, turn_tuple a _, ⟨_, Heap.get?_push_size _ rfl, rfl, rfl⟩, fun b hb => ?_, q⟩
    have e : b = s1.heap.objs.size := by simpa using hb
    subst e
    exact I1.fpOk (Nat.le_refl _) (I1.hok.fresh (Nat.le_refl _))
def itL (me : ME) : MI := fun env S => (me env S).bind fun d S1 => match d with
  | .lst ds => .ok ds S1
  | .tup ds => .ok ds S1
  | _ => .stuck
theorem itR_list {g : Gam} {w : Wd} {a : Addr} {ds : List D} {vs : List V} (e : w.G a = some (.lst vs)) (r : RepL g w ds vs) : ItR g w (Itl g.K a) ds := fun w2 H2 l x => by
  have q : SqL g.K H2 a vs := .inl (.inl (x _ _ (l.ex _ _ e)))
  refine ⟨fun i d hd => ?_, ⟨vs, q, by rw [r.len]; exact Nat.le_refl _⟩⟩
  obtain ⟨v, hv, rv⟩ := r.at_ hd
  refine ⟨⟨vs, v, q, hv⟩, fun y H' hy => ?_⟩
  obtain ⟨e1, e2⟩ := hy
  have e3 := e2 vs q
  rw [hv] at e3
  cases e3
  rw [e1]
  exact ⟨w2, .refl, rv.mono l⟩
theorem itR_tup {g : Gam} {w : Wd} {a : Addr} {ds : List D} {vs : List V} (e : SqT g.K w.G a vs) (r : RepL g w ds vs) : ItR g w (Itt g.K a) ds := fun w2 H2 l x => by
  have q : SqT g.K H2 a vs := same_sqT (l.ex.trans x) e
  refine ⟨fun i d hd => ?_, ⟨vs, q, by rw [r.len]; exact Nat.le_refl _⟩⟩
  obtain ⟨v, hv, rv⟩ := r.at_ hd
  refine ⟨⟨vs, v, q, hv⟩, fun y H' hy => ?_⟩
  obtain ⟨e1, e2⟩ := hy
  have e3 := e2 vs q
  rw [hv] at e3
  cases e3
  rw [e1]
  exact ⟨w2, .refl, rv.mono l⟩
theorem i_seq (h : SE X Y W e te me) (hK : X.K = Y.K := by rfl) : SI X Y W tg e (iSeq Y.K te) (itL me) := ⟨hK ▸ pi_seq h.pe, fun w0 H0 w H σ env S O Q st p =>
  h.sim w0 H0 w H σ env S O _ st ((PostX.bind p).imp fun d S1 w1 H1 st1 l1 p1 v r => by
    cases d with
    | lst ds =>
      obtain ⟨a, vs, e1, e2, e3⟩ := rep_lst r
      exact ⟨a, e1, .inl ⟨⟨vs, .inl (.inl (st1.ok.ex _ _ e2))⟩, p1 w1 H1 st1 (.refl w1) _ (itR_list (g := Y) e2 e3)⟩⟩
    | tup ds =>
      obtain ⟨a, vs, e1, e2, e3⟩ := rep_tup r
      exact ⟨a, e1, .inr ⟨⟨vs, same_sqT st1.ok.ex e2⟩, p1 w1 H1 st1 (.refl w1) _ (itR_tup (g := Y) e2 e3)⟩⟩
    | _ => exact False.elim p1)⟩
def rngD (lo : Int) (n : Nat) : List D := (List.range n).map fun (i : Nat) => D.int (lo + i)
theorem itR_rng {g : Gam} {w : Wd} (lo : Int) (n : Nat) : ItR g w (Itr lo n) (rngD lo n) := fun w2 H2 l x => by
  refine ⟨fun i d hd => ?_, ?_⟩
  · unfold rngD at hd
    rw [List.getElem?_map] at hd
    have hi : i < n := by
      cases q : (List.range n)[i]? with
      | none => rw [q] at hd; cases hd
      | some j =>
        have := (List.getElem?_eq_some_iff.mp q).1
        simpa using this
    rw [List.getElem?_range hi] at hd
    cases hd
    refine ⟨hi, fun y H' hy => ?_⟩
    obtain ⟨e1, e2⟩ := hy
    rw [e1, e2]
    exact ⟨w2, .refl, rep_int'⟩
  · show n ≤ (rngD lo n).length
    unfold rngD
    rw [List.length_map, List.length_range]
    exact Nat.le_refl _
def bBnd (i : Int) (n : Nat) : Bool := Nat.ble i.natAbs n
theorem bBnd_iff {i : Int} {n : Nat} : bBnd i n = true ↔ i.natAbs ≤ n := Iff.of_eq Nat.ble_eq
def rgB (i : Int) : Bool := bBnd i 4611686018427387903
theorem rgB_ok {i : Int} (h : rgB i = true) : -(2 ^ 62) ≤ i ∧ i < 2 ^ 62 := by
  have := bBnd_iff.mp h
  omega
def itR1 (m : MA) : MI := fun env S => (m env S).bind fun ds S1 => match ds with
  | [.int j] => if rgB j then .ok (rngD 0 j.toNat) S1 else .stuck
  | _ => .stuck
def itR2 (m : MA) : MI := fun env S => (m env S).bind fun ds S1 => match ds with
  | [.int i, .int j] => if rgB i && rgB j then .ok (rngD i (j - i).toNat) S1 else .stuck
  | _ => .stuck
theorem i_range1 (hm : X.mg "range" = none) (ha : SA X Y W [a] t m) (hg : Gl X "range" := by rfl) (hs : starEach [a] X.env = [(false, eval a X.env)] := by rfl) : SI X Y W tg (.Call (.Name "range" p) [a] [] pos) (iRng1 t) (itR1 m) := ⟨pi_range1 hg hm ha.pa hs, fun w0 H0 w H σ env S O Q st p =>
  ha.sim w0 H0 w H σ env S O _ st ((PostX.bind p).imp fun ds S1 w1 H1 st1 l1 p1 vs r => by
    split at p1
    · rename_i j
      split at p1
      · rename_i z
        obtain ⟨v, e1, e2⟩ := repL_one r
        rw [rep_int e2] at e1
        exact ⟨j, e1, (rgB_ok z).1, (rgB_ok z).2, p1 w1 H1 st1 (.refl w1) _ (itR_rng 0 _)⟩
      · exact False.elim p1
    · exact False.elim p1)⟩
theorem i_range2 (hm : X.mg "range" = none) (ha : SA X Y W [a, b] t m) (hg : Gl X "range" := by rfl) (hs : starEach [a, b] X.env = [(false, eval a X.env), (false, eval b X.env)] := by rfl) (hs2 : starEach [b] X.env = [(false, eval b X.env)] := by rfl) : SI X Y W tg (.Call (.Name "range" p) [a, b] [] pos) (iRng2 t) (itR2 m) := ⟨pi_range2 hg hm ha.pa hs hs2, fun w0 H0 w H σ env S O Q st p =>
  ha.sim w0 H0 w H σ env S O _ st ((PostX.bind p).imp fun ds S1 w1 H1 st1 l1 p1 vs r => by
    split at p1
    · rename_i i j
      split at p1
      · rename_i z
        rw [Bool.and_eq_true] at z
        obtain ⟨v, u, e1, e2, e3⟩ := repL_two r
        rw [rep_int e2, rep_int e3] at e1
        exact ⟨i, j, e1, ⟨(rgB_ok z.1).1, (rgB_ok z.1).2, (rgB_ok z.2).1, (rgB_ok z.2).2⟩, p1 w1 H1 st1 (.refl w1) _ (itR_rng i _)⟩
      · exact False.elim p1
    · exact False.elim p1)⟩
/-- enumerate -/
def enumD (k : Nat) : List D → List D
  | [] => []
  | d :: ds => .tup [.int (k : Nat), d] :: enumD (k + 1) ds
theorem enumD_len : ∀ (ds : List D) (k : Nat), (enumD k ds).length = ds.length
  | [], _ => rfl
  | d :: ds, k => by
    unfold enumD
    rw [List.length_cons, List.length_cons, enumD_len ds]
theorem enumD_at : ∀ (ds : List D) (k i : Nat) (x : D), (enumD k ds)[i]? = some x → ∃ d, ds[i]? = some d ∧ x = .tup [.int ((k + i : Nat) : Int), d]
  | [], _, _, _, h => by simp [enumD] at h
  | d :: ds, k, 0, x, h => by
    unfold enumD at h
    exact ⟨d, rfl, (Option.some.inj h).symm⟩
  | d :: ds, k, i + 1, x, h => by
    unfold enumD at h
    obtain ⟨d', h1, h2⟩ := enumD_at ds (k + 1) i x h
    exact ⟨d', h1, by rw [h2, Nat.add_right_comm, Nat.add_assoc]⟩
theorem itR_enum {g : Gam} {w : Wd} {a : Addr} {ds : List D} {vs : List V} (e : w.G a = some (.lst vs)) (r : RepL g w ds vs) : ItR g w (Ite g.K a) (enumD 0 ds) := fun w2 H2 l x => by
  have q : SqL g.K H2 a vs := .inl (.inl (x _ _ (l.ex _ _ e)))
  refine ⟨fun i d hd => ?_, ⟨vs, q, by rw [enumD_len, r.len]; exact Nat.le_refl _⟩⟩
  obtain ⟨d', hd', ed⟩ := enumD_at ds 0 i d hd
  obtain ⟨v, hv, rv⟩ := r.at_ hd'
  refine ⟨⟨vs, v, q, hv⟩, fun y H' hy => ?_⟩
  obtain ⟨T, x', e1, e2, e3, e4⟩ := hy
  have e5 := e4 vs q
  rw [hv] at e5
  cases e5
  rw [e1, e3, ed, Nat.zero_add]
  refine ⟨_, Grow.one e2 nt_tup, ?_⟩
  unfold Rep
  have le : w2.le ⟨w2.rho, upd w2.G T (.tup [.int (i : Nat), v])⟩ := ⟨⟨[], by simp⟩, same_upd (none_of_same x e2)⟩
  exact ⟨T, _, rfl, .inl (.inl upd_same), RepL.cons_ rep_int' (RepL.cons_ ((rv.mono l).mono le) RepL.nil_)⟩
def itE (m : MA) : MI := fun env S => (m env S).bind fun ds S1 => match ds with
  | [.lst ds] => .ok (enumD 0 ds) S1
  | _ => .stuck
theorem i_enum {elts : List Expr} {kk : Nat} {tpos : Pos} (hm : X.mg "enumerate" = none) (ha : SA X Y W [e] t m) (hK : X.K = Y.K := by rfl) (hg : Gl X "enumerate" := by rfl) (hs : starEach [e] X.env = [(false, eval e X.env)] := by rfl) :
    SI X Y W (.Tuple elts kk tpos) (.Call (.Name "enumerate" p) [e] [] pos) (iEnum Y.K t) (itE m) := ⟨hK ▸ pi_enum hg hm ha.pa hs, fun w0 H0 w H σ env S O Q st p =>
  ha.sim w0 H0 w H σ env S O _ st ((PostX.bind p).imp fun ds S1 w1 H1 st1 l1 p1 vs r => by
    split at p1
    · rename_i ds
      obtain ⟨v, e1, e2⟩ := repL_one r
      obtain ⟨a, us, e3, e4, e5⟩ := rep_lst e2
      rw [e3] at e1
      exact ⟨a, us, e1, .inl (.inl (st1.ok.ex _ _ e4)), p1 w1 H1 st1 (.refl w1) _ (itR_enum (g := Y) e4 e5)⟩
    · exact False.elim p1)⟩
/-- zip of two lists -/
def zipD : List D → List D → List D
  | x :: xs, y :: ys => .tup [x, y] :: zipD xs ys
  | _, _ => []
theorem zipD_at : ∀ (xs ys : List D) (i : Nat) (z : D), (zipD xs ys)[i]? = some z → ∃ x y, xs[i]? = some x ∧ ys[i]? = some y ∧ z = .tup [x, y]
  | [], _, _, _, h => by simp [zipD] at h
  | _ :: _, [], _, _, h => by simp [zipD] at h
  | x :: xs, y :: ys, 0, z, h => by
    unfold zipD at h
    exact ⟨x, y, rfl, rfl, (Option.some.inj h).symm⟩
  | x :: xs, y :: ys, i + 1, z, h => by
    unfold zipD at h
    exact zipD_at xs ys i z h
theorem zipD_len : ∀ (xs ys : List D), (zipD xs ys).length = min xs.length ys.length
  | [], _ => by simp [zipD]
  | _ :: _, [] => by simp [zipD]
  | x :: xs, y :: ys => by
    unfold zipD
    rw [List.length_cons, zipD_len xs ys, List.length_cons, List.length_cons]
    omega
theorem itR_zip {g : Gam} {w : Wd} {a b : Addr} {ds es : List D} {vs us : List V} (e : w.G a = some (.lst vs)) (r : RepL g w ds vs) (e' : w.G b = some (.lst us)) (r' : RepL g w es us) : ItR g w (Itz g.K a b) (zipD ds es) := fun w2 H2 l x => by
  have q : SqL g.K H2 a vs := .inl (.inl (x _ _ (l.ex _ _ e)))
  have q' : SqL g.K H2 b us := .inl (.inl (x _ _ (l.ex _ _ e')))
  refine ⟨fun i d hd => ?_, ⟨vs, us, q, q', by rw [zipD_len, r.len, r'.len]; omega⟩⟩
  obtain ⟨d1, d2, h1, h2, ed⟩ := zipD_at ds es i d hd
  obtain ⟨v, hv, rv⟩ := r.at_ h1
  obtain ⟨u, hu, ru⟩ := r'.at_ h2
  refine ⟨⟨vs, us, v, u, q, q', hv, hu⟩, fun y H' hy => ?_⟩
  obtain ⟨T, x', y', e1, e2, e3, e4, e5⟩ := hy
  have e6 := e4 vs q
  have e7 := e5 us q'
  rw [hv] at e6
  rw [hu] at e7
  cases e6
  cases e7
  rw [e1, e3, ed]
  refine ⟨_, Grow.one e2 nt_tup, ?_⟩
  unfold Rep
  have le : w2.le ⟨w2.rho, upd w2.G T (.tup [v, u])⟩ := ⟨⟨[], by simp⟩, same_upd (none_of_same x e2)⟩
  exact ⟨T, _, rfl, .inl (.inl upd_same), RepL.cons_ ((rv.mono l).mono le) (RepL.cons_ ((ru.mono l).mono le) RepL.nil_)⟩
def itZ (m : MA) : MI := fun env S => (m env S).bind fun ds S1 => match ds with
  | [.lst xs, .lst ys] => .ok (zipD xs ys) S1
  | _ => .stuck
theorem i_zip {e2 : Expr} {elts : List Expr} {kk : Nat} {tpos : Pos} (hm : X.mg "zip" = none) (ha : SA X Y W [e, e2] t m) (hK : X.K = Y.K := by rfl) (hg : Gl X "zip" := by rfl) (hs : starEach [e, e2] X.env = (false, eval e X.env) :: starEach [e2] X.env := by rfl) (hpl : (backTo pos (starEach [e2] X.env)).any (·.1) = false := by rfl) :
    SI X Y W (.Tuple elts kk tpos) (.Call (.Name "zip" p) [e, e2] [] pos) (iZip Y.K t) (itZ m) := ⟨hK ▸ pi_zip hg hm ha.pa hs hpl, fun w0 H0 w H σ env S O Q st p =>
  ha.sim w0 H0 w H σ env S O _ st ((PostX.bind p).imp fun ds S1 w1 H1 st1 l1 p1 vs r => by
    split at p1
    · rename_i xs ys
      obtain ⟨v, u, e1, e2, e3⟩ := repL_two r
      obtain ⟨a, us, x1, x2, x3⟩ := rep_lst e2
      obtain ⟨b, ws, y1, y2, y3⟩ := rep_lst e3
      rw [x1, y1] at e1
      exact ⟨a, b, us, ws, e1, .inl (.inl (st1.ok.ex _ _ x2)), .inl (.inl (st1.ok.ex _ _ y2)), p1 w1 H1 st1 (.refl w1) _ (itR_zip (g := Y) x2 x3 y2 y3)⟩
    · exact False.elim p1)⟩
end
end Mm
namespace Mm
open PySem L2
/-! ### sorting -/
def ins1 (x : Int) : List Int → List Int
  | [] => [x]
  | y :: ys => if x ≤ y then x :: y :: ys else y :: ins1 x ys
def isrt : List Int → List Int
  | [] => []
  | x :: xs => ins1 x (isrt xs)
theorem ins1_perm (x : Int) : ∀ ys : List Int, (ins1 x ys).Perm (x :: ys)
  | [] => .refl _
  | y :: ys => by
    unfold ins1
    split
    · exact .refl _
    · exact ((ins1_perm x ys).cons y).trans (.swap x y ys)
theorem isrt_perm : ∀ xs : List Int, (isrt xs).Perm xs
  | [] => .refl _
  | x :: xs => by
    unfold isrt
    exact (ins1_perm x (isrt xs)).trans ((isrt_perm xs).cons x)
theorem ins1_sorted (x : Int) : ∀ ys : List Int, ys.Pairwise (· ≤ ·) → (ins1 x ys).Pairwise (· ≤ ·)
  | [], _ => List.pairwise_singleton _ _
  | y :: ys, h => by
    unfold ins1
    rw [List.pairwise_cons] at h
    split
    · rename_i hx
      refine List.pairwise_cons.mpr ⟨fun z hz => ?_, List.pairwise_cons.mpr h⟩
      rcases List.mem_cons.mp hz with e | e
      · rw [e]
        exact hx
      · exact Int.le_trans hx (h.1 z e)
    · rename_i hx
      refine List.pairwise_cons.mpr ⟨fun z hz => ?_, ins1_sorted x ys h.2⟩
      rcases List.mem_cons.mp ((ins1_perm x ys).mem_iff.mp hz) with e | e
      · rw [e]
        omega
      · exact h.1 z e
theorem isrt_sorted : ∀ xs : List Int, (isrt xs).Pairwise (· ≤ ·)
  | [] => .nil
  | x :: xs => ins1_sorted x _ (isrt_sorted xs)
theorem sorted_unique : ∀ {xs ys : List Int}, xs.Perm ys → xs.Pairwise (· ≤ ·) → ys.Pairwise (· ≤ ·) → xs = ys
  | [], ys, h, _, _ => (List.nil_perm.mp h).symm
  | x :: xs, [], h, _, _ => absurd (List.perm_nil.mp h) (by simp)
  | x :: xs, y :: ys, h, hx, hy => by
    rw [List.pairwise_cons] at hx hy
    have e : x = y := by
      have h1 : x ∈ y :: ys := h.mem_iff.mp List.mem_cons_self
      have h2 : y ∈ x :: xs := h.mem_iff.mpr List.mem_cons_self
      rcases List.mem_cons.mp h1 with z | z
      · exact z
      · rcases List.mem_cons.mp h2 with q | q
        · exact q.symm
        · have := hy.1 x z
          have := hx.1 y q
          omega
    subst e
    rw [sorted_unique (List.Perm.cons_inv h) hx.2 hy.2]
section
variable {X : Cx} {Y : Gam} {W : WX} {e a b c tg iter elt : Expr} {es rest ifs : List Expr} {ta tb te : TE} {tt tu : TT} {ma mb me : ME} {mt mu : MT} {mf : MF} {t : TA} {m : MA} {pos p : Pos} {s : Stmt} {ss : List Stmt} {t1 t2 : TS} {m1 m2 : MS} {wi : TI} {mi : MI} {x : Str}
/-! ### built-ins by values -/
def CallD (g : Gam) (r : List V → Hp → VK → Prop) (f : Sto → List D → Option D) : Prop := ∀ w H S ds vs d (Q : VK), Ok g w H S → RepL g w ds vs → f S ds = some d → (∀ w' H' v, Grow w H w' H' → Rep g w' d v → Q v H') → r vs H Q
def CallO (g : Gam) (r : List V → Hp → VK → Prop) (f : Sto → List D → Option Cell) : Prop := ∀ w H S ds vs c (Q : VK), Ok g w H S → RepL g w ds vs → f S ds = some c → (∀ p o, H p = none → (∀ ps, o ≠ .tbl ps) → CellR g w (upd H p o) p c → Q (.ref p) (upd H p o)) → r vs H Q
def eCB (f : Sto → List D → Option D) (m : MA) : ME := fun env S => (m env S).bind fun ds S1 => opt (f S1 ds) S1
def fCB (f : Sto → List D → Option Cell) (m : MA) : MF := fun env S => (m env S).bind fun ds S1 => opt (f S1 ds) S1
theorem sim_cb {g : Gam} {r : List V → Hp → VK → Prop} {f : Sto → List D → Option D} (h : CallD g r f) (ha : SimA g W t m) : SimE g W (tCB r t) (eCB f m) := fun w0 H0 w H σ env S O Q st p =>
  ha w0 H0 w H σ env S O _ st ((PostX.bind p).imp fun ds S1 w1 H1 st1 l1 p1 vs rs => by
    obtain ⟨d, e, k⟩ := PostX.opt_ p1 st1
    exact h w1 H1 S1 ds vs d Q st1.ok rs e fun w3 H3 v q r => k w3 H3 (st1.grow q) (q.le st1.ok) v r)
theorem sim_co {g : Gam} {r : List V → Hp → VK → Prop} {f : Sto → List D → Option Cell} (h : CallO g r f) (ha : SimA g W t m) : SimF g W (tCB r t) (fCB f m) := fun w0 H0 w H σ env S O Q st p =>
  ha w0 H0 w H σ env S O _ st ((PostX.bind p).imp fun ds S1 w1 H1 st1 l1 p1 vs rs => by
    obtain ⟨d, e, k⟩ := PostX.opt_ p1 st1
    exact h w1 H1 S1 ds vs d Q st1.ok rs e fun q o hq nt hc => k w1 _ (st1.lay hq nt) (.refl w1) q (st1.own_new hq hc))
theorem s_cb {id : String} {r : List V → Hp → VK → Prop} {f : Sto → List D → Option D} (hd : CallD Y r f) (hc : CallR X (.builtin id) r) (hm : X.mg x = none) (hv : bootBuiltins x = some (.builtin id)) (ha : SA X Y W (e :: es) t m) (hg : Gl X x := by rfl) (hn : x ≠ "__name__" := by decide) (hdb : (x == ("__debug__" : Str)) = false := by decide)
    (he : starEach (e :: es) X.env = (false, eval e X.env) :: starEach es X.env := by rfl) (hpl : (backTo pos (starEach es X.env)).any (·.1) = false := by rfl) : SE X Y W (.Call (.Name x p) (e :: es) [] pos) (tCB r t) (eCB f m) := ⟨pe_callB hc hg hm hv ha.pa hn hdb he hpl, sim_cb hd ha.sim⟩
theorem f_cb {id : String} {r : List V → Hp → VK → Prop} {f : Sto → List D → Option Cell} (hd : CallO Y r f) (hc : CallR X (.builtin id) r) (hm : X.mg x = none) (hv : bootBuiltins x = some (.builtin id)) (ha : SA X Y W (e :: es) t m) (hg : Gl X x := by rfl) (hn : x ≠ "__name__" := by decide) (hdb : (x == ("__debug__" : Str)) = false := by decide)
    (he : starEach (e :: es) X.env = (false, eval e X.env) :: starEach es X.env := by rfl) (hpl : (backTo pos (starEach es X.env)).any (·.1) = false := by rfl) : SF X Y W (.Call (.Name x p) (e :: es) [] pos) (tCB r t) (fCB f m) := ⟨pe_callB hc hg hm hv ha.pa hn hdb he hpl, sim_co hd ha.sim⟩
theorem s_ct {id : String} {r : List V → Hp → VK → Prop} {f : Sto → List D → Option D} (hd : CallD Y r f) (hc : CallR X (.type id) r) (hm : X.mg x = none) (hv : bootBuiltins x = some (.type id)) (ha : SA X Y W (e :: es) t m) (hg : Gl X x := by rfl) (hn : x ≠ "__name__" := by decide) (hdb : (x == ("__debug__" : Str)) = false := by decide)
    (he : starEach (e :: es) X.env = (false, eval e X.env) :: starEach es X.env := by rfl) (hpl : (backTo pos (starEach es X.env)).any (·.1) = false := by rfl) : SE X Y W (.Call (.Name x p) (e :: es) [] pos) (tCB r t) (eCB f m) := ⟨pe_callTy hc hg hm hv ha.pa hn hdb he hpl, sim_cb hd ha.sim⟩
theorem f_ct {id : String} {r : List V → Hp → VK → Prop} {f : Sto → List D → Option Cell} (hd : CallO Y r f) (hc : CallR X (.type id) r) (hm : X.mg x = none) (hv : bootBuiltins x = some (.type id)) (ha : SA X Y W (e :: es) t m) (hg : Gl X x := by rfl) (hn : x ≠ "__name__" := by decide) (hdb : (x == ("__debug__" : Str)) = false := by decide)
    (he : starEach (e :: es) X.env = (false, eval e X.env) :: starEach es X.env := by rfl) (hpl : (backTo pos (starEach es X.env)).any (·.1) = false := by rfl) : SF X Y W (.Call (.Name x p) (e :: es) [] pos) (tCB r t) (fCB f m) := ⟨pe_callTy hc hg hm hv ha.pa hn hdb he hpl, sim_co hd ha.sim⟩
/-- len: a list, a tuple, a cell's list, a text -/
def fLen : Sto → List D → Option D
  | _, [.lst ds] => some (.int ds.length)
  | _, [.tup ds] => some (.int ds.length)
  | S, [.ref n] => (match S[n]? with
    | some (.lst ds) => some (.int ds.length)
    | _ => none)
  | _, [.str z] => if szB z.length then some (.int z.length) else none
  | _, _ => none
theorem cell_lst {g : Gam} {w : Wd} {H : Hp} {S : Sto} {n : Nat} {v : V} {ds : List D} (k : Ok g w H S) (r : Rep g w (.ref n) v) (h : S[n]? = some (.lst ds)) : ∃ a vs, v = .ref a ∧ w.rho[n]? = some a ∧ H a = some (.lst vs) ∧ RepL g w ds vs := by
  obtain ⟨a, e1, e2⟩ := rep_ref r
  obtain ⟨_, vs, e3, e4⟩ := k.cells.at_ n a _ e1 h
  exact ⟨a, vs, e2, e1, e3, e4⟩
theorem CallR.or {f : Value} {r r' : List V → Hp → VK → Prop} (h : CallR X f r) (h' : CallR X f r') : CallR X f (fun xs H Q => r xs H Q ∨ r' xs H Q) := fun pins s σ H xs us Q I r1 q => q.elim (h pins s σ H xs us Q I r1) (h' pins s σ H xs us Q I r1)
def rLn (K : PySem.W.Frag) : List V → Hp → VK → Prop := fun xs H Q => (∃ p ys, xs = [.ref p] ∧ (SqL K H p ys ∨ SqT K H p ys) ∧ Q (.int ys.length) H) ∨ ∃ z, xs = [.str z] ∧ z.length ≤ sizeLine ∧ Q (.int z.length) H
theorem cr_len : CallR X (.builtin "len") (rLn X.K) := CallR.or call_len_seq call_len_str
theorem cd_len {g : Gam} : CallD g (rLn g.K) fLen := fun w H S ds vs d Q k r e q => by
  unfold fLen at e
  split at e
  · rename_i ds
    cases e
    obtain ⟨v, e1, e2⟩ := repL_one r
    obtain ⟨a, us, x1, x2, x3⟩ := rep_lst e2
    rw [x1] at e1
    exact .inl ⟨a, us, e1, .inl (.inl (.inl (k.ex _ _ x2))), q w H _ .refl (by rw [x3.len]; exact rep_int')⟩
  · rename_i ds
    cases e
    obtain ⟨v, e1, e2⟩ := repL_one r
    obtain ⟨a, us, x1, x2, x3⟩ := rep_tup e2
    rw [x1] at e1
    exact .inl ⟨a, us, e1, .inr (same_sqT k.ex x2), q w H _ .refl (by rw [x3.len]; exact rep_int')⟩
  · rename_i n
    split at e
    · rename_i ds hS
      cases e
      obtain ⟨v, e1, e2⟩ := repL_one r
      obtain ⟨a, us, x1, x2, x3, x4⟩ := cell_lst k e2 hS
      rw [x1] at e1
      exact .inl ⟨a, us, e1, .inl (.inl (.inl x3)), q w H _ .refl (by rw [x4.len]; exact rep_int')⟩
    · cases e
  · rename_i z
    split at e
    · rename_i hz
      cases e
      obtain ⟨v, e1, e2⟩ := repL_one r
      rw [rep_str e2] at e1
      exact .inr ⟨z, e1, szB_le hz, q w H _ .refl rep_int'⟩
    · cases e
  · cases e
/-- list(x): a new list -/
def fListOf : Sto → List D → Option Cell
  | _, [.lst ds] => some (.lst ds)
  | _, [.tup ds] => some (.lst ds)
  | S, [.ref n] => (match S[n]? with
    | some (.lst ds) => some (.lst ds)
    | _ => none)
  | _, _ => none
theorem co_list {g : Gam} : CallO g (fun xs H Q => ∃ p ys, xs = [.ref p] ∧ (SqL g.K H p ys ∨ SqT g.K H p ys) ∧ ∀ l, H l = none → Q (.ref l) (upd H l (.lst ys))) fListOf := fun w H S ds vs c Q k r e q => by
  unfold fListOf at e
  split at e
  · cases e
    obtain ⟨v, e1, e2⟩ := repL_one r
    obtain ⟨a, us, x1, x2, x3⟩ := rep_lst e2
    rw [x1] at e1
    exact ⟨a, us, e1, .inl (.inl (.inl (k.ex _ _ x2))), fun l hl => q l _ hl nt_lst ⟨us, upd_same, x3⟩⟩
  · cases e
    obtain ⟨v, e1, e2⟩ := repL_one r
    obtain ⟨a, us, x1, x2, x3⟩ := rep_tup e2
    rw [x1] at e1
    exact ⟨a, us, e1, .inr (same_sqT k.ex x2), fun l hl => q l _ hl nt_lst ⟨us, upd_same, x3⟩⟩
  · split at e
    · rename_i ds hS
      cases e
      obtain ⟨v, e1, e2⟩ := repL_one r
      obtain ⟨a, us, x1, x2, x3, x4⟩ := cell_lst k e2 hS
      rw [x1] at e1
      exact ⟨a, us, e1, .inl (.inl (.inl x3)), fun l hl => q l _ hl nt_lst ⟨us, upd_same, x4⟩⟩
    · cases e
  · cases e
/-- tuple(x) -/
def fTupOf : Sto → List D → Option D
  | _, [.lst ds] => some (.tup ds)
  | _, [.tup ds] => some (.tup ds)
  | _, _ => none
theorem cd_tup {g : Gam} : CallD g (fun xs H Q => ∃ p ys, xs = [.ref p] ∧ ((SqL g.K H p ys ∧ ∀ l, H l = none → Q (.ref l) (upd H l (.tup ys))) ∨ (SqT g.K H p ys ∧ Q (.ref p) H))) fTupOf := fun w H S ds vs d Q k r e q => by
  unfold fTupOf at e
  split at e
  · cases e
    obtain ⟨v, e1, e2⟩ := repL_one r
    obtain ⟨a, us, x1, x2, x3⟩ := rep_lst e2
    rw [x1] at e1
    exact ⟨a, us, e1, .inl ⟨.inl (.inl (k.ex _ _ x2)), fun l hl => q _ _ _ (Grow.one hl nt_tup) (rep_tup_new k hl x3)⟩⟩
  · cases e
    obtain ⟨v, e1, e2⟩ := repL_one r
    obtain ⟨a, us, x1, x2, x3⟩ := rep_tup e2
    rw [x1] at e1
    exact ⟨a, us, e1, .inr ⟨same_sqT k.ex x2, q w H _ .refl (by rw [← x1]; exact e2)⟩⟩
  · cases e
/-- sorted(ints): a new list -/
def fSorted : Sto → List D → Option Cell
  | _, [.lst ds] => (intsOf ds).map fun ns => .lst ((isrt ns).map D.int)
  | _, _ => none
theorem co_sorted {g : Gam} : CallO g (rSortedI g.K) fSorted := fun w H S ds vs c Q k r e q => by
  unfold fSorted at e
  split at e
  · rename_i ds
    cases z : intsOf ds with
    | none => rw [z] at e; cases e
    | some ns =>
      rw [z] at e
      cases e
      obtain ⟨v, e1, e2⟩ := repL_one r
      obtain ⟨a, us, x1, x2, x3⟩ := rep_lst e2
      rw [x1] at e1
      refine ⟨a, ns, e1, .inl (.inl (by rw [← intsOf_rep z x3]; exact k.ex _ _ x2)), fun ns' l hp hs hl => ?_⟩
      have en : ns' = isrt ns := sorted_unique (hp.trans (isrt_perm ns).symm) hs (isrt_sorted ns)
      rw [en]
      exact q l _ hl nt_lst ⟨_, upd_same, RepL.ints _⟩
  · cases e
def fSum : Sto → List D → Option D
  | _, [.lst ds] => (intsOf ds).map fun ns => .int ns.sum
  | _, _ => none
theorem cd_sum {g : Gam} : CallD g (rSum g.K) fSum := fun w H S ds vs c Q k r e q => by
  unfold fSum at e
  split at e
  · rename_i ds
    cases z : intsOf ds with
    | none => rw [z] at e; cases e
    | some ns =>
      rw [z] at e
      cases e
      obtain ⟨v, e1, e2⟩ := repL_one r
      obtain ⟨a, us, x1, x2, x3⟩ := rep_lst e2
      rw [x1] at e1
      exact ⟨a, ns, e1, .inl (.inl (by rw [← intsOf_rep z x3]; exact k.ex _ _ x2)), q w H _ .refl rep_int'⟩
  · cases e
def fAll : Sto → List D → Option D
  | _, [.lst ds] => (blsOf ds).map fun ns => .bl (ns.all id)
  | _, _ => none
theorem cd_all {g : Gam} : CallD g (rAll g.K) fAll := fun w H S ds vs c Q k r e q => by
  unfold fAll at e
  split at e
  · rename_i ds
    cases z : blsOf ds with
    | none => rw [z] at e; cases e
    | some ns =>
      rw [z] at e
      cases e
      obtain ⟨v, e1, e2⟩ := repL_one r
      obtain ⟨a, us, x1, x2, x3⟩ := rep_lst e2
      rw [x1] at e1
      exact ⟨a, ns, e1, .inl (.inl (by rw [← blsOf_rep z x3]; exact k.ex _ _ x2)), q w H _ .refl rep_bl'⟩
  · cases e
def fAny : Sto → List D → Option D
  | _, [.lst ds] => (blsOf ds).map fun ns => .bl (ns.any id)
  | _, _ => none
theorem cd_any {g : Gam} : CallD g (rAny g.K) fAny := fun w H S ds vs c Q k r e q => by
  unfold fAny at e
  split at e
  · rename_i ds
    cases z : blsOf ds with
    | none => rw [z] at e; cases e
    | some ns =>
      rw [z] at e
      cases e
      obtain ⟨v, e1, e2⟩ := repL_one r
      obtain ⟨a, us, x1, x2, x3⟩ := rep_lst e2
      rw [x1] at e1
      exact ⟨a, ns, e1, .inl (.inl (by rw [← blsOf_rep z x3]; exact k.ex _ _ x2)), q w H _ .refl rep_bl'⟩
  · cases e
/-- int(x) of an int, a bool -/
def fInt : Sto → List D → Option D
  | _, [.int i] => some (.int i)
  | _, [.bl b] => some (.int (if b then 1 else 0))
  | _, _ => none
theorem cd_int {g : Gam} : CallD g (fun xs H Q => (∃ i, xs = [.int i] ∧ Q (.int i) H) ∨ ∃ k, xs = [.bl k] ∧ Q (.int (if k then 1 else 0)) H) fInt := fun w H S ds vs c Q k r e q => by
  unfold fInt at e
  split at e
  · rename_i i
    cases e
    obtain ⟨v, e1, e2⟩ := repL_one r
    rw [rep_int e2] at e1
    exact .inl ⟨i, e1, q w H _ .refl rep_int'⟩
  · rename_i i
    cases e
    obtain ⟨v, e1, e2⟩ := repL_one r
    rw [rep_bl e2] at e1
    exact .inr ⟨i, e1, q w H _ .refl rep_int'⟩
  · cases e
/-- x.bit_length() -/
def eBits (me : ME) : ME := fun env S => (me env S).bind fun d S1 => match d with
  | .int i => .ok (.int (Builtin.Int.intBits i : Nat)) S1
  | _ => .stuck
theorem s_bits {apos : Pos} (h : SE X Y W e te me) (hbase : attributeBase e "bit_length" X.env (eval e X.env) = eval e X.env := by rfl) (hline : (apos.endLine == pos.line) = true := by rfl) : SE X Y W (.Call (.Attribute e "bit_length" apos) [] [] pos) (tBits te) (eBits me) := ⟨pe_bits h.pe hbase hline, fun w0 H0 w H σ env S O Q st p =>
  h.sim w0 H0 w H σ env S O _ st ((PostX.bind p).imp fun d S1 w1 H1 st1 l1 p1 v r => by
    cases d with
    | int i => exact ⟨i, rep_int r, p1 w1 H1 st1 (.refl w1) _ rep_int'⟩
    | _ => exact False.elim p1)⟩
/-! ### operators -/
def mulB (i j : Int) : Bool := bBnd i 18446744073709551615 || bBnd j 18446744073709551615
def powB (i j : Int) : Bool := decide (0 ≤ j) && (bBnd j 1000000 && bBnd i 18446744073709551615)
def divB (_ j : Int) : Bool := decide (j ≠ 0) && decide (j.natAbs < 1073741824)
theorem mulB_ok (i j : Int) (h : mulB i j = true) : CMul i j := by
  unfold mulB at h
  simp only [Bool.or_eq_true, bBnd_iff] at h
  unfold CMul
  omega
theorem powB_ok (i j : Int) (h : powB i j = true) : CPow i j := by
  unfold powB at h
  simp only [Bool.and_eq_true, decide_eq_true_eq, bBnd_iff] at h
  unfold CPow
  omega
theorem divB_ok (i j : Int) (h : divB i j = true) : CDivN i j := by
  unfold divB at h
  simp only [Bool.and_eq_true, decide_eq_true_eq] at h
  exact h
def iAdd := fI (fun i j => .int (i + j)) fun _ _ => true
def iSub := fI (fun i j => .int (i - j)) fun _ _ => true
def iMul := fI (fun i j => .int (i * j)) mulB
def iDiv := fI (fun i j => .int (i.fdiv j)) divB
def iMod := fI (fun i j => .int (i.fmod j)) fun _ j => decide (j ≠ 0)
def iPow := fI (fun i j => .int (i ^ j.toNat)) powB
def iShl := fI (fun i j => .int (i * 2 ^ j.toNat)) powB
def iShr := fI (fun i j => .int (i / 2 ^ j.toNat)) fun _ j => decide (0 ≤ j)
def iAnd := fI (fun i j => .int (Builtin.bitAnd i j)) fun _ _ => true
def iOr := fI (fun i j => .int (Builtin.bitOr i j)) fun _ _ => true
def iXor := fI (fun i j => .int (Builtin.bitXor i j)) fun _ _ => true
def iLt := fI (fun i j => .bl (decide (i < j))) fun _ _ => true
def iLe := fI (fun i j => .bl (decide (i ≤ j))) fun _ _ => true
def iGt := fI (fun i j => .bl (decide (j < i))) fun _ _ => true
def iGe := fI (fun i j => .bl (decide (j ≤ i))) fun _ _ => true
theorem od_sub {g : Gam} : OpD g (rI0 fun i j => .int (i - j)) iSub := od_I0 fun _ _ _ => rep_int'
theorem od_mul {g : Gam} : OpD g (rI CMul fun i j => .int (i * j)) iMul := od_I mulB_ok fun _ _ _ => rep_int'
theorem od_div {g : Gam} : OpD g (rI CDivN fun i j => .int (i.fdiv j)) iDiv := od_I divB_ok fun _ _ _ => rep_int'
theorem od_mod {g : Gam} : OpD g (rI (fun _ j => j ≠ 0) fun i j => .int (i.fmod j)) iMod := od_I (fun _ _ h => of_decide_eq_true h) fun _ _ _ => rep_int'
theorem od_pow {g : Gam} : OpD g (rI CPow fun i j => .int (i ^ j.toNat)) iPow := od_I powB_ok fun _ _ _ => rep_int'
theorem od_shl {g : Gam} : OpD g (rI CPow fun i j => .int (i * 2 ^ j.toNat)) iShl := od_I powB_ok fun _ _ _ => rep_int'
theorem od_shr {g : Gam} : OpD g (rI (fun _ j => 0 ≤ j) fun i j => .int (i / 2 ^ j.toNat)) iShr := od_I (fun _ _ h => of_decide_eq_true h) fun _ _ _ => rep_int'
theorem od_and {g : Gam} : OpD g (rI0 fun i j => .int (Builtin.bitAnd i j)) iAnd := od_I0 fun _ _ _ => rep_int'
theorem od_or {g : Gam} : OpD g (rI0 fun i j => .int (Builtin.bitOr i j)) iOr := od_I0 fun _ _ _ => rep_int'
theorem od_xor {g : Gam} : OpD g (rI0 fun i j => .int (Builtin.bitXor i j)) iXor := od_I0 fun _ _ _ => rep_int'
theorem od_lt {g : Gam} : OpD g (rI0 fun i j => .bl (decide (i < j))) iLt := od_I0 fun _ _ _ => rep_bl'
theorem od_le {g : Gam} : OpD g (rI0 fun i j => .bl (decide (i ≤ j))) iLe := od_I0 fun _ _ _ => rep_bl'
theorem od_gt {g : Gam} : OpD g (rI0 fun i j => .bl (decide (j < i))) iGt := od_I0 fun _ _ _ => rep_bl'
theorem od_ge {g : Gam} : OpD g (rI0 fun i j => .bl (decide (j ≤ i))) iGe := od_I0 fun _ _ _ => rep_bl'
theorem od_addI {g : Gam} : OpD g (rI0 fun i j => .int (i + j)) iAdd := od_I0 fun _ _ _ => rep_int'
/-- lists joined -/
def fCat : Sto → D → D → Option Cell
  | _, .lst xs, .lst ys => if szB (xs.length + ys.length) then some (.lst (xs ++ ys)) else none
  | _, _, _ => none
def OpO (g : Gam) (r : R2) (f : Sto → D → D → Option Cell) : Prop := ∀ w H S d1 d2 v1 v2 c (Q : VK), Ok g w H S → Rep g w d1 v1 → Rep g w d2 v2 → f S d1 d2 = some c → (∀ p o, H p = none → (∀ ps, o ≠ .tbl ps) → CellR g w (upd H p o) p c → Q (.ref p) (upd H p o)) → r v1 v2 H Q
def fOp (f : Sto → D → D → Option Cell) (ma mb : ME) : MF := fun env S => (ma env S).bind fun d1 S1 => (mb env S1).bind fun d2 S2 => opt (f S2 d1 d2) S2
theorem sim_opO {g : Gam} {r : R2} {f : Sto → D → D → Option Cell} (ho : OpO g r f) (ha : SimE g W ta ma) (hb : SimE g W tb mb) : SimF g W (tOp r ta tb) (fOp f ma mb) := fun w0 H0 w H σ env S O Q st p =>
  ha w0 H0 w H σ env S O _ st ((PostX.bind p).imp fun d1 S1 w1 H1 st1 l1 p1 v1 r1 => hb w0 H0 w1 H1 σ env S1 O _ st1 ((PostX.bind p1).imp fun d2 S2 w2 H2 st2 l2 p2 v2 r2 => by
    obtain ⟨d, e, k⟩ := PostX.opt_ p2 st2
    exact ho w2 H2 S2 d1 d2 v1 v2 d Q st2.ok (r1.mono l2) r2 e fun q o hq nt hc => k w2 _ (st2.lay hq nt) (.refl w2) q (st2.own_new hq hc)))
theorem f_op {op : Operator} {r : R2} {f : Sto → D → D → Option Cell} (hd : OpO Y r f) (ho : OpR X (binaryOp op) r) (ha : SE X Y W a ta ma) (hb : SE X Y W b tb mb) : SF X Y W (.BinOp a op b pos) (tOp r ta tb) (fOp f ma mb) := ⟨pe_op ho ha.pe hb.pe, sim_opO hd ha.sim hb.sim⟩
theorem oo_cat {g : Gam} : OpO g rCat fCat := fun w H S d1 d2 v1 v2 c Q k r1 r2 e q => by
  unfold fCat at e
  split at e
  · split at e
    · rename_i xs ys z
      cases e
      obtain ⟨a, us, x1, x2, x3⟩ := rep_lst r1
      obtain ⟨b, ws, y1, y2, y3⟩ := rep_lst r2
      exact ⟨a, b, us, ws, x1, y1, k.ex _ _ x2, k.ex _ _ y2, by rw [← x3.len, ← y3.len]; exact szB_le z, fun l hl => q l _ hl nt_lst ⟨_, upd_same, x3.append_ y3⟩⟩
    · cases e
  · cases e
def fRep : Sto → D → D → Option Cell
  | _, .lst xs, .int k => if bBnd k 9223372036854775807 && szB (xs.length * k.toNat) then some (.lst (List.replicate k.toNat xs).flatten) else none
  | _, _, _ => none
/-- a value that is a new one -/
theorem OpO.d {g : Gam} {r : R2} {f : Sto → D → D → Option Cell} (h : OpO g r f) : OpD g r (fun S a b => (f S a b).map Cell.d) := fun w H S d1 d2 v1 v2 d Q k r1 r2 e q => by
  have e : Option.map Cell.d (f S d1 d2) = some d := e
  cases z : f S d1 d2 with
  | none => rw [z] at e; cases e
  | some c =>
    rw [z] at e
    cases e
    refine h w H S d1 d2 v1 v2 c Q k r1 r2 z fun p o hp nt hc => ?_
    refine q _ _ _ (Grow.one hp nt) ?_
    have le := Grow.le (Grow.one (w := w) hp nt) k
    cases c with
    | lst ds =>
      obtain ⟨vs, e1, e2⟩ := hc
      rw [upd_same] at e1
      unfold Cell.d Rep
      exact ⟨p, vs, rfl, by show upd w.G p o p = _; rw [upd_same]; exact e1, e2.mono le⟩
    | ins cc fs =>
      obtain ⟨dx, gs, e1, e2⟩ := hc
      rw [upd_same] at e1
      unfold Cell.d Rep
      exact ⟨p, dx, gs, rfl, by show upd w.G p o p = _; rw [upd_same]; exact e1, e2.mono le⟩
    | dic ks =>
      obtain ⟨gs, e1, e2⟩ := hc
      rw [upd_same] at e1
      unfold Cell.d Rep
      exact ⟨p, gs, rfl, by show upd w.G p o p = _; rw [upd_same]; exact e1, e2.mono le⟩
/-- + of numbers, of lists, of texts -/
def fAddS : Sto → D → D → Option D
  | _, .str x, .str y => if szB (x.length + y.length) then some (.str (x ++ y)) else none
  | _, _, _ => none
theorem od_addS {g : Gam} : OpD g (fun x y H Q => ∃ i j, x = .str i ∧ y = .str j ∧ i.length + j.length ≤ sizeLine ∧ Q (.str (i ++ j)) H) fAddS := fun w H S d1 d2 v1 v2 d Q k r1 r2 e q => by
  unfold fAddS at e
  split at e
  · split at e
    · rename_i x y z
      cases e
      exact ⟨x, y, rep_str r1, rep_str r2, szB_le z, q w H _ .refl rep_str'⟩
    · cases e
  · cases e
def fCatD : Sto → D → D → Option D := fun S a b => (fCat S a b).map Cell.d
def dAdd : Sto → D → D → Option D := fun S a b => (iAdd S a b).or (fCatD S a b)
theorem od_add {g : Gam} : OpD g (fun x y H Q => rI0 (fun i j => .int (i + j)) x y H Q ∨ rCat x y H Q) dAdd := od_addI.or oo_cat.d
theorem op_addD : OpR X (binaryOp .Add) (fun x y H Q => rI0 (fun i j => .int (i + j)) x y H Q ∨ rCat x y H Q) := OpR.or op_add op_cat
/-! ### items, slices -/
def fIx : Sto → D → D → Option D
  | _, .lst xs, .int i => atI xs i
  | _, .tup xs, .int i => atI xs i
  | S, .ref n, .int i => (match S[n]? with
    | some (.lst xs) => atI xs i
    | _ => none)
  | _, _, _ => none
theorem RepL.atI_ {g : Gam} {w : Wd} {ds : List D} {vs : List V} {i : Int} {d : D} (r : RepL g w ds vs) (h : atI ds i = some d) : ∃ v, atI vs i = some v ∧ Rep g w d v := by
  unfold atI at h ⊢
  rw [r.len] at h
  cases z : ixN vs.length i with
  | none => rw [z] at h; cases h
  | some j =>
    rw [z] at h
    exact r.at_ h
theorem od_ix {g : Gam} : OpD g (fun x y H Q => rIxL g.K x y H Q ∨ rIxT g.K x y H Q) fIx := fun w H S d1 d2 v1 v2 d Q k r1 r2 e q => by
  unfold fIx at e
  split at e
  · rename_i xs i
    obtain ⟨a, us, x1, x2, x3⟩ := rep_lst r1
    obtain ⟨v, e1, e2⟩ := x3.atI_ e
    exact .inl ⟨a, us, i, v, x1, rep_int r2, .inl (.inl (k.ex _ _ x2)), e1, q w H _ .refl e2⟩
  · rename_i xs i
    obtain ⟨a, us, x1, x2, x3⟩ := rep_tup r1
    obtain ⟨v, e1, e2⟩ := x3.atI_ e
    exact .inr ⟨a, us, i, v, x1, rep_int r2, same_sqT k.ex x2, e1, q w H _ .refl e2⟩
  · rename_i n i
    split at e
    · rename_i xs hS
      obtain ⟨a, us, x1, x2, x3, x4⟩ := cell_lst k r1 hS
      obtain ⟨v, e1, e2⟩ := x4.atI_ e
      exact .inl ⟨a, us, i, v, x1, rep_int r2, .inl (.inl x3), e1, q w H _ .refl e2⟩
    · cases e
  · cases e
theorem ix_lt : IxR X (fun x y H Q => rIxL X.K x y H Q ∨ rIxT X.K x y H Q) := ix_list.or ix_tup
end
end Mm
namespace Mm
open PySem L2
section
variable {X : Cx} {Y : Gam} {W : WX} {e a b c tg iter elt : Expr} {es rest ifs : List Expr} {ta tb te : TE} {tt tu : TT} {ma mb me : ME} {mt mu : MT} {mf : MF} {t : TA} {m : MA} {pos p : Pos} {s : Stmt} {ss : List Stmt} {t1 t2 : TS} {m1 m2 : MS} {wi : TI} {mi : MI} {x : Str}
/-! ### data compared -/
mutual
def D.py : D → Option PyData
  | .non => some .none
  | .bl b => some (.bool b)
  | .int i => some (.int i)
  | .str x => some (.str x)
  | .lst ds => (pyAll ds).map .list
  | .tup ds => (pyAll ds).map .tuple
  | _ => none
def pyAll : List D → Option (List PyData)
  | [] => some []
  | d :: ds => match d.py, pyAll ds with
    | some x, some xs => some (x :: xs)
    | _, _ => none
end
mutual
theorem rep_py {g : Gam} {w : Wd} : ∀ {d : D} {v : V} {q : PyData}, Rep g w d v → d.py = some q → Dp g.K w.G v q
  | .non, v, q, r, h => by
    unfold D.py at h
    cases h
    rw [rep_non r]
    exact .non
  | .bl b, v, q, r, h => by
    unfold D.py at h
    cases h
    rw [rep_bl r]
    exact .bl b
  | .int b, v, q, r, h => by
    unfold D.py at h
    cases h
    rw [rep_int r]
    exact .int b
  | .str b, v, q, r, h => by
    unfold D.py at h
    cases h
    rw [rep_str r]
    exact .str b
  | .lst ds, v, q, r, h => by
    unfold D.py at h
    obtain ⟨a, vs, e1, e2, e3⟩ := rep_lst r
    cases z : pyAll ds with
    | none => rw [z] at h; cases h
    | some xs =>
      rw [z] at h
      cases h
      rw [e1]
      exact .lst (.inl (.inl e2)) (repL_py e3 z)
  | .tup ds, v, q, r, h => by
    unfold D.py at h
    obtain ⟨a, vs, e1, e2, e3⟩ := rep_tup r
    cases z : pyAll ds with
    | none => rw [z] at h; cases h
    | some xs =>
      rw [z] at h
      cases h
      rw [e1]
      exact .tup e2 (repL_py e3 z)
  | .ins _ _, v, q, r, h => by unfold D.py at h; cases h
  | .ref _, v, q, r, h => by unfold D.py at h; cases h
  | .scr _, v, q, r, h => by unfold D.py at h; cases h
  | .ty _, v, q, r, h => by unfold D.py at h; cases h
  | .cls _, v, q, r, h => by unfold D.py at h; cases h
  | .adr _, v, q, r, h => by unfold D.py at h; cases h
  | .set _, v, q, r, h => by unfold D.py at h; cases h
  | .dic _, v, q, r, h => by unfold D.py at h; cases h
theorem repL_py {g : Gam} {w : Wd} : ∀ {ds : List D} {vs : List V} {qs : List PyData}, RepL g w ds vs → pyAll ds = some qs → DpAll g.K w.G vs qs
  | [], vs, qs, r, h => by
    unfold pyAll at h
    unfold RepL at r
    cases h
    rw [r]
    exact .nil
  | d :: ds, vs, qs, r, h => by
    unfold pyAll at h
    unfold RepL at r
    obtain ⟨v, vr, e1, e2, e3⟩ := r
    cases z : d.py with
    | none => rw [z] at h; cases h
    | some x =>
      cases y : pyAll ds with
      | none => rw [z, y] at h; cases h
      | some xs =>
        rw [z, y] at h
        cases h
        rw [e1]
        exact .cons (rep_py e2 z) (repL_py e3 y)
end
mutual
theorem Dp.same {K : PySem.W.Frag} {H H' : Hp} (e : Same H H') : ∀ {v : V} {q : PyData}, Dp K H v q → Dp K H' v q
  | _, _, .non => .non
  | _, _, .bl b => .bl b
  | _, _, .int b => .int b
  | _, _, .str b => .str b
  | _, _, .lst s a => .lst (e.seq s) (DpAll.same e a)
  | _, _, .tup s a => .tup (same_sqT e s) (DpAll.same e a)
theorem DpAll.same {K : PySem.W.Frag} {H H' : Hp} (e : Same H H') : ∀ {v : List V} {q : List PyData}, DpAll K H v q → DpAll K H' v q
  | _, _, .nil => .nil
  | _, _, .cons a b => .cons (Dp.same e a) (DpAll.same e b)
end
def fEq : Sto → D → D → Option D := fun _ a b => match a.py, b.py with
  | some x, some y => if SeqAt.shaped x && SeqAt.shaped y then some (.bl (PyData.eqv x y)) else none
  | _, _ => none
def fNe : Sto → D → D → Option D := fun _ a b => match a.py, b.py with
  | some x, some y => if SeqAt.shaped x && SeqAt.shaped y then some (.bl (!PyData.eqv x y)) else none
  | _, _ => none
theorem od_eq {g : Gam} : OpD g (rEqD g.K) fEq := fun w H S d1 d2 v1 v2 d Q k r1 r2 e q => by
  unfold fEq at e
  split at e
  · rename_i x y z1 z2
    split at e
    · rename_i z
      rw [Bool.and_eq_true] at z
      cases e
      exact ⟨x, y, Dp.same k.ex (rep_py r1 z1), Dp.same k.ex (rep_py r2 z2), z.1, z.2, q w H _ .refl rep_bl'⟩
    · cases e
  · cases e
theorem od_ne {g : Gam} : OpD g (rNeD g.K) fNe := fun w H S d1 d2 v1 v2 d Q k r1 r2 e q => by
  unfold fNe at e
  split at e
  · rename_i x y z1 z2
    split at e
    · rename_i z
      rw [Bool.and_eq_true] at z
      cases e
      exact ⟨x, y, Dp.same k.ex (rep_py r1 z1), Dp.same k.ex (rep_py r2 z2), z.1, z.2, q w H _ .refl rep_bl'⟩
    · cases e
  · cases e
/-- is None -/
def D.isN : D → Bool
  | .non => true
  | _ => false
theorem rep_isN {g : Gam} {w : Wd} {d : D} {v : V} (r : Rep g w d v) : decide (v = .non) = d.isN := by
  cases d with
  | non => rw [rep_non r]; rfl
  | bl b => rw [rep_bl r]; rfl
  | int b => rw [rep_int r]; rfl
  | str b => rw [rep_str r]; rfl
  | lst ds => obtain ⟨a, vs, e1, _⟩ := rep_lst r; rw [e1]; rfl
  | tup ds => obtain ⟨a, vs, e1, _⟩ := rep_tup r; rw [e1]; rfl
  | ins c fs => unfold Rep at r; obtain ⟨a, _, _, e1, _⟩ := r; rw [e1]; rfl
  | ref n => obtain ⟨a, _, e1⟩ := rep_ref r; rw [e1]; rfl
  | scr n => unfold Rep at r; obtain ⟨a, e1, _⟩ := r; rw [e1]; rfl
  | ty n => unfold Rep at r; rw [r]; rfl
  | cls n => unfold Rep at r; rw [r]; rfl
  | adr n => unfold Rep at r; rw [r]; rfl
  | set n => unfold Rep at r; obtain ⟨a, _, e1, _⟩ := r; rw [e1]; rfl
  | dic n => unfold Rep at r; obtain ⟨a, _, e1, _⟩ := r; rw [e1]; rfl
def fIs : Sto → D → D → Option D
  | _, d, .non => some (.bl d.isN)
  | _, _, _ => none
def fIsNot : Sto → D → D → Option D
  | _, d, .non => some (.bl (!d.isN))
  | _, _, _ => none
theorem od_is {g : Gam} : OpD g (fun x y H Q => y = .non ∧ Q (.bl (decide (x = .non))) H) fIs := fun w H S d1 d2 v1 v2 d Q k r1 r2 e q => by
  unfold fIs at e
  split at e
  · cases e
    exact ⟨rep_non r2, q w H _ .refl (by rw [rep_isN r1]; exact rep_bl')⟩
  · cases e
theorem od_isnot {g : Gam} : OpD g (fun x y H Q => y = .non ∧ Q (.bl (!decide (x = .non))) H) fIsNot := fun w H S d1 d2 v1 v2 d Q k r1 r2 e q => by
  unfold fIsNot at e
  split at e
  · cases e
    exact ⟨rep_non r2, q w H _ .refl (by rw [rep_isN r1]; exact rep_bl')⟩
  · cases e
/-- in, of ints -/
def fIn (neg : Bool) : Sto → D → D → Option D
  | _, .int i, .lst ds => (intsOf ds).map fun ns => .bl (if neg then !decide (i ∈ ns) else decide (i ∈ ns))
  | _, .int i, .tup ds => (intsOf ds).map fun ns => .bl (if neg then !decide (i ∈ ns) else decide (i ∈ ns))
  | _, _, _ => none
theorem inV_ints (i : Int) (ns : List Int) : inV (.int i) (ns.map V.int) = decide (i ∈ ns) := by
  unfold inV
  induction ns with
  | nil => simp
  | cons n ns ih =>
    rw [List.map_cons, List.any_cons, ih]
    show ((n == i) || decide (i ∈ ns)) = decide (i ∈ n :: ns)
    by_cases h : n = i
    · subst h; simp
    · have h2 : (n == i) = false := by simpa using h
      rw [h2, Bool.false_or, decide_eq_decide]
      constructor
      · exact List.mem_cons_of_mem _
      · intro q
        rcases List.mem_cons.mp q with z | z
        · exact absurd z.symm h
        · exact z
theorem flat_ints (ns : List Int) : (ns.map V.int).all flatV = true := by
  rw [List.all_eq_true]
  intro v hv
  obtain ⟨n, _, rfl⟩ := List.mem_map.mp hv
  rfl
theorem od_in {g : Gam} {neg : Bool} : OpD g (rIn g.K neg) (fIn neg) := fun w H S d1 d2 v1 v2 d Q k r1 r2 e q => by
  unfold fIn at e
  split at e
  · rename_i i ds
    cases z : intsOf ds with
    | none => rw [z] at e; cases e
    | some ns =>
      rw [z] at e
      cases e
      obtain ⟨a, vs, e1, e2, e3⟩ := rep_lst r2
      have ev := intsOf_rep z e3
      rw [ev] at e2
      refine ⟨a, _, e1, .inl (.inl (.inl (k.ex _ _ e2))), by rw [rep_int r1]; rfl, flat_ints ns, q w H _ .refl ?_⟩
      rw [rep_int r1, inV_ints]
      exact rep_bl'
  · rename_i i ds
    cases z : intsOf ds with
    | none => rw [z] at e; cases e
    | some ns =>
      rw [z] at e
      cases e
      obtain ⟨a, vs, e1, e2, e3⟩ := rep_tup r2
      have ev := intsOf_rep z e3
      rw [ev] at e2
      refine ⟨a, _, e1, .inr (same_sqT k.ex e2), by rw [rep_int r1]; rfl, flat_ints ns, q w H _ .refl ?_⟩
      rw [rep_int r1, inV_ints]
      exact rep_bl'
  · cases e
/-! ### slices -/
abbrev MO := Envr → Sto → R (Option Int)
def SimO (g : Gam) (W : WX) (t : TO) (m : MO) : Prop := ∀ w0 H0 w H σ env S O (Q : Option Int → Hp → Prop), StR g w0 H0 w H σ env S O →
  PostX g W w0 H0 w σ env O (m env S) (fun o _ w' H' => Q o H') → t σ H Q
structure SO (X : Cx) (Y : Gam) (W : WX) (e : Option Expr) (t : TO) (m : MO) : Prop where
  po : PO X e t
  sim : SimO Y W t m
def oNone : MO := fun _ S => .ok none S
def oSome (me : ME) : MO := fun env S => (me env S).bind fun d S1 => match d with
  | .int i => .ok (some i) S1
  | _ => .stuck
theorem o_none : SO X Y W none tNoPart oNone := ⟨po_none, fun w0 H0 w H σ env S O Q st p => p w H st (.refl w)⟩
theorem o_some (h : SE X Y W e te me) : SO X Y W (some e) (tPart te) (oSome me) := ⟨po_some h.pe, fun w0 H0 w H σ env S O Q st p =>
  h.sim w0 H0 w H σ env S O _ st ((PostX.bind p).imp fun d S1 w1 H1 st1 l1 p1 v r => by
    cases d with
    | int i => exact ⟨i, rep_int r, p1 w1 H1 st1 (.refl w1)⟩
    | _ => exact False.elim p1)⟩
def cutD (xs : List D) (lo hi : Option Int) : List D := (xs.drop (HT.sIx xs.length 0 lo)).take (HT.sIx xs.length xs.length hi - HT.sIx xs.length 0 lo)
theorem rep_cut {g : Gam} {w : Wd} {ds : List D} {vs : List V} (r : RepL g w ds vs) (lo hi : Option Int) : RepL g w (cutD ds lo hi) (cutV vs lo hi) := by
  unfold cutD cutV
  rw [r.len]
  exact (r.drop_ _).take_ _
/-- xs[a:b] of a list (the script too): a new list -/
def fSl (me : ME) (ml mh : MO) : MF := fun env S => (me env S).bind fun d S1 => (ml env S1).bind fun lo S2 => (mh env S2).bind fun hi S3 => match d with
  | .lst ds => .ok (.lst (cutD ds lo hi)) S3
  | .scr ns => .ok (.lst (cutD (ns.map D.int) lo hi)) S3
  | _ => .stuck
theorem f_sl {lo hi : Option Expr} {tl th : TO} {ml mh : MO} {p2 : Pos} (he : SE X Y W e te me) (hl : SO X Y W lo tl ml) (hh : SO X Y W hi th mh) (hK : X.K = Y.K := by rfl) : SF X Y W (.Subscript e (.Slice lo hi none p2) pos) (tSl (rSlL Y.K) te tl th) (fSl me ml mh) := ⟨hK ▸ pe_slice sl_list he.pe hl.po hh.po, fun w0 H0 w H σ env S O Q st p =>
  he.sim w0 H0 w H σ env S O _ st ((PostX.bind p).imp fun d S1 w1 H1 st1 l1 p1 v r => hl.sim w0 H0 w1 H1 σ env S1 O _ st1 ((PostX.bind p1).imp fun lo S2 w2 H2 st2 l2 p2 => hh.sim w0 H0 w2 H2 σ env S2 O _ st2 ((PostX.bind p2).imp fun hi S3 w3 H3 st3 l3 p3 => by
    cases d with
    | lst ds =>
      obtain ⟨a, vs, e1, e2, e3⟩ := rep_lst (r.mono (l2.trans l3))
      exact ⟨a, vs, e1, .inl (.inl (st3.ok.ex _ _ e2)), fun q hq => p3 w3 _ (st3.lay hq nt_lst) (.refl w3) q (st3.own_new hq ⟨_, upd_same, rep_cut e3 lo hi⟩)⟩
    | scr ns =>
      have r3 := r.mono (l2.trans l3)
      unfold Rep at r3
      obtain ⟨a, e1, e2⟩ := r3
      exact ⟨a, _, e1, st3.ok.ex.seq e2, fun q hq => p3 w3 _ (st3.lay hq nt_lst) (.refl w3) q (st3.own_new hq ⟨_, upd_same, rep_cut (RepL.ints ns) lo hi⟩)⟩
    | _ => exact False.elim p3)))⟩
/-- t[a:b] of a tuple, not the whole -/
def eSlT (me : ME) (ml mh : MO) : ME := fun env S => (me env S).bind fun d S1 => (ml env S1).bind fun lo S2 => (mh env S2).bind fun hi S3 => match d with
  | .tup ds => .ok (.tup (cutD ds lo hi)) S3
  | _ => .stuck
/-! ### things of one's own change -/
/-- xs.append(e), xs in slot i -/
def sApp (i : Nat) (me : ME) : MS := fun env S => match env[i]? with
  | some (.o (.lst ds)) => (me env S).out env fun d S1 => if szB (ds.length + 1) then .nx (env.set i (.o (.lst (ds ++ [d])))) S1 else .stuck
  | _ => .stuck
theorem tyV_lst {K : PySem.W.Frag} {H : Hp} {p : Addr} {vs : List V} (h : H p = some (.lst vs)) : tyV K "list" (.ref p) H := .inl ⟨rfl, vs, .inl (.inl h)⟩
theorem t_app (i : Nat) {x : Str} {p1 apos cpos : Pos} (he : SE X Y W e te me) (hK : X.K = Y.K := by rfl) (hN : X.N[i]? = some x := by rfl) (hv : Vis X.env.scope x := by first | exact Or.inl rfl | exact Or.inr (Or.inl rfl) | exact Or.inr (Or.inr rfl)) (hd : (x == ("__debug__" : Str)) = false := by decide)
    (hcd : (x == ("__classdict__" : Str)) = false := by decide) (hbase : attributeBase (.Name x p1) "append" X.env (eval (.Name x p1) X.env) = eval (.Name x p1) X.env := by rfl)
    (hfew : ((backTo cpos (starEach [e] X.env)).all (fun x => !x.1) && (backToKw cpos (keywordEach [] X.env)).all (fun x => x.1.isSome)
      && decide ([e].length + ([] : List Keyword).length + (if ([] : List Keyword).isEmpty then 0 else 1) < 30)) = true := by rfl)
    (hline : (apos.endLine == cpos.line) = true := by rfl) (hs : starEach [e] X.env = (false, eval e X.env) :: starEach [] X.env := by rfl) (hplain : (backTo cpos (starEach [] X.env)).any (·.1) = false := by rfl)
    (hsw : swapsWith (.Call (.Attribute (.Name x p1) "append" apos) [e] [] cpos) none pos.line X.env = pure false := by rfl) :
    SS X Y W (.Expr (.Call (.Attribute (.Name x p1) "append" apos) [e] [] cpos) pos) (tDrop (tBM Y.K "list" rAppend (tVar i) (tCons te tNil))) (sApp i me) :=
  ⟨hK ▸ ps_expr (pe_bm PySem.F.plainAttrs_list PySem.F.slot_list_append PySem.F.type_list_append mt_append (pv i hN hv hd hcd) (pa_cons he.pe pa_nil hs) hbase hfew hline hs hplain) hsw, fun w0 H0 w H σ env S O Dn st p => by
    unfold sApp at p
    split at p
    · rename_i ds hs
      obtain ⟨q, e1, e2, e3, ⟨vs, e4, e4'⟩, e5, e6, hi⟩ := st.own_at hs
      refine ⟨.ref q, e1, tyV_lst e4, ?_⟩
      refine he.sim w0 H0 w H σ env S O _ st ((PostS.out p).imp fun d S1 w1 H1 st1 l1 p1 v r => ?_)
      split at p1
      · rename_i hz
        obtain ⟨q', f1, f2, f3, ⟨us, f4, f4'⟩, f5, f6, _⟩ := st1.own_at hs
        rw [e2] at f2
        cases f2
        have hz2 : us.length < sizeLine := Nat.lt_of_lt_of_le (by rw [← f4'.len]; exact Nat.lt_succ_self _) (szB_le hz)
        refine ⟨q, us, v, rfl, rfl, f4, hz2, ?_⟩
        exact p1 w1 _ σ O (st1.mut hs e2 ⟨_, upd_same, f4'.append_ (RepL.cons_ r RepL.nil_)⟩ nt_lst) (.refl w1)
      · exact False.elim p1
    · exact p.elim⟩
/-- xs.insert(k, e), xs in slot i -/
def sIns (i : Nat) (mk me : ME) : MS := fun env S => match env[i]? with
  | some (.o (.lst ds)) => (mk env S).out env fun k S1 => (me env S1).out env fun d S2 => match k with
    | .int k => if decide (0 ≤ k) && (bBnd k 9223372036854775807 && szB (ds.length + 1)) then .nx (env.set i (.o (.lst (ds.take k.toNat ++ [d] ++ ds.drop k.toNat)))) S2 else .stuck
    | _ => .stuck
  | _ => .stuck
theorem t_ins (i : Nat) {x : Str} {p1 apos cpos : Pos} (hk : SE X Y W a ta ma) (he : SE X Y W e te me) (hK : X.K = Y.K := by rfl) (hN : X.N[i]? = some x := by rfl) (hv : Vis X.env.scope x := by first | exact Or.inl rfl | exact Or.inr (Or.inl rfl) | exact Or.inr (Or.inr rfl)) (hd : (x == ("__debug__" : Str)) = false := by decide)
    (hcd : (x == ("__classdict__" : Str)) = false := by decide) (hbase : attributeBase (.Name x p1) "insert" X.env (eval (.Name x p1) X.env) = eval (.Name x p1) X.env := by rfl)
    (hfew : ((backTo cpos (starEach [a, e] X.env)).all (fun x => !x.1) && (backToKw cpos (keywordEach [] X.env)).all (fun x => x.1.isSome)
      && decide ([a, e].length + ([] : List Keyword).length + (if ([] : List Keyword).isEmpty then 0 else 1) < 30)) = true := by rfl)
    (hline : (apos.endLine == cpos.line) = true := by rfl) (hs : starEach [a, e] X.env = (false, eval a X.env) :: starEach [e] X.env := by rfl) (hs2 : starEach [e] X.env = (false, eval e X.env) :: starEach [] X.env := by rfl) (hplain : (backTo cpos (starEach [e] X.env)).any (·.1) = false := by rfl)
    (hsw : swapsWith (.Call (.Attribute (.Name x p1) "insert" apos) [a, e] [] cpos) none pos.line X.env = pure false := by rfl) :
    SS X Y W (.Expr (.Call (.Attribute (.Name x p1) "insert" apos) [a, e] [] cpos) pos) (tDrop (tBM Y.K "list" (fun x vs H Q => ∃ (l : Addr) (xs : List V) (i : Int) (y : V), x = .ref l ∧ vs = [.int i, y] ∧ H l = some (.lst xs) ∧ xs.length < sizeLine ∧ 0 ≤ i ∧ i < 2 ^ 63 ∧
    Q .non (upd H l (.lst (xs.take i.toNat ++ [y] ++ xs.drop i.toNat)))) (tVar i) (tCons ta (tCons te tNil)))) (sIns i ma me) :=
  ⟨hK ▸ ps_expr (pe_bm PySem.F.plainAttrs_list PySem.F.slot_list_insert PySem.F.type_list_insert mt_insert (pv i hN hv hd hcd) (pa_cons hk.pe (pa_cons he.pe pa_nil hs2) hs) hbase hfew hline hs hplain) hsw, fun w0 H0 w H σ env S O Dn st p => by
    unfold sIns at p
    split at p
    · rename_i ds hs
      obtain ⟨q, e1, e2, e3, ⟨vs, e4, e4'⟩, e5, e6, hi⟩ := st.own_at hs
      refine ⟨.ref q, e1, tyV_lst e4, ?_⟩
      refine hk.sim w0 H0 w H σ env S O _ st ((PostS.out p).imp fun k S1 w1 H1 st1 l1 p1 kv kr => ?_)
      refine he.sim w0 H0 w1 H1 σ env S1 O _ st1 ((PostS.out p1).imp fun d S2 w2 H2 st2 l2 p2 v r => ?_)
      cases k with
      | int k =>
        simp only at p2
        split at p2
        · rename_i hz
          simp only [Bool.and_eq_true, decide_eq_true_eq, bBnd_iff] at hz
          obtain ⟨q', f1, f2, f3, ⟨us, f4, f4'⟩, f5, f6, _⟩ := st2.own_at hs
          rw [e2] at f2
          cases f2
          have hz2 : us.length < sizeLine := Nat.lt_of_lt_of_le (by rw [← f4'.len]; exact Nat.lt_succ_self _) (szB_le hz.2.2)
          refine ⟨q, us, k, v, rfl, by rw [rep_int kr], f4, hz2, hz.1, by have := hz.1; have := hz.2.1; omega, ?_⟩
          exact p2 w2 _ σ O (st2.mut hs e2 ⟨_, upd_same, ((f4'.take_ _).append_ (RepL.cons_ r RepL.nil_)).append_ (f4'.drop_ _)⟩ nt_lst) (.refl w2)
        · exact False.elim p2
      | _ => exact False.elim p2
    · exact p.elim⟩
/-- xs[k] = e, xs in slot i (of one's own), or a cell -/
def sPut (i : Nat) (mk me : ME) : MS := fun env S => (me env S).out env fun d S1 => match env[i]? with
  | some (.o (.lst ds)) => (mk env S1).out env fun k S2 => (match k with
    | .int k => (match ixN ds.length k with
      | some j => .nx (env.set i (.o (.lst (ds.set j d)))) S2
      | none => .stuck)
    | _ => .stuck)
  | some (.v (.ref n)) => (mk env S1).out env fun k S2 => (match S2[n]?, k with
    | some (.lst ds), .int k => (match ixN ds.length k with
      | some j => .nx env (S2.set n (.lst (ds.set j d)))
      | none => .stuck)
    | _, _ => .stuck)
  | _ => .stuck
theorem sim_put {g : Gam} {i : Nat} (hk : SimE g W ta ma) (he : SimE g W te me) : SimS g W (tAsg te (gSub (tVar i) ta rSetL)) (sPut i ma me) := fun w0 H0 w H σ env S O Dn st p => by
  refine he w0 H0 w H σ env S O _ st ((PostS.out p).imp fun d S1 w1 H1 st1 l1 p1 v r => ?_)
  split at p1
  · rename_i ds hs
    obtain ⟨q, e1, e2, e3, e4, e5, e6, hi⟩ := st1.own_at hs
    refine ⟨.ref q, e1, ?_⟩
    refine hk w0 H0 w1 H1 σ env S1 O _ st1 ((PostS.out p1).imp fun k S2 w2 H2 st2 l2 p2 kv kr => ?_)
    split at p2
    · rename_i k
      split at p2
      · rename_i j hj
        obtain ⟨q', f1, f2, f3, ⟨us, f4, f4'⟩, f5, f6, _⟩ := st2.own_at hs
        rw [e2] at f2
        cases f2
        refine ⟨q, us, k, j, rfl, rep_int kr, f4, by rw [← f4'.len]; exact hj, ?_⟩
        exact p2 w2 _ σ O (st2.mut hs e2 ⟨_, upd_same, f4'.set_ (r.mono l2) j⟩ nt_lst) (.refl w2)
      · exact False.elim p2
    · exact False.elim p2
  · rename_i n hs
    have hi : i < σ.length := by
      rw [← st1.l1]
      exact (List.getElem?_eq_some_iff.mp hs).1
    have hO : i < O.length := by
      rw [st1.l2]
      exact hi
    obtain ⟨_, x, ex, rx⟩ := st1.sl i (.v (.ref n)) σ[i] O[i] hs (List.getElem?_eq_getElem hi) (List.getElem?_eq_getElem hO)
    refine ⟨x, by rw [List.getElem?_eq_getElem hi, ex], ?_⟩
    refine hk w0 H0 w1 H1 σ env S1 O _ st1 ((PostS.out p1).imp fun k S2 w2 H2 st2 l2 p2 kv kr => ?_)
    split at p2
    · rename_i ds k hS
      split at p2
      · rename_i j hj
        obtain ⟨a, us, x1, x2, x3, x4⟩ := cell_lst st2.ok (rx.mono l2) hS
        refine ⟨a, us, k, j, x1, rep_int kr, x3, by rw [← x4.len]; exact hj, ?_⟩
        obtain ⟨k3, f3⟩ := ok_cell (c' := .lst (ds.set j d)) st2.ok x2 hS (o := .lst (us.set j v)) ⟨_, upd_same, x4.set_ (r.mono l2) j⟩ nt_lst
        exact p2 w2 _ σ O (st2.after f3 k3) (.refl w2)
      · exact False.elim p2
    · exact False.elim p2
  · exact p1.elim
theorem t_put (i : Nat) {x : Str} {p1 p2 : Pos} (hk : SE X Y W a ta ma) (he : SE X Y W e te me) (hN : X.N[i]? = some x := by rfl) (hv : Vis X.env.scope x := by first | exact Or.inl rfl | exact Or.inr (Or.inl rfl) | exact Or.inr (Or.inr rfl)) (hd : (x == ("__debug__" : Str)) = false := by decide)
    (hcd : (x == ("__classdict__" : Str)) = false := by decide) (ha : ∀ v, assign (.Subscript (.Name x p1) a p2) X.env v = (do
      let ov ← holding [v] (eval (.Name x p1) X.env)
      let iv ← holding [v, ov] (eval a X.env)
      standAt p2
      holding [v, ov, iv] (setItem ov iv v)
      release [v, ov, iv] []) := by intro _; rfl) (hs : swapsWithSole [.Subscript (.Name x p1) a p2] e pos.line X.env = pure false := by rfl) (hw : swappedStores [.Subscript (.Name x p1) a p2] e X.env = pure none := by rfl)
    (h1 : (assignEach [.Subscript (.Name x p1) a p2] X.env).map (·.2) = [assign (.Subscript (.Name x p1) a p2) X.env] := by rfl) :
    SS X Y W (.Assign [.Subscript (.Name x p1) a p2] e pos) (tAsg te (gSub (tVar i) ta rSetL)) (sPut i ma me) := ⟨ps_asg he.pe (pg_sub (pv i hN hv hd hcd) hk.pe set_list ha) hs hw h1, sim_put hk.sim he.sim⟩
/-! ### x += e -/
def sAug (i : Nat) (f : Int → Int → Int) (me : ME) : MS := fun env S => match env[i]? with
  | some (.v (.int k)) => (me env S).out env fun d S1 => (match d with
    | .int j => .nx (env.set i (.v (.int (f k j)))) S1
    | _ => .stuck)
  | _ => .stuck
theorem t_aug {i : Nat} {x : Str} {op : Operator} {f : Int → Int → Int} {pos' : Pos} (hN : X.N.Nodup) (hi : X.N[i]? = some x) (hx : Loc X.env.scope x) (ho : PIp X op (ipI f)) (he : SE X Y W e te me) (hf : X.fn x = true ∨ X.env.scope.names.lookup x = some .local := by first | exact .inl rfl | exact .inr rfl | assumption) :
    SS X Y W (.AugAssign (.Name x pos') op e pos) (tAug i te (ipI f)) (sAug i f me) := ⟨ps_aug hN hi hx he.pe ho hf, fun w0 H0 w H σ env S O Dn st p => by
  unfold sAug at p
  split at p
  · rename_i k hs
    have hi : i < σ.length := by
      rw [← st.l1]
      exact (List.getElem?_eq_some_iff.mp hs).1
    have hO : i < O.length := by
      rw [st.l2]
      exact hi
    obtain ⟨_, x, ex, rx⟩ := st.sl i (.v (.int k)) σ[i] O[i] hs (List.getElem?_eq_getElem hi) (List.getElem?_eq_getElem hO)
    refine ⟨x, by rw [List.getElem?_eq_getElem hi, ex], ?_⟩
    refine he.sim w0 H0 w H σ env S O _ st ((PostS.out p).imp fun d S1 w1 H1 st1 l1 p1 v r => ?_)
    split at p1
    · rename_i j
      exact ⟨k, j, rep_int rx, rep_int r, p1 w1 H1 _ _ (st1.set_v i rep_int') (.refl w1)⟩
    · exact False.elim p1
  · exact p.elim⟩
/-! ### raise -/
theorem pmk_own0 {C : Addr} {bmB : List Value} {B newId initId : String} (F : ExcBaseFacts B newId initId bmB) (q : PySem.W.excIn X.K C bmB newId = true) (gC : X.mg x = some (.ref C)) (kC : PySem.W.keepIn X.K (.ref C) = true) (r : Raises X (.ref C)) (hg : Gl X x)
    (hdb : (x == ("__debug__" : Str)) = false := by decide) : L2N.PMk X (.Call (.Name x p) [] [] pos) (fun _ H Q => Q (.ref C) none H) := by
  intro pins s σ H Q I h
  refine wpAny_Call_Name_kw (ld_glob I hg gC ?_ hdb)
  refine PySem.W.callWith_K0 I.kIn kC ?_
  show wpAny _ _ (call (.ref C) []) _ _ _
  obtain ⟨bm, N, nm, qn, bs, hdct, sn, sub, ab, col, dd, k0, k1, k2, k3, k5, mN, hC, hN, hni, T⟩ := exc_obj I.kIn q
  refine wpAny_call_exc_subT F T hC hN hni (fun h' e hm => ?_) (by show 0 ≤ sizeLine; exact Nat.zero_le _)
  exact L2N.mk_of I hm r h (I.hok.gone hm.new)
def sRaise (c : Str) : MS := fun env S => .exc c none env S
theorem t_raise {x : Str} {pos' : Pos} (xP : PySem.W.excIn X.K (Y.ca x) [.type "ValueError", .type "Exception", .type "BaseException", .type "object"] "ValueError.__new__" = true) (gP : X.mg x = some (.ref (Y.ca x))) (kP : PySem.W.keepIn X.K (.ref (Y.ca x)) = true)
    (bP : PySem.W.subIn X.K (.ref (Y.ca x)) (.type "BaseException") = some true) (tP : PySem.W.typeIn X.K (.ref (Y.ca x)) = some (.type "type")) (tk : L2N.Takes X W) (hc : X.calm = true := by rfl) (hg : Gl X x := by rfl) (hdb : (x == ("__debug__" : Str)) = false := by decide) :
    SS X Y W (.Raise (some (.Call (.Name x p) [] [] pos)) none pos') (fun _ σ H => W (.ref (Y.ca x)) none σ H) (sRaise x) :=
  ⟨L2N.ps_raise hc tk (pmk_own0 PySem.F.excBase_ValueError xP gP kP (raises_own bP tP) hg hdb), fun w0 H0 w H σ env S O Dn st p => p w H σ O _ _ st (.refl w) ⟨rfl, rfl⟩⟩
end
end Mm
namespace Mm
open PySem L2
/-! ### fields -/
def putFD (f : Str) (v : D) : List (Str × D) → List (Str × D)
  | [] => [(f, v)]
  | (g, x) :: r => if g = f then (g, v) :: r else (g, x) :: putFD f v r
theorem RepF.look {g : Gam} {w : Wd} : ∀ {fs : List (Str × D)} {gs : List (Str × V)} {f : Str}, RepF g w fs gs → (∀ d, fs.lookup f = some d → ∃ v, gs.lookup f = some v ∧ Rep g w d v) ∧ (fs.lookup f = none → gs.lookup f = none)
  | [], gs, f, r => by
    unfold RepF at r
    subst r
    exact ⟨fun d h => (by cases h), fun _ => rfl⟩
  | (f', d') :: fs, gs, f, r => by
    unfold RepF at r
    obtain ⟨v, vr, e, a, b⟩ := r
    subst e
    have ih := RepF.look (f := f) b
    rw [List.lookup_cons, List.lookup_cons]
    cases f == f' with
    | true => exact ⟨fun d h => (by cases h; exact ⟨v, rfl, a⟩), fun h => (by cases h)⟩
    | false => exact ih
theorem RepF.put {g : Gam} {w : Wd} {f : Str} {d : D} {v : V} (q : Rep g w d v) : ∀ {fs : List (Str × D)} {gs : List (Str × V)}, RepF g w fs gs → RepF g w (putFD f d fs) (putF f v gs)
  | [], gs, r => by
    unfold RepF at r
    subst r
    unfold putFD putF RepF
    exact ⟨v, [], rfl, q, by unfold RepF; rfl⟩
  | (f', d') :: fs, gs, r => by
    unfold RepF at r
    obtain ⟨u, vr, e, a, b⟩ := r
    subst e
    unfold putFD putF
    by_cases h : f' = f
    · rw [if_pos h, if_pos h]
      unfold RepF
      exact ⟨v, vr, rfl, q, b⟩
    · rw [if_neg h, if_neg h]
      unfold RepF
      exact ⟨u, _, rfl, a, RepF.put q b⟩
theorem RepF.len {g : Gam} {w : Wd} : ∀ {fs : List (Str × D)} {gs : List (Str × V)}, RepF g w fs gs → fs.length = gs.length
  | [], gs, r => by
    unfold RepF at r
    subst r
    rfl
  | (f', d') :: fs, gs, r => by
    unfold RepF at r
    obtain ⟨u, vr, e, a, b⟩ := r
    subst e
    rw [List.length_cons, List.length_cons, RepF.len b]
/-- the fields of a thing of the class c -/
def insOf (c : Str) (S : Sto) : D → Option (List (Str × D))
  | .ins c' fs => if c' = c then some fs else none
  | .ref n => (match S[n]? with
    | some (.ins c' fs) => if c' = c then some fs else none
    | _ => none)
  | _ => none
theorem insOf_rep {g : Gam} {w : Wd} {H : Hp} {S : Sto} {c : Str} {d : D} {v : V} {fs : List (Str × D)} (k : Ok g w H S) (r : Rep g w d v) (h : insOf c S d = some fs) : ∃ a dx gs, v = .ref a ∧ H a = some (.ins (g.ca c) dx gs) ∧ RepF g w fs gs := by
  unfold insOf at h
  split at h
  · split at h
    · rename_i c' fs' e
      cases h
      subst e
      unfold Rep at r
      obtain ⟨a, dx, gs, e1, e2, e3⟩ := r
      exact ⟨a, dx, gs, e1, k.ex _ _ e2, e3⟩
    · cases h
  · rename_i n
    split at h
    · rename_i c' fs' hS
      split at h
      · rename_i e
        cases h
        subst e
        obtain ⟨a, e1, e2⟩ := rep_ref r
        obtain ⟨_, dx, gs, e3, e4⟩ := k.cells.at_ n a _ e1 hS
        exact ⟨a, dx, gs, e2, e3, e4⟩
      · cases h
    · cases h
  · cases h
section
variable {X : Cx} {Y : Gam} {W : WX} {e a b c tg iter elt o : Expr} {es rest ifs : List Expr} {ta tb te : TE} {tt tu : TT} {ma mb me : ME} {mt mu : MT} {mf : MF} {t : TA} {m : MA} {pos p apos : Pos} {s : Stmt} {ss : List Stmt} {t1 t2 : TS} {m1 m2 : MS} {wi : TI} {mi : MI} {x f : Str}
def eFld (c f : Str) (me : ME) : ME := fun env S => (me env S).bind fun d S1 => match insOf c S1 d with
  | some fs => opt (fs.lookup f) S1
  | none => .stuck
theorem s_fld (c : Str) (hC : Cls X.K (Y.ca c)) (hn : NoAttr X.K (Y.ca c) f) (he : SE X Y W e te me) (hK : X.K = Y.K := by rfl) (hb : attributeBase e f X.env (eval e X.env) = eval e X.env := by rfl) : SE X Y W (.Attribute e f pos) (tFld Y.K te f) (eFld c f me) := ⟨hK ▸ pe_fld he.pe hb, fun w0 H0 w H σ env S O Q st p =>
  he.sim w0 H0 w H σ env S O _ st ((PostX.bind p).imp fun d S1 w1 H1 st1 l1 p1 v r => by
    split at p1
    · rename_i fs hf
      obtain ⟨a, dx, gs, e1, e2, e3⟩ := insOf_rep st1.ok r hf
      obtain ⟨d', e4, k⟩ := PostX.opt_ p1 st1
      obtain ⟨v', e5, e6⟩ := (RepF.look e3).1 d' e4
      exact ⟨a, _, dx, gs, v', e1, e2, hK ▸ hC, hK ▸ hn, e5, k w1 H1 st1 (.refl w1) v' e6⟩
    · exact False.elim p1)⟩
/-- self.f = e, self a cell -/
def sFldC (c f : Str) (mo me : ME) : MS := fun env S => (me env S).out env fun y S1 => (mo env S1).out env fun d S2 => match d with
  | .ref n => (match S2[n]? with
    | some (.ins c' fs) => if c' = c ∧ fs.length < 1000 then .nx env (S2.set n (.ins c (putFD f y fs))) else .stuck
    | _ => .stuck)
  | _ => .stuck
theorem t_fld (c : Str) {pos' : Pos} (hC : Cls X.K (Y.ca c)) (hn : NoAttr X.K (Y.ca c) f) (ho : SE X Y W o ta ma) (he : SE X Y W e te me) (hK : X.K = Y.K := by rfl) (hs : swapsWith e (some (.Attribute o f pos')) pos.line X.env = pure false := by rfl) :
    SS X Y W (.Assign [.Attribute o f pos'] e pos) (sFld Y.K ta te f) (sFldC c f ma me) := ⟨hK ▸ ps_fld ho.pe he.pe hs, fun w0 H0 w H σ env S O Dn st p =>
  he.sim w0 H0 w H σ env S O _ st ((PostS.out p).imp fun y S1 w1 H1 st1 l1 p1 yv ry => ho.sim w0 H0 w1 H1 σ env S1 O _ st1 ((PostS.out p1).imp fun d S2 w2 H2 st2 l2 p2 v r => by
    split at p2
    · rename_i n
      split at p2
      · rename_i c' fs hS
        split at p2
        · rename_i hc
          obtain ⟨ec, hl⟩ := hc
          subst ec
          obtain ⟨a, e1, e2⟩ := rep_ref r
          obtain ⟨_, dx, gs, e3, e4⟩ := st2.ok.cells.at_ n a _ e1 hS
          refine ⟨a, _, dx, gs, e2, e3, hK ▸ hC, hK ▸ hn, by rw [← e4.len]; exact hl, ?_⟩
          obtain ⟨k3, f3⟩ := ok_cell (c' := .ins c' (putFD f y fs)) st2.ok e1 hS (o := .ins _ dx (putF f yv gs)) ⟨dx, _, upd_same, RepF.put (ry.mono l2) e4⟩ nt_ins
          exact p2 w2 _ σ O (st2.after f3 k3) (.refl w2)
        · exact False.elim p2
      · exact False.elim p2
    · exact False.elim p2))⟩
/-! ### methods -/
variable {k n : Nat} {fa C : Addr} {fd : FuncData} {ps : List Str} {mf : MFn} {dvs : List V} {ds : List Value} {dd : List D}
def tMethS (C : Addr) (m : Str) (sp : Sp) (dvs : List V) (E : L2.St → XK) (ta : TE) (t : TA) : TE := fun σ H Q => ta σ H fun x H1 => ∃ a dx fs, x = .ref a ∧ H1 a = some (.ins C dx fs) ∧ fs.lookup m = none ∧
  t σ H1 fun vs H2 => sp (x :: (vs ++ dvs)) H2 Q (E σ)
theorem pe_methS {CX : CXT} {sp : Sp} {E : L2.St → XK} {pl : Sem Bool} (he : PE X o ta) (c : Cls X.K C) (hm : Meth X.K C x fa) (F : FnOk X.prog X.w X.K X.mg X.base CX k fa fd ps sp) (hr : Room k X.A) (hb : Binds X.K fd ps ds) (hd : Vals dvs ds) (hx : ∀ σ, PassesAt CX X σ (E σ)) (ha : PA X (e :: es) t)
    (hst : starEach (e :: es) X.env = (false, eval e X.env) :: starEach es X.env) (hpl : (backTo pos (starEach es X.env)).any (·.1) = false)
    (ht : eval (.Call (.Attribute o x apos) (e :: es) [] pos) X.env = (do
      let ov ← eval o X.env
      standAt apos.atName
      let (f, first) ← holding [ov] (getMethod ov x pl)
      callWith pos f first (backTo pos (starEach (e :: es) X.env)) (backToKw pos (keywordEach [] X.env)))) :
    PE X (.Call (.Attribute o x apos) (e :: es) [] pos) (tMethS C x sp dvs E ta t) := by
  refine ⟨fun pins s σ H Q I h => ?_⟩
  refine PySem.W.methodCall_KW (pl := pl) (thn (he.run pins s σ H _ I h) fun u s1 ⟨x, H1, I1, rx, a, dx, fs, ex, ea, l, q⟩ => ?_) ht
  subst ex
  obtain rfl : u = Value.ref a := rx
  refine getmeth_ok I1 ea c hm l ?_
  refine PySem.W.callWith_K (first := [.ref a]) (h₀ := X.base) I.ok.mod.kin hm.kp (thn (ha.run pos pins s1 σ H1 _ I1 q) fun us s2 ⟨vs, H2, I2, r, q2⟩ => ⟨I2.kIn, ?_⟩) hst hpl
  exact run_fnSD (us := .ref a :: us) (vs := .ref a :: vs) F hr hb hd (hx σ) I2 (.cons rfl r) q2
theorem pe_methS0 {CX : CXT} {sp : Sp} {E : L2.St → XK} {pl : Sem Bool} (he : PE X o ta) (c : Cls X.K C) (hm : Meth X.K C x fa) (F : FnOk X.prog X.w X.K X.mg X.base CX k fa fd ps sp) (hr : Room k X.A) (hb : Binds X.K fd ps ds) (hd : Vals dvs ds) (hx : ∀ σ, PassesAt CX X σ (E σ))
    (ht : eval (.Call (.Attribute o x apos) [] [] pos) X.env = (do
      let ov ← eval o X.env
      standAt apos.atName
      let (f, first) ← holding [ov] (getMethod ov x pl)
      callWith pos f first (backTo pos (starEach [] X.env)) (backToKw pos (keywordEach [] X.env)))) :
    PE X (.Call (.Attribute o x apos) [] [] pos) (tMethS C x sp dvs E ta tNil) := by
  refine ⟨fun pins s σ H Q I h => ?_⟩
  refine PySem.W.methodCall_KW (pl := pl) (thn (he.run pins s σ H _ I h) fun u s1 ⟨x, H1, I1, rx, a, dx, fs, ex, ea, l, q⟩ => ?_) ht
  subst ex
  obtain rfl : u = Value.ref a := rx
  refine getmeth_ok I1 ea c hm l ?_
  exact PySem.W.callWith_K0 (first := [.ref a]) I1.kIn hm.kp (run_fnSD (us := [.ref a]) (vs := [.ref a]) F hr hb hd (hx σ) I1 (.cons rfl .nil) q)
/-- the receiver, then the arguments; then the def -/
def mGo {α : Type} (c x : Str) (mf : MFn) (dd : List D) (mo : ME) (m : MA) (F : Ret → Sto → R α) : Envr → Sto → R α := fun env S => (mo env S).bind fun o S1 => match insOf c S1 o with
  | some fs => if fs.lookup x = none then (m env S1).bind fun ds S2 => (mf (o :: (ds ++ dd)) S2).bind F else .stuck
  | none => .stuck
def eMeth (c x : Str) (mf : MFn) (dd : List D) (mo : ME) (m : MA) : ME := mGo c x mf dd mo m fun r S => .ok r.d S
def fMeth (c x : Str) (mf : MFn) (dd : List D) (mo : ME) (m : MA) : MF := mGo c x mf dd mo m rOwn
theorem sim_methA {α : Type} {F : Ret → Sto → R α} {g : Gam} {c : Str} (hdv : ∀ w, RepL g w dd dvs) (ho : SimE g W ta ma) (ha : SimA g W t m) (hlen : ∀ env S ds S1, m env S = .ok ds S1 → ds.length + dd.length + 1 = n) {w0 w : Wd} {H0 H : Hp} {σ : L2.St} {env : Envr} {S : Sto} {O : List (Option Addr)} {kk : α → Sto → Wd → Hp → Prop} {Q : VK}
    (st : StR g w0 H0 w H σ env S O) (p : PostX g W w0 H0 w σ env O (mGo c x mf dd ma m F env S) kk)
    (fin : ∀ w1 H1 S1 r, StR g w0 H0 w1 H1 σ env S1 O → PostX g W w0 H0 w1 σ env O (r.bind F) kk → PostF g w1 H1 Q (WE W σ) r) : tMethS (g.ca c) x (spOf g n mf) dvs (WE W) ta t σ H Q := by
  refine ho w0 H0 w H σ env S O _ st ((PostX.bind p).imp fun od S1 w1 H1 st1 l1 p1 ov or => ?_)
  split at p1
  · rename_i fs hf
    split at p1
    · rename_i hx
      obtain ⟨a, dx, gs, e1, e2, e3⟩ := insOf_rep st1.ok or hf
      refine ⟨a, dx, gs, e1, e2, (RepF.look e3).2 hx, ?_⟩
      refine ha w0 H0 w1 H1 σ env S1 O _ st1 ?_
      have p2 := PostX.bind p1
      cases e : m env S1 with
      | stuck => rw [e] at p2; exact p2
      | exc c q S2 => rw [e] at p2; exact p2
      | ok ds S2 =>
        rw [e] at p2
        intro w2 H2 st2 l2 vs rs
        have p3 := p2 w2 H2 st2 l2
        have r2 := RepL.cons_ (or.mono l2) (rs.append_ (hdv w2))
        refine ⟨?_, w2, od :: (ds ++ dd), S2, st2.ok, r2, fin w2 H2 S2 _ st2 p3⟩
        rw [← r2.len, List.length_cons, List.length_append]
        exact hlen env S1 ds S2 e
    · exact False.elim p1
  · exact False.elim p1
theorem s_meth (c : Str) {pl : Sem Bool} (ho : SE X Y W o ta ma) (hC : Cls X.K (Y.ca c)) (hm : Meth X.K (Y.ca c) x fa) (F : FnOk X.prog X.w X.K X.mg X.base (L2N.CX X.prog X.w) k fa fd ps (spOf Y n mf)) (hr : Room k X.A) (hb : Binds X.K fd ps ds) (hd : Vals dvs ds) (hdv : ∀ w, RepL Y w dd dvs) (tk : L2N.Takes X W)
    (ha : SA X Y W (e :: es) t m) (hn : (e :: es).length + dd.length + 1 = n := by rfl) (hst : starEach (e :: es) X.env = (false, eval e X.env) :: starEach es X.env := by rfl) (hpl : (backTo pos (starEach es X.env)).any (·.1) = false := by rfl)
    (ht : eval (.Call (.Attribute o x apos) (e :: es) [] pos) X.env = (do
      let ov ← eval o X.env
      standAt apos.atName
      let (f, first) ← holding [ov] (getMethod ov x pl)
      callWith pos f first (backTo pos (starEach (e :: es) X.env)) (backToKw pos (keywordEach [] X.env))) := by rfl) :
    SE X Y W (.Call (.Attribute o x apos) (e :: es) [] pos) (tMethS (Y.ca c) x (spOf Y n mf) dvs (WE W) ta t) (eMeth c x mf dd ma m) :=
  ⟨pe_methS ho.pe hC hm F hr hb hd (fun σ => L2N.passAt tk σ) ha.pa hst hpl ht, fun w0 H0 w H σ env S O Q st p => sim_methA (g := Y) hdv ho.sim ha.sim (fun env S ds S1 h => by rw [ha.len _ _ _ _ h]; exact hn) st p fun w1 H1 S1 r st1 p1 => post_val st1 p1⟩
theorem f_meth (c : Str) {pl : Sem Bool} (ho : SE X Y W o ta ma) (hC : Cls X.K (Y.ca c)) (hm : Meth X.K (Y.ca c) x fa) (F : FnOk X.prog X.w X.K X.mg X.base (L2N.CX X.prog X.w) k fa fd ps (spOf Y n mf)) (hr : Room k X.A) (hb : Binds X.K fd ps ds) (hd : Vals dvs ds) (hdv : ∀ w, RepL Y w dd dvs) (tk : L2N.Takes X W)
    (ha : SA X Y W (e :: es) t m) (hn : (e :: es).length + dd.length + 1 = n := by rfl) (hst : starEach (e :: es) X.env = (false, eval e X.env) :: starEach es X.env := by rfl) (hpl : (backTo pos (starEach es X.env)).any (·.1) = false := by rfl)
    (ht : eval (.Call (.Attribute o x apos) (e :: es) [] pos) X.env = (do
      let ov ← eval o X.env
      standAt apos.atName
      let (f, first) ← holding [ov] (getMethod ov x pl)
      callWith pos f first (backTo pos (starEach (e :: es) X.env)) (backToKw pos (keywordEach [] X.env))) := by rfl) :
    SF X Y W (.Call (.Attribute o x apos) (e :: es) [] pos) (tMethS (Y.ca c) x (spOf Y n mf) dvs (WE W) ta t) (fMeth c x mf dd ma m) :=
  ⟨pe_methS ho.pe hC hm F hr hb hd (fun σ => L2N.passAt tk σ) ha.pa hst hpl ht, fun w0 H0 w H σ env S O Q st p => sim_methA (g := Y) hdv ho.sim ha.sim (fun env S ds S1 h => by rw [ha.len _ _ _ _ h]; exact hn) st p fun w1 H1 S1 r st1 p1 => post_own st1 p1⟩
theorem s_meth0 (c : Str) {pl : Sem Bool} (ho : SE X Y W o ta ma) (hC : Cls X.K (Y.ca c)) (hm : Meth X.K (Y.ca c) x fa) (F : FnOk X.prog X.w X.K X.mg X.base (L2N.CX X.prog X.w) k fa fd ps (spOf Y n mf)) (hr : Room k X.A) (hb : Binds X.K fd ps ds) (hd : Vals dvs ds) (hdv : ∀ w, RepL Y w dd dvs) (tk : L2N.Takes X W)
    (hn : dd.length + 1 = n := by rfl)
    (ht : eval (.Call (.Attribute o x apos) [] [] pos) X.env = (do
      let ov ← eval o X.env
      standAt apos.atName
      let (f, first) ← holding [ov] (getMethod ov x pl)
      callWith pos f first (backTo pos (starEach [] X.env)) (backToKw pos (keywordEach [] X.env))) := by rfl) :
    SE X Y W (.Call (.Attribute o x apos) [] [] pos) (tMethS (Y.ca c) x (spOf Y n mf) dvs (WE W) ta tNil) (eMeth c x mf dd ma aNil) :=
  ⟨pe_methS0 ho.pe hC hm F hr hb hd (fun σ => L2N.passAt tk σ) ht, fun w0 H0 w H σ env S O Q st p => sim_methA (g := Y) hdv ho.sim (a_nil (X := X) (Y := Y)).sim (fun env S ds S1 h => by cases h; rw [← hn, List.length_nil]; omega) st p fun w1 H1 S1 r st1 p1 => post_val st1 p1⟩
theorem f_meth0 (c : Str) {pl : Sem Bool} (ho : SE X Y W o ta ma) (hC : Cls X.K (Y.ca c)) (hm : Meth X.K (Y.ca c) x fa) (F : FnOk X.prog X.w X.K X.mg X.base (L2N.CX X.prog X.w) k fa fd ps (spOf Y n mf)) (hr : Room k X.A) (hb : Binds X.K fd ps ds) (hd : Vals dvs ds) (hdv : ∀ w, RepL Y w dd dvs) (tk : L2N.Takes X W)
    (hn : dd.length + 1 = n := by rfl)
    (ht : eval (.Call (.Attribute o x apos) [] [] pos) X.env = (do
      let ov ← eval o X.env
      standAt apos.atName
      let (f, first) ← holding [ov] (getMethod ov x pl)
      callWith pos f first (backTo pos (starEach [] X.env)) (backToKw pos (keywordEach [] X.env))) := by rfl) :
    SF X Y W (.Call (.Attribute o x apos) [] [] pos) (tMethS (Y.ca c) x (spOf Y n mf) dvs (WE W) ta tNil) (fMeth c x mf dd ma aNil) :=
  ⟨pe_methS0 ho.pe hC hm F hr hb hd (fun σ => L2N.passAt tk σ) ht, fun w0 H0 w H σ env S O Q st p => sim_methA (g := Y) hdv ho.sim (a_nil (X := X) (Y := Y)).sim (fun env S ds S1 h => by cases h; rw [← hn, List.length_nil]; omega) st p fun w1 H1 S1 r st1 p1 => post_own st1 p1⟩
end
end Mm
namespace Mm
open PySem L2
/-! ### things below a count of cells -/
mutual
def D.under (n : Nat) : D → Prop
  | .lst ds => underL n ds
  | .tup ds => underL n ds
  | .ins _ fs => underF n fs
  | .ref m => m < n
  | .dic ks => underK n ks
  | _ => True
def underL (n : Nat) : List D → Prop
  | [] => True
  | d :: ds => d.under n ∧ underL n ds
def underF (n : Nat) : List (Str × D) → Prop
  | [] => True
  | (_, d) :: ds => d.under n ∧ underF n ds
def underK (n : Nat) : List (Key × D) → Prop
  | [] => True
  | (_, d) :: ds => d.under n ∧ underK n ds
end
theorem under_ints (n : Nat) : ∀ ns : List Int, underL n (ns.map D.int)
  | [] => by unfold List.map underL; trivial
  | i :: ns => by
    unfold List.map underL
    exact ⟨by unfold D.under; trivial, under_ints n ns⟩
mutual
theorem Rep.under {g : Gam} {w : Wd} : ∀ {d : D} {v : V}, Rep g w d v → d.under w.rho.length
  | .non, _, _ => by unfold D.under; trivial
  | .bl _, _, _ => by unfold D.under; trivial
  | .int _, _, _ => by unfold D.under; trivial
  | .str _, _, _ => by unfold D.under; trivial
  | .scr _, _, _ => by unfold D.under; trivial
  | .ty _, _, _ => by unfold D.under; trivial
  | .cls _, _, _ => by unfold D.under; trivial
  | .adr _, _, _ => by unfold D.under; trivial
  | .set _, _, _ => by unfold D.under; trivial
  | .dic ds, v, h => by
    unfold Rep at h
    obtain ⟨a, vs, _, _, r⟩ := h
    unfold D.under
    exact RepK.under r
  | .lst ds, v, h => by
    obtain ⟨a, vs, _, _, r⟩ := rep_lst h
    unfold D.under
    exact RepL.under r
  | .tup ds, v, h => by
    obtain ⟨a, vs, _, _, r⟩ := rep_tup h
    unfold D.under
    exact RepL.under r
  | .ins c fs, v, h => by
    unfold Rep at h
    obtain ⟨a, dx, gs, _, _, r⟩ := h
    unfold D.under
    exact RepF.under r
  | .ref n, v, h => by
    obtain ⟨a, e, _⟩ := rep_ref h
    unfold D.under
    exact (List.getElem?_eq_some_iff.mp e).1
theorem RepL.under {g : Gam} {w : Wd} : ∀ {ds : List D} {vs : List V}, RepL g w ds vs → underL w.rho.length ds
  | [], _, _ => by unfold underL; trivial
  | d :: ds, vs, h => by
    unfold RepL at h
    obtain ⟨v, r, e, a, b⟩ := h
    unfold underL
    exact ⟨Rep.under a, RepL.under b⟩
theorem RepF.under {g : Gam} {w : Wd} : ∀ {ds : List (Str × D)} {vs : List (Str × V)}, RepF g w ds vs → underF w.rho.length ds
  | [], _, _ => by unfold underF; trivial
  | (f, d) :: ds, vs, h => by
    unfold RepF at h
    obtain ⟨v, r, e, a, b⟩ := h
    unfold underF
    exact ⟨Rep.under a, RepF.under b⟩
theorem RepK.under {g : Gam} {w : Wd} : ∀ {ds : List (Key × D)} {vs : List (Key × V)}, RepK g w ds vs → underK w.rho.length ds
  | [], _, _ => by unfold underK; trivial
  | (f, d) :: ds, vs, h => by
    unfold RepK at h
    obtain ⟨v, r, e, a, b⟩ := h
    unfold underK
    exact ⟨a.under, RepK.under b⟩
end
/-- the world without its last cells, with more that stands still -/
structure Wd.cut (w w' : Wd) (n : Nat) : Prop where
  pre : ∀ m a, m < n → w.rho[m]? = some a → w'.rho[m]? = some a
  ex : Same w.G w'.G
mutual
theorem Rep.cut {g : Gam} {w w' : Wd} {n : Nat} (l : w.cut w' n) : ∀ {d : D} {v : V}, Rep g w d v → d.under n → Rep g w' d v
  | .non, _, h, _ => h
  | .bl _, _, h, _ => h
  | .int _, _, h, _ => h
  | .str _, _, h, _ => h
  | .lst ds, v, h, k => by
    unfold Rep at h ⊢
    unfold D.under at k
    obtain ⟨a, vs, e, q, r⟩ := h
    exact ⟨a, vs, e, l.ex _ _ q, RepL.cut l r k⟩
  | .tup ds, v, h, k => by
    unfold Rep at h ⊢
    unfold D.under at k
    obtain ⟨a, vs, e, q, r⟩ := h
    exact ⟨a, vs, e, same_sqT l.ex q, RepL.cut l r k⟩
  | .ins c fs, v, h, k => by
    unfold Rep at h ⊢
    unfold D.under at k
    obtain ⟨a, dx, gs, e, q, r⟩ := h
    exact ⟨a, dx, gs, e, l.ex _ _ q, RepF.cut l r k⟩
  | .ref n, v, h, k => by
    unfold Rep at h ⊢
    unfold D.under at k
    obtain ⟨a, e, q⟩ := h
    exact ⟨a, l.pre _ _ k e, q⟩
  | .scr ns, v, h, _ => by
    unfold Rep at h ⊢
    obtain ⟨a, e, q⟩ := h
    exact ⟨a, e, l.ex.seq q⟩
  | .ty _, _, h, _ => h
  | .cls _, _, h, _ => h
  | .adr _, _, h, _ => h
  | .set xs, v, h, _ => by
    unfold Rep at h ⊢
    obtain ⟨a, q, e, r, s⟩ := h
    exact ⟨a, q, e, l.ex _ _ r, s⟩
  | .dic ds, v, h, k => by
    unfold Rep at h ⊢
    unfold D.under at k
    obtain ⟨a, vs, e, q, r⟩ := h
    exact ⟨a, vs, e, l.ex _ _ q, RepK.cut l r k⟩
theorem RepL.cut {g : Gam} {w w' : Wd} {n : Nat} (l : w.cut w' n) : ∀ {ds : List D} {vs : List V}, RepL g w ds vs → underL n ds → RepL g w' ds vs
  | [], _, h, _ => h
  | d :: ds, vs, h, k => by
    unfold RepL at h ⊢
    unfold underL at k
    obtain ⟨v, r, e, a, b⟩ := h
    exact ⟨v, r, e, Rep.cut l a k.1, RepL.cut l b k.2⟩
theorem RepF.cut {g : Gam} {w w' : Wd} {n : Nat} (l : w.cut w' n) : ∀ {ds : List (Str × D)} {vs : List (Str × V)}, RepF g w ds vs → underF n ds → RepF g w' ds vs
  | [], _, h, _ => h
  | (f, d) :: ds, vs, h, k => by
    unfold RepF at h ⊢
    unfold underF at k
    obtain ⟨v, r, e, a, b⟩ := h
    exact ⟨v, r, e, Rep.cut l a k.1, RepF.cut l b k.2⟩
theorem RepK.cut {g : Gam} {w w' : Wd} {n : Nat} (l : w.cut w' n) : ∀ {ds : List (Key × D)} {vs : List (Key × V)}, RepK g w ds vs → underK n ds → RepK g w' ds vs
  | [], _, h, _ => h
  | (f, d) :: ds, vs, h, k => by
    unfold RepK at h ⊢
    unfold underK at k
    obtain ⟨v, r, e, a, b⟩ := h
    exact ⟨v, r, e, a.cut l k.1, RepK.cut l b k.2⟩
end
def Cell.under (n : Nat) : Cell → Prop
  | .lst ds => underL n ds
  | .ins _ fs => underF n fs
  | .dic ks => underK n ks
theorem CellR.under {g : Gam} {w : Wd} {H : Hp} {a : Addr} {c : Cell} (h : CellR g w H a c) : c.under w.rho.length := by
  cases c with
  | lst ds =>
    obtain ⟨vs, _, r⟩ := h
    exact r.under
  | ins c fs =>
    obtain ⟨dx, gs, _, r⟩ := h
    exact r.under
  | dic ks =>
    obtain ⟨gs, _, r⟩ := h
    exact r.under
theorem CellR.cut {g : Gam} {w w' : Wd} {H : Hp} {a : Addr} {c : Cell} {n : Nat} (l : w.cut w' n) (h : CellR g w H a c) (k : c.under n) : CellR g w' H a c := by
  cases c with
  | lst ds =>
    obtain ⟨vs, e, r⟩ := h
    exact ⟨vs, e, r.cut l k⟩
  | ins c fs =>
    obtain ⟨dx, gs, e, r⟩ := h
    exact ⟨dx, gs, e, r.cut l k⟩
  | dic ks =>
    obtain ⟨gs, e, r⟩ := h
    exact ⟨gs, e, r.cut l k⟩
section
variable {X : Cx} {Y : Gam} {W : WX} {e a b c tg iter elt o : Expr} {es rest ifs : List Expr} {ta tb te : TE} {tt tu : TT} {ma mb me : ME} {mt mu : MT} {t : TA} {m : MA} {pos p apos : Pos} {x f : Str}
variable {k n : Nat} {fa C : Addr} {fd : FuncData} {ps : List Str} {mf : MFn} {dvs : List V} {ds : List Value} {dd : List D}
/-! ### a new thing of a class, which then stands still -/
open Classical in
noncomputable def popI (c : Str) (S : Sto) (r : R Ret) : R D := match r with
  | .ok (.val .non) S2 => (match S2.getLast? with
    | some (.ins c' fs) => if S2 = S ++ [.ins c fs] ∧ c' = c ∧ underF S.length fs then .ok (.ins c fs) S else .stuck
    | _ => .stuck)
  | .exc cc none S2 => (match S2.getLast? with
    | some q => if S2 = S ++ [q] then .exc cc none S else .stuck
    | _ => .stuck)
  | _ => .stuck
theorem popI_ok {c : Str} {S : Sto} {fs : List (Str × D)} (h : underF S.length fs) : popI c S (.ok (.val .non) (S ++ [.ins c fs])) = .ok (.ins c fs) S := by
  unfold popI
  simp [h]
theorem popI_exc {c cc : Str} {S : Sto} {q : Cell} : popI c S (.exc cc none (S ++ [q])) = .exc cc none S := by
  unfold popI
  simp
noncomputable def eNew (c : Str) (mf : MFn) (dd : List D) (m : MA) : ME := fun env S => (m env S).bind fun ds S1 => popI c S1 (mf (.ref S1.length :: (ds ++ dd)) (S1 ++ [.ins c []]))
def tMakeS (C : Addr) (sp : Sp) (dvs : List V) (E : L2.St → XK) (t : TA) : TE := fun σ H Q => t σ H fun vs H1 => ∀ x dx, H1 x = none → H1 dx = none → dx ≠ x →
  sp (.ref x :: (vs ++ dvs)) (upd (upd H1 dx (.own x)) x (.ins C dx [])) (fun v H2 => v = .non ∧ Q (.ref x) H2) (E σ)
theorem run_makeS {CX : CXT} {sp : Sp} {E : L2.St → XK} {pins : List (Addr × Obj)} {σ : L2.St} {H : Hp} {s : Shared} {Q : VK} {us : List Value} {vs : List V} (M : Mk X.K C fa) (F : FnOk X.prog X.w X.K X.mg X.base CX k fa fd ps sp) (hr : Room (k + 1) X.A) (hb : Binds X.K fd ps ds) (hd : Vals dvs ds)
    (hx : ∀ (pins : List (Addr × Obj)) (H : Hp) (s : Shared) (e : Value) (s' : Shared), Inv X pins σ H s → CX X.stack H s (E σ) e s' → X.xe e s') (I : Inv X pins σ H s) (r : Vals vs us)
    (h : ∀ x dx, H x = none → H dx = none → dx ≠ x → sp (.ref x :: (vs ++ dvs)) (upd (upd H dx (.own x)) x (.ins C dx [])) (fun v H2 => v = .non ∧ Q (.ref x) H2) (E σ)) :
    wpAny (model X.prog X.w) X.A (call (.ref C) us) (EP X pins σ Q) X.xe s := by
  have hq := h (s.heap.objs.size + 1) s.heap.objs.size (I.hok.fresh (Nat.le_succ _)) (I.hok.fresh (Nat.le_refl _)) (Nat.ne_of_lt (Nat.lt_succ_self _))
  have I2 := Inv.made (C := C) I
  have r2 : Vals (V.ref (s.heap.objs.size + 1) :: (vs ++ dvs)) (Value.ref (s.heap.objs.size + 1) :: (us ++ ds)) := .cons rfl (r.append hd)
  have hl : (Value.ref (s.heap.objs.size + 1) :: us ++ ds).length = ps.length := by
    have e := r2.length
    rw [F.len _ _ _ _ hq] at e
    exact e.symm
  refine wpAny_call (make_map (f := fa) I.kIn M.makes M.init (beq_iff_eq.mp M.fn) (codeAny_mono (F.run _ X.stack _ _ ⟨Value.ref (s.heap.objs.size + 1) :: us, []⟩ (Value.ref (s.heap.objs.size + 1) :: (us ++ ds)) _ _ (E σ) (hr.make C us [])
    (I2.env0.make C us []) (hb _ (Value.ref (s.heap.objs.size + 1) :: us) I2.kIn hl) r2 hq) fun r s' hq' => ?_))
  cases r with
  | error e => exact hx pins _ _ e s' I2 hq'
  | ok fl =>
    cases fl with
    | ret u =>
      obtain ⟨v, H', I3, rv, ev, q3⟩ := I2.after hq'
      subst ev
      exact ⟨rv, ⟨V.ref (s.heap.objs.size + 1), H', I3, rfl, q3⟩⟩
    | next => exact False.elim hq'
    | brk => exact False.elim hq'
    | cont => exact False.elim hq'
theorem pe_makeS {CX : CXT} {sp : Sp} {E : L2.St → XK} (M : Mk X.K C fa) (F : FnOk X.prog X.w X.K X.mg X.base CX k fa fd ps sp) (hr : Room (k + 1) X.A) (hg : Gl X x) (hm : X.mg x = some (.ref C)) (hb : Binds X.K fd ps ds) (hd : Vals dvs ds) (hx : ∀ σ, PassesAt CX X σ (E σ))
    (ha : PA X (e :: es) t) (hdb : (x == ("__debug__" : Str)) = false) (he : starEach (e :: es) X.env = (false, eval e X.env) :: starEach es X.env) (hpl : (backTo pos (starEach es X.env)).any (·.1) = false) :
    PE X (.Call (.Name x p) (e :: es) [] pos) (tMakeS C sp dvs E t) := by
  refine ⟨fun pins s σ H Q I h => ?_⟩
  refine wpAny_Call_Name_kw (ld_glob I hg hm ?_ hdb)
  refine PySem.W.callWith_K (h₀ := X.base) I.ok.mod.kin M.kp (thn (ha.run pos pins s σ H _ I h) fun us s1 ⟨vs, H1, I1, r, q⟩ => ⟨I1.kIn, ?_⟩) he hpl
  exact run_makeS M F hr hb hd (hx σ) I1 r q
/-- the state with the new, empty instance as a cell -/
theorem ok_inst {g : Gam} {w : Wd} {H : Hp} {S : Sto} {c : Str} {x dx : Addr} (k : Ok g w H S) (hx : H x = none) (hdx : H dx = none) (ne : dx ≠ x) :
    Ok g ⟨w.rho ++ [x], w.G⟩ (upd (upd H dx (.own x)) x (.ins (g.ca c) dx [])) (S ++ [.ins c []]) ∧ w.le ⟨w.rho ++ [x], w.G⟩ := by
  have le : w.le ⟨w.rho ++ [x], w.G⟩ := ⟨⟨[x], rfl⟩, Same.refl _⟩
  obtain ⟨k1, f1⟩ := ok_lay (o := .own x) k hdx nt_own
  have hx1 : upd H dx (.own x) x = none := by rw [upd_ne (Ne.symm ne)]; exact hx
  obtain ⟨k2, f2⟩ := ok_lay (o := .ins (g.ca c) dx []) k1 hx1 nt_ins
  have nx : x ∉ w.rho := fun m => by
    obtain ⟨_, o, e⟩ := k.cells.in_ m
    rw [hx] at e
    cases e
  refine ⟨⟨k2.ex, ⟨fun i j a h1 h2 => ?_, ?_, fun m a q h1 h2 => ?_⟩, k2.tabs, k2.notab⟩, le⟩
  · have h1 : (w.rho ++ [x])[i]? = some a := h1
    have h2 : (w.rho ++ [x])[j]? = some a := h2
    by_cases hi : i < w.rho.length
    · by_cases hj : j < w.rho.length
      · rw [List.getElem?_append_left hi] at h1
        rw [List.getElem?_append_left hj] at h2
        exact k.cells.nd i j a h1 h2
      · rw [List.getElem?_append_left hi] at h1
        rw [List.getElem?_append_right (by omega)] at h2
        have : a = x := by
          cases z : j - w.rho.length with
          | zero => rw [z] at h2; simpa using h2.symm
          | succ q => rw [z] at h2; simp at h2
        exact absurd (this ▸ List.mem_of_getElem? h1) nx
    · by_cases hj : j < w.rho.length
      · rw [List.getElem?_append_right (by omega)] at h1
        rw [List.getElem?_append_left hj] at h2
        have : a = x := by
          cases z : i - w.rho.length with
          | zero => rw [z] at h1; simpa using h1.symm
          | succ q => rw [z] at h1; simp at h1
        exact absurd (this ▸ List.mem_of_getElem? h2) nx
      · have l1 := (List.getElem?_eq_some_iff.mp h1).1
        have l2 := (List.getElem?_eq_some_iff.mp h2).1
        simp only [List.length_append, List.length_cons, List.length_nil] at l1 l2
        omega
  · show (w.rho ++ [x]).length = (S ++ [Cell.ins c []]).length
    rw [List.length_append, List.length_append, k.cells.len]
    rfl
  · have h1 : (w.rho ++ [x])[m]? = some a := h1
    by_cases hm : m < w.rho.length
    · rw [List.getElem?_append_left hm] at h1
      rw [List.getElem?_append_left (by rw [← k.cells.len]; exact hm)] at h2
      obtain ⟨q1, q2⟩ := k2.cells.at_ m a q h1 h2
      exact ⟨q1, q2.move le rfl⟩
    · rw [List.getElem?_append_right (by omega)] at h1
      rw [List.getElem?_append_right (by rw [← k.cells.len]; omega), ← k.cells.len] at h2
      cases z : m - w.rho.length with
      | zero =>
        rw [z] at h1 h2
        have ea : x = a := by simpa using h1
        have eq' : Cell.ins c [] = q := by simpa using h2
        subst ea eq'
        exact ⟨none_of_same k.ex hx, dx, [], upd_same, by unfold RepF; rfl⟩
      | succ y => rw [z] at h1; simp at h1
theorem frame_inst {g : Gam} {w w' : Wd} {H H' : Hp} {c : Str} {x dx : Addr} (hx : H x = none) (hdx : H dx = none) (ne : dx ≠ x) (f : Frame ⟨w.rho ++ [x], w.G⟩ (upd (upd H dx (.own x)) x (.ins (g.ca c) dx [])) w' H') : Frame w H w' H' := by
  have le : w.le ⟨w.rho ++ [x], w.G⟩ := ⟨⟨[x], rfl⟩, Same.refl _⟩
  have at_ : ∀ a, H a ≠ none → upd (upd H dx (.own x)) x (.ins (g.ca c) dx []) a = H a := fun a h => by
    rw [upd_ne (fun z => h (by rw [z]; exact hx)), upd_ne (fun z => h (by rw [z]; exact hdx))]
  refine ⟨le.trans f.le, fun a o h n t => f.keep a o (by rw [at_ a (by rw [h]; exact fun z => nomatch z)]; exact h) (fun z => ?_) t, fun a h => f.newG a (by rw [at_ a h]; exact h), fun a h => ?_, fun a h => f.dom a (by rw [at_ a h]; exact h)⟩
  · rcases List.mem_append.mp z with z | z
    · exact n z
    · have : a = x := by simpa using z
      rw [this, hx] at h
      cases h
  · rcases f.rho a h with z | z
    · rcases List.mem_append.mp z with z | z
      · exact .inl z
      · refine .inr ?_
        have : a = x := by simpa using z
        rw [this]
        exact hx
    · refine .inr ?_
      cases e : H a with
      | none => rfl
      | some o =>
        rw [at_ a (by rw [e]; exact fun z => nomatch z), e] at z
        cases z
theorem post_new {g : Gam} {c : Str} {w0 w : Wd} {H0 H : Hp} {σ : L2.St} {env : Envr} {S : Sto} {O : List (Option Addr)} {Q : VK} {x dx : Addr} {r : R Ret} (st : StR g w0 H0 w H σ env S O) (hx : H x = none) (hdx : H dx = none) (ne : dx ≠ x)
    (p : PostX g W w0 H0 w σ env O (popI c S r) (fun d _ w' H' => ∀ v, Rep g w' d v → Q v H')) : PostF g ⟨w.rho ++ [x], w.G⟩ (upd (upd H dx (.own x)) x (.ins (g.ca c) dx [])) (fun v H2 => v = .non ∧ Q (.ref x) H2) (WE W σ) r := by
  obtain ⟨k0, le0⟩ := ok_inst (c := c) st.ok hx hdx ne
  have cutW : ∀ {w' : Wd} {H' : Hp} {q : Cell}, Frame ⟨w.rho ++ [x], w.G⟩ (upd (upd H dx (.own x)) x (.ins (g.ca c) dx [])) w' H' → Ok g w' H' (S ++ [q]) → w'.rho = w.rho ++ [x] := fun {w' H' q} f k => by
    obtain ⟨tl, et⟩ := f.le.pre
    have l1 := k.cells.len
    have et : w'.rho = (w.rho ++ [x]) ++ tl := et
    rw [et, List.length_append, List.length_append, List.length_append, st.ok.cells.len] at l1
    have : tl = [] := by
      cases tl with
      | nil => rfl
      | cons y ys => simp at l1
    rw [et, this, List.append_nil]
  have nx : x ∉ w.rho := fun m => by
    obtain ⟨_, o, e⟩ := st.ok.cells.in_ m
    rw [hx] at e
    cases e
  have okS : ∀ {w' : Wd} {H' : Hp} {q : Cell} {o : HO}, Frame ⟨w.rho ++ [x], w.G⟩ (upd (upd H dx (.own x)) x (.ins (g.ca c) dx [])) w' H' → Ok g w' H' (S ++ [q]) → H' x = some o → (∀ ps, o ≠ .tbl ps) → w'.G x = none →
      Ok g ⟨w.rho, upd w'.G x o⟩ H' S ∧ Frame w H ⟨w.rho, upd w'.G x o⟩ H' ∧ w'.cut ⟨w.rho, upd w'.G x o⟩ S.length := fun {w' H' q o} f k ho nt hg => by
    have er := cutW f k
    have cw : w'.cut ⟨w.rho, upd w'.G x o⟩ S.length := ⟨fun m a hm e => by
      rw [er, List.getElem?_append_left (by rw [st.ok.cells.len]; exact hm)] at e
      exact e, same_upd hg⟩
    have f2 : Frame w H w' H' := frame_inst hx hdx ne f
    refine ⟨⟨fun b u e => ?_, ⟨st.ok.cells.nd, st.ok.cells.len, fun m b q' e1 e2 => ?_⟩, k.tabs, fun b ps e => ?_⟩, ⟨⟨⟨[], by simp⟩, f2.le.ex.trans (same_upd hg)⟩, f2.keep, fun b h => ?_, fun b h => .inl h, f2.dom⟩, cw⟩
    · by_cases hb : b = x
      · have e : upd w'.G x o b = some u := e
        rw [hb, upd_same] at e
        rw [hb, ho, e]
      · have e : upd w'.G x o b = some u := e
        rw [upd_ne hb] at e
        exact k.ex b u e
    · have hm : m < S.length := (List.getElem?_eq_some_iff.mp e2).1
      have e1' : w'.rho[m]? = some b := by
        rw [er, List.getElem?_append_left (by rw [st.ok.cells.len]; exact hm)]
        exact e1
      obtain ⟨q1, q2⟩ := k.cells.at_ m b q' e1' (by rw [List.getElem?_append_left hm]; exact e2)
      have nb : b ≠ x := fun z => nx (by rw [← z]; exact List.mem_of_getElem? e1)
      refine ⟨(upd_ne nb).trans q1, q2.cut cw ?_⟩
      obtain ⟨_, q4⟩ := st.ok.cells.at_ m b q' e1 e2
      have q5 := q4.under
      rw [st.ok.cells.len] at q5
      exact q5
    · by_cases hb : b = x
      · have e : upd w'.G x o b = some (.tbl ps) := e
        rw [hb, upd_same] at e
        exact nt ps (Option.some.inj e)
      · have e : upd w'.G x o b = some (.tbl ps) := e
        rw [upd_ne hb] at e
        exact k.notab b ps e
    · have nb : b ≠ x := fun z => h (by rw [z]; exact hx)
      exact (upd_ne nb).trans (f2.newG b h)
  unfold popI at p
  split at p
  · rename_i S2
    split at p
    · rename_i c' fs hl
      split at p
      · rename_i hc
        obtain ⟨e1, e2, e3⟩ := hc
        subst e2
        intro w' H' v f k rv
        rw [e1] at k
        have er := cutW f k
        have hlast : w'.rho[S.length]? = some x := by
          rw [er, ← st.ok.cells.len]
          simp
        obtain ⟨q1, dx', gs, q2, q3⟩ := k.cells.at_ S.length x (.ins c' fs) hlast (by simp)
        obtain ⟨k3, f3, cw⟩ := okS f k q2 nt_ins q1
        refine ⟨rep_non (g := g) (w := w') rv, p _ H' (st.after f3 k3) f3.le _ ?_⟩
        unfold Rep
        exact ⟨x, dx', gs, rfl, upd_same, q3.cut cw e3⟩
      · exact False.elim p
    · exact False.elim p
  · rename_i cc S2
    split at p
    · rename_i q hl
      split at p
      · rename_i e1
        intro w' H' cls dd f k ex
        rw [e1] at k
        have er := cutW f k
        have hlast : w'.rho[S.length]? = some x := by
          rw [er, ← st.ok.cells.len]
          simp
        obtain ⟨q1, q2⟩ := k.cells.at_ S.length x q hlast (by simp)
        obtain ⟨o, q3, q4⟩ := q2.some_
        obtain ⟨k3, f3, cw⟩ := okS f k q3 q4 q1
        exact p _ H' cls dd (st.after f3 k3) f3.le ex
      · exact False.elim p
    · exact False.elim p
  · exact False.elim p
theorem s_new (M : Mk X.K (Y.ca x) fa) (F : FnOk X.prog X.w X.K X.mg X.base (L2N.CX X.prog X.w) k fa fd ps (spOf Y n mf)) (hr : Room (k + 1) X.A) (hm : X.mg x = some (.ref (Y.ca x))) (hb : Binds X.K fd ps ds) (hd : Vals dvs ds) (hdv : ∀ w, RepL Y w dd dvs) (tk : L2N.Takes X W)
    (ha : SA X Y W (e :: es) t m) (hn : (e :: es).length + dd.length + 1 = n := by rfl) (hg : Gl X x := by rfl) (hdb : (x == ("__debug__" : Str)) = false := by decide) (he : starEach (e :: es) X.env = (false, eval e X.env) :: starEach es X.env := by rfl) (hpl : (backTo pos (starEach es X.env)).any (·.1) = false := by rfl) :
    SE X Y W (.Call (.Name x p) (e :: es) [] pos) (tMakeS (Y.ca x) (spOf Y n mf) dvs (WE W) t) (eNew x mf dd m) :=
  ⟨pe_makeS M F hr hg hm hb hd (fun σ => L2N.passAt tk σ) ha.pa hdb he hpl, fun w0 H0 w H σ env S O Q st p => by
    refine ha.sim w0 H0 w H σ env S O _ st ?_
    have p2 := PostX.bind p
    cases e : m env S with
    | stuck => rw [e] at p2; exact p2
    | exc c q S2 => rw [e] at p2; exact p2
    | ok ds S1 =>
      rw [e] at p2
      intro w1 H1 st1 l1 vs rs y dy hy hdy ne
      have p3 := p2 w1 H1 st1 l1
      obtain ⟨k4, l4⟩ := ok_inst (c := x) st1.ok hy hdy ne
      have r4 : RepL Y ⟨w1.rho ++ [y], w1.G⟩ (.ref S1.length :: (ds ++ dd)) (.ref y :: (vs ++ dvs)) := RepL.cons_ (by
        unfold Rep
        refine ⟨y, ?_, rfl⟩
        show (w1.rho ++ [y])[S1.length]? = some y
        rw [← st1.ok.cells.len]
        simp) ((rs.mono l4).append_ (hdv _))
      refine ⟨?_, ⟨w1.rho ++ [y], w1.G⟩, _, S1 ++ [.ins x []], k4, r4, post_new st1 hy hdy ne p3⟩
      rw [← r4.len, List.length_cons, List.length_append, ha.len _ _ _ _ e]
      exact hn⟩
end
end Mm
namespace Mm
open PySem L2
/-! ### enumerate(tuple) -/
open Sem (wp) in
open AutoSeq1 (wpAny_loadPart') in
theorem meets_enumerate_newT (l : Addr) (items : Array Value) (n : Nat) (dct : Option Addr) (sl : Array (Option Value)) :
    Meets (Builtin.«enumerate.__new__» ⟨[.type "enumerate", .ref l], []⟩) (fun _ R s => s.heap.get? l = some { cls := .type "tuple", dict := dct, data := .seq items n, slots := sl } ∧
      R (.ok (.ret (.ref (s.heap.push { cls := .type "tuple_iterator", data := .fields #[.ref l, .int 0 0] }).objs.size)))
        { s with heap := (s.heap.push { cls := .type "tuple_iterator", data := .fields #[.ref l, .int 0 0] }).push { cls := .type "enumerate", data := .fields #[.none, .bool false, .ref s.heap.objs.size, rawInt 0, .none, .none] } }) :=
  .of_wp fun prog w A R s h => by
    obtain ⟨hp, g, d, tk, os⟩ := s; obtain ⟨hl, h⟩ := h
    have hsub := sub_enumerate
    have hL : Heap.IsTuple (Shared.heap ⟨hp, g, d, tk, os⟩) l items := ⟨_, hl, rfl, n, rfl⟩
    wp_walk using wpAny_loadPart' hl
    refine wpAny_stack_any fun st => wpAny_pure ?_
    split
    · rename_i c _ _ _ _ _
      cases (c == Value.type "enumerate")
      · wp_walk using wpAny_loadPart' hl, wpAny_pyIter_tuple hL
        exact ⟨_, rfl, h⟩
      · wp_walk using wpAny_loadPart' hl, wpAny_pyIter_tuple hL
        exact ⟨_, rfl, h⟩
    · wp_walk using wpAny_loadPart' hl, wpAny_pyIter_tuple hL
      exact ⟨_, rfl, h⟩
theorem call_enumerate_tuple {prog : Program} {w : World} {A : Around} {E : Value → Shared → Prop} {s : Shared} {l : Addr} {items : Array Value} {Q : Value → Shared → Prop} (hL : s.heap.IsTuple l items)
    (h : ∀ h', IsEnum h' (s.heap.objs.size + 1) s.heap.objs.size 0 .none → h'.IsTupleIter s.heap.objs.size l 0 → h'.objs.size = s.heap.objs.size + 2 →
      (∀ b o, s.heap.get? b = some o → h'.get? b = some o) → Q (.ref (s.heap.objs.size + 1)) { s with heap := h' }) :
    wpAny (model prog w) A (call (.type "enumerate") [.ref l]) Q E s := by
  obtain ⟨⟨c, dct, dt, sl⟩, hl, hc, n, hd⟩ := hL
  replace hc : c = .type "tuple" := hc
  replace hd : dt = .seq items n := hd
  subst hc hd
  refine callType_new F.called_enumerate (by decide) (F.typeCall_enumerate_1 _) (F.newCall_enumerate_1 _) (fun obj => F.args_object_init_2 obj _) F.entry_enumerate_new
    (meets_enumerate_newT l items n dct sl) ⟨hl, ?_⟩
  have hz : (s.heap.push { cls := .type "tuple_iterator", data := .fields #[.ref l, .int 0 0] }).objs.size = s.heap.objs.size + 1 := Heap.size_push ..
  show _ ∧ _
  rw [hz]
  have he : IsEnum ((s.heap.push { cls := .type "tuple_iterator", data := .fields #[.ref l, .int 0 0] }).push
      { cls := .type "enumerate", data := .fields #[.none, .bool false, .ref s.heap.objs.size, rawInt 0, .none, .none] }) (s.heap.objs.size + 1) s.heap.objs.size 0 .none := by
    have := Heap.get?_push_size (s.heap.push { cls := .type "tuple_iterator", data := .fields #[.ref l, .int 0 0] })
      (o := { cls := .type "enumerate", data := .fields #[.none, .bool false, .ref s.heap.objs.size, rawInt 0, .none, .none] }) rfl
    rw [hz] at this; exact this
  refine ⟨⟨_, he, rfl⟩, h _ he ⟨_, Heap.get?_push_of_some _ (Heap.get?_push_size _ rfl), rfl, rfl⟩ (by rw [Heap.size_push, hz]) fun b o x => Heap.get?_push_of_some _ (Heap.get?_push_of_some _ x)⟩
def Itet (K : PySem.W.Frag) (a : Addr) : It :=
  ⟨fun i H => ∃ (xs : List V) (x : V), SqT K H a xs ∧ xs[i]? = some x, fun i H v H' => ∃ T x, v = .ref T ∧ H T = none ∧ H' = upd H T (.tup [.int (i : Nat), x]) ∧ ∀ xs, SqT K H a xs → xs[i]? = some x, fun i H => ∃ xs : List V, SqT K H a xs ∧ xs.length ≤ i⟩
theorem turn_enumT {P : Program} {w : World} {K : PySem.W.Frag} {elts : List Expr} {kk : Nat} {tpos : Pos} (a e it : Addr) (hai : a ≠ it) (hae : e ≠ a) :
    Turn P w K (.Tuple elts kk tpos) (Itet K a) [e, it] e (fun i h => (∃ old, IsEnum h e it ((i : Nat) : Int) old) ∧ h.IsTupleIter it a i ∧ e ≠ it) where
  mem := by simp
  obj := fun i h st b hb => by
    obtain ⟨⟨old, he⟩, ⟨o, ho, hc, hd⟩, _⟩ := st
    have e' : b = e ∨ b = it := by simpa using hb
    rcases e' with z | z
    · rw [z]; exact ⟨_, he, fun v q => nomatch q⟩
    · rw [z]; exact ⟨o, ho, fun v q => by rw [hd] at q; cases q⟩
  keep := fun i h h' st k => let ⟨⟨old, he⟩, hi, hne⟩ := st; ⟨⟨old, k e (by simp) _ he⟩, hi.at fun o q => k it (by simp) o q, hne⟩
  item := by
    intro X hP hw hK hc i pins s σ H E I hf st hg
    subst hP hw hK
    obtain ⟨⟨old, he⟩, hit, hne⟩ := st
    obtain ⟨xs, x, hq, hx⟩ := hg
    obtain ⟨its, rv, p, hz⟩ := I.tuple hq
    obtain ⟨u, hu, ru⟩ := rv.get hx
    have hel : e < s.heap.objs.size := Heap.lt_size he
    have hil : it < s.heap.objs.size := by obtain ⟨_, q, _⟩ := hit; exact Heap.lt_size q
    have hilt : i < its.toArray.size := by
      rw [List.size_toArray]
      exact (List.getElem?_eq_some_iff.mp hu).1
    refine wpAny_pyNext_enum_itemD (Draws.tuple (A := X.A.in1) (I.ok.hd hc) it a hai its.toArray) he ⟨hit, show s.heap.IsTuple a its.toArray from p⟩ hilt hne (by simp [hne, hae]) fun u' h' tk hu' ho hit' hT hsz hk => ?_
    have eu : u' = u := by
      have h1 : its.toArray[i]? = some u := by simpa using hu
      exact Option.some.inj (hu'.symm.trans h1)
    subst eu
    refine ⟨_, rfl, wpAny_letOwnedTupleGo_enum (s := { s with heap := h', toks := tk + 1 }) ho fun h'' he' sb => ?_⟩
    have hT2 : h''.get? s.heap.objs.size = some { cls := .type "tuple", data := .seq #[.int i tk, u'] } := (sb.2 _ (Nat.ne_of_gt hel)).trans hT
    have new : ObjOk X.prog X.w (upd H s.heap.objs.size (.tup [.int (i : Nat), x])) h'' s.heap.objs.size (.tup [.int (i : Nat), x]) :=
      ⟨by show 2 ≤ sizeLine; decide, [.int i tk, u'], .cons ⟨_, rfl⟩ (.cons ru .nil), ⟨_, hT2, rfl, _, rfl⟩⟩
    have I1 : Inv X pins σ (upd H s.heap.objs.size (.tup [.int (i : Nat), x])) { s with heap := h'', toks := tk + 1 } :=
      I.turnedNew (ch := [e, it]) (fun b ob hb q => (sb.2 b (fun z => hb (by simp [z]))).trans (hk b ob (fun z => hb (by simp [z])) (fun z => hb (by simp [z])) q)) hf (Nat.le_refl _) new
    refine ⟨.ref s.heap.objs.size, _, I1, rfl, ⟨_, x, rfl, I.hok.fresh (Nat.le_refl _), rfl, fun ys hy => by rw [I.tuple_inj hy hq]; exact hx⟩, ⟨⟨u', ?_⟩, hit'.1.at fun o q => (sb.2 it (Ne.symm hne)).trans q, hne⟩, fun b hb => ?_⟩
    · have e1 : ((i + 1 : Nat) : Int) = (i : Int) + 1 := by omega
      rw [e1]; exact he'
    · have hb' : b < s.heap.objs.size := by
        have e' : b = e ∨ b = it := by simpa using hb
        rcases e' with z | z
        · rw [z]; exact hel
        · rw [z]; exact hil
      rw [upd_ne (Nat.ne_of_lt hb')]
      exact (hf b hb).1
  done := by
    intro X hP hw hK hc i pins s σ H E I hf st hg
    subst hP hw hK
    obtain ⟨⟨old, he⟩, hit, hne⟩ := st
    obtain ⟨xs, hq, hx⟩ := hg
    obtain ⟨its, rv, p, hz⟩ := I.tuple hq
    obtain ⟨f0, f1, f2, f3, f4, f5⟩ := hf it (by simp)
    have hl := rv.length
    have hT : s.TypeIs (.ref e) "enumerate" := ⟨_, he, rfl⟩
    unfold pyNext
    refine wpAny_bind (wpAny_attempt (wpAny_callSpecial?_slot (name := Str.ofString "__next__") hT F.slot_enumerate_next
      (wpAny_call_entry F.slot_enumerate_next hT F.entry_enumerate_next ?_ (F.args_enumerate_next_1 _))))
    show wpAny _ _ (field (.ref e) 2 >>= _) _ _ _
    refine wpAny_bind (wpAny_field he rfl (x := .ref it) rfl ?_)
    refine wpAny_bind (wpAny_nextOf_tuple_end (I.ok.hd hc) hit (show s.heap.IsTuple a its.toArray from p) (by simp; omega) fun h' x he' hx' => ?_)
    obtain ⟨o, ho, hc⟩ := hx'
    refine wpAny_bind (wpAny_isInstance (T := "StopIteration") (b := true) ⟨o, ho, hc⟩ isSubtype_stop ?_)
    exact wpAny_pure ⟨rfl, I.turned (t' := s.toks) (fun b o hb q => he' b o hb q) f0 f1 f3 f4 f5⟩
  self := fun A i s Q E st h => let ⟨⟨_, he⟩, _⟩ := st; wpAny_pyIter_enum he h
section
variable {X : Cx} {Y : Gam} {W : WX} {e a b c tg iter elt o : Expr} {es rest ifs : List Expr} {ta tb te : TE} {tt tu : TT} {ma mb me : ME} {mt mu : MT} {mf : MF} {t : TA} {m : MA} {pos p apos : Pos} {s : Stmt} {ss : List Stmt} {t1 t2 : TS} {m1 m2 : MS} {wi : TI} {mi : MI} {x f : Str}
def iEnumS (K : PySem.W.Frag) (ta : TA) : TI := fun σ H R => ta σ H fun vs H1 => ∃ a xs, vs = [.ref a] ∧ ((SqL K H1 a xs ∧ R (Ite K a) H1) ∨ (SqT K H1 a xs ∧ R (Itet K a) H1))
theorem pi_enumS {e : Expr} {ta : TA} {p pos tpos : Pos} {elts : List Expr} {kk : Nat} (hg : Gl X "enumerate") (hm : X.mg "enumerate" = none) (ha : PA X [e] ta) (hs : starEach [e] X.env = [(false, eval e X.env)]) :
    PI X (.Tuple elts kk tpos) (.Call (.Name "enumerate" p) [e] [] pos) (iEnumS X.K ta) := by
  refine ⟨fun pins s σ H R I h => ?_⟩
  refine PyProof.Rows.Call_ (ld_blt I hg hm PyProof.Rows.boot_enumerate (PyProof.Rows.callWith_type1 (thn (ha.run pos pins s σ H _ I h) fun us s1 ⟨vs, H1, I1, r1, q1⟩ => ?_) hs rfl))
  obtain ⟨a, xs, ex, q⟩ := q1
  subst ex
  cases r1 with
  | cons r rr =>
    cases rr
    cases r
    rcases q with ⟨hq, q⟩ | ⟨hq, q⟩
    · obtain ⟨its, rv, p', hz⟩ := I1.list hq
      refine call_enumerate_list p'.isList fun h' he hit hsz hk => wpAny_pyIter_enum he ?_
      have I2 : Inv X pins σ H1 { s1 with heap := h' } := I1.kept (t' := s1.toks) hk
      refine ⟨s1.heap.objs.size + 1, [s1.heap.objs.size + 1, s1.heap.objs.size], _, _, H1, rfl, I2, turn_enum a (s1.heap.objs.size + 1) s1.heap.objs.size, ⟨⟨.none, he⟩, hit, Nat.succ_ne_self _⟩, fun b hb => ?_, q⟩
      have e' : b = s1.heap.objs.size + 1 ∨ b = s1.heap.objs.size := by simpa using hb
      have hle : s1.heap.objs.size ≤ b := by
        rcases e' with z | z
        · rw [z]; exact Nat.le_succ _
        · rw [z]; exact Nat.le_refl _
      exact I1.fpOk hle (I1.hok.fresh hle)
    · obtain ⟨its, rv, p', hz⟩ := I1.tuple hq
      have hal : a < s1.heap.objs.size := p'.lt
      refine call_enumerate_tuple (show s1.heap.IsTuple a its.toArray from p') fun h' he hit hsz hk => wpAny_pyIter_enum he ?_
      have I2 : Inv X pins σ H1 { s1 with heap := h' } := I1.kept (t' := s1.toks) hk
      refine ⟨s1.heap.objs.size + 1, [s1.heap.objs.size + 1, s1.heap.objs.size], _, _, H1, rfl, I2, turn_enumT a (s1.heap.objs.size + 1) s1.heap.objs.size (Nat.ne_of_lt hal) (Nat.ne_of_gt (Nat.lt_succ_of_lt hal)), ⟨⟨.none, he⟩, hit, Nat.succ_ne_self _⟩, fun b hb => ?_, q⟩
      have e' : b = s1.heap.objs.size + 1 ∨ b = s1.heap.objs.size := by simpa using hb
      have hle : s1.heap.objs.size ≤ b := by
        rcases e' with z | z
        · rw [z]; exact Nat.le_succ _
        · rw [z]; exact Nat.le_refl _
      exact I1.fpOk hle (I1.hok.fresh hle)
theorem itR_enumT {g : Gam} {w : Wd} {a : Addr} {ds : List D} {vs : List V} (e : SqT g.K w.G a vs) (r : RepL g w ds vs) : ItR g w (Itet g.K a) (enumD 0 ds) := fun w2 H2 l x => by
  have q : SqT g.K H2 a vs := same_sqT (l.ex.trans x) e
  refine ⟨fun i d hd => ?_, ⟨vs, q, by rw [enumD_len, r.len]; exact Nat.le_refl _⟩⟩
  obtain ⟨d', hd', ed⟩ := enumD_at ds 0 i d hd
  obtain ⟨v, hv, rv⟩ := r.at_ hd'
  refine ⟨⟨vs, v, q, hv⟩, fun y H' hy => ?_⟩
  obtain ⟨T, x', e1, e2, e3, e4⟩ := hy
  have e5 := e4 vs q
  rw [hv] at e5
  cases e5
  rw [e1, e3, ed, Nat.zero_add]
  refine ⟨_, Grow.one e2 nt_tup, ?_⟩
  unfold Rep
  have le : w2.le ⟨w2.rho, upd w2.G T (.tup [.int (i : Nat), v])⟩ := ⟨⟨[], by simp⟩, same_upd (none_of_same x e2)⟩
  exact ⟨T, _, rfl, .inl (.inl upd_same), RepL.cons_ rep_int' (RepL.cons_ ((rv.mono l).mono le) RepL.nil_)⟩
def itES (m : MA) : MI := fun env S => (m env S).bind fun ds S1 => match ds with
  | [.lst ds] => .ok (enumD 0 ds) S1
  | [.tup ds] => .ok (enumD 0 ds) S1
  | _ => .stuck
theorem i_enumS {elts : List Expr} {kk : Nat} {tpos : Pos} (hm : X.mg "enumerate" = none) (ha : SA X Y W [e] t m) (hK : X.K = Y.K := by rfl) (hg : Gl X "enumerate" := by rfl) (hs : starEach [e] X.env = [(false, eval e X.env)] := by rfl) :
    SI X Y W (.Tuple elts kk tpos) (.Call (.Name "enumerate" p) [e] [] pos) (iEnumS Y.K t) (itES m) := ⟨hK ▸ pi_enumS hg hm ha.pa hs, fun w0 H0 w H σ env S O Q st p =>
  ha.sim w0 H0 w H σ env S O _ st ((PostX.bind p).imp fun ds S1 w1 H1 st1 l1 p1 vs r => by
    split at p1
    · rename_i ds
      obtain ⟨v, e1, e2⟩ := repL_one r
      obtain ⟨a, us, e3, e4, e5⟩ := rep_lst e2
      rw [e3] at e1
      exact ⟨a, us, e1, .inl ⟨.inl (.inl (st1.ok.ex _ _ e4)), p1 w1 H1 st1 (.refl w1) _ (itR_enum (g := Y) e4 e5)⟩⟩
    · rename_i ds
      obtain ⟨v, e1, e2⟩ := repL_one r
      obtain ⟨a, us, e3, e4, e5⟩ := rep_tup e2
      rw [e3] at e1
      exact ⟨a, us, e1, .inr ⟨same_sqT st1.ok.ex e4, p1 w1 H1 st1 (.refl w1) _ (itR_enumT (g := Y) e4 e5)⟩⟩
    · exact False.elim p1)⟩
/-! ### a new thing becomes a cell -/
theorem own_cell {g : Gam} {w0 w : Wd} {H0 H : Hp} {σ : L2.St} {env : Envr} {S : Sto} {O : List (Option Addr)} {cc : Cell} {q : Addr} (st : StR g w0 H0 w H σ env S O) (a : OwnAt g w H0 H O cc q) :
    StR g w0 H0 ⟨w.rho ++ [q], w.G⟩ H σ env (S ++ [cc]) O ∧ w.le ⟨w.rho ++ [q], w.G⟩ ∧ Rep g ⟨w.rho ++ [q], w.G⟩ (.ref S.length) (.ref q) := by
  have le : w.le ⟨w.rho ++ [q], w.G⟩ := ⟨⟨[q], rfl⟩, Same.refl _⟩
  refine ⟨⟨⟨st.ok.ex, ⟨fun i j b h1 h2 => ?_, ?_, fun k b d h1 h2 => ?_⟩, st.ok.tabs, st.ok.notab⟩, ⟨st.fr.le.trans le, st.fr.keep, st.fr.newG, fun b h => ?_, st.fr.dom⟩, st.l1, st.l2, fun i s x o e1 e2 e3 => ?_, st.inj, fun i b e => ?_⟩, le, ?_⟩
  · have h1 : (w.rho ++ [q])[i]? = some b := h1
    have h2 : (w.rho ++ [q])[j]? = some b := h2
    have one : ∀ k, ¬ k < w.rho.length → (w.rho ++ [q])[k]? = some b → b = q := fun k hk h => by
      rw [List.getElem?_append_right (by omega)] at h
      cases z : k - w.rho.length with
      | zero => rw [z] at h; simpa using h.symm
      | succ y => rw [z] at h; simp at h
    by_cases hi : i < w.rho.length
    · by_cases hj : j < w.rho.length
      · rw [List.getElem?_append_left hi] at h1
        rw [List.getElem?_append_left hj] at h2
        exact st.ok.cells.nd i j b h1 h2
      · rw [List.getElem?_append_left hi] at h1
        exact absurd (one j hj h2 ▸ List.mem_of_getElem? h1) a.nr
    · by_cases hj : j < w.rho.length
      · rw [List.getElem?_append_left hj] at h2
        exact absurd (one i hi h1 ▸ List.mem_of_getElem? h2) a.nr
      · have l1 := (List.getElem?_eq_some_iff.mp h1).1
        have l2 := (List.getElem?_eq_some_iff.mp h2).1
        simp only [List.length_append, List.length_cons, List.length_nil] at l1 l2
        omega
  · show (w.rho ++ [q]).length = (S ++ [cc]).length
    rw [List.length_append, List.length_append, st.ok.cells.len]
    rfl
  · have h1 : (w.rho ++ [q])[k]? = some b := h1
    by_cases hm : k < w.rho.length
    · rw [List.getElem?_append_left hm] at h1
      rw [List.getElem?_append_left (by rw [← st.ok.cells.len]; exact hm)] at h2
      obtain ⟨q1, q2⟩ := st.ok.cells.at_ k b d h1 h2
      exact ⟨q1, q2.move le rfl⟩
    · rw [List.getElem?_append_right (by omega)] at h1
      rw [List.getElem?_append_right (by rw [← st.ok.cells.len]; omega), ← st.ok.cells.len] at h2
      cases z : k - w.rho.length with
      | zero =>
        rw [z] at h1 h2
        have ea : q = b := by simpa using h1
        have eq' : cc = d := by simpa using h2
        subst ea eq'
        exact ⟨a.ng, a.at_.move le rfl⟩
      | succ y => rw [z] at h1; simp at h1
  · rcases List.mem_append.mp (show b ∈ w.rho ++ [q] from h) with z | z
    · exact st.fr.rho b z
    · have : b = q := by simpa using z
      rw [this]
      exact .inr a.n0
  · have q' := st.sl i s x o e1 e2 e3
    cases s with
    | no => exact q'
    | v d =>
      obtain ⟨z1, v, z2, z3⟩ := q'
      exact ⟨z1, v, z2, z3.mono le⟩
    | o c' =>
      obtain ⟨p', z1, z2, z3, z4⟩ := q'
      exact ⟨p', z1, z2, z3, z4.move le rfl⟩
  · obtain ⟨z1, z2, z3⟩ := st.fresh i b e
    refine ⟨z1, fun h => ?_, z3⟩
    rcases List.mem_append.mp (show b ∈ w.rho ++ [q] from h) with z | z
    · exact z2 z
    · have : b = q := by simpa using z
      exact a.no i (by rw [← this]; exact e)
  · unfold Rep
    refine ⟨q, ?_, rfl⟩
    show (w.rho ++ [q])[S.length]? = some q
    rw [← st.ok.cells.len]
    simp
def sCell (i : Nat) (mf : MF) : MS := fun env S => (mf env S).out env fun c S1 => .nx (env.set i (.v (.ref S1.length))) (S1 ++ [c])
theorem sim_cell {g : Gam} {i : Nat} (h : SimF g W te mf) : SimS g W (tAsg te (gName i)) (sCell i mf) := fun w0 H0 w H σ env S O Dn st p =>
  h w0 H0 w H σ env S O _ st ((PostS.out p).imp fun c S1 w1 H1 st1 l1 p1 q ow => by
    obtain ⟨st2, l2, r2⟩ := own_cell st1 ow
    exact p1 _ H1 _ _ (st2.set_v i r2) l2)
theorem t_cell {i : Nat} {x : Str} {pos' : Pos} (hN : X.N.Nodup) (hi : X.N[i]? = some x) (hx : Loc X.env.scope x) (he : SF X Y W e te mf) (hs : swapsWith e (some (.Name x pos')) pos.line X.env = pure false := by rfl) (hf : X.fn x = true ∨ X.env.scope.names.lookup x = some .local := by first | exact .inl rfl | exact .inr rfl | assumption) :
    SS X Y W (.Assign [.Name x pos'] e pos) (tAsg te (gName i)) (sCell i mf) := ⟨ps_set hN hi hx he.pe hs hf, sim_cell he.sim⟩
/-! ### a slot's own thing stands still from here on -/
def frzAt (i : Nat) (env : Envr) : Envr := match env[i]? with
  | some (.o c) => env.set i (.v c.d)
  | _ => env
def sFrz (i : Nat) (m : MS) : MS := fun env S => m (frzAt i env) S
theorem set_get_self {α : Type} (l : List α) (i : Nat) (x : α) (h : l[i]? = some x) : l.set i x = l := by
  refine List.ext_getElem? fun k => ?_
  rw [List.getElem?_set]
  split
  · rename_i e
    subst e
    split
    · exact h.symm
    · rename_i hl
      rw [List.getElem?_eq_none_iff.mpr (by omega)] at h
      cases h
  · rfl
theorem StR.frz {g : Gam} {w0 w : Wd} {H0 H : Hp} {σ : L2.St} {env : Envr} {S : Sto} {O : List (Option Addr)} (st : StR g w0 H0 w H σ env S O) (i : Nat) : ∃ w' O', StR g w0 H0 w' H σ (frzAt i env) S O' ∧ w.le w' := by
  unfold frzAt
  split
  · rename_i c hs
    obtain ⟨q, e1, e2, e3, e4, e5, e6, hi⟩ := st.own_at hs
    have sl : ∀ (j : Nat) (z : Sl), (env.set i .no)[j]? = some z → (j = i ∧ z = .no) ∨ (j ≠ i ∧ env[j]? = some z) := fun j z h => by
      rw [List.getElem?_set] at h
      split at h
      · rename_i e
        split at h
        · exact .inl ⟨e.symm, (Option.some.inj h).symm⟩
        · cases h
      · rename_i e
        exact .inr ⟨Ne.symm e, h⟩
    have st1 : StR g w0 H0 w H σ (env.set i .no) S (O.set i none) := by
      refine ⟨st.ok, st.fr, by rw [List.length_set]; exact st.l1, by rw [List.length_set]; exact st.l2, fun j s x o h1 h2 h3 => ?_, fun j k r h1 h2 => ?_, fun j r h => ?_⟩
      · rcases sl j s h1 with ⟨z1, z2⟩ | ⟨z1, z2⟩
        · rw [z2]
          rw [List.getElem?_set, if_pos z1.symm] at h3
          split at h3
          · exact (Option.some.inj h3).symm
          · cases h3
        · rw [List.getElem?_set, if_neg (Ne.symm z1)] at h3
          exact st.sl j s x o z2 h2 h3
      · rw [List.getElem?_set] at h1 h2
        split at h1
        · split at h1 <;> cases h1
        · split at h2
          · split at h2 <;> cases h2
          · exact st.inj j k r h1 h2
      · rw [List.getElem?_set] at h
        split at h
        · split at h <;> cases h
        · rename_i hn
          obtain ⟨y1, y2, y3, y4⟩ := st.fresh j r h
          exact ⟨y1, y2, y3, by rw [List.getElem?_set, if_neg hn]; exact y4⟩
    have ow : OwnAt g w H0 H (O.set i none) c q := ⟨e5, e3, e6, fun j h => by
      rw [List.getElem?_set] at h
      split at h
      · split at h <;> cases h
      · rename_i hn
        exact hn (st.inj i j q e2 h), e4⟩
    obtain ⟨w2, st2, l2, r2⟩ := own_freeze st1 ow
    have st3 := st2.set_v i r2
    rw [List.set_set, List.set_set] at st3
    refine ⟨w2, O.set i none, ?_, l2⟩
    have es : σ.set i (some (.ref q)) = σ := set_get_self σ i _ e1
    rw [es] at st3
    exact st3
  · exact ⟨w, O, st, .refl w⟩
theorem sim_sfrz {g : Gam} {i : Nat} (h : SimS g W t1 m1) : SimS g W t1 (sFrz i m1) := fun w0 H0 w H σ env S O Dn st p => by
  obtain ⟨w', O', st', l'⟩ := st.frz i
  exact h w0 H0 w' H σ _ S O' Dn st' (PostS.mono p l')
theorem b_frz (i : Nat) (h : SB X Y W ss t1 m1) : SB X Y W ss t1 (sFrz i m1) := ⟨h.pss, sim_sfrz h.sim⟩
end
end Mm
namespace Mm
open PySem L2
section
variable {X : Cx} {Y : Gam} {W : WX} {e a b c tg iter elt o : Expr} {es rest ifs : List Expr} {ta tb te : TE} {tt tu : TT} {ma mb me : ME} {mt mu : MT} {mf : MF} {t : TA} {m : MA} {pos p apos : Pos} {s : Stmt} {ss : List Stmt} {t1 t2 : TS} {m1 m2 : MS} {wi : TI} {mi : MI} {x f : Str}
/-! ### reading an own list -/
def eLenO (i : Nat) : ME := fun env S => match env[i]? with
  | some (.o (.lst ds)) => .ok (.int ds.length) S
  | _ => .stuck
theorem s_lenO (i : Nat) {x : Str} {p1 : Pos} (hm : X.mg "len" = none) (hK : X.K = Y.K := by rfl) (hN : X.N[i]? = some x := by rfl) (hv : Vis X.env.scope x := by first | exact Or.inl rfl | exact Or.inr (Or.inl rfl) | exact Or.inr (Or.inr rfl)) (hd : (x == ("__debug__" : Str)) = false := by decide)
    (hcd : (x == ("__classdict__" : Str)) = false := by decide) (hg : Gl X "len" := by rfl) (he : starEach [.Name x p1] X.env = (false, eval (.Name x p1) X.env) :: starEach [] X.env := by rfl) (hpl : (backTo pos (starEach [] X.env)).any (·.1) = false := by rfl) :
    SE X Y W (.Call (.Name "len" p) [.Name x p1] [] pos) (tCB (rLn Y.K) (tCons (tVar i) tNil)) (eLenO i) := ⟨hK ▸ pe_callB cr_len hg hm PySem.boot_len (pa_cons (pv i hN hv hd hcd) pa_nil he) (by decide) (by decide) he hpl, fun w0 H0 w H σ env S O Q st p => by
  unfold eLenO at p
  split at p
  · rename_i ds hs
    obtain ⟨q, e1, e2, e3, ⟨vs, e4, e4'⟩, e5, e6, hi⟩ := st.own_at hs
    exact ⟨.ref q, e1, .inl ⟨q, vs, rfl, .inl (.inl (.inl e4)), p w H st (.refl w) _ (by rw [e4'.len]; exact rep_int')⟩⟩
  · exact p.elim⟩
def eIxO (i : Nat) (mk : ME) : ME := fun env S => match env[i]? with
  | some (.o (.lst ds)) => (mk env S).bind fun k S1 => (match k with
    | .int k => opt (atI ds k) S1
    | _ => .stuck)
  | _ => .stuck
theorem s_ixO (i : Nat) {x : Str} {p1 : Pos} (hk : SE X Y W a ta ma) (hs : PlainIx a) (hK : X.K = Y.K := by rfl) (hN : X.N[i]? = some x := by rfl) (hv : Vis X.env.scope x := by first | exact Or.inl rfl | exact Or.inr (Or.inl rfl) | exact Or.inr (Or.inr rfl)) (hd : (x == ("__debug__" : Str)) = false := by decide)
    (hcd : (x == ("__classdict__" : Str)) = false := by decide) : SE X Y W (.Subscript (.Name x p1) a pos) (tOp (rIxL Y.K) (tVar i) ta) (eIxO i ma) := ⟨hK ▸ pe_ix ix_list (pv i hN hv hd hcd) hk.pe hs, fun w0 H0 w H σ env S O Q st p => by
  unfold eIxO at p
  split at p
  · rename_i ds hs
    obtain ⟨q, e1, e2, e3, e4, e5, e6, hi⟩ := st.own_at hs
    refine ⟨.ref q, e1, ?_⟩
    refine hk.sim w0 H0 w H σ env S O _ st ((PostX.bind p).imp fun k S1 w1 H1 st1 l1 p1 kv kr => ?_)
    split at p1
    · rename_i k
      obtain ⟨d, e, kk⟩ := PostX.opt_ p1 st1
      obtain ⟨q', f1, f2, f3, ⟨us, f4, f4'⟩, f5, f6, _⟩ := st1.own_at hs
      rw [e2] at f2
      cases f2
      obtain ⟨v, g1, g2⟩ := f4'.atI_ e
      exact ⟨q, us, k, v, rfl, rep_int kr, .inl (.inl f4), g1, kk w1 H1 st1 (.refl w1) v g2⟩
    · exact False.elim p1
  · exact p.elim⟩
/-! ### xs[k] += e, xs a cell -/
def rGetL (K : PySem.W.Frag) : V → V → Hp → VK → Prop := rIxL K
theorem get_list : PGet X (rIxL X.K) := by
  intro pins s σ H x y v u Q I rx ry h
  obtain ⟨p, xs, i, z, rfl, rfl, hq, he, q⟩ := h
  cases rx
  obtain ⟨t, rfl⟩ := ry
  obtain ⟨its, r, pl, hz⟩ := I.list hq
  obtain ⟨j, h1, h2, h3, h4, h5⟩ := atI_get he
  obtain ⟨w, ew, rw'⟩ := r.get h2
  have hl := r.length
  have hn := line63
  have fin : EP X pins σ Q w s := ⟨z, H, I, rw', q⟩
  by_cases h0 : 0 ≤ i
  · have hj : i.toNat = j := by
      rw [seqIndex_of h0 h5] at h1
      exact Option.some.inj h1
    exact wpAny_getItem_list pl.isList h0 (by omega) (by rw [hj]; simpa using ew) fin
  · have hj : (i + (its.toArray.size : Int)).toNat = j := by
      rw [seqIndex_neg (by omega) h4] at h1
      rw [List.size_toArray, ← hl]
      exact Option.some.inj h1
    exact wpAny_getItem_list_neg pl.isList (by omega) (by rw [List.size_toArray] <;> omega) (by omega) (by rw [hj]; simpa using ew) fin
def sAugC (mo mk : ME) (f : Int → Int → Int) (me : ME) : MS := fun env S => (mo env S).out env fun o S1 => (mk env S1).out env fun k S2 => match o, k with
  | .ref n, .int k => (match S2[n]? with
    | some (.lst ds) => (match atI ds k with
      | some (.int x) => (me env S2).out env fun d S3 => (match d, S3[n]? with
        | .int y, some (.lst ds') => (match ixN ds'.length k with
          | some j => .nx env (S3.set n (.lst (ds'.set j (.int (f x y)))))
          | none => .stuck)
        | _, _ => .stuck)
      | _ => .stuck)
    | _ => .stuck)
  | _, _ => .stuck
theorem t_augC {op : Operator} {f : Int → Int → Int} {p2 : Pos} (hp : PIp X op (ipI f)) (ho : SE X Y W o ta ma) (hk : SE X Y W b tb mb) (he : SE X Y W e te me) (hK : X.K = Y.K := by rfl)
    (ha : ∀ ov iv new, augStore b ov iv new = (do holding [new, ov, iv] (setItem ov iv new); release [new, ov, iv] []; pure .next) := by intros; rfl) :
    SS X Y W (.AugAssign (.Subscript o b p2) op e pos) (tAugS ta tb te (rIxL Y.K) (ipI f) rSetL) (sAugC ma mb f me) := ⟨hK ▸ ps_augS ho.pe hk.pe get_list he.pe hp set_list ha, fun w0 H0 w H σ env S O Dn st p =>
  ho.sim w0 H0 w H σ env S O _ st ((PostS.out p).imp fun od S1 w1 H1 st1 l1 p1 ov or => hk.sim w0 H0 w1 H1 σ env S1 O _ st1 ((PostS.out p1).imp fun k S2 w2 H2 st2 l2 p2 kv kr => by
    split at p2
    · rename_i n k
      split at p2
      · rename_i ds hS
        split at p2
        · rename_i x hx
          obtain ⟨q, us, x1, x2, x3, x4⟩ := cell_lst st2.ok (or.mono l2) hS
          obtain ⟨v, g1, g2⟩ := x4.atI_ hx
          refine ⟨q, us, k, v, x1, rep_int kr, .inl (.inl x3), g1, ?_⟩
          refine he.sim w0 H0 w2 H2 σ env S2 O _ st2 ((PostS.out p2).imp fun d S3 w3 H3 st3 l3 p3 dv dr => ?_)
          split at p3
          · rename_i y ds' hS3
            split at p3
            · rename_i j hj
              obtain ⟨q', us', y1, y2, y3, y4⟩ := cell_lst st3.ok (or.mono (l2.trans l3)) hS3
              refine ⟨x, y, rep_int g2, rep_int dr, q', us', k, j, y1, rep_int kr, y3, by rw [← y4.len]; exact hj, ?_⟩
              obtain ⟨k4, f4⟩ := ok_cell (c' := .lst (ds'.set j (.int (f x y)))) st3.ok y2 hS3 (o := .lst (us'.set j (.int (f x y)))) ⟨_, upd_same, y4.set_ rep_int' j⟩ nt_lst
              exact p3 w3 _ σ O (st3.after f4 k4) (.refl w3)
            · exact False.elim p3
          · exact False.elim p3
        · exact False.elim p2
      · exact False.elim p2
    · exact False.elim p2))⟩
/-! ### own == -/
variable {k n : Nat} {fa C : Addr} {fd : FuncData} {ps : List Str} {mfn : MFn} {ds : List Value}
def rEqI (C : Addr) (sp : Sp) (E : XK) : R2 := fun x y H Q => ∃ a b dx dy fs gs, x = .ref a ∧ y = .ref b ∧ H a = some (.ins C dx fs) ∧ H b = some (.ins C dy gs) ∧ sp [x, y] H (fun v H' => ∃ k, v = .bl k ∧ Q v H') E
theorem op_eqI {CX : CXT} {sp : Sp} {E : XK} (F : FnOk X.prog X.w X.K X.mg X.base CX n fa fd ps sp) (hr : Room n X.A)
    (hs : PySem.W.findIn X.K (.ref C) "__eq__" = some (some (.ref fa))) (hf : PySem.W.isFn X.K (.ref fa) = true) (hb : Binds X.K fd ps []) (hx : Passes CX X E) : OpR X (compareOp .Eq) (rEqI C sp E) := by
  intro pins s σ H x y u v Q I rx ry d
  obtain ⟨a, b, dx, dy, fs, gs, rfl, rfl, ha, hb', hsp⟩ := d
  cases rx
  cases ry
  obtain ⟨mA, J, _⟩ := ins_get I.hok ha
  obtain ⟨mB, J', _⟩ := ins_get I.hok hb'
  obtain ⟨od, J, _⟩ := J.look
  obtain ⟨od', J', _⟩ := J'.look
  obtain ⟨m, hF⟩ := I.fr
  show wpAny (model X.prog X.w) X.A (richCompare .Eq (.ref a) (.ref b)) (EP X pins σ Q) X.xe s
  refine PySem.W.cmp_K (op := .Eq) (tb := .ref C) hr.units0 hF I.ok.mod.kin J J'.type (by simp [PySem.W.notFirst]) hs hf ?_
  have hl := F.len _ _ _ _ hsp
  have r2 : Vals [V.ref a, V.ref b] [Value.ref a, Value.ref b] := .cons rfl (.cons rfl .nil)
  refine wpAny_call (codeAny_mono (F.run X.A X.stack s H ⟨[.ref a, .ref b], []⟩ [.ref a, .ref b] [.ref a, .ref b] _ E hr I.env0 (by
    have := hb s [.ref a, .ref b] I.kIn (by simpa using hl)
    simpa using this) r2 hsp) fun r s' hq => ?_)
  cases r with
  | error e => exact hx pins σ H s e s' I hq
  | ok fl =>
    cases fl with
    | ret w =>
      obtain ⟨z, H', I', rz, kk, ez, q⟩ := I.after hq
      subst ez
      cases rz
      exact ⟨.bl kk, H', I', rfl, q⟩
    | next => exact False.elim hq
    | brk => exact False.elim hq
    | cont => exact False.elim hq
theorem passN {X : Cx} : Passes (L2N.CX X.prog X.w) X E0 := fun _ _ _ _ _ _ _ z => (show False by
  obtain ⟨_, _, _, _, _, _, _, _, _, _, _, _, q⟩ := z
  exact q).elim
theorem takesN {X : Cx} : L2N.Takes X (fun _ _ _ _ => False) := fun _ _ z => (show False by
  obtain ⟨_, _, _, _, _, _, _, _, _, _, _, _, _, _, _, _, q⟩ := z
  exact q).elim
def eEqI (c : Str) (f : MFn) (ma mb : ME) : ME := fun env S => (ma env S).bind fun d1 S1 => (mb env S1).bind fun d2 S2 => match insOf c S2 d1, insOf c S2 d2, f [d1, d2] S2 with
  | some _, some _, .ok (.val (.bl k)) S3 => .ok (.bl k) S3
  | _, _, _ => .stuck
theorem s_eqI (c : Str) (F : FnOk X.prog X.w X.K X.mg X.base (L2N.CX X.prog X.w) n fa fd ps (spOf Y 2 mfn)) (hr : Room n X.A) (hM : Meth X.K (Y.ca c) "__eq__" fa) (hb : Binds X.K fd ps []) (ha : SE X Y W a ta ma) (hb' : SE X Y W b tb mb) :
    SE X Y W (.Compare a [.Eq] [b] pos) (tOp (rEqI (Y.ca c) (spOf Y 2 mfn) E0) ta tb) (eEqI c mfn ma mb) := ⟨pe_cmpR (op_eqI F hr hM.at_ hM.fn hb passN) ha.pe hb'.pe (nobehind _ (by decide) (by decide)), fun w0 H0 w H σ env S O Q st p =>
  ha.sim w0 H0 w H σ env S O _ st ((PostX.bind p).imp fun d1 S1 w1 H1 st1 l1 p1 v1 r1 => hb'.sim w0 H0 w1 H1 σ env S1 O _ st1 ((PostX.bind p1).imp fun d2 S2 w2 H2 st2 l2 p2 v2 r2 => by
    split at p2
    · rename_i fs gs kk S3 h1 h2 h3
      obtain ⟨q1, dx, fv, x1, x2, x3⟩ := insOf_rep st2.ok (r1.mono l2) h1
      obtain ⟨q2, dy, gv, y1, y2, y3⟩ := insOf_rep st2.ok r2 h2
      refine ⟨q1, q2, dx, dy, fv, gv, x1, y1, x2, y2, rfl, w2, [d1, d2], S2, st2.ok, RepL.cons_ (r1.mono l2) (RepL.cons_ r2 RepL.nil_), ?_⟩
      rw [h3]
      intro w' H' v f k rv
      have ev : v = .bl kk := rep_bl (g := Y) (w := w') rv
      exact ⟨kk, ev, p2 w' H' (st2.after f k) f.le v (by rw [ev]; exact rep_bl')⟩
    · exact False.elim p2))⟩
/-! ### isinstance(x, C) of a thing of that class -/
def eIsC (c : Str) (m : MA) : ME := fun env S => (m env S).bind fun ds S1 => match ds with
  | [d, .cls c'] => if c' = c then (match insOf c S1 d with
    | some _ => .ok (.bl true) S1
    | none => .stuck) else .stuck
  | _ => .stuck
theorem s_gcls {x : Str} (hm : X.mg x = some (.ref (Y.ca x))) (hg : Gl X x := by rfl) (hd : (x == ("__debug__" : Str)) = false := by decide) : SE X Y W (.Name x pos) (tC (.ref (Y.ca x))) (eC (.cls x)) :=
  ⟨pe_glob hg hm rfl hd, sim_c fun _ => by unfold Rep; rfl⟩
theorem s_isC (c : Str) (hI : C8.InsC X.K (Y.ca c)) (hm : X.mg "isinstance" = none) (ha : SA X Y W [a, b] t m) (hg : Gl X "isinstance" := by rfl) (he : starEach [a, b] X.env = (false, eval a X.env) :: starEach [b] X.env := by rfl) (hpl : (backTo pos (starEach [b] X.env)).any (·.1) = false := by rfl) :
    SE X Y W (.Call (.Name "isinstance" p) [a, b] [] pos) (tCB (fun xs H Q => ∃ a dx fs, xs = [.ref a, .ref (Y.ca c)] ∧ H a = some (.ins (Y.ca c) dx fs) ∧ Q (.bl true) H) t) (eIsC c m) :=
  ⟨pe_callB (C8.call_isC hI) hg hm (by decide +kernel : bootBuiltins "isinstance" = some (.builtin "isinstance")) ha.pa (by decide) (by decide) he hpl, fun w0 H0 w H σ env S O Q st p =>
  ha.sim w0 H0 w H σ env S O _ st ((PostX.bind p).imp fun ds S1 w1 H1 st1 l1 p1 vs r => by
    split at p1
    · rename_i d c'
      split at p1
      · rename_i ec
        split at p1
        · rename_i fs hf
          obtain ⟨v1, v2, e1, e2, e3⟩ := repL_two r
          obtain ⟨q, dx, gs, x1, x2, x3⟩ := insOf_rep st1.ok e2 hf
          unfold Rep at e3
          rw [x1, e3, ec] at e1
          exact ⟨q, dx, gs, e1, x2, p1 w1 H1 st1 (.refl w1) _ rep_bl'⟩
        · exact False.elim p1
      · exact False.elim p1
    · exact False.elim p1)⟩
/-! ### a, b = a list -/
def gU (b : MGs) : MG := fun d env => match d with
  | .lst ds => b ds env
  | _ => none
theorem g_unl {is : List Nat} {k : Nat} {tgs : TGs} {mgs : MGs} (h : SGs X Y is es tgs mgs) (hK : X.K = Y.K := by rfl) (hc : X.calm = true := by rfl) (hn : (assignEach es X.env).length = es.length := by rfl) (hst : (assignEach es X.env).findIdx? (·.1) = none := by rfl) : SG X Y is (.Tuple es k pos) (gUnl Y.K es.length tgs) (gU mgs) :=
  ⟨hK ▸ pg_unl hc h.pg hn hst, fun w0 H0 w H σ env S O d v Q e' st r h' q => by
    unfold gU at h'
    split at h'
    · rename_i ds
      obtain ⟨a, vs, e1, e2, e3⟩ := rep_lst r
      exact ⟨a, vs, e1, .inl (.inl (st.ok.ex _ _ e2)), by rw [← e3.len]; exact h.len ds env e' h', h.sim w0 H0 w H σ env S O ds vs Q e' st e3 h' q⟩
    · cases h'⟩
end
end Mm
namespace Mm
open PySem L2
/-! ### what is known of the text's defs and classes -/
section
variable (P : Program) (w : World) (K : PySem.W.Frag) (mg : Str → Option Value) (base : Heap) (Y : Gam)
/-- a def of the module: k its level, n its parameters, dvs, dd the defaults that fill up -/
def Kn (k : Nat) (x : Str) (n : Nat) (mf : MFn) (dvs : List V) (dd : List D) : Prop := ∃ f fd ps ds, FnOk P w K mg base (L2N.CX P w) k f fd ps (spOf Y n mf) ∧ mg x = some (.ref f) ∧ PySem.W.keepIn K (.ref f) = true ∧ Binds K fd ps ds ∧ Vals dvs ds ∧ ∀ w, RepL Y w dd dvs
/-- a method -/
def KnM (k : Nat) (c x : Str) (n : Nat) (mf : MFn) (dvs : List V) (dd : List D) : Prop := ∃ f fd ps ds, FnOk P w K mg base (L2N.CX P w) k f fd ps (spOf Y n mf) ∧ Cls K (Y.ca c) ∧ Meth K (Y.ca c) x f ∧ Binds K fd ps ds ∧ Vals dvs ds ∧ ∀ w, RepL Y w dd dvs
/-- a class by its __init__ -/
def KnC (k : Nat) (x : Str) (n : Nat) (mf : MFn) (dvs : List V) (dd : List D) : Prop := ∃ f fd ps ds, FnOk P w K mg base (L2N.CX P w) k f fd ps (spOf Y n mf) ∧ Mk K (Y.ca x) f ∧ mg x = some (.ref (Y.ca x)) ∧ Binds K fd ps ds ∧ Vals dvs ds ∧ ∀ w, RepL Y w dd dvs
end
/-- an own exception class without fields -/
structure KnX (K : PySem.W.Frag) (mg : Str → Option Value) (Y : Gam) (x : Str) : Prop where
  xP : PySem.W.excIn K (Y.ca x) [.type "ValueError", .type "Exception", .type "BaseException", .type "object"] "ValueError.__new__" = true
  gP : mg x = some (.ref (Y.ca x))
  kP : PySem.W.keepIn K (.ref (Y.ca x)) = true
  bP : PySem.W.subIn K (.ref (Y.ca x)) (.type "BaseException") = some true
  tP : PySem.W.typeIn K (.ref (Y.ca x)) = some (.type "type")
/-- built-in names that the module leaves alone -/
structure Bl (mg : Str → Option Value) : Prop where
  len : mg "len" = none
  range : mg "range" = none
  enumerate : mg "enumerate" = none
  zip : mg "zip" = none
  sorted : mg "sorted" = none
  sum : mg "sum" = none
  all : mg "all" = none
  any : mg "any" = none
  list : mg "list" = none
  tuple : mg "tuple" = none
  int : mg "int" = none
  isinstance : mg "isinstance" = none
  min : mg "min" = none
  max : mg "max" = none
  set : mg "set" = none
  abs : mg "abs" = none
  bool : mg "bool" = none
  str : mg "str" = none
  repr : mg "repr" = none
  dict : mg "dict" = none
section
variable {X : Cx} {Y : Gam} {W : WX} {e a b c tg iter elt o : Expr} {es rest ifs : List Expr} {ta tb te : TE} {tt tu : TT} {ma mb me : ME} {mt mu : MT} {mf : MF} {t : TA} {m : MA} {pos p apos : Pos} {s : Stmt} {ss : List Stmt} {t1 t2 : TS} {m1 m2 : MS} {wi : TI} {mi : MI} {x f : Str}
variable {k n : Nat} {mfn : MFn} {dvs : List V} {dd : List D}
theorem u_call (h : Kn X.prog X.w X.K X.mg X.base Y k x n mfn dvs dd) (hr : Room k X.A) (tk : L2N.Takes X W)
    (ha : SA X Y W (e :: es) t m) (hn : (e :: es).length + dd.length = n := by rfl) (hg : Gl X x := by rfl) (hdb : (x == ("__debug__" : Str)) = false := by decide) (he : starEach (e :: es) X.env = (false, eval e X.env) :: starEach es X.env := by rfl) (hpl : (backTo pos (starEach es X.env)).any (·.1) = false := by rfl) :
    SE X Y W (.Call (.Name x p) (e :: es) [] pos) (tCallSD (spOf Y n mfn) dvs (WE W) t) (eCall mfn dd m) := by
  obtain ⟨f, fd, ps, ds, F, hm, hk, hb, hd, hdv⟩ := h
  exact s_call F hr hm hk hb hd hdv tk ha hn hg hdb he hpl
theorem v_call (h : Kn X.prog X.w X.K X.mg X.base Y k x n mfn dvs dd) (hr : Room k X.A) (tk : L2N.Takes X W)
    (ha : SA X Y W (e :: es) t m) (hn : (e :: es).length + dd.length = n := by rfl) (hg : Gl X x := by rfl) (hdb : (x == ("__debug__" : Str)) = false := by decide) (he : starEach (e :: es) X.env = (false, eval e X.env) :: starEach es X.env := by rfl) (hpl : (backTo pos (starEach es X.env)).any (·.1) = false := by rfl) :
    SF X Y W (.Call (.Name x p) (e :: es) [] pos) (tCallSD (spOf Y n mfn) dvs (WE W) t) (fCall mfn dd m) := by
  obtain ⟨f, fd, ps, ds, F, hm, hk, hb, hd, hdv⟩ := h
  exact f_call F hr hm hk hb hd hdv tk ha hn hg hdb he hpl
theorem u_meth (c : Str) {pl : Sem Bool} (h : KnM X.prog X.w X.K X.mg X.base Y k c x n mfn dvs dd) (hr : Room k X.A) (tk : L2N.Takes X W) (ho : SE X Y W o ta ma)
    (ha : SA X Y W (e :: es) t m) (hn : (e :: es).length + dd.length + 1 = n := by rfl) (hst : starEach (e :: es) X.env = (false, eval e X.env) :: starEach es X.env := by rfl) (hpl : (backTo pos (starEach es X.env)).any (·.1) = false := by rfl)
    (ht : eval (.Call (.Attribute o x apos) (e :: es) [] pos) X.env = (do
      let ov ← eval o X.env
      standAt apos.atName
      let (f, first) ← holding [ov] (getMethod ov x pl)
      callWith pos f first (backTo pos (starEach (e :: es) X.env)) (backToKw pos (keywordEach [] X.env))) := by rfl) :
    SE X Y W (.Call (.Attribute o x apos) (e :: es) [] pos) (tMethS (Y.ca c) x (spOf Y n mfn) dvs (WE W) ta t) (eMeth c x mfn dd ma m) := by
  obtain ⟨f, fd, ps, ds, F, hC, hm, hb, hd, hdv⟩ := h
  exact s_meth c ho hC hm F hr hb hd hdv tk ha hn hst hpl ht
theorem v_meth (c : Str) {pl : Sem Bool} (h : KnM X.prog X.w X.K X.mg X.base Y k c x n mfn dvs dd) (hr : Room k X.A) (tk : L2N.Takes X W) (ho : SE X Y W o ta ma)
    (ha : SA X Y W (e :: es) t m) (hn : (e :: es).length + dd.length + 1 = n := by rfl) (hst : starEach (e :: es) X.env = (false, eval e X.env) :: starEach es X.env := by rfl) (hpl : (backTo pos (starEach es X.env)).any (·.1) = false := by rfl)
    (ht : eval (.Call (.Attribute o x apos) (e :: es) [] pos) X.env = (do
      let ov ← eval o X.env
      standAt apos.atName
      let (f, first) ← holding [ov] (getMethod ov x pl)
      callWith pos f first (backTo pos (starEach (e :: es) X.env)) (backToKw pos (keywordEach [] X.env))) := by rfl) :
    SF X Y W (.Call (.Attribute o x apos) (e :: es) [] pos) (tMethS (Y.ca c) x (spOf Y n mfn) dvs (WE W) ta t) (fMeth c x mfn dd ma m) := by
  obtain ⟨f, fd, ps, ds, F, hC, hm, hb, hd, hdv⟩ := h
  exact f_meth c ho hC hm F hr hb hd hdv tk ha hn hst hpl ht
theorem u_meth0 (c : Str) {pl : Sem Bool} (h : KnM X.prog X.w X.K X.mg X.base Y k c x n mfn dvs dd) (hr : Room k X.A) (tk : L2N.Takes X W) (ho : SE X Y W o ta ma)
    (hn : dd.length + 1 = n := by rfl)
    (ht : eval (.Call (.Attribute o x apos) [] [] pos) X.env = (do
      let ov ← eval o X.env
      standAt apos.atName
      let (f, first) ← holding [ov] (getMethod ov x pl)
      callWith pos f first (backTo pos (starEach [] X.env)) (backToKw pos (keywordEach [] X.env))) := by rfl) :
    SE X Y W (.Call (.Attribute o x apos) [] [] pos) (tMethS (Y.ca c) x (spOf Y n mfn) dvs (WE W) ta tNil) (eMeth c x mfn dd ma aNil) := by
  obtain ⟨f, fd, ps, ds, F, hC, hm, hb, hd, hdv⟩ := h
  exact s_meth0 c ho hC hm F hr hb hd hdv tk hn ht
theorem v_meth0 (c : Str) {pl : Sem Bool} (h : KnM X.prog X.w X.K X.mg X.base Y k c x n mfn dvs dd) (hr : Room k X.A) (tk : L2N.Takes X W) (ho : SE X Y W o ta ma)
    (hn : dd.length + 1 = n := by rfl)
    (ht : eval (.Call (.Attribute o x apos) [] [] pos) X.env = (do
      let ov ← eval o X.env
      standAt apos.atName
      let (f, first) ← holding [ov] (getMethod ov x pl)
      callWith pos f first (backTo pos (starEach [] X.env)) (backToKw pos (keywordEach [] X.env))) := by rfl) :
    SF X Y W (.Call (.Attribute o x apos) [] [] pos) (tMethS (Y.ca c) x (spOf Y n mfn) dvs (WE W) ta tNil) (fMeth c x mfn dd ma aNil) := by
  obtain ⟨f, fd, ps, ds, F, hC, hm, hb, hd, hdv⟩ := h
  exact f_meth0 c ho hC hm F hr hb hd hdv tk hn ht
theorem u_new (h : KnC X.prog X.w X.K X.mg X.base Y k x n mfn dvs dd) (hr : Room (k + 1) X.A) (tk : L2N.Takes X W)
    (ha : SA X Y W (e :: es) t m) (hn : (e :: es).length + dd.length + 1 = n := by rfl) (hg : Gl X x := by rfl) (hdb : (x == ("__debug__" : Str)) = false := by decide) (he : starEach (e :: es) X.env = (false, eval e X.env) :: starEach es X.env := by rfl) (hpl : (backTo pos (starEach es X.env)).any (·.1) = false := by rfl) :
    SE X Y W (.Call (.Name x p) (e :: es) [] pos) (tMakeS (Y.ca x) (spOf Y n mfn) dvs (WE W) t) (eNew x mfn dd m) := by
  obtain ⟨f, fd, ps, ds, F, M, hm, hb, hd, hdv⟩ := h
  exact s_new M F hr hm hb hd hdv tk ha hn hg hdb he hpl
theorem u_eq (c : Str) (h : KnM X.prog X.w X.K X.mg X.base Y k c "__eq__" 2 mfn [] []) (hr : Room k X.A) (ha : SE X Y W a ta ma) (hb' : SE X Y W b tb mb) :
    SE X Y W (.Compare a [.Eq] [b] pos) (tOp (rEqI (Y.ca c) (spOf Y 2 mfn) E0) ta tb) (eEqI c mfn ma mb) := by
  obtain ⟨f, fd, ps, ds, F, hC, hm, hb, hd, hdv⟩ := h
  cases hd
  exact s_eqI c F hr hm hb ha hb'
theorem u_int {x : Str} {i : Int} (hm : ∃ u, X.mg x = some (.int i u)) (hg : Gl X x := by rfl) (hd : (x == ("__debug__" : Str)) = false := by decide) : SE X Y W (.Name x pos) (tC (.int i)) (eC (.int i)) := by
  obtain ⟨u, hm⟩ := hm
  exact s_gint hm hg hd
theorem u_raise {x : Str} {pos' : Pos} (h : KnX X.K X.mg Y x) (tk : L2N.Takes X W) (hc : X.calm = true := by rfl) (hg : Gl X x := by rfl) (hdb : (x == ("__debug__" : Str)) = false := by decide) :
    SS X Y W (.Raise (some (.Call (.Name x p) [] [] pos)) none pos') (fun _ σ H => W (.ref (Y.ca x)) none σ H) (sRaise x) := t_raise h.xP h.gP h.kP h.bP h.tP tk hc hg hdb
/-! ### slots, told by their place -/
theorem u_set (i : Nat) {x : Str} {pos' : Pos} (he : SE X Y W e te me) (hN : X.N.Nodup) (hi : X.N[i]? = some x := by rfl) (hx : Loc X.env.scope x := by first | exact Or.inl rfl | exact Or.inr rfl) (hs : swapsWith e (some (.Name x pos')) pos.line X.env = pure false := by rfl) (hf : X.fn x = true ∨ X.env.scope.names.lookup x = some .local := by first | exact .inl rfl | exact .inr rfl | assumption) :
    SS X Y W (.Assign [.Name x pos'] e pos) (tAsg te (gName i)) (sAsg me (gN i)) := t_set hN hi hx he hs hf
theorem u_own (i : Nat) {x : Str} {pos' : Pos} (he : SF X Y W e te mf) (hN : X.N.Nodup) (hi : X.N[i]? = some x := by rfl) (hx : Loc X.env.scope x := by first | exact Or.inl rfl | exact Or.inr rfl) (hs : swapsWith e (some (.Name x pos')) pos.line X.env = pure false := by rfl) (hf : X.fn x = true ∨ X.env.scope.names.lookup x = some .local := by first | exact .inl rfl | exact .inr rfl | assumption) :
    SS X Y W (.Assign [.Name x pos'] e pos) (tAsg te (gName i)) (sOwn i mf) := t_own hN hi hx he hs hf
theorem u_cell (i : Nat) {x : Str} {pos' : Pos} (he : SF X Y W e te mf) (hN : X.N.Nodup) (hi : X.N[i]? = some x := by rfl) (hx : Loc X.env.scope x := by first | exact Or.inl rfl | exact Or.inr rfl) (hs : swapsWith e (some (.Name x pos')) pos.line X.env = pure false := by rfl) (hf : X.fn x = true ∨ X.env.scope.names.lookup x = some .local := by first | exact .inl rfl | exact .inr rfl | assumption) :
    SS X Y W (.Assign [.Name x pos'] e pos) (tAsg te (gName i)) (sCell i mf) := t_cell hN hi hx he hs hf
theorem u_g (i : Nat) {x : Str} (hN : X.N.Nodup) (hi : X.N[i]? = some x := by rfl) (hx : Loc X.env.scope x := by first | exact Or.inl rfl | exact Or.inr rfl) (hf : X.fn x = true ∨ X.env.scope.names.lookup x = some .local := by first | exact .inl rfl | exact .inr rfl | assumption) : SG X Y [i] (.Name x pos) (gName i) (gN i) := g_name hN hi hx hf
theorem u_aug (i : Nat) {x : Str} {op : Operator} {f : Int → Int → Int} {pos' : Pos} (ho : PIp X op (ipI f)) (he : SE X Y W e te me) (hN : X.N.Nodup) (hi : X.N[i]? = some x := by rfl) (hx : Loc X.env.scope x := by first | exact Or.inl rfl | exact Or.inr rfl) (hf : X.fn x = true ∨ X.env.scope.names.lookup x = some .local := by first | exact .inl rfl | exact .inr rfl | assumption) :
    SS X Y W (.AugAssign (.Name x pos') op e pos) (tAug i te (ipI f)) (sAug i f me) := t_aug hN hi hx ho he hf
/-- len and items of a slot's list, of one's own or not -/
def eLenA (i : Nat) : ME := fun env S => match env[i]? with
  | some (.o (.lst ds)) => .ok (.int ds.length) S
  | some (.v d) => opt (fLen S [d]) S
  | _ => .stuck
theorem u_lenA (i : Nat) {x : Str} {p1 : Pos} (hm : X.mg "len" = none) (hK : X.K = Y.K := by rfl) (hN : X.N[i]? = some x := by rfl) (hv : Vis X.env.scope x := by first | exact Or.inl rfl | exact Or.inr (Or.inl rfl) | exact Or.inr (Or.inr rfl)) (hd : (x == ("__debug__" : Str)) = false := by decide)
    (hcd : (x == ("__classdict__" : Str)) = false := by decide) (hg : Gl X "len" := by rfl) (he : starEach [.Name x p1] X.env = (false, eval (.Name x p1) X.env) :: starEach [] X.env := by rfl) (hpl : (backTo pos (starEach [] X.env)).any (·.1) = false := by rfl) :
    SE X Y W (.Call (.Name "len" p) [.Name x p1] [] pos) (tCB (rLn Y.K) (tCons (tVar i) tNil)) (eLenA i) := ⟨(s_lenO (Y := Y) (W := W) i hm hK hN hv hd hcd hg he hpl).pe, fun w0 H0 w H σ env S O Q st pp => by
  unfold eLenA at pp
  split at pp
  · rename_i ds hs
    exact (s_lenO (X := X) (Y := Y) (W := W) (p := p) i hm hK hN hv hd hcd hg he hpl).sim w0 H0 w H σ env S O Q st (by
      unfold eLenO
      rw [hs]
      exact pp)
  · rename_i d hs
    exact sim_cb (g := Y) (cd_len (g := Y)) ((a_cons (Y := Y) (W := W) (sv i (X := X) hN hv hd hcd) a_nil he).sim) w0 H0 w H σ env S O Q st (by
      unfold eCB aCons aNil eV
      rw [hs]
      exact pp)
  · exact pp.elim⟩
def eIxA (i : Nat) (mk : ME) : ME := fun env S => match env[i]? with
  | some (.o (.lst ds)) => (mk env S).bind fun k S1 => (match k with
    | .int k => opt (atI ds k) S1
    | _ => .stuck)
  | some (.v d) => (mk env S).bind fun k S1 => opt (fIx S1 d k) S1
  | _ => .stuck
theorem u_ixA (i : Nat) {x : Str} {p1 : Pos} (hk : SE X Y W a ta ma) (hs : PlainIx a) (hK : X.K = Y.K := by rfl) (hN : X.N[i]? = some x := by rfl) (hv : Vis X.env.scope x := by first | exact Or.inl rfl | exact Or.inr (Or.inl rfl) | exact Or.inr (Or.inr rfl)) (hd : (x == ("__debug__" : Str)) = false := by decide)
    (hcd : (x == ("__classdict__" : Str)) = false := by decide) : SE X Y W (.Subscript (.Name x p1) a pos) (tOp (fun x y H Q => rIxL Y.K x y H Q ∨ rIxT Y.K x y H Q) (tVar i) ta) (eIxA i ma) := ⟨hK ▸ pe_ix ix_lt (pv i hN hv hd hcd) hk.pe hs, fun w0 H0 w H σ env S O Q st p => by
  unfold eIxA at p
  split at p
  · rename_i ds hs
    obtain ⟨q, e1, e2, e3, e4, e5, e6, hi⟩ := st.own_at hs
    refine ⟨.ref q, e1, ?_⟩
    refine hk.sim w0 H0 w H σ env S O _ st ((PostX.bind p).imp fun k S1 w1 H1 st1 l1 p1 kv kr => ?_)
    split at p1
    · rename_i k
      obtain ⟨d, e, kk⟩ := PostX.opt_ p1 st1
      obtain ⟨q', f1, f2, f3, ⟨us, f4, f4'⟩, f5, f6, _⟩ := st1.own_at hs
      rw [e2] at f2
      cases f2
      obtain ⟨v, g1, g2⟩ := f4'.atI_ e
      exact .inl ⟨q, us, k, v, rfl, rep_int kr, .inl (.inl f4), g1, kk w1 H1 st1 (.refl w1) v g2⟩
    · exact False.elim p1
  · rename_i d hs
    exact sim_op (g := Y) (od_ix (g := Y)) ((sv i (X := X) (Y := Y) (W := W) (pos := p1) hN hv hd hcd).sim) hk.sim w0 H0 w H σ env S O Q st (by
      unfold eOp eV
      rw [hs]
      exact p)
  · exact p.elim⟩
end
/-! ### a def, told by its place in the text -/
section
variable {P : Program} {w : World} {K : PySem.W.Frag} {mg : Str → Option Value} {base : Heap} {Y : Gam}
abbrev FnP (K : PySem.W.Frag) (x qual : Str) (st : Stmt) (dvs : List V) (f : Addr) (fd : FuncData) : Prop := FunD K x qual (defArgs st) (defBody st) (defScope st) dvs [] f fd
theorem kn_of {k n : Nat} {x : Str} {st : Stmt} {f : Addr} {fd : FuncData} {ps : List Str} {mf : MFn} (F : FnP K x x st [] f fd) (g : mg x = some (.ref f)) (b : Binds K fd ps []) (h : FnOk P w K mg base (L2N.CX P w) k f fd ps (spOf Y n mf)) : Kn P w K mg base Y k x n mf [] [] :=
  ⟨f, fd, ps, [], h, g, F.kp, b, .nil, fun _ => RepL.nil_⟩
theorem knD_of {k n : Nat} {x : Str} {st : Stmt} {f : Addr} {fd : FuncData} {ps : List Str} {mf : MFn} {dvs dv : List V} {ds : List Value} {dd : List D} (F : FnP K x x st dv f fd) (g : mg x = some (.ref f)) (b : Binds K fd ps ds) (v : Vals dvs ds) (r : ∀ w, RepL Y w dd dvs) (h : FnOk P w K mg base (L2N.CX P w) k f fd ps (spOf Y n mf)) : Kn P w K mg base Y k x n mf dvs dd :=
  ⟨f, fd, ps, ds, h, g, F.kp, b, v, r⟩
theorem knM_of {k n : Nat} {c x qual : Str} {st : Stmt} {f : Addr} {fd : FuncData} {ps : List Str} {mf : MFn} (F : FnP K x qual st [] f fd) (C : Cls K (Y.ca c)) (M : Meth K (Y.ca c) x f) (b : Binds K fd ps []) (h : FnOk P w K mg base (L2N.CX P w) k f fd ps (spOf Y n mf)) : KnM P w K mg base Y k c x n mf [] [] :=
  ⟨f, fd, ps, [], h, C, M, b, .nil, fun _ => RepL.nil_⟩
theorem knC_of {k n : Nat} {x qual : Str} {st : Stmt} {f : Addr} {fd : FuncData} {ps : List Str} {mf : MFn} (F : FnP K "__init__" qual st [] f fd) (M : Mk K (Y.ca x) f) (g : mg x = some (.ref (Y.ca x))) (b : Binds K fd ps []) (h : FnOk P w K mg base (L2N.CX P w) k f fd ps (spOf Y n mf)) : KnC P w K mg base Y k x n mf [] [] :=
  ⟨f, fd, ps, [], h, M, g, b, .nil, fun _ => RepL.nil_⟩
end
end Mm
namespace Mm
open PySem L2
section
variable {X : Cx} {Y : Gam} {W : WX} {a b e : Expr} {pos p : Pos} {ta tb te : TE} {ma mb me : ME} {k : Nat} {mfn : MFn}
theorem uc_eq (c : Str) (h : KnM X.prog X.w X.K X.mg X.base Y k c "__eq__" 2 mfn [] []) (hr : Room k X.A) (ha : SE X Y W a ta ma) (hb' : SE X Y W b tb mb) :
    SC X Y W (.Compare a [.Eq] [b] pos) (tTest (tOp (rEqI (Y.ca c) (spOf Y 2 mfn) E0) ta tb)) (cB (eEqI c mfn ma mb)) := by
  obtain ⟨f, fd, ps, ds, F, hC, hm, hb, hd, hdv⟩ := h
  cases hd
  exact ⟨pt_cmpR (op_eqI F hr hm.at_ hm.fn hb passN) ha.pe hb'.pe (nobehind _ (by decide) (by decide)), sim_test (s_eqI (pos := pos) c F hr hm hb ha hb').sim⟩
end
/-- the reading's names, with the program's part in sight -/
abbrev GY (K : PySem.W.Frag) (ca : Str → Addr) (T : List (Addr × Str)) : Gam := ⟨K, ca, T⟩
end Mm
namespace Mm
open PySem L2
/-- the heap without its tables -/
noncomputable def plainH (H : Hp) : Hp := fun a => match H a with
  | some (.tbl _) => none
  | o => o
theorem plainH_same (H : Hp) : Same (plainH H) H := fun a o h => by
  unfold plainH at h
  split at h
  · cases h
  · exact h
theorem plainH_notab (H : Hp) (a : Addr) (ps : Array Value) : plainH H a ≠ some (.tbl ps) := fun h => by
  unfold plainH at h
  split at h
  · cases h
  · rename_i z
    exact z ps h
theorem plainH_of {H : Hp} {a : Addr} {o : HO} (h : H a = some o) (n : ∀ ps, o ≠ .tbl ps) : plainH H a = some o := by
  unfold plainH
  rw [h]
  split
  · rename_i q z
    exact absurd (Option.some.inj z) (n _)
  · rfl
theorem plainH_sql {K : PySem.W.Frag} {H : Hp} {a : Addr} {xs : List V} (h : SqL K H a xs) : SqL K (plainH H) a xs := by
  rcases h with (h | ⟨o, h⟩) | h
  · exact .inl (.inl (plainH_of h fun _ z => by cases z))
  · exact .inl (.inr ⟨o, plainH_of h fun _ z => by cases z⟩)
  · exact .inr h
/-- the law's promise from the machine's word -/
theorem law_sp {K : PySem.W.Frag} {ca : Str → Addr} {T : List (Addr × Str)} {H : Hp} {a : Addr} {ns : List Int} {m : MFn} {S : Sto} (hT : ∀ p ∈ T, H p.1 = some (.tbl #[]))
    (hS : SqL K H a (ns.map V.int)) (hm : m [.scr ns] [] = .ok (.val (.bl true)) S) : spOf (GY K ca T) 1 m [.ref a] H (fun v _ => v = .bl true) fun _ _ _ => False := by
  refine ⟨rfl, ⟨[], plainH H⟩, [.scr ns], [], ⟨plainH_same H, ⟨fun i j b h _ => by simp at h, rfl, fun n b c h _ => by simp at h⟩, fun p hp => LamX.TabS.nil (hT p hp), plainH_notab H⟩, RepL.cons_ ?_ RepL.nil_, ?_⟩
  · unfold Rep
    exact ⟨a, rfl, plainH_sql hS⟩
  · rw [hm]
    intro w' H' v _ _ r
    exact rep_bl (g := GY K ca T) (w := w') r
theorem law_at {l : PySem.W.OpenLaw} {w : World} {K : PySem.W.Frag} {k n : Nat} {x : Str} {mg : Str → Option Value} {fa : Addr} {h : Heap} {fd : FuncData} {ca : Str → Addr} {m : MFn}
    (hb : ∀ (s : Shared) (u : Value), BindsTo s fd ⟨[u], []⟩ [(x, u)]) (hm : ∀ ns : List Int, ns.length ≤ n → (∀ z ∈ ns, Builtin.Int.intBits z ≤ 1048576) → ∃ S, m [.scr ns] [] = .ok (.val (.bl true)) S)
    (hF : ∀ base : Heap, FnOk l.prog w K mg base (L2N.CX l.prog w) k fa fd [x] (spOf (GY K ca []) 1 m)) : LamX.LawAtS l w K (L2N.CX l.prog w) k n x mg fa h :=
  ⟨fd, [], spOf (GY K ca []) 1 m, fun _ h => by simp at h, fun _ h => by simp at h, fun _ h => by simp at h, hb, fun H a ns hl hbt _ hS => by
    obtain ⟨S, e⟩ := hm ns hl hbt
    exact law_sp (fun _ h => by simp at h) hS e, fun base _ _ _ => hF base⟩
/-! ### own facts by a Bool -/
def insB (K : PySem.W.Frag) (x : Str) : Bool := He.eqO (PySem.W.findIn K (.ref (He.ga K x)) "__class__") (some (some (.builtin "object.__class__"))) && (He.eqO (PySem.W.specialIn K (.builtin "object.__class__") "__get__") (some (some (.builtin "getset_descriptor.__get__"))) &&
  (decide (PySem.W.takesIn K (.builtin "object.__class__") = some true) && (decide (PySem.W.mroIn K (He.ga K x) (.type "object") = some true) && decide (PySem.W.kitOne K (.ref (He.ga K x)) (.ref (He.ga K x)) = some true))))
theorem insB_ok {K : PySem.W.Frag} {x : Str} (C : Cls K (He.ga K x)) (h : insB K x = true) : C8.InsC K (He.ga K x) := by
  obtain ⟨h1, h⟩ := He.ba h
  obtain ⟨h2, h⟩ := He.ba h
  obtain ⟨h3, h⟩ := He.ba h
  obtain ⟨h4, h5⟩ := He.ba h
  exact ⟨C, He.eqO_ok h1, He.eqO_ok h2, of_decide_eq_true h3, of_decide_eq_true h4, of_decide_eq_true h5⟩
theorem exAt {es : List (PySem.W.Frag → Bool)} {K : PySem.W.Frag} (h : (es.all fun f => f K) = true) (i : Nat) {f : PySem.W.Frag → Bool} (e : es[i]? = some f) : f K = true := List.all_eq_true.mp h f (List.mem_of_getElem? e)
theorem cx_none (P : Program) (w : World) (H : Hp) (s : Shared) (e : Value) (s' : Shared) (h : L2N.CX P w [] H s (fun _ _ _ => False) e s') : False := by
  obtain ⟨_, _, _, _, _, _, _, _, _, _, _, _, z⟩ := h
  exact z
def blFa : List He.Fa := [.free "len", .free "range", .free "enumerate", .free "zip", .free "sorted", .free "sum", .free "all", .free "any", .free "list", .free "tuple", .free "int", .free "isinstance", .free "min", .free "max", .free "set", .free "abs", .free "bool", .free "str", .free "repr", .free "dict"]
theorem bl_of {K : PySem.W.Frag} {h : Heap} {mg : Str → Option Value} (X : K.In h) (G : h.Ns mainGlobals mg) (c : ∀ f ∈ blFa, f.ok K = true) : Bl mg := by
  have g : ∀ x : Str, He.Fa.free x ∈ blFa → mg x = none := fun x hx => He.free_ok X G (c _ hx)
  constructor <;> exact g _ (by simp [blFa])
theorem knX_of {K : PySem.W.Frag} {h : Heap} {mg : Str → Option Value} {T : List (Addr × Str)} (X : K.In h) (G : h.Ns mainGlobals mg) {x : Str} (c1 : (He.Fa.glo x).ok K = true) (c2 : (He.Fa.exc x).ok K = true) : KnX K mg (GY K (He.ga K) T) x := by
  obtain ⟨e1, e2, e3, e4⟩ := He.exc_ok c2
  exact ⟨e1, He.glo_ok X G c1, e2, e3, e4⟩
end Mm
namespace Mm
open PySem L2
section
variable {X : Cx} {Y : Gam} {W : WX} {e a b c tg iter elt : Expr} {es rest ifs : List Expr} {ta tb te : TE} {tt tu : TT} {ma mb me : ME} {mt mu : MT} {mf : MF} {t : TA} {m : MA} {pos p : Pos} {s : Stmt} {ss : List Stmt} {t1 t2 : TS} {m1 m2 : MS} {wi : TI} {mi : MI} {x : Str}
/-! ### tuples put together, cut -/
def fCatT : Sto → D → D → Option D
  | _, .tup xs, .tup ys => if szB (xs.length + ys.length) then some (.tup (xs ++ ys)) else none
  | _, _, _ => none
theorem od_catT {g : Gam} : OpD g (rCatA g.K) fCatT := fun w H S d1 d2 v1 v2 d Q k r1 r2 e q => by
  unfold fCatT at e
  split at e
  · rename_i xs ys
    split at e
    · rename_i z
      cases e
      obtain ⟨a, us, x1, x2, x3⟩ := rep_tup r1
      obtain ⟨b, vs, y1, y2, y3⟩ := rep_tup r2
      refine ⟨a, b, us, vs, x1, y1, same_sqT k.ex x2, same_sqT k.ex y2, by rw [← x3.len, ← y3.len]; exact szB_le z, fun h => ?_, fun _ h => ?_, fun _ _ l hl => q _ _ _ (Grow.one hl nt_tup) (rep_tup_new k hl (x3.append_ y3))⟩
      · have : xs = [] := by
          have := x3.len
          rw [h] at this
          exact List.eq_nil_of_length_eq_zero this
        subst this
        exact q w H _ .refl (by rw [← y1]; exact r2)
      · have : ys = [] := by
          have := y3.len
          rw [h] at this
          exact List.eq_nil_of_length_eq_zero this
        subst this
        exact q w H _ .refl (by rw [← x1, List.append_nil]; exact r1)
    · cases e
  · cases e
theorem s_slT {lo hi : Option Expr} {tl th : TO} {ml mh : MO} {p2 : Pos} (he : SE X Y W e te me) (hl : SO X Y W lo tl ml) (hh : SO X Y W hi th mh) (hK : X.K = Y.K := by rfl) : SE X Y W (.Subscript e (.Slice lo hi none p2) pos) (tSl (rSlA Y.K) te tl th) (eSlT me ml mh) := ⟨hK ▸ pe_slice sl_tupA he.pe hl.po hh.po, fun w0 H0 w H σ env S O Q st p =>
  he.sim w0 H0 w H σ env S O _ st ((PostX.bind p).imp fun d S1 w1 H1 st1 l1 p1 v r => hl.sim w0 H0 w1 H1 σ env S1 O _ st1 ((PostX.bind p1).imp fun lo S2 w2 H2 st2 l2 p2 => hh.sim w0 H0 w2 H2 σ env S2 O _ st2 ((PostX.bind p2).imp fun hi S3 w3 H3 st3 l3 p3 => by
    cases d with
    | tup ds =>
      have r3 := r.mono (l2.trans l3)
      obtain ⟨a, vs, e1, e2, e3⟩ := rep_tup r3
      refine ⟨a, vs, e1, same_sqT st3.ok.ex e2, fun hw => ?_, fun _ q hq => ?_⟩
      · have : cutD ds lo hi = ds := by
          unfold cutD
          rw [e3.len, hw.1, hw.2, List.drop_zero, Nat.sub_zero, ← e3.len, List.take_length]
        exact p3 w3 H3 st3 (.refl w3) _ (by rw [this, ← e1]; exact r3)
      · exact p3 _ _ (st3.grow (Grow.one hq nt_tup)) (Grow.le (Grow.one hq nt_tup) st3.ok) _ (rep_tup_new st3.ok hq (rep_cut e3 lo hi))
    | _ => exact False.elim p3)))⟩
end
end Mm
namespace Mm
open PySem PySem.Spec PyProof.Rows L2 HotX
/-! ### the end of a walk while an exception is handled -/
section
variable {prog : Program} {w : World} {A : Around} {E : Value → Shared → Prop} {s : Shared}
theorem endH_list {it l x1 : Addr} {i : Nat} {items} {Q : Option Value → Shared → Prop} (hot : HotAt A x1 s.heap) (ne1 : x1 ≠ it) (hit : s.heap.IsListIter it l i) (hl : s.heap.IsList l items) (hx : items[i]? = none)
    (hQ : ∀ h', Heap.ExtBut it s.heap h' → Q none { s with heap := h' }) : wpAny (model prog w) A (pyNext (.ref it)) Q E s := by
  obtain ⟨⟨o, ho, hc, hd⟩, ⟨ol, hol, _, nl, hdl⟩, hh, o1, vs1, h1, d1, c1⟩ := And.intro (id hit) (And.intro hl hot)
  unfold pyNext; refine wpAny_bind (wpAny_attempt (wpAny_callSpecial?_slot (name := Str.ofString "__next__") hit.typeIs slot_listiter_next (wpAny_call_entry slot_listiter_next hit.typeIs entry_listiter_next ?_ (args_listiter_next _))))
  show wpAny _ _ (field (.ref it) 0 >>= _) _ _ s; refine wpAny_bind (wpAny_field ho hd (x := .ref l) rfl ?_)
  show wpAny _ _ (if (Value.ref l == Value.none) = true then _ else _) _ _ s; rw [if_neg (show ¬ ((Value.ref l == Value.none) = true) from Bool.false_ne_true)]
  show wpAny _ _ (field (.ref it) 1 >>= _) _ _ s; refine wpAny_bind (wpAny_field ho hd (x := .int i 0) rfl ?_)
  show wpAny _ _ (seqItems? (.ref l) >>= _) _ _ s; refine wpAny_bind (wpAny_seqItems hol hdl ?_)
  simp only [Int.toNat_natCast, hx]; refine wpAny_bind (wpAny_rule (wpAny_bind (wpAny_setField ho hd (by simp) ?_)))
  show wpAny _ _ (newExc (.type "StopIteration") [] >>= _) _ _ _; refine wpAny_bind ?_; simp only [newExc, newTuple]
  refine wpAny_bind (wpAny_newObj_type ?_ (by size_fits)); refine wpAny_bind (m := firstArgMember _ _) (wpAny_of_eq (a := Value.none) (by first | rfl | (simp only [firstArgMember]; rfl)) ?_); refine wpAny_newObj_type ?_ (by size_fits)
  have g1 := Heap.get?_push_of_some { cls := Value.type "tuple", data := .seq #[] } ((Heap.get?_update_other s.heap (Obj.mapFields (·.setIfInBounds 0 .none)) ne1.symm).trans h1)
  refine raiseNew_hot ⟨hh, o1, vs1, Heap.get?_push_of_some _ g1, d1, c1⟩ (Nat.ne_of_lt (Heap.lt_size g1)) (Heap.get?_push_size _ rfl) rfl (by first | (simp; done) | (simp; omega)) ?_
  refine wpAny_bind (wpAny_isInstance (T := "StopIteration") (b := true) ⟨_, Heap.get?_update_self _ (Heap.get?_push_size _ rfl) rfl, rfl⟩ isSubtype_stop ?_)
  refine wpAny_pure (hQ _ fun b u hb e => ?_)
  have g2 := Heap.get?_push_of_some { cls := Value.type "tuple", data := .seq #[] } ((Heap.get?_update_other s.heap (Obj.mapFields (·.setIfInBounds 0 .none)) (Ne.symm hb)).trans e)
  rw [Heap.get?_update_other _ _ (Nat.ne_of_gt (Heap.lt_size g2))]
  exact Heap.get?_push_of_some _ g2
theorem endH_tup {it l x1 : Addr} {i : Nat} {items} {Q : Option Value → Shared → Prop} (hot : HotAt A x1 s.heap) (ne1 : x1 ≠ it) (hit : IsTupIter s.heap it l i) (hl : IsTup s.heap l items) (hx : items[i]? = none)
    (hQ : ∀ h', Heap.ExtBut it s.heap h' → Q none { s with heap := h' }) : wpAny (model prog w) A (pyNext (.ref it)) Q E s := by
  obtain ⟨⟨o, ho, hc, hd⟩, ⟨ol, hol, _, nl, hdl⟩, hh, o1, vs1, h1, d1, c1⟩ := And.intro (id hit) (And.intro hl hot)
  unfold pyNext; refine wpAny_bind (wpAny_attempt (wpAny_callSpecial?_slot (name := Str.ofString "__next__") hit.typeIs slot_tupleiter_next (wpAny_call_entry slot_tupleiter_next hit.typeIs entry_tupleiter_next ?_ (args_tupleiter_next _))))
  show wpAny _ _ (field (.ref it) 0 >>= _) _ _ s; refine wpAny_bind (wpAny_field ho hd (x := .ref l) rfl ?_)
  show wpAny _ _ (if (Value.ref l == Value.none) = true then _ else _) _ _ s; rw [if_neg (show ¬ ((Value.ref l == Value.none) = true) from Bool.false_ne_true)]
  show wpAny _ _ (field (.ref it) 1 >>= _) _ _ s; refine wpAny_bind (wpAny_field ho hd (x := .int i 0) rfl ?_)
  show wpAny _ _ (seqItems? (.ref l) >>= _) _ _ s; refine wpAny_bind (wpAny_seqItems hol hdl ?_)
  simp only [Int.toNat_natCast, hx]; refine wpAny_bind (wpAny_rule (wpAny_bind (wpAny_setField ho hd (by simp) ?_)))
  show wpAny _ _ (newExc (.type "StopIteration") [] >>= _) _ _ _; refine wpAny_bind ?_; simp only [newExc, newTuple]
  refine wpAny_bind (wpAny_newObj_type ?_ (by size_fits)); refine wpAny_bind (m := firstArgMember _ _) (wpAny_of_eq (a := Value.none) (by first | rfl | (simp only [firstArgMember]; rfl)) ?_); refine wpAny_newObj_type ?_ (by size_fits)
  have g1 := Heap.get?_push_of_some { cls := Value.type "tuple", data := .seq #[] } ((Heap.get?_update_other s.heap (Obj.mapFields (·.setIfInBounds 0 .none)) ne1.symm).trans h1)
  refine raiseNew_hot ⟨hh, o1, vs1, Heap.get?_push_of_some _ g1, d1, c1⟩ (Nat.ne_of_lt (Heap.lt_size g1)) (Heap.get?_push_size _ rfl) rfl (by first | (simp; done) | (simp; omega)) ?_
  refine wpAny_bind (wpAny_isInstance (T := "StopIteration") (b := true) ⟨_, Heap.get?_update_self _ (Heap.get?_push_size _ rfl) rfl, rfl⟩ isSubtype_stop ?_)
  refine wpAny_pure (hQ _ fun b u hb e => ?_)
  have g2 := Heap.get?_push_of_some { cls := Value.type "tuple", data := .seq #[] } ((Heap.get?_update_other s.heap (Obj.mapFields (·.setIfInBounds 0 .none)) (Ne.symm hb)).trans e)
  rw [Heap.get?_update_other _ _ (Nat.ne_of_gt (Heap.lt_size g2))]
  exact Heap.get?_push_of_some _ g2
theorem unpackH {t x1 : Addr} {items : Array Value} {Q : List Value → Shared → Prop} (hot : HotAt A x1 s.heap) (ht : IsTup s.heap t items) (hQ : ∀ h', Heap.ExtBut s.heap.objs.size s.heap h' → Q items.toList { s with heap := h' }) : wpAny (model prog w) A (unpackItems (.ref t) items.size none) Q E s := by
  have hlt : t ≠ s.heap.objs.size := by
    obtain ⟨o, ho, _⟩ := ht
    exact Nat.ne_of_lt (Heap.lt_size ho)
  obtain ⟨hh, o1, vs1, h1, d1, c1⟩ := hot
  unfold unpackItems; refine wpAny_bind ?_; unfold notIterableAtAll; refine wpAny_bind (wpAny_specialOf ht.typeIs slot_tuple_iter.lookup ?_); refine wpAny_pure ?_
  simp only [Bool.false_eq_true, if_false]; refine wpAny_bind (wpAny_holding (iter_tuple ht ?_))
  refine wpAny_bind (wpAny_holding (draw_tuple hlt items.size 0 _ _ ⟨_, Heap.get?_push_size _ rfl, rfl, rfl⟩ (ht.push _) (by omega) fun h₁ hit₁ hs₁ => ?_))
  rw [List.drop_zero, List.take_of_length_le (by simp), if_neg (by simp)]
  have n1 : x1 ≠ s.heap.objs.size := Nat.ne_of_lt (Heap.lt_size h1)
  refine wpAny_bind (wpAny_holding (endH_tup ⟨hh, o1, vs1, hs₁.extBut _ _ n1 (Heap.get?_push_of_some _ h1), d1, c1⟩ n1 hit₁ ((ht.push _).extBut hs₁.extBut hlt) (by simp) fun h₂ he₂ => ?_))
  simp only [Option.isSome_none, Bool.false_eq_true, if_false]
  exact wpAny_pure (hQ h₂ fun b o hb e => he₂ b o hb (hs₁.extBut b o hb (Heap.get?_push_of_some _ e)))
theorem asgTupH {env : Env} {elts : List Expr} {k} {pos : Pos} {t x1 : Addr} {items : Array Value} {Q : Unit → Shared → Prop} (hot : HotAt A x1 s.heap) (ht : IsTup s.heap t items) (hn : (assignEach elts env).length = items.size) (hstar : (assignEach elts env).findIdx? (·.1) = none)
    (h : ∀ h', Heap.ExtBut s.heap.objs.size s.heap h' → wpAny (model prog w) A (assignInOrder ((assignEach elts env).map (·.2)) items.toList) Q E { s with heap := h' }) : wpAny (model prog w) A (assign (.Tuple elts k pos) env (.ref t)) Q E s := by
  rw [PyProof.Rows.assign_Tuple]; refine wpAny_bind (wpAny_standAt ?_); unfold unpack; rw [hn, hstar]
  exact wpAny_bind (wpAny_holding (unpackH hot ht h))
end
end Mm
namespace Mm
open PySem PySem.Spec PyProof.Rows L2 HotX
/-! ### a list comprehension over a list of tuples while an exception is handled (it is pinned) -/
def iLst (K : PySem.W.Frag) (tl : TE) : TI := fun σ H R => tl σ H fun x H1 => ∃ a xs, x = .ref a ∧ SqL K H1 a xs ∧ R (Itl K a) H1
section
variable {X : Cx}
theorem hot_of {pins : List (Addr × Obj)} {σ : L2.St} {H : Hp} {s : Shared} {p : Addr × Obj} (hp : L2H.Hot1 X.A p) (hm : p ∈ X.pn ++ pins) (I : Inv X pins σ H s) : HotAt X.A p.1 s.heap := by
  obtain ⟨h1, vs, h2, h3⟩ := hp
  exact ⟨h1, p.2, vs, (I.pin p hm).1, h2, h3⟩
theorem pe_lcH {p : Addr × Obj} {l elt : Expr} {es ifs : List Expr} {k : Nat} {tpos pos : Pos} {scope : Scope} {own : List (Str × Nat)} {tl te : TE} {tgs : TGs} {tt : TT} {n : Nat} (hp : L2H.Hot1 X.A p) (hpn : p ∈ X.pn) (hN : X.N.Nodup) (hl : PE X l tl) (ok : BlkOk X.N X.env.scope scope own)
    (hg : ∀ (s : Shared) (H : Hp) (C : Addr) (cl : List (Str × Addr)) (fp : List Addr), PGs (X.blk s H scope (compEnvC scope cl C X.env) fp) es tgs)
    (hlen : ∀ (C : Addr) (cl : List (Str × Addr)), (assignEach es (compEnvC scope cl C X.env)).length = n ∧ (assignEach es (compEnvC scope cl C X.env)).findIdx? (·.1) = none)
    (ht : ∀ (s : Shared) (H : Hp) (C : Addr) (cl : List (Str × Addr)) (fp : List Addr), PTs (X.blk s H scope (compEnvC scope cl C X.env) fp) ifs tt)
    (he : ∀ (s : Shared) (H : Hp) (C : Addr) (cl : List (Str × Addr)) (fp : List Addr), PE (X.blk s H scope (compEnvC scope cl C X.env) fp) elt te) (hs : ∀ x, foldedSetIterable l X.env x = pure x := by intro _; rfl) :
    PE X (.ListComp elt [⟨.Tuple es k tpos, l, ifs, 0⟩] scope pos) (tLc (iLst X.K tl) (gTup X.K n tgs) tt te (own.map (·.2))) := by
  refine ⟨fun pins s σ H Q I hw => ?_⟩
  rw [eval_ListComp]
  have clo : ∀ y ∈ scope.names, y.2 = .free → ∃ c, X.env.cells.lookup y.1 = some c := fun y hy e => I.ok.has _ (ok.free y hy e)
  refine wpAny_comprehension_free (use := none) rfl hs (closure_ok clo) ok.kind (fun y hy e => by rw [ok.uniq y hy, e]) (thn (hl.run pins s σ H _ I hw) fun xv s1 ⟨x, H1, I1, r1, a, xs, ex, hq, q⟩ => ?_)
  subst ex
  cases r1
  obtain ⟨its, rv, pl, hz⟩ := I1.list hq
  refine wpAny_pyIter_list pl.isList ?_
  have I2 : Inv X pins σ H1 { s1 with heap := s1.heap.push { cls := .type "list_iterator", data := .fields #[.ref a, .int 0 0] } } := I1.kept (t' := s1.toks) fun b o e => Heap.get?_push_of_some _ e
  have it2 : ({ s1 with heap := s1.heap.push { cls := .type "list_iterator", data := .fields #[.ref a, .int 0 0] } } : Shared).heap.IsListIter s1.heap.objs.size a 0 := ⟨_, Heap.get?_push_size _ rfl, rfl, rfl⟩
  have f2 : FpOk X pins H1 s1.heap.objs.size := I1.fpOk (Nat.le_refl _) (I1.hok.fresh (Nat.le_refl _))
  have p2 := (I2.pin p (List.mem_append_left _ hpn))
  have lt2 : s1.heap.objs.size < ({ s1 with heap := s1.heap.push { cls := .type "list_iterator", data := .fields #[.ref a, .int 0 0] } } : Shared).heap.objs.size := Heap.lt_size (Heap.get?_push_size _ rfl)
  generalize hs2 : ({ s1 with heap := s1.heap.push { cls := .type "list_iterator", data := .fields #[.ref a, .int 0 0] } } : Shared) = s2 at I2 it2 p2 lt2 ⊢
  generalize hit : s1.heap.objs.size = it at it2 f2 lt2 ⊢
  have np : p.1 ≠ it := f2.2.2.2.2.2 p (List.mem_append_left _ hpn)
  refine wpAny_newObj_type (newEnv_comp ?_) (by show 0 ≤ sizeLine; decide)
  have eD : ∃ D, s2.heap.objs.size = D := ⟨_, rfl⟩
  obtain ⟨D, hD⟩ := eD
  have hDn : H1 D = none := I2.hok.fresh (Nat.le_of_eq hD)
  obtain ⟨W, ⟨m0, w0⟩, turn⟩ := q D hDn
  have I3' : Inv X pins σ (upd H1 D (.lst [])) { s2 with heap := s2.heap.push { cls := .type "list", data := .seq ([] : List Value).toArray } } :=
    I2.laid (t' := s2.toks) (fun b o e => Heap.get?_push_of_some _ e) (Nat.le_of_eq hD) ⟨Nat.zero_le _, [], 0, .nil, by rw [← hD]; exact Heap.get?_push_size _ rfl⟩
  have k3 : ∀ b o, s2.heap.get? b = some o → ({ s2 with heap := s2.heap.push { cls := .type "list", data := .seq ([] : List Value).toArray } } : Shared).heap.get? b = some o := fun b o e => Heap.get?_push_of_some _ e
  rw [hD]
  generalize hs3 : ({ s2 with heap := s2.heap.push { cls := .type "list", data := .seq ([] : List Value).toArray } } : Shared) = s3 at I3' k3 ⊢
  have neD : it ≠ D := by rw [← hD]; exact Nat.ne_of_lt lt2
  have f3 : ∀ b ∈ [it], FpOk X pins (upd H1 D (.lst [])) b ∧ b < s3.heap.objs.size := fun b hb => by
    have eb : b = it := by simpa using hb
    subst eb
    obtain ⟨o, e, _⟩ := id it2
    exact ⟨⟨(upd_ne neD).trans f2.1, f2.2⟩, Heap.lt_size (k3 _ _ e)⟩
  have I4 := block_start I3' ok hN f3
  have p3 := I3'.pin p (List.mem_append_left _ hpn)
  have pg := hg s3 (upd H1 D (.lst [])) s3.heap.objs.size (cellsFrom (s3.heap.objs.size + 1) scope.names (cloFrom X.env.cells scope.names [])) [it]
  have pt := ht s3 (upd H1 D (.lst [])) s3.heap.objs.size (cellsFrom (s3.heap.objs.size + 1) scope.names (cloFrom X.env.cells scope.names [])) [it]
  have pe := he s3 (upd H1 D (.lst [])) s3.heap.objs.size (cellsFrom (s3.heap.objs.size + 1) scope.names (cloFrom X.env.cells scope.names [])) [it]
  have pl2 := hlen s3.heap.objs.size (cellsFrom (s3.heap.objs.size + 1) scope.names (cloFrom X.env.cells scope.names []))
  have k4 : ∀ b o, s3.heap.get? b = some o → ({ s3 with heap := pushCells (s3.heap.push { cls := .type "dict", data := .dict #[] }) scope.names } : Shared).heap.get? b = some o := fun b o e => pushCells_keeps _ _ _ _ (Heap.get?_push_of_some _ e)
  show codeAny _ _ (.compStart (.ListComp elt [⟨.Tuple es k tpos, l, ifs, 0⟩] scope pos) 0 (.ref it) (.ref D) (compEnvC scope (cellsFrom (s3.heap.objs.size + 1) scope.names (cloFrom X.env.cells scope.names [])) s3.heap.objs.size X.env)) (compPost (model X.prog X.w) X.A X.xe none (EP X pins σ Q) (.ref D) s3.heap.objs.size) { s3 with heap := pushCells (s3.heap.push { cls := .type "dict", data := .dict #[] }) scope.names }
  generalize hs4 : ({ s3 with heap := pushCells (s3.heap.push { cls := .type "dict", data := .dict #[] }) scope.names } : Shared) = s4 at I4 k4 ⊢
  generalize hce : compEnvC scope (cellsFrom (s3.heap.objs.size + 1) scope.names (cloFrom X.env.cells scope.names [])) s3.heap.objs.size X.env = ce at I4 pg pt pe pl2 ⊢
  have cL : ce.locals = s3.heap.objs.size := by rw [← hce]; rfl
  have nit3 : (upd H1 D (.lst [])) it = none := (f3 it (by simp)).1.1
  generalize hH3 : upd H1 D (.lst []) = H3 at I3' I4 pg pt pe w0 nit3 f3 p3
  have nfr : p.1 ∉ frs X.stack := fun z => by
    rcases List.mem_cons.mp (I3'.stkSub p.1 z) with e | e
    · exact p3.2.2.1 e
    · exact p3.2.2.2.1 e
  have I4p : Inv (X.blk s3 H3 scope ce [it]) [p] (wipe σ (own.map (·.2))) H3 s4 := I4.pins_of fun q hq => by
    have eq : q = p := by simpa using hq
    subst eq
    exact ⟨k4 _ _ p3.1, p3.2.1, by show q.1 ≠ ce.locals; rw [cL]; exact Nat.ne_of_lt (Heap.lt_size p3.1), nfr, p3.2.2.2.2⟩
  have it4 : s4.heap.IsListIter it a 0 := it2.at fun o e => k4 _ _ (k3 _ _ e)
  have stat : ∀ {σ' : L2.St} {H' : Hp} {s' : Shared}, Inv (X.blk s3 H3 scope ce [it]) [p] σ' H' s' → H' it = none → FpOk (X.blk s3 H3 scope ce [it]) [p] H' it := fun {σ' H' s'} I' hn =>
    ⟨hn, (I'.ok.exf it (by simp)).1, I'.ok.exfs it (by simp), .inl (by simp), fun x c e => (I'.ok.exf it (by simp)).2 x c e, fun q hq => by
      have eq : q = p := by simpa using (show q ∈ ([] : List (Addr × Obj)) ++ [p] from hq)
      rw [eq]
      exact np⟩
  have lp : codeAny (model X.prog X.w) X.A (.compLoop (.ListComp elt [⟨.Tuple es k tpos, l, ifs, 0⟩] scope pos) 0 (.ref it) (.ref D) ce) (compPost (model X.prog X.w) X.A X.xe none (EP X pins σ Q) (.ref D) s3.heap.objs.size) s4 := by
    refine compLoop_any (fun n s' => ∃ i H', Inv (X.blk s3 H3 scope ce [it]) [p] (wipe σ (own.map (·.2))) H' s' ∧ s'.heap.IsListIter it a i ∧ H' it = none ∧ W i n H') ?_ m0 ⟨0, H3, I4p, it4, nit3, w0⟩
    rintro nn s5 ⟨i, H5, I5, st5, n5, w5⟩
    have hot5 : HotAt X.A p.1 s5.heap := hot_of (X := X.blk s3 H3 scope ce [it]) hp (List.mem_append_right _ (by simp)) I5
    obtain ⟨g0, g1, g2, g3, g4, g5⟩ := stat I5 n5
    rcases turn i nn H5 w5 with ⟨stop, qq⟩ | ⟨go, Nx, hNx, step⟩
    · obtain ⟨ys, hy, hle⟩ := stop
      obtain ⟨its5, rv5, pl5, hz5⟩ := I5.list hy
      have hle5 := rv5.length
      refine endH_list hot5 np st5 pl5.isList (by simp; omega) fun h6 eb => ?_
      have I6 : Inv (X.blk s3 H3 scope ce [it]) [p] (wipe σ (own.map (·.2))) H5 { s5 with heap := h6 } := I5.turned (t' := s5.toks) (fun b o hb e => eb b o hb e) g0 g1 g3 g4 g5
      have I7 : Inv X pins σ H5 { s5 with heap := h6 } := I3'.call' (ch := [it]) I6.os I6.base I6.hok I6.bare fun b hb => ⟨(f3 b hb).1.2.2.2.1, (f3 b hb).1.2.1, (f3 b hb).1.2.2.2.2.1, (f3 b hb).1.2.2.2.2.2⟩
      obtain ⟨m, hn, _⟩ := I6.loc
      have hn : h6.Ns ce.locals m := hn
      have nC : H5 ce.locals = none := I6.free
      rw [cL] at hn nC
      refine ⟨m, hn, fun h'' sb => ?_⟩
      obtain ⟨c0, c1, c2, c3, c4, c5⟩ := I3'.fpOk (H' := H5) (Nat.le_refl _) nC
      exact ⟨.ref D, H5, I7.turned (t' := s5.toks) (fun b o hb e => (sb.2 b hb).trans e) c0 c1 c3 c4 c5, rfl, qq⟩
    · obtain ⟨ys, y, hy, hyi⟩ := go
      obtain ⟨its5, rv5, pl5, hz5⟩ := I5.list hy
      obtain ⟨u, hu, ru⟩ := rv5.get hyi
      refine wpAny_pyNext_list_item st5 pl5.isList (x := u) (by simpa using hu) fun h6 st6 sb => ?_
      have I6 : Inv (X.blk s3 H3 scope ce [it]) [p] (wipe σ (own.map (·.2))) H5 { s5 with heap := h6 } := I5.turned (t' := s5.toks) (fun b o hb e => (sb.2 b hb).trans e) g0 g1 g3 g4 g5
      obtain ⟨o6, e6, c6, d6⟩ := id st6
      refine go_of (s := { s5 with heap := h6 }) e6 c6 d6 (by decide) ?_
      have I6' : Inv (X.blk s3 H3 scope ce [it]) ([p] ++ pinsAt [it] h6) (wipe σ (own.map (·.2))) H5 { s5 with heap := h6 } := I6.pinned (fun b hb => by
        have eb : b = it := by simpa using hb
        rw [eb]
        exact stat I6 n5) (fun b hb => by
        have eb : b = it := by simpa using hb
        rw [eb]
        exact ⟨o6, e6, fun v z => by rw [d6] at z; cases z⟩)
      have st7 := step y H5 ⟨rfl, fun zs hzs => by rw [I5.list_inj hzs hy]; exact hyi⟩
      obtain ⟨ta, txs, ety, htq, htl, hw7⟩ := st7
      subst ety
      obtain rfl : u = Value.ref ta := ru
      obtain ⟨tits, trv, tht, _⟩ := I6'.tuple htq
      have hot6 : HotAt X.A p.1 h6 := hot_of (X := X.blk s3 H3 scope ce [it]) hp (List.mem_append_right _ (List.mem_append_left _ (by simp))) I6'
      refine asgTupH hot6 tht (by rw [pl2.1, ← htl, trv.length]; simp) pl2.2 fun h7 hx7 => ?_
      have I7 : Inv (X.blk s3 H3 scope ce [it]) ([p] ++ pinsAt [it] h6) (wipe σ (own.map (·.2))) H5 { s5 with heap := h7 } := I6'.kept (t' := s5.toks) fun b o e => hx7 b o (Nat.ne_of_lt (Heap.lt_size e)) e
      refine thnF (pg.run _ _ _ H5 txs _ _ I7 (by simpa using trv) hw7) fun _ s8 ⟨σ8, H8, I8, hw8, q8⟩ => ?_
      refine thnF (pt.run _ s8 σ8 H8 _ I8 q8) fun b s9 ⟨H9, I9, q9⟩ => ?_
      have fin : ∀ {s' : Shared} {H' : Hp}, Inv (X.blk s3 H3 scope ce [it]) ([p] ++ pinsAt [it] h6) σ8 H' s' → Nx H' → ∃ m, m < nn ∧ ∃ i H', Inv (X.blk s3 H3 scope ce [it]) [p] (wipe σ (own.map (·.2))) H' s' ∧ s'.heap.IsListIter it a i ∧ H' it = none ∧ W i m H' := fun {s' H'} I' nx => by
        obtain ⟨m', hm, w'⟩ := hNx H' nx
        have pin' := I'.pin (it, o6) (List.mem_append_right _ (List.mem_append_right _ (mem_pinsAt (by simp) e6)))
        have hl : (wipe σ (own.map (·.2))).length = σ8.length := by rw [← hw8, wipe_length]
        refine ⟨m', hm, i + 1, H', (I'.unpinned (pins := [p])).weak hl (fun j v e => ?_), st6.at fun o e => ?_, pin'.2.1, w'⟩
        · rw [← hw8] at e
          exact (wipe_some e).1
        · rw [e6] at e
          cases e
          exact pin'.1
      cases b with
      | false =>
        simp only [Bool.false_eq_true, if_false] at q9 ⊢
        exact fin I9 q9
      | true =>
        simp only [if_true] at q9 ⊢
        refine thnF (pe.run _ s9 σ8 H9 _ I9 q9) fun z s10 ⟨yv, H10, I10, r10, acc, hD10, hz10, nx⟩ => ?_
        exact app_ok (X := X.blk s3 H3 scope ce [it]) I10 hD10 hz10 r10 fun s11 I11 => fin I11 nx
  exact codeAny_compStart_list lp (wpAny_pyIter_listiter it4 lp)
end
end Mm
namespace Mm
open PySem PySem.Spec PyProof.Rows L2 HotX
/-! ### try with several clauses, named or not -/
inductive HdK where
  | as (c : Value) (i : Nat) (ts : Addr → Value → Option Addr → TS)
  | only (c : Value) (ts : Addr → Value → Option Addr → TS)
def goneD (i : Nat) (D : Ends) : Ends := { nx := fun σ' H' => D.nx (σ'.set i none) H', rt := D.rt, bk := fun σ' H' => D.bk (σ'.set i none) H', ct := fun σ' H' => D.ct (σ'.set i none) H' }
def wHds (K : PySem.W.Frag) (Wout : WX) (D : Ends) : List HdK → WX
  | [] => Wout
  | .as c i ts :: r => fun cls d σ H => ∃ b, PySem.W.exmOne K cls c = some b ∧ (b = true → ∀ a, H a = none → ts a cls d (goneD i D) (σ.set i (some (.ref a))) H) ∧ (b = false → wHds K Wout D r cls d σ H)
  | .only c ts :: r => fun cls d σ H => ∃ b, PySem.W.exmOne K cls c = some b ∧ (b = true → ∀ a, H a = none → ts a cls d D σ H) ∧ (b = false → wHds K Wout D r cls d σ H)
inductive HdsN (X : Cx) : List ExceptHandler → List HdK → Prop
  | nil : HdsN X [] []
  | as {x n : Str} {c : Value} {i : Nat} {ts : Addr → Value → Option Addr → TS} {b₀ : Stmt} {suite : List Stmt} {np pos' : Pos} {hds : List ExceptHandler} {l : List HdK} (hi : X.N[i]? = some n) (hln : X.env.kindOf n = some .local) (hc : Names X x c)
      (hsu : ∀ (a : Addr) (oe : Obj) (cls : Value) (d : Option Addr) (pn : List (Addr × Obj)), L2N.Zn cls d oe → (∃ vs, oe.data = .fields vs) → PSs (X.suite a ((a, oe) :: pn)) (b₀ :: suite) (ts a cls d)) (r : HdsN X hds l) :
      HdsN X (.ExceptHandler (some (.Name x np)) (some n) (b₀ :: suite) pos' :: hds) (.as c i ts :: l)
  | only {x : Str} {c : Value} {ts : Addr → Value → Option Addr → TS} {b₀ : Stmt} {suite : List Stmt} {np pos' : Pos} {hds : List ExceptHandler} {l : List HdK} (hc : Names X x c)
      (hsu : ∀ (a : Addr) (oe : Obj) (cls : Value) (d : Option Addr) (pn : List (Addr × Obj)), L2N.Zn cls d oe → (∃ vs, oe.data = .fields vs) → PSs (X.suite a ((a, oe) :: pn)) (b₀ :: suite) (ts a cls d)) (r : HdsN X hds l) :
      HdsN X (.ExceptHandler (some (.Name x np)) none (b₀ :: suite) pos' :: hds) (.only c ts :: l)
section
variable {X : Cx} {body : List Stmt} {h₀ : ExceptHandler} {hds : List ExceptHandler} {l : List HdK} {pos : Pos} {tb : WX → TS} {Wout : WX}
theorem ps_tryN (hs : X.stack = X.env :: X.outer) (hf : X.env.frame = some X.env.locals) (hN : X.N.Nodup) (tk : L2N.Takes X Wout)
    (hb : ∀ (W : WX) (pn : List (Addr × Obj)) (xe : Value → Shared → Prop), L2N.Takes (X.tr pn xe) W → PassesOwn (model X.prog X.w) X.A X.env xe → PSs (X.tr pn xe) body (tb W))
    (hh : HdsN X (h₀ :: hds) l) : PS X (.Try body (h₀ :: hds) [] [] pos) (fun D σ H => tb (wHds X.K Wout D l) D σ H) := by
  refine ⟨fun pins s σ H D I hw => ?_⟩
  obtain ⟨ok, hfr⟩ : X.Ok ∧ X.A.frames = some (X.env :: X.outer) := ⟨I.ok, by rw [I.ok.frames, hs]⟩
  refine wpAny_Try_except ?_
  refine wpAny_mono ((hb (wHds X.K Wout D l) (X.pn ++ pins) (fun e s₁ => wpAny (model X.prog X.w) X.A (noteFrame e X.env) (fun _ s₂ => wpAny (model X.prog X.w) X.A (setFlight e none) (fun _ s₃ => wpAny (model X.prog X.w) X.A (handleBy e X.env (h₀ :: hds)) (SP X pins D) X.xe s₃) X.xe s₂) X.xe s₁)
    (fun u s' xx => ?_) PassesOwn.looking).run [] s σ H D (I.toTry _) hw) (fun f s1 hsp => ?_) (fun e s1 he => he)
  · obtain ⟨a, B, sI, pins', σ', H', cls, d, rfl, J', nb, up, sky, na, os, ag, wish⟩ := xx
    have J : Inv X pins σ' H' sI := J'.ofTry ok
    refine L2N.Sky.land L2N.Zn.steady hfr hf (by rw [← hs]; exact sky) fun h3 fl3 up3 => ?_
    have J3 : Inv X pins σ' H' { s' with heap := h3 } := J.landed nb fl3.1 (up.trans up3) os ag
    obtain ⟨oe3, vs3, he3, hz3, hd3⟩ := fl3.there
    have nfr : a ∉ frs (X.env :: X.outer) := fun hm => by
      obtain ⟨_, o', e', hnf⟩ := fl3.2.2.1.mem hm
      rw [he3] at e'
      cases e'
      exact hnf _ hd3
    have nL : a ≠ X.env.locals := fun z => nfr (List.mem_filterMap.mpr ⟨X.env, List.mem_cons_self, by rw [hf, z]⟩)
    have nF : a ∉ X.fs := fun hm => nfr (by
      obtain ⟨e, he, q⟩ := List.mem_filterMap.mp hm
      exact List.mem_filterMap.mpr ⟨e, List.mem_cons_of_mem _ he, q⟩)
    have S3 := J3.suite he3 hd3 na nL nF
    have test : ∀ {x : Str} {c : Value} {np : Pos} {Q : Value → Shared → Prop} {E : Value → Shared → Prop}, Names X x c → Q c { s' with heap := h3 } → wpAny (model X.prog X.w) (X.A.mark (some (.ref a))) (eval (.Name x np) X.env) Q E { s' with heap := h3 } := fun {x c np Q E} hc q => by
      obtain ⟨hg, hdbg, hm | ⟨hm, hv, hnn⟩⟩ := hc
      · exact ld_glob (X := X.suite a ((a, oe3) :: (X.pn ++ pins))) S3 hg hm q hdbg
      · exact ld_blt (X := X.suite a ((a, oe3) :: (X.pn ++ pins))) S3 hg hm hv q hnn hdbg
    have LT : PySem.W.Looks (model X.prog X.w) h3 (typeOf (.ref a)) cls := fun A Q E s k q => wpAny_typeOf_ref (k _ _ he3) (by rw [hz3.1]; exact q)
    have go : ∀ {hds' : List ExceptHandler} {l' : List HdK}, HdsN X hds' l' → wHds X.K Wout D l' cls d σ' H' → wpAny (model X.prog X.w) X.A (handleBy (.ref a) X.env hds') (SP X pins D) X.xe { s' with heap := h3 } := by
      intro hds' l' hk
      induction hk with
      | nil =>
        intro wish
        refine wpAny_handleBy_nil ?_
        obtain ⟨_, _, _, oe, vs, T, oT, ts', he, hz, hd, h1, hr⟩ := id fl3
        unfold PySem.passOn; refine wpAny_bind (wpAny_field he hd h1 ?_); rw [if_neg (show ¬ ((Value.ref T == Value.none) = true) from by simp)]
        have out : wpAny (model X.prog X.w) X.A (setFlight (.ref a) X.env.frame) (fun _ s4 => wpAny (model X.prog X.w) X.A (throw (.ref a) : Sem Flow) (SP X pins D) X.xe s4) X.xe { s' with heap := h3 } := by
          rw [hf]; refine HandSPX.setFlight_upZ fl3 fun h4 hh4 up4 => wpAny_throw (tk _ _ ?_)
          exact ⟨a, B, sI, pins, σ', H', cls, d, rfl, J, nb, (up.trans up3).trans up4, .inr (.inr (by rw [hs]; exact hh4)), na, os, ag, wish⟩
        first | exact wpAny_bind (wpAny_pure (wpAny_bind out)) | exact wpAny_bind out
      | @only x c ts b₀ suite np pos' hds2 l2 hc hsu r ih =>
        rintro ⟨b, hb1, hyes, hno⟩
        refine wpAny_handleBy_cons (codeAny_handlers_test ?_) (by intro q; cases q)
        refine test hc ((PySem.W.exm_one (M := model X.prog X.w) (J3.kIn) LT hb1).here ?_)
        cases b with
        | false => exact ih (hno rfl)
        | true =>
          refine codeAny_handlers_suite (HandSPX.lands_againZ fl3 fun h4 fl4 up4 => ?_)
          have J4 : Inv X pins σ' H' { s' with heap := h4 } := J.landed nb fl4.1 ((up.trans up3).trans up4) os ag
          obtain ⟨oe4, vs4, he4, hz4, hd4⟩ := fl4.there
          refine wpAny_mono ((hsu a oe4 cls d (X.pn ++ pins) hz4 ⟨_, hd4⟩).run [] _ _ H' _ (J4.suite he4 hd4 na nL nF) (hyes rfl a na)) (fun f s6 hsp => ?_) (fun _ _ z => False.elim z)
          cases f with
          | ret u =>
            obtain ⟨v6, σ6, H6, S6, r6, q6⟩ := hsp
            exact ⟨_, _, _, S6.unsuite ok, r6, q6⟩
          | _ =>
            obtain ⟨σ6, H6, S6, q6⟩ := hsp
            exact ⟨_, _, S6.unsuite ok, q6⟩
      | @as x n c i ts b₀ suite np pos' hds2 l2 hi hln hc hsu r ih =>
        rintro ⟨b, hb1, hyes, hno⟩
        refine wpAny_handleBy_cons (codeAny_handlers_test ?_) (by intro q; cases q)
        refine test hc ((PySem.W.exm_one (M := model X.prog X.w) (J3.kIn) LT hb1).here ?_)
        cases b with
        | false => exact ih (hno rfl)
        | true =>
          refine codeAny_handlers_suite_as (HandSPX.lands_againZ fl3 fun h4 fl4 up4 => ?_)
          have J4 : Inv X pins σ' H' { s' with heap := h4 } := J.landed nb fl4.1 ((up.trans up3).trans up4) os ag
          obtain ⟨oe4, vs4, he4, hz4, hd4⟩ := fl4.there
          refine store_ok (X := X.suite a ((a, oe4) :: (X.pn ++ pins))) (v := .ref a) (J4.suite he4 hd4 na nL nF) hN hi (.inl hln) rfl (fun s5 S5 => ?_) (.inr hln)
          refine wpAny_mono ((hsu a oe4 cls d (X.pn ++ pins) hz4 ⟨_, hd4⟩).run [] s5 _ H' _ S5 (hyes rfl a na)) (fun f s6 hsp => ?_) (fun _ _ z => False.elim z)
          have fin : ∀ {σ6 : L2.St} {H6 : Hp} {Q : Shared → Prop}, Inv (X.suite a ((a, oe4) :: (X.pn ++ pins))) [] σ6 H6 s6 → (∀ s7, Inv X pins (σ6.set i none) H6 s7 → Q s7) → wpAny (model X.prog X.w) X.A (do bindName X.env n .none; unbindBehindTheSuite X.env n pos') (fun _ s7 => Q s7) X.xe s6 := fun {σ6 H6 Q} S6 hq => gone_ok (S6.unsuite ok) hN hi hln hq
          cases f with
          | ret u =>
            obtain ⟨v6, σ6, H6, S6, r6, q6⟩ := hsp
            exact fin S6 fun s7 J7 => ⟨_, _, _, J7, r6, q6⟩
          | _ =>
            obtain ⟨σ6, H6, S6, q6⟩ := hsp
            exact fin S6 fun s7 J7 => ⟨_, _, J7, q6⟩
    exact go hh wish
  · cases f with
    | next =>
      obtain ⟨σ', H', J', q⟩ := hsp
      exact wpAny_execs_nil ⟨σ', H', J'.ofTry ok, q⟩
    | ret u =>
      obtain ⟨v, σ', H', J', r, q⟩ := hsp
      exact ⟨v, σ', H', J'.ofTry ok, r, q⟩
    | _ =>
      obtain ⟨σ', H', J', q⟩ := hsp
      exact ⟨σ', H', J'.ofTry ok, q⟩
end
end Mm
namespace Mm
open PySem PySem.Spec PyProof.Rows L2
/-! ### xs += ys, lists -/
section
variable {prog : Program} {w : World} {A : Around} {E : Value → Shared → Prop} {s : Shared}
theorem iadd_lists {l b : Addr} {items items2 : Array Value} {n n2 : Nat} {Q : Value → Shared → Prop} (hl : s.heap.get? l = some { cls := .type "list", dict := none, data := .seq items n, slots := #[] }) (hb : s.heap.get? b = some { cls := .type "list", dict := none, data := .seq items2 n2, slots := #[] })
    (hsz : items.size + items2.size ≤ sizeLine) (h : Q (.ref l) { s with heap := s.heap.update l (Obj.mapSeq fun x => x ++ items2) }) : wpAny (model prog w) A (inplaceOp .Add (.ref l) (.ref b)) Q E s := by
  have ha' : s.TypeIs (.ref l) "list" := ⟨_, hl, rfl⟩
  have hb' : s.TypeIs (.ref b) "list" := ⟨_, hb, rfl⟩
  have look := F.slot_list_iadd.lookup
  have hfi : fillsInplaceSlot (.type "list") "add" (Operator.Add == .Add) = pure false := by
    unfold fillsInplaceSlot
    show (typeLookup (.type "list") (dunderI "add") >>= fun fi => pure (fi.isSome && !isSeqSlot fi)) = pure false
    rw [look]
    rfl
  have hsi : seqSlot? (.type "list") (dunderI "add") = pure (some (.builtin "list.__iadd__")) := by
    unfold seqSlot?
    rw [look]
    rfl
  unfold inplaceOp
  refine wpAny_holding (wpAny_bind (wpAny_typeOf ha' (wpAny_bind (wpAny_of_eq hfi ?_))))
  show wpAny _ A (if false = true then _ else _) Q E s
  rw [if_neg Bool.false_ne_true]
  refine wpAny_bind (wpAny_binaryOp1_none (nm := "add") ha' hb' noFill_list_add ?_)
  refine wpAny_bind (wpAny_of_eq hsi (wpAny_bind (wpAny_rule ?_)))
  have hlong : ¬ (!items.isEmpty && Builtin.List.listTooLong (items.size + items2.size)) = true := by
    rw [notLongL hsz, Bool.and_false]
    exact Bool.false_ne_true
  exact call_meets F.slot_list_iadd ha' F.entry_list_iadd (F.args_list_iadd_2 _ _) (AutoSeq1.list___iadd___list_list_0 l items n b items2 n2 hlong (by omega) (by omega)) ⟨hl, hb, h⟩
end
def ipL : TIp := fun x y H Q => ∃ l b xs zs, x = .ref l ∧ y = .ref b ∧ H l = some (.lst xs) ∧ H b = some (.lst zs) ∧ xs.length + zs.length ≤ sizeLine ∧ Q (.ref l) (upd H l (.lst (xs ++ zs)))
theorem ip_lists {X : Cx} : PIp X .Add ipL := by
  intro pins s σ H x y v u Q I rx ry h
  obtain ⟨l, b, xs, zs, rfl, rfl, hH, hB, hz, q⟩ := h
  cases rx
  cases ry
  obtain ⟨z, its, n, r, hl, e⟩ := I.lstM hH
  obtain ⟨z2, its2, n2, r2, hl2, e2⟩ := I.lstM hB
  refine iadd_lists e e2 (by rw [List.size_toArray, List.size_toArray]; omega) ⟨.ref l, _, I.lset (its' := its ++ its2) (t' := s.toks) hH e (by simp) (r.append r2) ?_, rfl, q⟩
  rw [List.length_append]
  omega
section
variable {X : Cx} {Y : Gam} {W : WX} {e a b c tg iter elt l : Expr} {es rest ifs : List Expr} {ta tb te tl : TE} {tt tu : TT} {ma mb me ml : ME} {mt mu : MT} {mf : MF} {t : TA} {m : MA} {pos p tpos : Pos} {s : Stmt} {ss : List Stmt} {t1 t2 : TS} {m1 m2 : MS} {wi : TI} {mi : MI} {x : Str}
/-- x += e, x a list of one's own -/
def sExt (i : Nat) (me : ME) : MS := fun env S => match env[i]? with
  | some (.o (.lst xs)) => (me env S).out env fun d S1 => (match d with
    | .lst ys => if szB (xs.length + ys.length) then .nx (env.set i (.o (.lst (xs ++ ys)))) S1 else .stuck
    | _ => .stuck)
  | _ => .stuck
theorem t_ext (i : Nat) {pos' : Pos} (he : SE X Y W e te me) (hN : X.N.Nodup) (hi : X.N[i]? = some x := by rfl) (hx : Loc X.env.scope x := by first | exact Or.inl rfl | exact Or.inr rfl) (hf : X.fn x = true ∨ X.env.scope.names.lookup x = some .local := by first | exact .inl rfl | exact .inr rfl | assumption) :
    SS X Y W (.AugAssign (.Name x pos') .Add e pos) (tAug i te ipL) (sExt i me) := ⟨ps_aug hN hi hx he.pe ip_lists hf, fun w0 H0 w H σ env S O Dn st p => by
  unfold sExt at p
  split at p
  · rename_i xs hs
    obtain ⟨q, e1, e2, e3, e4, e5, e6, hi⟩ := st.own_at hs
    refine ⟨.ref q, e1, ?_⟩
    refine he.sim w0 H0 w H σ env S O _ st ((PostS.out p).imp fun d S1 w1 H1 st1 l1 p1 v r => ?_)
    split at p1
    · rename_i ys
      split at p1
      · rename_i hz
        obtain ⟨q', f1, f2, f3, ⟨us, f4, f4'⟩, f5, f6, _⟩ := st1.own_at hs
        rw [e2] at f2
        cases f2
        obtain ⟨b, zs, g1, g2, g3⟩ := rep_lst r
        refine ⟨q, b, us, zs, rfl, g1, f4, st1.ok.ex _ _ g2, by rw [← f4'.len, ← g3.len]; exact szB_le hz, ?_⟩
        show Dn.nx (σ.set i (some (V.ref q))) _
        rw [set_get_self σ i _ e1]
        exact p1 w1 _ σ O (st1.mut hs e2 ⟨_, upd_same, f4'.append_ g3⟩ nt_lst) (.refl w1)
      · exact False.elim p1
    · exact False.elim p1
  · exact p.elim⟩
/-! ### the list comprehension of before, as a rule -/
def itLst (me : ME) : MI := fun env S => (me env S).bind fun d S1 => match d with
  | .lst ds => .ok ds S1
  | _ => .stuck
theorem sim_iLst (h : SimE Y W tl ml) : SimI Y W (iLst Y.K tl) (itLst ml) := fun w0 H0 w H σ env S O Q st p =>
  h w0 H0 w H σ env S O _ st ((PostX.bind p).imp fun d S1 w1 H1 st1 l1 p1 v r => by
    cases d with
    | lst ds =>
      obtain ⟨a, vs, e1, e2, e3⟩ := rep_lst r
      exact ⟨a, vs, e1, .inl (.inl (st1.ok.ex _ _ e2)), p1 w1 H1 st1 (.refl w1) _ (itR_list (g := Y) e2 e3)⟩
    | _ => exact False.elim p1)
variable {scope : Scope} {own : List (Str × Nat)} {is : List Nat} {tgs : TGs} {mgs : MGs} {k : Nat}
theorem f_lcH {q : Addr × Obj} (hp : L2H.Hot1 X.A q) (hpn : q ∈ X.pn) (hN : X.N.Nodup) (hl : SE X Y W l tl ml) (ok : BlkOk X.N X.env.scope scope own)
    (hg : ∀ (s : Shared) (H : Hp) (C : Addr) (cl : List (Str × Addr)) (fp : List Addr), SGs (X.blk s H scope (compEnvC scope cl C X.env) fp) Y is es tgs mgs)
    (hlen : ∀ (C : Addr) (cl : List (Str × Addr)), (assignEach es (compEnvC scope cl C X.env)).length = es.length ∧ (assignEach es (compEnvC scope cl C X.env)).findIdx? (·.1) = none)
    (ht : ∀ (s : Shared) (H : Hp) (C : Addr) (cl : List (Str × Addr)) (fp : List Addr), ST (X.blk s H scope (compEnvC scope cl C X.env) fp) Y W0 ifs tt mt)
    (he : ∀ (s : Shared) (H : Hp) (C : Addr) (cl : List (Str × Addr)) (fp : List Addr), SE (X.blk s H scope (compEnvC scope cl C X.env) fp) Y W0 elt te me) (hv : ∀ i ∈ is, i ∈ own.map (·.2) := by decide) (hK : X.K = Y.K := by rfl) (hs : ∀ x, foldedSetIterable l X.env x = pure x := by intro _; rfl) :
    SF X Y W (.ListComp elt [⟨.Tuple es k tpos, l, ifs, 0⟩] scope pos) (tLc (iLst Y.K tl) (gTup Y.K es.length tgs) tt te (own.map (·.2))) (fLc (itLst ml) (gT mgs) mt me (own.map (·.2))) := by
  have sg := (hg X.s_0 X.H_0 0 [] [])
  refine ⟨hK ▸ pe_lcH hp hpn hN hl.pe ok (fun s H C cl fp => (hg s H C cl fp).pg) hlen (fun s H C cl fp => (ht s H C cl fp).pts) (fun s H C cl fp => (he s H C cl fp).pe) hs,
    sim_lc (sim_iLst hl.sim) (is := is) (fun w0 H0 w H σ env S O d v Q e' st r h' q => ?_) hv (ht X.s_0 X.H_0 0 [] []).sim (he X.s_0 X.H_0 0 [] []).sim⟩
  unfold gT at h'
  split at h'
  · rename_i ds
    obtain ⟨a, vs, e1, e2, e3⟩ := rep_tup r
    exact ⟨a, vs, e1, same_sqT st.ok.ex e2, by rw [← e3.len]; exact sg.len ds env e' h', sg.sim w0 H0 w H σ env S O ds vs Q e' st e3 h' q⟩
  · cases h'
/-! ### isinstance of the exception that is handled -/
theorem call_isP {q : Addr × Obj} {D : Addr} (C : ExcC X.K D) (hz : Zc (.ref D) none q.2) (hf : ∃ vs, q.2.data = .fields vs) (hm : q ∈ X.pn) : CallR X (.builtin "isinstance") (rIsE X.K D q.1) := by
  intro pins s σ H xs us Q I r h
  obtain ⟨c, cv, b, rfl, hcv, e, k⟩ := h
  obtain ⟨u1, u2, rfl, rx, rt⟩ := vals2 r
  cases rx
  have ec := hcv _ rt
  subst ec
  obtain ⟨hget, _⟩ := I.pin q (List.mem_append_left _ hm)
  obtain ⟨vs, hv⟩ := hf
  have J : PySem.W.InstAt s.heap q.1 q.2 D none := by
    obtain ⟨qa, ⟨oc, od, oda, osl⟩⟩ := q
    obtain ⟨h1, h2⟩ := hz
    dsimp only at h1 h2 hv
    subst h1 h2 hv
    exact ⟨hget, rfl, rfl, trivial⟩
  exact PySem.W.kia_one (PySem.W.handS_kitx_exc C.hg C.hk C.hs C.hd C.ha C.hn C.ht C.hm) I.kIn J e (fun z => nomatch z) fun tk => ⟨.bl b, H, I.kept (t' := tk) fun _ _ z => z, rfl, k⟩
def eIsX (a : Addr) (c : Str) (m : MA) : ME := fun env S => (m env S).bind fun ds S1 => match ds with
  | [.adr a', .cls c'] => if a' = a then .ok (.bl (decide (c' = c))) S1 else .stuck
  | _ => .stuck
theorem s_isX {q : Addr × Obj} (c c' : Str) (C : ExcC X.K (Y.ca c)) (hz : Zc (.ref (Y.ca c)) none q.2) (hf : ∃ vs, q.2.data = .fields vs) (hpn : q ∈ X.pn) (hk : PySem.W.kitOne X.K (.ref (Y.ca c)) (.ref (Y.ca c')) = some (decide (c' = c))) (hm : X.mg "isinstance" = none) (hmc : X.mg c' = some (.ref (Y.ca c')))
    {p2 : Pos} (ha : SE X Y W a ta ma) (hgc : Gl X c' := by rfl) (hdb : (c' == ("__debug__" : Str)) = false := by decide) (hg : Gl X "isinstance" := by rfl) (he : starEach [a, .Name c' p2] X.env = (false, eval a X.env) :: starEach [.Name c' p2] X.env := by rfl) (he2 : starEach [.Name c' p2] X.env = (false, eval (.Name c' p2) X.env) :: starEach [] X.env := by rfl) (hpl : (backTo pos (starEach [.Name c' p2] X.env)).any (·.1) = false := by rfl) :
    SE X Y W (.Call (.Name "isinstance" p) [a, .Name c' p2] [] pos) (tCB (rIsE X.K (Y.ca c) q.1) (tCons ta (tCons (tC (.ref (Y.ca c'))) tNil))) (eIsX q.1 c (aCons ma (aCons (eC (.cls c')) aNil))) := by
  have sa : SA X Y W [a, .Name c' p2] (tCons ta (tCons (tC (.ref (Y.ca c'))) tNil)) (aCons ma (aCons (eC (.cls c')) aNil)) := a_cons ha (a_cons (s_gcls hmc hgc hdb) a_nil he2) he
  refine ⟨pe_callB (call_isP C hz hf hpn) hg hm (by decide +kernel : bootBuiltins "isinstance" = some (.builtin "isinstance")) sa.pa (by decide) (by decide) he hpl, fun w0 H0 w H σ env S O Q st p => ?_⟩
  refine ha.sim w0 H0 w H σ env S O _ st ?_
  have p : PostX Y W w0 H0 w σ env O (((ma env S).bind fun d S1 => R.ok [d, D.cls c'] S1).bind fun ds S1 => match ds with
    | [.adr a', .cls c'] => if a' = q.1 then R.ok (D.bl (decide (c' = c))) S1 else .stuck
    | _ => .stuck) _ := p
  cases z : ma env S with
  | stuck => rw [z] at p; exact p
  | exc cc pp SS => rw [z] at p; exact p
  | ok d S1 =>
    rw [z] at p
    intro w1 H1 st1 l1 v r
    cases d with
    | adr a' =>
      have p : PostX Y W w0 H0 w σ env O (if a' = q.1 then R.ok (D.bl (decide (c' = c))) S1 else .stuck) _ := p
      split at p
      · rename_i ea
        unfold Rep at r
        refine ⟨.ref (Y.ca c'), .ref (Y.ca c'), _, by rw [r, ea], fun u hu => hu, hk, p w1 H1 st1 l1 _ rep_bl'⟩
      · exact False.elim p
    | _ => exact False.elim p
end
end Mm
namespace Mm
open PySem PySem.Spec PyProof.Rows L2
/-! ### a def called with the exception that is handled -/
def tHot (Y : Gam) (a : Addr) (i n : Nat) (m : MS) : TE := fun σ H Q => σ[i]? = some (some (.ref a)) ∧ ∃ w S, Ok Y w H S ∧ PostF Y w H Q C8.E0 (mFn n m [.adr a] S)
section
variable {X : Cx} {Y : Gam} {a fw : Addr} {oe : Obj} {cls : Value} {d : Option Addr} {pn : List (Addr × Obj)} {i k : Nat} {x n y : Str} {st : Stmt} {fdw : FuncData} {Nw : List Str} {m1 : MS} {p1 p2 pos : Pos}
theorem hot1_suite (hz : L2N.Zn cls d oe) (hf : ∃ vs, oe.data = .fields vs) : L2H.Hot1 (X.suite a ((a, oe) :: pn)).A (a, oe) := by
  obtain ⟨vs, e⟩ := hf
  exact ⟨rfl, vs, e, hz.2.2 vs e⟩
theorem pe_hot (F : FnP X.K x x st [] fw fdw) (Sc : FnScope Nw [y] (defScope st)) (hb : Binds X.K fdw [y] []) (hm : X.mg x = some (.ref fw)) (hr : L2H.RoomH (k + 1) X.A) (hz : L2N.Zn cls d oe) (hf : ∃ vs, oe.data = .fields vs)
    (hbody : ∀ (cdv : Value) (A : Around) (outer : List Env) (s : Shared) (H : Hp), L2H.Hot1 A (a, oe) → L2H.RoomH k (A.deeper (envOfC x (defScope st) s.heap.objs.size fw cdv)) → ∃ t1, SB (L2H.cxH (L2N.CX X.prog X.w) X.prog X.w X.K X.mg X.base Nw x (defScope st) fw cdv A outer s H C8.E0 (a, oe)) Y W0 (defBody st) t1 m1)
    (hN : X.N[i]? = some n := by rfl) (hv : Vis X.env.scope n := by first | exact Or.inl rfl | exact Or.inr (Or.inl rfl) | exact Or.inr (Or.inr rfl)) (hg : Gl X x := by rfl) (hdb : (x == ("__debug__" : Str)) = false := by decide) (hd : (n == ("__debug__" : Str)) = false := by decide) (hcd : (n == ("__classdict__" : Str)) = false := by decide)
    (he : starEach [.Name n p2] X.env = (false, eval (.Name n p2) X.env) :: starEach [] X.env := by rfl) (hpl : (backTo pos (starEach [] X.env)).any (·.1) = false := by rfl) :
    PE (X.suite a ((a, oe) :: pn)) (.Call (.Name x p1) [.Name n p2] [] pos) (tHot Y a i Nw.length m1) := by
  refine ⟨fun pins s σ H Q I h => ?_⟩
  obtain ⟨hs, w, S, kk, pf⟩ := h
  refine wpAny_Call_Name_kw (ld_glob I hg hm ?_ hdb)
  have arg : PA (X.suite a ((a, oe) :: pn)) [.Name n p2] (tCons (tVar i) tNil) := pa_cons (pv i hN hv hd hcd) pa_nil he
  refine PySem.W.callWith_K (h₀ := X.base) I.ok.mod.kin F.kp (thn (arg.run pos pins s σ H (fun vs H1 => vs = [.ref a] ∧ H1 = H) I ⟨.ref a, hs, rfl, rfl⟩) fun us s1 ⟨vs, H1, I1, r, ev, eH⟩ => ⟨I1.kIn, ?_⟩) he hpl
  subst ev eH
  obtain ⟨u, rfl, ru⟩ := r.one
  obtain rfl : u = Value.ref a := ru
  have hot := hot1_suite (X := X) (a := a) (pn := pn) hz hf
  have pin1 := I1.pin (a, oe) (List.mem_append_left _ List.mem_cons_self)
  have pinK : L2H.PinOk X.stack H1 s1 (a, oe) := ⟨pin1.1, pin1.2.1, fun z => (List.mem_cons.mp (I1.stkSub a z)).elim pin1.2.2.1 pin1.2.2.2.1, pin1.2.2.2.2⟩
  have rc : codeAny (model X.prog X.w) (X.suite a ((a, oe) :: pn)).A (.call (.ref fw) ⟨[.ref a], []⟩) (CR (L2N.CX X.prog X.w) X.stack X.prog X.w H1 s1 Q C8.E0) s1 := by
    obtain ⟨oc, od, dV, kV, doc, pm, an, cdv, ct, osl, efd, lk, hcode, _, _⟩ := F.ex
    subst efd
    have e0 : Env0 X.prog X.w X.K X.mg X.base (X.suite a ((a, oe) :: pn)).A X.stack s1 H1 := I1.env0
    have rr : L2H.RoomH (k + 1) (X.suite a ((a, oe) :: pn)).A := ⟨hr.dp, hr.un⟩
    have bnd := hb s1 [.ref a] I1.kIn rfl
    have loc : ∀ z ∈ [y].zip [Value.ref a], (defScope st).names.lookup z.1 = some .local ∨ ((defScope st).names.lookup z.1 = some .cell ∧ ((cellsFrom (s1.heap.objs.size + 1) (defScope st).names []).lookup z.1).isSome = true) := fun ⟨z, v⟩ hy => by
      rcases Sc.par z (List.of_mem_zip hy).1 with q | q
      · exact .inl q
      · exact .inr ⟨q, PySem.W.cellsFrom_some _ _ _ (.inl q)⟩
    refine codeAny_call_function rr.depth (I1.kIn _ _ lk) rfl Sc.co Sc.gen rfl (PySem.W.codeRec_of I1.kIn hcode) (bnd _ _ _ _ ?_)
    refine wpAny_newFunctionEnv_cells Sc.kind loc fun env he s2 xx => ?_
    subst he
    refine ⟨I1.nolimit.keeps xx.toInCall.keep, codeAny_func ?_⟩
    obtain ⟨t1, B⟩ := hbody cdv (X.suite a ((a, oe) :: pn)).A X.stack s1 H1 hot (rr.deeper _)
    have J : Inv (L2H.cxH (L2N.CX X.prog X.w) X.prog X.w X.K X.mg X.base Nw x (defScope st) fw cdv (X.suite a ((a, oe) :: pn)).A X.stack s1 H1 C8.E0 (a, oe)) [] (L2.start Nw [.ref a]) H1 s2 := L2H.inv_startH Sc pinK e0 rfl (.cons rfl .nil) xx
    have hq := fn_post (N := Nw) (ds := [.adr a]) (vs := [.ref a]) (E := C8.E0) (Q := Q) kk (RepL.cons_ (by unfold Rep; rfl) RepL.nil_) B.sim pf
    refine wpAny_mono (B.pss.run [] s2 _ H1 _ J hq) (fun fl s' hs => ?_) fun e s' hs => hs
    cases fl with
    | ret u =>
      obtain ⟨v, σ', H', J, rv, q⟩ := hs
      exact ⟨v, H', J.os, J.bare, J.base, J.hok, rv, q⟩
    | next =>
      obtain ⟨σ', H', J, q⟩ := hs
      exact ⟨.non, H', J.os, J.bare, J.base, J.hok, rfl, q⟩
    | brk =>
      obtain ⟨_, _, _, q⟩ := hs
      exact False.elim q
    | cont =>
      obtain ⟨_, _, _, q⟩ := hs
      exact False.elim q
  refine wpAny_call (codeAny_mono rc fun r s' hq => ?_)
  cases r with
  | error e =>
    obtain ⟨_, _, _, _, _, _, _, _, _, _, _, _, z⟩ := (show L2N.CX X.prog X.w X.stack H1 s1 C8.E0 e s' from hq)
    exact False.elim z
  | ok fl =>
    cases fl with
    | ret u => exact I1.after hq
    | next => exact False.elim hq
    | brk => exact False.elim hq
    | cont => exact False.elim hq
end
end Mm
namespace Mm
open PySem PySem.Spec PyProof.Rows L2
/-! ### a lambda is made -/
section
variable {X : Cx} {pins : List (Addr × Obj)} {σ : L2.St} {H : Hp} {s : Shared}
/-- the object of a lambda -/
abbrev lamO (X : Cx) (params : Arguments) (body : Expr) (scope : Scope) (pm : Value) (c' : Addr) (ctv : Value) : Obj := PySem.W.kla_obj "<lambda>" (X.env.qual ++ "<lambda>") params body scope (cloFrom X.env.cells scope.names []) pm c' ctv
theorem lam_makeD {T : List (Addr × Str)} {c P : Addr} {params : Arguments} {body : Expr} {scope : Scope} {pos : Pos} {E : Value → Shared → Prop} {Q : Value → Shared → Prop} (I : Inv X pins σ H s) (TB : LamX.TabB X.base X.mg c P) (hcode : X.env.code = .ref c)
    (hm : (P, X.env.qual ++ "<lambda>") ∈ T) (hu : ∀ p ∈ T, p.1 = P → p.2 = X.env.qual ++ "<lambda>") (hT : LamX.Tabs T H) (hdef : defaultsOf params X.env = ([], [])) (hfree : ∀ y ∈ scope.names, y.2 = .free → ∃ c, X.env.cells.lookup y.1 = some c)
    (h : ∀ (f c' : Addr) (pm ctv : Value) (H1 : Hp) (s' : Shared), Inv X pins σ H1 s' → LamX.ExtN H H1 → (∀ b, H b ≠ none → H1 b ≠ none) → LamX.Tabs T H1 → s'.heap.get? f = some (lamO X params body scope pm c' ctv) → H1 f = none → f ∉ frs X.stack → H1 c' = some (LamX.CodeO c' (X.env.qual ++ "<lambda>")) → Q (.ref f) s') :
    wpAny (model X.prog X.w) X.A (eval (.Lambda params body scope pos) X.env) Q E s := by
  obtain ⟨ps, hP, ht, ha⟩ := hT _ hm
  have bP := TB.bm.keeps I.bk
  have hP' : s.heap.get? P = some { cls := .none, data := .fields ps } := I.hok P _ hP
  have out : ∀ f, s.heap.objs.size ≤ f → f ∉ frs X.stack := fun f hf z => by
    rcases List.mem_cons.mp (I.stkSub _ z) with e | e
    · exact Nat.lt_irrefl _ (Nat.lt_of_lt_of_le (e ▸ I.lt) hf)
    · exact I.nofs hf e
  refine PySem.W.kla_eval hdef ?_
  cases hc : codeAmong pos ps.toList with
  | some cv =>
    obtain ⟨c', e, hco⟩ := ha pos cv hc
    subst e
    refine PySem.W.kla_makeFunctionHit (mg := X.mg) (c := c) (P := P) (ps := ps) (closure_ok hfree) I.ok.glob (I.mod.glob.keeps I.bk) hcode (TB.code.keeps I.bk) hP' ht hc bP fun ctv h' tk hx hsz => ?_
    exact h h'.objs.size c' ((X.mg "__name__").getD .none) ctv H _ (I.kept (t' := tk) fun b o e => Heap.get?_push_of_some _ (hx b o e)) (LamX.ExtN.refl H) (fun _ z => z) hT (Heap.get?_push_size _ rfl) (I.hok.fresh hsz) (out _ hsz) hco
  | none =>
    refine PySem.W.kla_makeFunction (mg := X.mg) (c := c) (P := P) (ps := ps) (closure_ok hfree) I.ok.glob (I.mod.glob.keeps I.bk) hcode (TB.code.keeps I.bk) hP' ht hc TB.gP bP fun c' ctv h' tk hx hge hlt hrec htb => ?_
    obtain ⟨c2, oc, vs, t, e2, hoc, hd, hv⟩ := hrec
    cases e2
    have hsz : s.heap.objs.size ≤ h'.objs.size := Nat.le_trans hge (Nat.le_of_lt hlt)
    have nC : H c' = none := I.hok.fresh hge
    have nPc : P ≠ c' := ne_of_none hP nC
    have I1 := LamX.inv_table (t' := tk) (more := #[rawInt pos.line, rawInt pos.col, .ref c']) (h' := h'.push (lamO X params body scope ((X.mg "__name__").getD .none) c' ctv)) I hP (fun b o hb e => Heap.get?_push_of_some _ (hx b o hb e)) (Heap.get?_push_of_some _ htb) hge ⟨oc, vs, t, Heap.get?_push_of_some _ hoc, hd, hv⟩
    generalize hH1 : upd (upd H P (.tbl (ps ++ #[rawInt pos.line, rawInt pos.col, .ref c']))) c' (LamX.CodeO c' (X.env.qual ++ "<lambda>")) = H1 at I1
    have atC : H1 c' = some (LamX.CodeO c' (X.env.qual ++ "<lambda>")) := by rw [← hH1, upd_same]
    have atP : H1 P = some (.tbl (ps ++ #[rawInt pos.line, rawInt pos.col, .ref c'])) := by rw [← hH1, upd_ne nPc, upd_same]
    have at_ : ∀ b, b ≠ P → b ≠ c' → H1 b = H b := fun b h1 h2 => by rw [← hH1, upd_ne h2, upd_ne h1]
    have hE : LamX.ExtN H H1 := fun b o e n => by
      rw [at_ b (fun z => n ps (by rw [z, hP] at e; exact (Option.some.inj e).symm)) (ne_of_none e nC)]
      exact e
    have eL : (ps ++ #[rawInt pos.line, rawInt pos.col, .ref c']).toList = ps.toList ++ [rawInt pos.line, rawInt pos.col, .ref c'] := by simp
    refine h h'.objs.size c' ((X.mg "__name__").getD .none) ctv H1 _ I1 hE (fun b z => ?_) (fun p hp => ?_) (Heap.get?_push_size _ rfl) ?_ (out _ hsz) atC
    · by_cases h1 : b = P
      · rw [h1, atP]
        exact fun z => nomatch z
      · by_cases h2 : b = c'
        · rw [h2, atC]
          exact fun z => nomatch z
        · rw [at_ b h1 h2]
          exact z
    · by_cases hb : p.1 = P
      · rw [hu p hp hb, hb]
        refine ⟨_, atP, by rw [eL]; exact PySem.TriplesOk_snoc _ _ _ _ ht, fun p' cv hcv => ?_⟩
        rw [eL] at hcv
        rcases LamX.among_app _ ht hcv with z | z
        · obtain ⟨c0, e1, e2⟩ := ha p' cv z
          exact ⟨c0, e1, hE _ _ e2 LamX.codeO_ne⟩
        · exact ⟨c', z, atC⟩
      · obtain ⟨ps', a1, a2, a3⟩ := hT p hp
        refine ⟨ps', by rw [at_ _ hb (ne_of_none a1 nC)]; exact a1, a2, fun p' cv hcv => ?_⟩
        obtain ⟨c0, e1, e2⟩ := a3 p' cv hcv
        exact ⟨c0, e1, hE _ _ e2 LamX.codeO_ne⟩
    · rw [at_ _ (Nat.ne_of_gt (Nat.lt_of_lt_of_le (Heap.lt_size hP') hsz)) (Nat.ne_of_gt hlt)]
      exact I.hok.fresh hsz
end
/-! ### its body -/
abbrev lamN (X : Cx) (A : Around) (outer : List Env) (s : Shared) (H : Hp) (E : XK) (scope : Scope) (f c' : Addr) : Cx :=
  (LamX.lamCx X A outer s H E scope f c').tr [] (fun e s' => wpAny (model X.prog X.w) (A.deeper (LamX.lamEnv X scope s.heap.objs.size f c')) (leaving (LamX.lamEnv X scope s.heap.objs.size f c') e) (fun _ s'' => L2N.CX X.prog X.w outer H s E e s'') (fun e' s'' => L2N.CX X.prog X.w outer H s E e' s'') s')
theorem lamN_takes {X : Cx} {A : Around} {outer : List Env} {s : Shared} {H : Hp} {E : XK} {scope : Scope} {f c' : Addr} : L2N.Takes (lamN X A outer s H E scope f c') (fun cls d _ H => E cls d H) := L2N.takes_of rfl rfl rfl rfl
theorem lamN_passes {X : Cx} {A : Around} {outer : List Env} {s : Shared} {H : Hp} {E : XK} {scope : Scope} {f c' : Addr} : PassesOwn (model X.prog X.w) (lamN X A outer s H E scope f c').A (lamN X A outer s H E scope f c').env (lamN X A outer s H E scope f c').xe := passes_of rfl
/-- what is called: the lambda's body, at the maker's slots -/
def tAct (Y : Gam) (f c' : Addr) (q : Str) (σ : L2.St) (me : ME) (W : WX) : TE := fun σZ HZ Q => σZ[0]? = some (some (.ref f)) ∧ HZ c' = some (LamX.CodeO c' q) ∧
  ∃ w0 H0 w env S O, StR Y w0 H0 w HZ σ env S O ∧ PostX Y (fun cls d _ H => W cls d σZ H) w0 H0 w σ env O (me env S) (fun d _ w' H' => ∀ v, Rep Y w' d v → Q v H')
section
variable {X : Cx} {pins : List (Addr × Obj)} {σ : L2.St} {H : Hp} {s : Shared} {Y : Gam}
theorem pe_actN {Ng : List Str} {qg : Str} {sg : Scope} {g f c' : Addr} {cdg pm ctv : Value} {params : Arguments} {body : Expr} {scope : Scope} {k : Nat} {a : Str} {pn : List (Addr × Obj)} {xe : Value → Shared → Prop} {W : WX} {p1 p2 : Pos} {me : ME}
    (I : Inv X pins σ H s) (L : LamX.LamS X.env.scope scope) (hf : s.heap.get? f = some (lamO X params body scope pm c' ctv)) (hfn : H f = none) (hfr : f ∉ frs X.stack)
    (hbind : bindArgs (PySem.W.kla_fn "<lambda>" (X.env.qual ++ "<lambda>") params body scope (cloFrom X.env.cells scope.names []) pm (.ref c') ctv) ⟨[], []⟩ = pure [])
    (tk : L2N.Takes ((cxOf (L2N.CX X.prog X.w) X.prog X.w X.K X.mg X.base Ng qg sg g cdg X.A X.stack s H C8.E0).tr pn xe) W) (hr : Room (k + 1) (X.A.deeper (envOfC qg sg s.heap.objs.size g cdg)))
    (hbody : ∀ (A : Around) (outer : List Env) (s : Shared) (H : Hp) (E : XK), Room k (A.deeper (LamX.lamEnv X scope s.heap.objs.size f c')) → ∃ te, SE (lamN X A outer s H E scope f c') Y (fun cls d _ H => E cls d H) body te me)
    (hN : Ng[0]? = some a) (hv : Vis sg a) (hd : (a == ("__debug__" : Str)) = false := by decide) (hcd : (a == ("__classdict__" : Str)) = false := by decide) :
    PE ((cxOf (L2N.CX X.prog X.w) X.prog X.w X.K X.mg X.base Ng qg sg g cdg X.A X.stack s H C8.E0).tr pn xe) (.Call (.Name a p1) [] [] p2) (tAct Y f c' (X.env.qual ++ "<lambda>") σ me W) := by
  refine ⟨fun pinsZ sZ σZ HZ Q IZ hw => ?_⟩
  obtain ⟨hs, hc, w0, H0, w, env, S, O, st, pst⟩ := hw
  refine wpAny_Call_Name_kw (thn ((pe_var (pos := p1) (i := 0) hN hv hd hcd).run pinsZ sZ σZ HZ (fun v H1 => v = .ref f ∧ H1 = HZ) IZ ⟨.ref f, hs, rfl, rfl⟩) fun u s1 ⟨v, H1, I1, r1, ev, eH⟩ => ?_)
  subst ev
  rw [eH] at I1
  obtain rfl : u = Value.ref f := r1
  have of1 : s1.heap.get? f = some (lamO X params body scope pm c' ctv) := I1.base.keep f _ hf hfn hfr (fun z => nomatch (show f ∈ ([] : List Addr) from z))
  have un : Un (frs X.stack) [] H HZ s.heap s1.heap := I1.base
  obtain ⟨⟨oc, vs, t, hoc, hdc, hvc⟩, _, _⟩ := I1.hok c' _ hc
  refine PySem.W.callWith_F0 ⟨_, _, _, _, of1⟩ ?_
  have rc : codeAny (model X.prog X.w) (X.A.deeper (envOfC qg sg s.heap.objs.size g cdg)) (.call (.ref f) ⟨[], []⟩) (CR (L2N.CX X.prog X.w) (envOfC qg sg s.heap.objs.size g cdg :: X.stack) X.prog X.w HZ s1 Q (WE W σZ)) s1 := by
    refine PySem.W.kla_callFunE hr.depth of1 rfl L.co L.gen rfl ⟨c', oc, vs, t, rfl, hoc, hdc, hvc⟩ ?_
    rw [hbind]
    refine wpAny_pure (wpAny_newFunctionEnv (fun y hy => (L.own y hy).2) (fun y hy => absurd hy (by simp)) (fun h₁ hns hsb => ⟨I1.nolimit.fresh _ hsb, ?_⟩) L.kind)
    show codeAny _ _ (.expr body (LamX.lamEnv X scope s1.heap.objs.size f c')) _ _
    have kp : ∀ b o, s1.heap.get? b = some o → h₁.get? b = some o := fun b o e => hsb.extBut b o (Nat.ne_of_lt (Heap.lt_size e)) (Heap.get?_push_of_some _ e)
    have J0 := LamX.lam_start2 (E := WE W σZ) (c' := c') (f := f) (tk := s1.toks + ([] : List (Str × Value)).length) I L I1.env0 hr.hd un hns kp
    obtain ⟨te, B⟩ := hbody (X.A.deeper (envOfC qg sg s.heap.objs.size g cdg)) (envOfC qg sg s.heap.objs.size g cdg :: X.stack) s1 HZ (WE W σZ) (hr.deeper _)
    have J := J0.toTry (fun e s' => wpAny (model X.prog X.w) ((X.A.deeper (envOfC qg sg s.heap.objs.size g cdg)).deeper (LamX.lamEnv X scope s1.heap.objs.size f c')) (leaving (LamX.lamEnv X scope s1.heap.objs.size f c') e) (fun _ s'' => L2N.CX X.prog X.w (envOfC qg sg s.heap.objs.size g cdg :: X.stack) HZ s1 (WE W σZ) e s'') (fun e' s'' => L2N.CX X.prog X.w (envOfC qg sg s.heap.objs.size g cdg :: X.stack) HZ s1 (WE W σZ) e' s'') s')
    refine PySem.W.kla_codeExpr (wpAny_mono (B.pe.run [] _ _ HZ Q J (B.sim w0 H0 w HZ σ env S O Q st pst)) (fun v s' hq => ?_) fun e s' hq => hq)
    obtain ⟨w', H', J', rv, q⟩ := hq
    exact ⟨w', H', J'.os, J'.bare, J'.base, J'.hok, rv, q⟩
  refine wpAny_call (codeAny_mono rc fun r s' hq => ?_)
  cases r with
  | error e => exact L2N.passAt tk σZ pinsZ HZ s1 e s' I1 hq
  | ok fl =>
    cases fl with
    | ret u => exact I1.after hq
    | next => exact False.elim hq
    | brk => exact False.elim hq
    | cont => exact False.elim hq
end
end Mm
namespace Mm
open PySem PySem.Spec PyProof.Rows L2
/-! ### what a refusal is told by -/
def wordL : List (Str × Str) := [("badnumber", "BadNumber"), ("badfold", "BadFold"), ("unfit", "Unfit"), ("notpart", "NotPart"), ("notonto", "NotOnto"), ("badsize", "BadSize"), ("noberth", "NoBerth"), ("badsides", "BadSides"), ("badrows", "BadRows")]
def wordsOf (c : Str) : List D := (wordL.filter fun p => decide (p.2 = c)).map fun p => .str p.1
def kE (a : Addr) (c w c' : Str) : ME := eTup (aCons (eC (.str w)) (aCons (eIsX a c (aCons (eV 0) (aCons (eC (.cls c')) aNil))) aNil))
def m_word (a : Addr) (c : Str) : MS :=
  sSeq (sOwn 1 (fLst (aCons (kE a c "badnumber" "BadNumber") (aCons (kE a c "badfold" "BadFold") aNil))))
  (sSeq (sExt 1 (mFrz (fLst (aCons (kE a c "unfit" "Unfit") (aCons (kE a c "notpart" "NotPart") aNil)))))
  (sSeq (sExt 1 (mFrz (fLst (aCons (kE a c "notonto" "NotOnto") (aCons (kE a c "badsize" "BadSize") aNil)))))
  (sSeq (sExt 1 (mFrz (fLst (aCons (kE a c "noberth" "NoBerth") (aCons (kE a c "badsides" "BadSides") aNil)))))
  (sFrz 1 (sRet (eCB fTupOf (aCons (mFrz (fLc (itLst (eOp dAdd (eV 1) (mFrz (fLst (aCons (kE a c "badrows" "BadRows") aNil))))) (gT (gNC (gN 2) (gNC (gN 3) gN0))) (cB (eV 3)) (eV 2) [2, 3])) aNil)))))))
theorem kE_run (a : Addr) (c w c' : Str) (env : Envr) (S : Sto) (h : env[0]? = some (.v (.adr a))) : kE a c w c' env S = .ok (.tup [.str w, .bl (decide (c' = c))]) S := by
  unfold kE eTup aCons aNil eIsX eC eV
  simp [R.bind, h, szB, aCons, aNil, eV, eC]
def kinds (c : Str) : List D := wordL.map fun p => .tup [.str p.1, .bl (decide (p.2 = c))]
theorem lc_kinds (c : Str) (env : Envr) (h : 3 < env.length) : ∀ (l : List (Str × Str)) (S : Sto), lcR (gT (gNC (gN 2) (gNC (gN 3) gN0))) (cB (eV 3)) (eV 2) env (l.map fun p => .tup [.str p.1, .bl (decide (p.2 = c))]) S = .ok ((l.filter fun p => decide (p.2 = c)).map fun p => .str p.1) S
  | [], S => rfl
  | p :: l, S => by
    have ih := lc_kinds c env h l S
    have e1 : ((env.set 2 (Sl.v (.str p.1))).set 3 (.v (.bl (decide (p.2 = c)))))[3]? = some (.v (.bl (decide (p.2 = c)))) := by
      rw [List.getElem?_set_self (by rw [List.length_set]; exact h)]
    have e2 : ((env.set 2 (Sl.v (.str p.1))).set 3 (.v (.bl (decide (p.2 = c)))))[2]? = some (.v (.str p.1)) := by
      rw [List.getElem?_set_ne (by decide), List.getElem?_set_self (by omega)]
    by_cases hp : p.2 = c
    · simp only [List.map_cons, hp, decide_true, lcR, gT, gNC, gN, gN0, Option.bind_some, cB, eV, List.filter_cons, if_true, R.bind] at e1 e2 ⊢
      rw [e1, e2]
      simp only []
      rw [ih]
    · simp only [List.map_cons, hp, decide_false, lcR, gT, gNC, gN, gN0, Option.bind_some, cB, eV, List.filter_cons, R.bind] at e1 e2 ⊢
      rw [e1]
      simp only [Bool.false_eq_true, if_false]
      exact ih
theorem word_run (a : Addr) (c : Str) (S : Sto) : mFn 4 (m_word a c) [.adr a] S = .ok (.val (.tup (wordsOf c))) S := by
  have st : startE 4 [.adr a] = [.v (.adr a), .no, .no, .no] := rfl
  have k : ∀ (w c' : Str) (x y z : Sl) (S : Sto), kE a c w c' [.v (.adr a), x, y, z] S = .ok (.tup [.str w, .bl (decide (c' = c))]) S := fun w c' x y z S => kE_run a c w c' _ S rfl
  have lk := lc_kinds c (wipeE [Sl.v (.adr a), .v (.lst ((kinds c).take 8)), .no, .no] [2, 3]) (Nat.lt_add_one 3) wordL S
  have e : (eOp dAdd (eV 1) (mFrz (fLst (aCons (kE a c "badrows" "BadRows") aNil)))) [Sl.v (.adr a), .v (.lst ((kinds c).take 8)), .no, .no] S = .ok (.lst (kinds c)) S := by
    unfold eOp eV mFrz fLst aCons aNil
    simp only [List.getElem?_cons_succ, List.getElem?_cons_zero, R.bind, k]
    rfl
  have f : (fLc (itLst (eOp dAdd (eV 1) (mFrz (fLst (aCons (kE a c "badrows" "BadRows") aNil))))) (gT (gNC (gN 2) (gNC (gN 3) gN0))) (cB (eV 3)) (eV 2) [2, 3]) [Sl.v (.adr a), .v (.lst ((kinds c).take 8)), .no, .no] S = .ok (.lst (wordsOf c)) S := by
    unfold fLc itLst
    rw [e]
    have hl : (wordsOf c).length ≤ 100000 := by
      have h1 := List.length_filter_le (fun p : Str × Str => decide (p.2 = c)) wordL
      unfold wordsOf
      rw [List.length_map]
      have h2 : wordL.length = 9 := rfl
      omega
    have lk2 : lcR (gT (gNC (gN 2) (gNC (gN 3) gN0))) (cB (eV 3)) (eV 2) (wipeE [Sl.v (.adr a), .v (.lst ((kinds c).take 8)), .no, .no] [2, 3]) (kinds c) S = .ok (wordsOf c) S := lk
    show ((lcR _ _ _ _ (kinds c) S).bind fin) = _
    rw [lk2]
    show fin (wordsOf c) S = _
    unfold fin szB
    rw [if_pos (by simpa using hl)]
  have g : (sRet (eCB fTupOf (aCons (mFrz (fLc (itLst (eOp dAdd (eV 1) (mFrz (fLst (aCons (kE a c "badrows" "BadRows") aNil))))) (gT (gNC (gN 2) (gNC (gN 3) gN0))) (cB (eV 3)) (eV 2) [2, 3])) aNil))) [Sl.v (.adr a), .v (.lst ((kinds c).take 8)), .no, .no] S = .rt (.val (.tup (wordsOf c))) S := by
    show (((((fLc (itLst (eOp dAdd (eV 1) (mFrz (fLst (aCons (kE a c "badrows" "BadRows") aNil))))) (gT (gNC (gN 2) (gNC (gN 3) gN0))) (cB (eV 3)) (eV 2) [2, 3]) [Sl.v (.adr a), .v (.lst ((kinds c).take 8)), .no, .no] S).bind fun c S1 => R.ok c.d S1).bind fun d S1 => (aNil [Sl.v (.adr a), .v (.lst ((kinds c).take 8)), .no, .no] S1).bind fun ds S2 => R.ok (d :: ds) S2).bind fun ds S1 => opt (fTupOf S1 ds) S1).out _ _ = _
    rw [f]
    rfl
  have h1 : (sOwn 1 (fLst (aCons (kE a c "badnumber" "BadNumber") (aCons (kE a c "badfold" "BadFold") aNil)))) [.v (.adr a), .no, .no, .no] S = .nx [.v (.adr a), .o (.lst ((kinds c).take 2)), .no, .no] S := by
    unfold sOwn fLst aCons aNil
    simp only [R.bind, R.out, k]
    rfl
  have h2 : (sExt 1 (mFrz (fLst (aCons (kE a c "unfit" "Unfit") (aCons (kE a c "notpart" "NotPart") aNil))))) [.v (.adr a), .o (.lst ((kinds c).take 2)), .no, .no] S = .nx [.v (.adr a), .o (.lst ((kinds c).take 4)), .no, .no] S := by
    unfold sExt mFrz fLst aCons aNil
    simp only [List.getElem?_cons_succ, List.getElem?_cons_zero, R.bind, R.out, k]
    rfl
  have h3 : (sExt 1 (mFrz (fLst (aCons (kE a c "notonto" "NotOnto") (aCons (kE a c "badsize" "BadSize") aNil))))) [.v (.adr a), .o (.lst ((kinds c).take 4)), .no, .no] S = .nx [.v (.adr a), .o (.lst ((kinds c).take 6)), .no, .no] S := by
    unfold sExt mFrz fLst aCons aNil
    simp only [List.getElem?_cons_succ, List.getElem?_cons_zero, R.bind, R.out, k]
    rfl
  have h4 : (sExt 1 (mFrz (fLst (aCons (kE a c "noberth" "NoBerth") (aCons (kE a c "badsides" "BadSides") aNil))))) [.v (.adr a), .o (.lst ((kinds c).take 6)), .no, .no] S = .nx [.v (.adr a), .o (.lst ((kinds c).take 8)), .no, .no] S := by
    unfold sExt mFrz fLst aCons aNil
    simp only [List.getElem?_cons_succ, List.getElem?_cons_zero, R.bind, R.out, k]
    rfl
  unfold mFn m_word
  rw [st]
  unfold sSeq
  rw [h1]
  show (match (sSeq _ _) _ _ with | .nx _ S1 => _ | .rt r S1 => _ | .exc c p _ S1 => _ | _ => _) = _
  unfold sSeq
  rw [h2]
  show (match (sSeq _ _) _ _ with | .nx _ S1 => _ | .rt r S1 => _ | .exc c p _ S1 => _ | _ => _) = _
  unfold sSeq
  rw [h3]
  show (match (sSeq _ _) _ _ with | .nx _ S1 => _ | .rt r S1 => _ | .exc c p _ S1 => _ | _ => _) = _
  unfold sSeq
  rw [h4]
  unfold sFrz
  show (match (sRet _) [Sl.v (.adr a), .v (.lst ((kinds c).take 8)), .no, .no] S with | .nx _ S1 => _ | .rt r S1 => _ | .exc c p _ S1 => _ | _ => _) = _
  rw [g]
end Mm
namespace Mm
open PySem PySem.Spec PyProof.Rows L2
/-! ### tried -/
/-- the reading that is the run itself -/
def tSem (X : Cx) (e : Expr) : TE := fun σ H Q => ∀ pins s, Inv X pins σ H s → wpAny (model X.prog X.w) X.A (eval e X.env) (EP X pins σ Q) X.xe s
theorem pe_sem {X : Cx} {e : Expr} : PE X e (tSem X e) := ⟨fun pins s σ H Q I h => h pins s I⟩
/-- the def makes lambdas: its code object and table are known -/
def Mkr (X : Cx) (Y : Gam) : Prop := ∃ c P, X.env.code = .ref c ∧ LamX.TabB X.base X.mg c P ∧ (P, X.env.qual ++ "<lambda>") ∈ Y.T ∧ ∀ p ∈ Y.T, p.1 = P → p.2 = X.env.qual ++ "<lambda>"
/-- what is known of a refusal's class -/
structure TriX (K : PySem.W.Frag) (Y : Gam) (c : Str) : Prop where
  ex : ExcC K (Y.ca c)
  bt : PySem.W.exmOne K (.ref (Y.ca c)) (.ref (Y.ca "BadText")) = some false
  fe : PySem.W.exmOne K (.ref (Y.ca c)) (.ref (Y.ca "FoldError")) = some true
  kit : ∀ p ∈ wordL, PySem.W.kitOne K (.ref (Y.ca c)) (.ref (Y.ca p.2)) = some (decide (p.2 = c))
abbrev Nt : List Str := ["_law_ask", "_law_e"]
def tBody (p0 p1 p2 p3 p4 p5 p6 p7 p8 p9 p10 p11 p12 p13 p14 p15 p16 p17 p18 : Pos) (j0 j1 j2 j3 : Nat) : List Stmt :=
  [.Try [.Return (some (.Tuple [.Constant (.str "told") j0 p0, .Call (.Name "_law_ask" p1) [] [] p2] j1 p3)) p4]
    [.ExceptHandler (some (.Name "BadText" p5)) (some "_law_e") [.Return (some (.Tuple [.Constant (.str "badtext") j2 p6, .Attribute (.Name "_law_e" p7) "at" p8] j3 p9)) p10] p11,
     .ExceptHandler (some (.Name "FoldError" p12)) (some "_law_e") [.Return (some (.Call (.Name "_law_fold_word" p13) [.Name "_law_e" p14] [] p15)) p16] p17] [] [] p18]
/-- what is known of the two defs -/
structure Tri (P : Program) (w : World) (K : PySem.W.Frag) (mg : Str → Option Value) (base : Heap) (Y : Gam) (cs : List Str) : Prop where
  ex : ∃ (g fw : Addr) (fdg fdw : FuncData) (sg sw : Stmt) (Nw : List Str),
    FnP K "_law_tried" "_law_tried" sg [] g fdg ∧ FnScope Nt ["_law_ask"] (defScope sg) ∧ Binds K fdg ["_law_ask"] [] ∧ mg "_law_tried" = some (.ref g) ∧ (∃ p0 p1 p2 p3 p4 p5 p6 p7 p8 p9 p10 p11 p12 p13 p14 p15 p16 p17 p18 j0 j1 j2 j3, defBody sg = tBody p0 p1 p2 p3 p4 p5 p6 p7 p8 p9 p10 p11 p12 p13 p14 p15 p16 p17 p18 j0 j1 j2 j3) ∧
    (defScope sg).names.lookup ("BadText" : Str) = some .globalImplicit ∧ (defScope sg).names.lookup ("FoldError" : Str) = some .globalImplicit ∧ (defScope sg).names.lookup ("_law_fold_word" : Str) = some .globalImplicit ∧ (defScope sg).names.lookup ("_law_ask" : Str) = some .local ∧ (defScope sg).names.lookup ("_law_e" : Str) = some .local ∧
    FnP K "_law_fold_word" "_law_fold_word" sw [] fw fdw ∧ FnScope Nw ["_law_e"] (defScope sw) ∧ Nw.length = 4 ∧ Binds K fdw ["_law_e"] [] ∧ mg "_law_fold_word" = some (.ref fw) ∧
    ∀ c ∈ cs, ∀ (a : Addr) (oe : Obj), L2N.Zn (.ref (Y.ca c)) none oe → (∃ vs, oe.data = .fields vs) → ∀ (cdv : Value) (A : Around) (outer : List Env) (s : Shared) (H : Hp), L2H.Hot1 A (a, oe) →
      ∃ t1, SB (L2H.cxH (L2N.CX P w) P w K mg base Nw "_law_fold_word" (defScope sw) fw cdv A outer s H C8.E0 (a, oe)) Y W0 (defBody sw) t1 (m_word a c)
  bt : mg "BadText" = some (.ref (Y.ca "BadText"))
  fe : mg "FoldError" = some (.ref (Y.ca "FoldError"))
  x : ∀ c ∈ cs, TriX K Y c
/-- told what it tells, or the refusal's words -/
def tryW (cs : List Str) : R D → R D
  | .ok d S => .ok (.tup [.str "told", d]) S
  | .exc c none S => if c ∈ cs then .ok (.tup (wordsOf c)) S else .stuck
  | _ => .stuck
def eTried (cs : List Str) (me : ME) : ME := fun env S => tryW cs (me (wipeE env []) S)
section
variable {X : Cx} {Y : Gam} {W : WX} {cs : List Str} {k : Nat} {params : Arguments} {body : Expr} {scope : Scope} {me : ME} {p0 lpos pos : Pos}
theorem s_tried (T : Tri X.prog X.w X.K X.mg X.base Y cs) (M : Mkr X Y) (L : LamX.LamS X.env.scope scope) (hr : Room (k + 2) X.A) (hk : 1 ≤ k)
    (hbody : ∀ (A : Around) (outer : List Env) (s : Shared) (H : Hp) (E : XK) (f c' : Addr), Room k (A.deeper (LamX.lamEnv X scope s.heap.objs.size f c')) → L2N.Takes (lamN X A outer s H E scope f c') (fun cls d _ H => E cls d H) → PassesOwn (model X.prog X.w) (lamN X A outer s H E scope f c').A (lamN X A outer s H E scope f c').env (lamN X A outer s H E scope f c').xe →
      ∃ te, SE (lamN X A outer s H E scope f c') Y (fun cls d _ H => E cls d H) body te me)
    (hK : X.K = Y.K := by rfl) (hg : Gl X "_law_tried" := by rfl) (hdef : defaultsOf params X.env = ([], []) := by rfl)
    (hbind : ∀ (q : Str) (cl : List (Str × Addr)) (pm cv ctv : Value), bindArgs (PySem.W.kla_fn "<lambda>" q params body scope cl pm cv ctv) ⟨[], []⟩ = pure [] := by intros; rfl) :
    SE X Y W (.Call (.Name "_law_tried" p0) [.Lambda params body scope lpos] [] pos) (tSem X (.Call (.Name "_law_tried" p0) [.Lambda params body scope lpos] [] pos)) (eTried cs me) := by
  refine ⟨pe_sem, fun w0 H0 w H σ env S O Q st pq pins s I => ?_⟩
  obtain ⟨⟨g, fw, fdg, fdw, sg, sw, Nw, Fg, Sg, Bg, hmg, ⟨q0, q1, q2, q3, q4, q5, q6, q7, q8, q9, q10, q11, q12, q13, q14, q15, q16, q17, q18, j0, j1, j2, j3, ebody⟩, l1, l2, l3, l4, l5, Fw, Sw, ew, Bw, hmw, wb⟩, hbt, hfe, hx⟩ := T
  obtain ⟨c, P, hcode, TB, hmT, hu⟩ := M
  refine wpAny_Call_Name_kw (ld_glob I hg hmg ?_ (by decide))
  refine PySem.W.callWith_K (h₀ := X.base) I.ok.mod.kin Fg.kp ?_ (by rfl) (by rfl)
  show wpAny _ _ (spliced ((false, eval (.Lambda params body scope lpos) X.env) :: backTo pos (starEach [] X.env))) _ _ s
  refine Calls.spliced_cons (lam_makeD I TB hcode hmT hu st.ok.tabs hdef (L.has I.ok) fun f c' pm' ctv H1 s' I1 eN dm T1 hf hfn hfr hco => ?_)
  refine Calls.spliced_nil ⟨I1.kIn, ?_⟩
  have k1 : Ok Y w H1 S := ⟨fun a o e => eN a o (st.ok.ex a o e) (fun ps z => st.ok.notab a ps (by rw [e, z])), ⟨st.ok.cells.nd, st.ok.cells.len, fun m a cc e1 e2 => by
    obtain ⟨q1, q2⟩ := st.ok.cells.at_ m a cc e1 e2
    obtain ⟨x, q3, q4⟩ := q2.some_
    exact ⟨q1, q2.move (.refl w) (by rw [q3, eN a x q3 q4])⟩⟩, T1, st.ok.notab⟩
  have f1 : Frame w H w H1 := ⟨.refl w, fun a o e _ nt => eN a o e nt, fun _ _ => rfl, fun _ z => .inl z, dm⟩
  have st1 : StR Y w0 H0 w H1 σ env S O := st.after f1 k1
  have stb : StR Y w H1 w H1 σ (wipeE env []) S (List.replicate σ.length none) := st1.hide []
  have rc : codeAny (model X.prog X.w) X.A (.call (.ref g) ⟨[.ref f], []⟩) (CR (L2N.CX X.prog X.w) X.stack X.prog X.w H1 s' Q C8.E0) s' := by
    obtain ⟨oc, od, dV, kV, doc, pm, an, cdv, ct, osl, efd, lk, hcg, _, _⟩ := Fg.ex
    subst efd
    refine LamX.run_ofS (N := Nt) (ps := ["_law_ask"]) (us := [.ref f]) (vs := [.ref f]) lk hcg Sg hr I1.env0 (Bg s' [.ref f] I1.kIn rfl) (.cons rfl .nil) rfl fun hr' => ?_
    generalize hZ : cxOf (L2N.CX X.prog X.w) X.prog X.w X.K X.mg X.base Nt "_law_tried" (defScope sg) g cdv X.A X.stack s' H1 C8.E0 = Z
    rw [ebody]
    refine ⟨_, pss_one (ps_tryN (X := Z) (Wout := fun _ _ _ _ => False) (tb := fun W => tRet (tTup (tCons (tC (.str "told")) (tCons (tAct Y f c' (X.env.qual ++ "<lambda>") σ me W) tNil))))
      (l := [.as (.ref (Y.ca "BadText")) 1 (fun _ _ _ _ _ _ => False), .as (.ref (Y.ca "FoldError")) 1 (fun a cls d D σ H => ∃ cc ∈ cs, cls = .ref (Y.ca cc) ∧ d = none ∧ tRet (tHot Y a 1 Nw.length (m_word a cc)) D σ H)]) ?_ ?_ ?_ takesN (fun W pn xe tk _ => ?_) ?_), ?_⟩
    · subst hZ; rfl
    · subst hZ; rfl
    · subst hZ; exact Sg.nd
    · subst hZ
      refine pss_one (ps_ret (pe_tup (pa_cons pe_str (pa_cons (pe_actN (k := k) I1 L hf hfn hfr (hbind _ _ _ _ _) tk hr' (fun A outer s H E hr2 => hbody A outer s H E f c' hr2 lamN_takes lamN_passes) rfl (.inl l4)) pa_nil))))
    · subst hZ
      refine HdsN.as (n := "_law_e") rfl l5 ⟨l1, by decide, .inl hbt⟩ (fun a oe cls d pn _ _ => ⟨fun _ _ _ _ _ _ z => False.elim z⟩) (HdsN.as (n := "_law_e") rfl l5 ⟨l2, by decide, .inl hfe⟩ (fun a oe cls d pn hz hf => ?_) .nil)
      refine ⟨fun pins s σ H D I hw => ?_⟩
      obtain ⟨cc, hcc, e1, e2, hw⟩ := hw
      subst e1 e2
      have rr : L2H.RoomH (0 + 1) (cxOf (L2N.CX X.prog X.w) X.prog X.w X.K X.mg X.base Nt "_law_tried" (defScope sg) g cdv X.A X.stack s' H1 C8.E0).A := (L2H.roomH_of hr').mono (by omega)
      exact (pss_one (ps_ret (pe_hot (i := 1) (n := "_law_e") (x := "_law_fold_word") (X := cxOf (L2N.CX X.prog X.w) X.prog X.w X.K X.mg X.base Nt "_law_tried" (defScope sg) g cdv X.A X.stack s' H1 C8.E0) Fw Sw Bw hmw rr hz hf (fun cdv A outer s H hot _ => wb cc hcc a oe hz hf cdv A outer s H hot) rfl (.inl l5) l3))).run pins s σ H D I hw
    · refine ⟨rfl, hco, w, H1, w, wipeE env [], S, List.replicate σ.length none, stb, ?_⟩
      have pq : PostX Y W w0 H0 w σ env O (tryW cs (me (wipeE env []) S)) (fun d _ w' H' => ∀ v, Rep Y w' d v → Q v H') := pq
      cases z : me (wipeE env []) S with
      | stuck => rw [z] at pq; exact pq
      | ok d S2 =>
        rw [z] at pq
        intro w' H' st' l' v rv
        refine ⟨by show 2 ≤ sizeLine; decide, fun q hq => ?_⟩
        have st2 : StR Y w0 H0 w' H' σ env S2 O := st1.after st'.fr st'.ok
        have G := Grow.one (w := w') (o := .tup [.str "told", v]) hq nt_tup
        exact pq _ _ (st2.grow G) (l'.trans (G.le st2.ok)) _ (rep_tup_new st2.ok hq (RepL.cons_ rep_str' (RepL.cons_ rv RepL.nil_)))
      | exc cc pp S2 =>
        rw [z] at pq
        cases pp with
        | some d => exact False.elim pq
        | none =>
          have pq : PostX Y W w0 H0 w σ env O (if cc ∈ cs then R.ok (.tup (wordsOf cc)) S2 else .stuck) (fun d _ w' H' => ∀ v, Rep Y w' d v → Q v H') := pq
          split at pq
          · rename_i hcc
            intro w' H' cls dd st' l' xr
            obtain ⟨e1, e2⟩ := xr
            have e2 : dd = none := e2
            subst e1 e2
            have eK : Z.K = X.K := by subst hZ; rfl
            rw [eK]
            refine ⟨false, (hx cc hcc).bt, fun z => Bool.noConfusion z, fun _ => ⟨true, (hx cc hcc).fe, fun _ a ha => ?_, fun z => Bool.noConfusion z⟩⟩
            refine ⟨cc, hcc, rfl, rfl, rfl, w', S2, st'.ok, ?_⟩
            rw [ew, word_run]
            intro w2 H2 v fr ok rv
            exact pq w2 H2 ((st1.after st'.fr st'.ok).after fr ok) (l'.trans fr.le) v rv
          · exact False.elim pq
  refine wpAny_call (codeAny_mono rc fun r s2 hq => ?_)
  cases r with
  | error e =>
    obtain ⟨_, _, _, _, _, _, _, _, _, _, _, _, z⟩ := (show L2N.CX X.prog X.w X.stack H1 s' C8.E0 e s2 from hq)
    exact False.elim z
  | ok fl =>
    cases fl with
    | ret u => exact I1.after hq
    | next => exact False.elim hq
    | brk => exact False.elim hq
    | cont => exact False.elim hq
end
end Mm
namespace Mm
open PySem L2
section
variable {X : Cx} {Y : Gam} {W : WX} {e a b c tg iter elt l : Expr} {es rest ifs : List Expr} {ta tb tc te tl : TE} {tt tu : TT} {ma mb mc me ml : ME} {mt mu : MT} {mf : MF} {t : TA} {m : MA} {pos p tpos : Pos} {s : Stmt} {ss : List Stmt} {t1 t2 : TS} {m1 m2 : MS} {wi : TI} {mi : MI} {x : Str}
/-! ### built-in types as values; isinstance -/
theorem s_bty {n : String} (hm : X.mg x = none) (hv : bootBuiltins x = some (.type n)) (hg : Gl X x := by rfl) (hn : x ≠ "__name__" := by decide) (hd : (x == ("__debug__" : Str)) = false := by decide) : SE X Y W (.Name x pos) (tC (.ty n)) (eC (.ty n)) :=
  ⟨pe_bltn hg hm hv rfl hn hd, sim_c fun _ => by unfold Rep; rfl⟩
def D.tyN : D → Option String
  | .non => some "NoneType"
  | .bl _ => some "bool"
  | .int _ => some "int"
  | .str _ => some "str"
  | .lst _ => some "list"
  | .tup _ => some "tuple"
  | _ => none
theorem sqT_ty {K : PySem.W.Frag} {H : Hp} {a : Addr} {xs : List V} (h : SqT K H a xs) : TyX K H (.ref a) (.type "tuple") := by
  rcases h with (h | ⟨o, h⟩) | h
  · exact .base (.tup h)
  · exact .fTuple h
  · obtain ⟨o, its, n, e1, e2, _⟩ := h
    exact .kTuple e1 e2
theorem rep_ty {g : Gam} {w : Wd} {H : Hp} {d : D} {v : V} {n : String} (ex : Same w.G H) (r : Rep g w d v) (h : d.tyN = some n) : TyX g.K H v (.type n) := by
  cases d with
  | non => cases h; rw [rep_non r]; exact .base .non
  | bl b => cases h; rw [rep_bl r]; exact .base (.bl b)
  | int b => cases h; rw [rep_int r]; exact .base (.int b)
  | str b => cases h; rw [rep_str r]; exact .base (.str b)
  | lst ds =>
    cases h
    obtain ⟨a, vs, e1, e2, _⟩ := rep_lst r
    rw [e1]
    exact .base (.lst (ex _ _ e2))
  | tup ds =>
    cases h
    obtain ⟨a, vs, e1, e2, _⟩ := rep_tup r
    rw [e1]
    exact sqT_ty (same_sqT ex e2)
  | _ => cases h
def fIsi : Sto → List D → Option D
  | _, [d, .ty n] => match d.tyN with
    | some t => (kitB t n).map D.bl
    | none => none
  | _, _ => none
theorem cd_isi {g : Gam} : CallD g (rIsi g.K) fIsi := fun w H S ds vs d Q k r e q => by
  unfold fIsi at e
  split at e
  · rename_i d1 n
    cases z : d1.tyN with
    | none => rw [z] at e; cases e
    | some tn =>
      rw [z] at e
      cases y : kitB tn n with
      | none => simp [y] at e
      | some b =>
        simp [y] at e
        subst e
        obtain ⟨v1, v2, e1, r1, r2⟩ := repL_two r
        unfold Rep at r2
        exact ⟨v1, .ty n, .type tn, .type n, b, by rw [e1, r2], .ty n, rep_ty k.ex r1 z, kit_ty y, q w H _ .refl rep_bl'⟩
  · cases e
def tysOf : List D → Option (List String)
  | [] => some []
  | .ty n :: ds => (tysOf ds).map (n :: ·)
  | _ => none
def kitL (t : String) : List String → Option Bool
  | [] => some false
  | n :: ns => match kitB t n with
    | some true => some true
    | some false => kitL t ns
    | none => none
theorem kitL_ok {K : PySem.W.Frag} {t : String} : ∀ {ns : List String} {b : Bool}, kitL t ns = some b → PySem.W.kitAny K (.type t) (ns.map Value.type) = some b
  | [], b, h => by
    cases h
    exact kitAny_nil
  | n :: ns, b, h => by
    unfold kitL at h
    cases z : kitB t n with
    | none => rw [z] at h; cases h
    | some y =>
      rw [z] at h
      cases y with
      | true =>
        cases h
        exact kitAny_cons (kit_ty z) (fun q => Bool.noConfusion q) (fun _ => rfl)
      | false => exact kitAny_cons (kit_ty z) (fun _ => kitL_ok h) (fun q => Bool.noConfusion q)
theorem tysOf_rep {g : Gam} {w : Wd} : ∀ {ds : List D} {ns : List String} {vs : List V}, tysOf ds = some ns → RepL g w ds vs → Paired ClsV vs (ns.map Value.type)
  | [], ns, vs, h, r => by
    cases h
    unfold RepL at r
    rw [r]
    exact .nil
  | d :: ds, ns, vs, h, r => by
    cases d with
    | ty n =>
      unfold tysOf at h
      cases q : tysOf ds with
      | none => rw [q] at h; cases h
      | some ns' =>
        rw [q] at h
        cases h
        unfold RepL at r
        obtain ⟨v, r', e1, a, b⟩ := r
        unfold Rep at a
        rw [e1, a]
        exact .cons (.ty n) (tysOf_rep q b)
    | _ => unfold tysOf at h; cases h
/-- isinstance(x, (C, ..)) -/
def eIsT (me : ME) (m : MA) : ME := fun env S => (me env S).bind fun d S1 => (m env S1).bind fun ds S2 => match d.tyN, tysOf ds with
  | some t, some ns => if szB ds.length then opt ((kitL t ns).map D.bl) S2 else .stuck
  | _, _ => .stuck
theorem s_isT {k : Nat} {p2 : Pos} (hm : X.mg "isinstance" = none) (he : SE X Y W e te me) (ha : SA X Y W es t m) (hK : X.K = Y.K := by rfl) (hg : Gl X "isinstance" := by rfl) (hs : starEach [e, .Tuple es k p2] X.env = (false, eval e X.env) :: starEach [.Tuple es k p2] X.env := by rfl)
    (hs2 : starEach [.Tuple es k p2] X.env = (false, eval (.Tuple es k p2) X.env) :: starEach [] X.env := by rfl) (hpl : (backTo pos (starEach [.Tuple es k p2] X.env)).any (·.1) = false := by rfl) :
    SE X Y W (.Call (.Name "isinstance" p) [e, .Tuple es k p2] [] pos) (tCB (rIsiT Y.K) (tCons te (tCons (tTup t) tNil))) (eIsT me m) :=
  ⟨hK ▸ pe_callB call_isiT hg hm (by decide +kernel : bootBuiltins "isinstance" = some (.builtin "isinstance")) (pa_cons he.pe (pa_cons (pe_tup ha.pa) pa_nil hs2) hs) (by decide) (by decide) hs hpl, fun w0 H0 w H σ env S O Q st pq =>
  he.sim w0 H0 w H σ env S O _ st ((PostX.bind pq).imp fun d S1 w1 H1 st1 l1 p1 v r => ha.sim w0 H0 w1 H1 σ env S1 O _ st1 ((PostX.bind p1).imp fun ds S2 w2 H2 st2 l2 p2 vs rs => by
    cases z1 : d.tyN with
    | none => rw [z1] at p2; exact False.elim p2
    | some tn =>
      cases z2 : tysOf ds with
      | none => rw [z1, z2] at p2; exact False.elim p2
      | some ns =>
        simp only [z1, z2] at p2
        split at p2
        · rename_i hz
          cases z3 : kitL tn ns with
          | none => rw [z3] at p2; exact False.elim p2
          | some b =>
            rw [z3] at p2
            refine ⟨by rw [← rs.len]; exact szB_le hz, fun q hq => ?_⟩
            have G := Grow.one (w := w2) (o := .tup vs) hq nt_tup
            refine ⟨v, q, vs, .type tn, ns.map Value.type, b, rfl, upd_same, tysOf_rep z2 rs, rep_ty (st2.ok.ex.trans (same_upd hq)) (r.mono l2) z1, kitL_ok z3, ?_⟩
            exact p2 _ _ (st2.grow G) (G.le st2.ok) _ rep_bl'
        · exact False.elim p2))⟩
/-! ### zip of two lists or two tuples -/
theorem itR_zipT {g : Gam} {w : Wd} {a b : Addr} {ds es : List D} {vs us : List V} (e : SqT g.K w.G a vs) (r : RepL g w ds vs) (e' : SqT g.K w.G b us) (r' : RepL g w es us) : ItR g w (RZ.ItzT g.K a b) (zipD ds es) := fun w2 H2 l x => by
  have q : SqT g.K H2 a vs := same_sqT (l.ex.trans x) e
  have q' : SqT g.K H2 b us := same_sqT (l.ex.trans x) e'
  refine ⟨fun i d hd => ?_, ⟨vs, us, q, q', by rw [zipD_len, r.len, r'.len]; omega⟩⟩
  obtain ⟨d1, d2, h1, h2, ed⟩ := zipD_at ds es i d hd
  obtain ⟨v, hv, rv⟩ := r.at_ h1
  obtain ⟨u, hu, ru⟩ := r'.at_ h2
  refine ⟨⟨vs, us, v, u, q, q', hv, hu⟩, fun y H' hy => ?_⟩
  obtain ⟨T, x', y', e1, e2, e3, e4, e5⟩ := hy
  have e6 := e4 vs q
  have e7 := e5 us q'
  rw [hv] at e6
  rw [hu] at e7
  cases e6
  cases e7
  rw [e1, e3, ed]
  refine ⟨_, Grow.one e2 nt_tup, ?_⟩
  unfold Rep
  have le : w2.le ⟨w2.rho, upd w2.G T (.tup [v, u])⟩ := ⟨⟨[], by simp⟩, same_upd (none_of_same x e2)⟩
  exact ⟨T, _, rfl, .inl (.inl upd_same), RepL.cons_ ((rv.mono l).mono le) (RepL.cons_ ((ru.mono l).mono le) RepL.nil_)⟩
def itZA (m : MA) : MI := fun env S => (m env S).bind fun ds S1 => match ds with
  | [.lst xs, .lst ys] => .ok (zipD xs ys) S1
  | [.tup xs, .tup ys] => .ok (zipD xs ys) S1
  | _ => .stuck
theorem i_zipA {e2 : Expr} {elts : List Expr} {kk : Nat} (hm : X.mg "zip" = none) (ha : SA X Y W [e, e2] t m) (hK : X.K = Y.K := by rfl) (hg : Gl X "zip" := by rfl) (hs : starEach [e, e2] X.env = (false, eval e X.env) :: starEach [e2] X.env := by rfl) (hpl : (backTo pos (starEach [e2] X.env)).any (·.1) = false := by rfl) :
    SI X Y W (.Tuple elts kk tpos) (.Call (.Name "zip" p) [e, e2] [] pos) (RZ.iZipA Y.K t) (itZA m) := ⟨hK ▸ RZ.pi_zipA hg hm ha.pa hs hpl, fun w0 H0 w H σ env S O Q st p =>
  ha.sim w0 H0 w H σ env S O _ st ((PostX.bind p).imp fun ds S1 w1 H1 st1 l1 p1 vs r => by
    split at p1
    · rename_i xs ys
      obtain ⟨v, u, e1, e2, e3⟩ := repL_two r
      obtain ⟨a, us, x1, x2, x3⟩ := rep_lst e2
      obtain ⟨b, ws, y1, y2, y3⟩ := rep_lst e3
      rw [x1, y1] at e1
      exact ⟨a, b, us, ws, e1, .inl ⟨.inl (.inl (st1.ok.ex _ _ x2)), .inl (.inl (st1.ok.ex _ _ y2)), p1 w1 H1 st1 (.refl w1) _ (itR_zip (g := Y) x2 x3 y2 y3)⟩⟩
    · rename_i xs ys
      obtain ⟨v, u, e1, e2, e3⟩ := repL_two r
      obtain ⟨a, us, x1, x2, x3⟩ := rep_tup e2
      obtain ⟨b, ws, y1, y2, y3⟩ := rep_tup e3
      rw [x1, y1] at e1
      exact ⟨a, b, us, ws, e1, .inr ⟨same_sqT st1.ok.ex x2, same_sqT st1.ok.ex y2, p1 w1 H1 st1 (.refl w1) _ (itR_zipT (g := Y) x2 x3 y2 y3)⟩⟩
    · exact False.elim p1)⟩
/-! ### a <= b < c -/
def eChain (f g : Sto → D → D → Option D) (ma mb mc : ME) : ME := fun env S => (ma env S).bind fun x S1 => (mb env S1).bind fun y S2 => match f S2 x y with
  | some (.bl true) => (mc env S2).bind fun z S3 => opt (g S3 y z) S3
  | some (.bl false) => .ok (.bl false) S2
  | _ => .stuck
theorem s_chain {op op' : CmpOp} {r r' : R2} {f f' : Sto → D → D → Option D} (hd : OpD Y r f) (hd' : OpD Y r' f') (ho : OpR X (compareOp op) r) (ho' : OpR X (compareOp op') r') (ha : SE X Y W a ta ma) (hb : SE X Y W b tb mb) (hc : SE X Y W c tc mc)
    (hm : lastMarks [op, op'] [b, c] = false := by with_unfolding_all rfl) : SE X Y W (.Compare a [op, op'] [b, c] pos) (tChain r r' ta tb tc) (eChain f f' ma mb mc) := ⟨pe_chain ho ho' ha.pe hb.pe hc.pe hm, fun w0 H0 w H σ env S O Q st p =>
  ha.sim w0 H0 w H σ env S O _ st ((PostX.bind p).imp fun d1 S1 w1 H1 st1 l1 p1 v1 r1 => hb.sim w0 H0 w1 H1 σ env S1 O _ st1 ((PostX.bind p1).imp fun d2 S2 w2 H2 st2 l2 p2 v2 r2 => by
    split at p2
    · rename_i z
      refine hd w2 H2 S2 d1 d2 v1 v2 _ _ st2.ok (r1.mono l2) r2 z fun w3 H3 v G rv => ⟨true, rep_bl rv, ?_⟩
      simp only [if_true]
      have st3 := st2.grow G
      have l3 := G.le st2.ok
      refine hc.sim w0 H0 w3 H3 σ env S2 O _ st3 ((PostX.bind (PostX.mono p2 l3)).imp fun d3 S3 w4 H4 st4 l4 p4 v3 r3 => ?_)
      obtain ⟨d, e, kk⟩ := PostX.opt_ p4 st4
      exact hd' w4 H4 S3 d2 d3 v2 v3 d Q st4.ok ((r2.mono l3).mono l4) r3 e fun w5 H5 v5 G5 r5 => kk w5 H5 (st4.grow G5) (G5.le st4.ok) v5 r5
    · rename_i z
      refine hd w2 H2 S2 d1 d2 v1 v2 _ _ st2.ok (r1.mono l2) r2 z fun w3 H3 v G rv => ⟨false, rep_bl rv, ?_⟩
      simp only [Bool.false_eq_true, if_false]
      exact p2 w3 H3 (st2.grow G) (G.le st2.ok) _ rep_bl'
    · exact False.elim p2))⟩
/-! ### min, max of two -/
def fMin2 : Sto → List D → Option D
  | _, [.int i, .int j] => some (.int (if j < i then j else i))
  | _, _ => none
def fMax2 : Sto → List D → Option D
  | _, [.int i, .int j] => some (.int (if j > i then j else i))
  | _, _ => none
theorem cd_min2 {g : Gam} : CallD g (fun xs H Q => ∃ i j, xs = [.int i, .int j] ∧ Q (.int (if j < i then j else i)) H) fMin2 := fun w H S ds vs d Q k r e q => by
  unfold fMin2 at e
  split at e
  · rename_i i j
    cases e
    obtain ⟨v1, v2, e1, r1, r2⟩ := repL_two r
    exact ⟨i, j, by rw [e1, rep_int r1, rep_int r2], q w H _ .refl rep_int'⟩
  · cases e
theorem cd_max2 {g : Gam} : CallD g (fun xs H Q => ∃ i j, xs = [.int i, .int j] ∧ Q (.int (if j > i then j else i)) H) fMax2 := fun w H S ds vs d Q k r e q => by
  unfold fMax2 at e
  split at e
  · rename_i i j
    cases e
    obtain ⟨v1, v2, e1, r1, r2⟩ := repL_two r
    exact ⟨i, j, by rw [e1, rep_int r1, rep_int r2], q w H _ .refl rep_int'⟩
  · cases e
/-! ### xs.count(k) -/
def eCnt (mo me : ME) : ME := fun env S => (mo env S).bind fun d S1 => match d with
  | .lst ds => (me env S1).bind fun k S2 => (match k with
    | .int k => opt ((intsOf ds).map fun ns => D.int (ns.count k : Nat)) S2
    | _ => .stuck)
  | _ => .stuck
theorem s_cnt {o : Expr} {to : TE} {mo : ME} {apos cpos : Pos} (ho : SE X Y W o to mo) (he : SE X Y W e te me) (hK : X.K = Y.K := by rfl) (hbase : attributeBase o "count" X.env (eval o X.env) = eval o X.env := by rfl)
    (hfew : ((backTo cpos (starEach [e] X.env)).all (fun x => !x.1) && (backToKw cpos (keywordEach [] X.env)).all (fun x => x.1.isSome) && decide ([e].length + ([] : List Keyword).length + (if ([] : List Keyword).isEmpty then 0 else 1) < 30)) = true := by rfl)
    (hline : (apos.endLine == cpos.line) = true := by rfl) (hs : starEach [e] X.env = (false, eval e X.env) :: starEach [] X.env := by rfl) (hplain : (backTo cpos (starEach [] X.env)).any (·.1) = false := by rfl) :
    SE X Y W (.Call (.Attribute o "count" apos) [e] [] cpos) (tBM Y.K "list" (rCntI Y.K) to (tCons te tNil)) (eCnt mo me) :=
  ⟨hK ▸ pe_bm PySem.F.plainAttrs_list PySem.F.slot_list_count PySem.F.type_list_count mt_lcount ho.pe (pa_cons he.pe pa_nil hs) hbase hfew hline hs hplain, fun w0 H0 w H σ env S O Q st p =>
  ho.sim w0 H0 w H σ env S O _ st ((PostX.bind p).imp fun d S1 w1 H1 st1 l1 p1 v r => by
    cases d with
    | lst ds =>
      obtain ⟨a, vs, e1, e2, e3⟩ := rep_lst r
      refine ⟨by rw [e1]; exact tyV_lst (st1.ok.ex _ _ e2), ?_⟩
      refine he.sim w0 H0 w1 H1 σ env S1 O _ st1 ((PostX.bind p1).imp fun k S2 w2 H2 st2 l2 p2 u ru => ?_)
      cases k with
      | int k =>
        obtain ⟨d', z, kk⟩ := PostX.opt_ p2 st2
        cases y : intsOf ds with
        | none => rw [y] at z; cases z
        | some ns =>
          rw [y] at z
          cases z
          have ev : vs = ns.map V.int := intsOf_rep (g := Y) (w := w1) y e3
          refine ⟨a, ns, k, e1, by rw [rep_int ru], .inl (.inl ?_), kk w2 H2 st2 (.refl w2) _ rep_int'⟩
          rw [← ev]
          exact st2.ok.ex _ _ (l2.ex _ _ e2)
      | _ => exact False.elim p2
    | _ => exact False.elim p1)⟩
end
end Mm
namespace Mm
open PySem L2
/-! ### own things are lent to a test that uses no cell -/
mutual
def noRef : D → Bool
  | .lst ds => noRefL ds
  | .tup ds => noRefL ds
  | .ins _ fs => noRefF fs
  | .dic ks => noRefK ks
  | .ref _ => false
  | _ => true
def noRefL : List D → Bool
  | [] => true
  | d :: ds => noRef d && noRefL ds
def noRefF : List (Str × D) → Bool
  | [] => true
  | (_, d) :: ds => noRef d && noRefF ds
def noRefK : List (Key × D) → Bool
  | [] => true
  | (_, d) :: ds => noRef d && noRefK ds
end
mutual
theorem noRef_under : ∀ {d : D}, noRef d = true → d.under 0
  | .lst ds, h => by unfold noRef at h; unfold D.under; exact noRefL_under h
  | .tup ds, h => by unfold noRef at h; unfold D.under; exact noRefL_under h
  | .ins c fs, h => by unfold noRef at h; unfold D.under; exact noRefF_under h
  | .dic ks, h => by unfold noRef at h; unfold D.under; exact noRefK_under h
  | .ref n, h => by unfold noRef at h; cases h
  | .non, _ => by unfold D.under; trivial
  | .bl _, _ => by unfold D.under; trivial
  | .int _, _ => by unfold D.under; trivial
  | .str _, _ => by unfold D.under; trivial
  | .scr _, _ => by unfold D.under; trivial
  | .ty _, _ => by unfold D.under; trivial
  | .cls _, _ => by unfold D.under; trivial
  | .adr _, _ => by unfold D.under; trivial
  | .set _, _ => by unfold D.under; trivial
theorem noRefL_under : ∀ {ds : List D}, noRefL ds = true → underL 0 ds
  | [], _ => by unfold underL; trivial
  | d :: ds, h => by
    unfold noRefL at h
    rw [Bool.and_eq_true] at h
    unfold underL
    exact ⟨noRef_under h.1, noRefL_under h.2⟩
theorem noRefF_under : ∀ {ds : List (Str × D)}, noRefF ds = true → underF 0 ds
  | [], _ => by unfold underF; trivial
  | (_, d) :: ds, h => by
    unfold noRefF at h
    rw [Bool.and_eq_true] at h
    unfold underF
    exact ⟨noRef_under h.1, noRefF_under h.2⟩
theorem noRefK_under : ∀ {ds : List (Key × D)}, noRefK ds = true → underK 0 ds
  | [], _ => by unfold underK; trivial
  | (_, d) :: ds, h => by
    unfold noRefK at h
    rw [Bool.and_eq_true] at h
    unfold underK
    exact ⟨noRef_under h.1, noRefK_under h.2⟩
end
def lendV : Sl → Sl
  | .v d => if noRef d then .v d else .no
  | _ => .no
def frzL : List Nat → Envr → Envr
  | [], env => env
  | i :: is, env => frzAt i (frzL is env)
def lendE (is : List Nat) (env : Envr) : Envr := (frzL is env).map lendV
theorem StR.frzL {g : Gam} {w0 w : Wd} {H0 H : Hp} {σ : L2.St} {env : Envr} {S : Sto} {O : List (Option Addr)} (st : StR g w0 H0 w H σ env S O) : ∀ is : List Nat, ∃ w' O', StR g w0 H0 w' H σ (frzL is env) S O' ∧ w.le w'
  | [] => ⟨w, O, st, .refl w⟩
  | i :: is => by
    obtain ⟨w1, O1, st1, l1⟩ := st.frzL is
    obtain ⟨w2, O2, st2, l2⟩ := st1.frz i
    exact ⟨w2, O2, st2, l1.trans l2⟩
theorem StR.lend {g : Gam} {w0 w : Wd} {H0 H : Hp} {σ : L2.St} {env : Envr} {S : Sto} {O : List (Option Addr)} (st : StR g w0 H0 w H σ env S O) (is : List Nat) :
    ∃ G, StR g ⟨[], G⟩ H ⟨[], G⟩ H σ (lendE is env) [] (List.replicate σ.length none) ∧ ∀ w2 H2 S2, Frame ⟨[], G⟩ H w2 H2 → Ok g w2 H2 S2 → StR g w0 H0 w H2 σ env S O := by
  obtain ⟨w1, O1, st1, l1⟩ := st.frzL is
  refine ⟨w1.G, ⟨⟨st1.ok.ex, ⟨fun i j a h _ => by simp at h, rfl, fun n a c h _ => by simp at h⟩, st1.ok.tabs, st1.ok.notab⟩, .refl _ _, by unfold lendE; rw [List.length_map]; exact st1.l1, List.length_replicate, fun i s x o e1 e2 e3 => ?_, fun i j p e _ => ?_, fun i p e => ?_⟩, fun w2 H2 S2 f k => ?_⟩
  · have eo : o = none := by
      rw [List.getElem?_replicate] at e3
      split at e3
      · exact (Option.some.inj e3).symm
      · cases e3
    unfold lendE at e1
    rw [List.getElem?_map] at e1
    cases q : (Mm.frzL is env)[i]? with
    | none => rw [q] at e1; cases e1
    | some s' =>
      rw [q] at e1
      have e1 : lendV s' = s := Option.some.inj e1
      cases s' with
      | no => rw [← e1]; exact eo
      | o c => rw [← e1]; exact eo
      | v d =>
        by_cases hd : noRef d = true
        · have e1' : Sl.v d = s := by rw [← e1]; exact (if_pos hd).symm
          rw [← e1']
          have hO : i < O1.length := by
            rw [st1.l2, ← st1.l1]
            exact (List.getElem?_eq_some_iff.mp q).1
          obtain ⟨_, v, q1, q2⟩ := st1.sl i (.v d) x O1[i] q e2 (List.getElem?_eq_getElem hO)
          exact ⟨eo, v, q1, Rep.cut (w := w1) (w' := ⟨[], w1.G⟩) (n := 0) ⟨fun m a h _ => absurd h (Nat.not_lt_zero _), fun _ _ z => z⟩ q2 (noRef_under hd)⟩
        · have e1' : Sl.no = s := by rw [← e1]; exact (if_neg hd).symm
          rw [← e1']
          exact eo
  · rw [List.getElem?_replicate] at e
    split at e <;> cases e
  · rw [List.getElem?_replicate] at e
    split at e <;> cases e
  · have kp : ∀ a o, H a = some o → (∀ ps, o ≠ .tbl ps) → H2 a = some o := fun a o e n => f.keep a o e (by simp) n
    refine st.after ⟨.refl w, fun a o e _ n => kp a o e n, fun _ _ => rfl, fun _ z => .inl z, f.dom⟩ ⟨fun a o e => kp a o (st.ok.ex a o e) (fun ps z => st.ok.notab a ps (by rw [e, z])), ⟨st.ok.cells.nd, st.ok.cells.len, fun m a c e1 e2 => ?_⟩, k.tabs, st.ok.notab⟩
    obtain ⟨q1, q2⟩ := st.ok.cells.at_ m a c e1 e2
    obtain ⟨x, q3, q4⟩ := q2.some_
    exact ⟨q1, q2.move (.refl w) (by rw [q3, kp a x q3 q4])⟩
section
variable {X : Cx} {Y : Gam} {W : WX} {e : Expr} {te : TE} {tt : TT} {me : ME} {mt : MT}
def cLend (is : List Nat) (m : MT) : MT := fun env S => match m (lendE is env) [] with
  | .ok b _ => .ok b S
  | _ => .stuck
theorem c_lend (is : List Nat) (h : SC X Y W e tt mt) : SC X Y W e tt (cLend is mt) := ⟨h.pt, fun w0 H0 w H σ env S O Q st p => by
  obtain ⟨G, st1, back⟩ := st.lend is
  refine h.sim _ _ _ _ σ _ [] _ Q st1 ?_
  unfold cLend at p
  cases z : mt (lendE is env) [] with
  | stuck => rw [z] at p; exact p
  | exc c q S2 => rw [z] at p; exact False.elim p
  | ok b S2 =>
    rw [z] at p
    exact fun w2 H2 st2 l2 => p w H2 (back w2 H2 S2 st2.fr st2.ok) (.refl w)⟩
def scal : D → Bool
  | .non => true
  | .bl _ => true
  | .int _ => true
  | .str _ => true
  | _ => false
theorem scal_rep {g : Gam} {w w' : Wd} {d : D} {v : V} (h : scal d = true) (r : Rep g w d v) : Rep g w' d v := by
  cases d with
  | non => rw [rep_non r]; exact rep_non'
  | bl b => rw [rep_bl r]; exact rep_bl'
  | int b => rw [rep_int r]; exact rep_int'
  | str b => rw [rep_str r]; exact rep_str'
  | _ => cases h
def eLend (is : List Nat) (m : ME) : ME := fun env S => match m (lendE is env) [] with
  | .ok d _ => if scal d then .ok d S else .stuck
  | _ => .stuck
theorem s_lend (is : List Nat) (h : SE X Y W e te me) : SE X Y W e te (eLend is me) := ⟨h.pe, fun w0 H0 w H σ env S O Q st p => by
  obtain ⟨G, st1, back⟩ := st.lend is
  refine h.sim _ _ _ _ σ _ [] _ Q st1 ?_
  unfold eLend at p
  cases z : me (lendE is env) [] with
  | stuck => rw [z] at p; exact p
  | exc c q S2 => rw [z] at p; exact False.elim p
  | ok b S2 =>
    rw [z] at p
    have p : PostX Y W w0 H0 w σ env O (if scal b = true then R.ok b S else .stuck) _ := p
    split at p
    · rename_i hb
      exact fun w2 H2 st2 l2 v r => p w H2 (back w2 H2 S2 st2.fr st2.ok) (.refl w) v (scal_rep hb r)
    · exact False.elim p⟩
end
/-! ### a def that makes lambdas -/
def CodeIs (K : PySem.W.Frag) (f c : Addr) : Prop := ∀ (oc : Value) (od : Option Addr) (fd : FuncData) (osl : Array (Option Value)), K.lookup f = some ⟨oc, od, .func fd, osl⟩ → fd.code = .ref c
abbrev lamQ (qual : Str) (scope : Scope) : Str := (PyProof.Rows.envOfC qual scope 0 0 .none).qual ++ "<lambda>"
def MkrF (K : PySem.W.Frag) (mg : Str → Option Value) (base : Heap) (Y : Gam) (f : Addr) (q : Str) : Prop := ∃ c P, CodeIs K f c ∧ LamX.TabB base mg c P ∧ (P, q) ∈ Y.T ∧ ∀ p ∈ Y.T, p.1 = P → p.2 = q
theorem fn_simL {P : Program} {w : World} {K : PySem.W.Frag} {mg : Str → Option Value} {base : Heap} {x qual : Str} {params : Arguments} {body : List Stmt} {scope : Scope} {dvs : List V} {kws : List (Str × V)} {f : Addr} {fd : FuncData} {N ps : List Str} {k n : Nat} {m1 : MS} (Y : Gam)
    (F : FunD K x qual params body scope dvs kws f fd) (S : FnScope N ps scope) (hn : n = ps.length) (M : MkrF K mg base Y f (lamQ qual scope))
    (hbody : ∀ (cdv : Value) (A : Around) (outer : List Env) (s : Shared) (H : Hp) (E : XK), Mkr (cxOf (L2N.CX P w) P w K mg base N qual scope f cdv A outer s H E) Y → Room k (A.deeper (PyProof.Rows.envOfC qual scope s.heap.objs.size f cdv)) → L2N.Takes (cxOf (L2N.CX P w) P w K mg base N qual scope f cdv A outer s H E) (fun cls d _ H => E cls d H) →
      PassesOwn (model P w) (A.deeper (PyProof.Rows.envOfC qual scope s.heap.objs.size f cdv)) (PyProof.Rows.envOfC qual scope s.heap.objs.size f cdv) (cxOf (L2N.CX P w) P w K mg base N qual scope f cdv A outer s H E).xe →
      ∃ t1, SB (cxOf (L2N.CX P w) P w K mg base N qual scope f cdv A outer s H E) Y (fun cls d _ H => E cls d H) body t1 m1) :
    FnOk P w K mg base (L2N.CX P w) (k + 1) f fd ps (spOf Y n (mFn N.length m1)) := by
  obtain ⟨oc, od, dV, kV, doc, pm, an, cdv, ct, osl, rfl, lk, hcd, _, _⟩ := F.ex
  refine fn_of lk hcd S (fun vs H Q E h => by rw [h.1, hn]) fun A outer s H vs Q E hr h => ?_
  obtain ⟨c, P1, M1, M2, M3, M4⟩ := M
  have ec : cdv = .ref c := M1 _ _ _ _ lk
  obtain ⟨_, w1, ds, S1, k1, r1, p1⟩ := h
  obtain ⟨t1, B⟩ := hbody cdv A outer s H E ⟨c, P1, ec, M2, M3, M4⟩ hr (L2N.takes_of rfl rfl rfl rfl) (passes_of rfl)
  exact ⟨_, B.pss, fn_post k1 r1 B.sim p1⟩
theorem codeIs_of {K : PySem.W.Frag} {p : Str × Option Str} {x qual : Str} {st : Stmt} {dvs : List V} {fd : FuncData} (F : FnP K x qual st dvs (He.fAd K p) fd) : CodeIs K (He.fAd K p) (He.codeOf K p) := fun oc od fd' osl h => by
  obtain ⟨oc, od, dV, kV, doc, pm, an, cdv, ct, osl, rfl, lk, hcd, _, _⟩ := F.ex
  obtain ⟨c, ec⟩ := He.codeIn_ref hcd
  rw [lk] at h
  cases h
  have e1 := He.codeOf_eq lk (show _ = Value.ref c from ec)
  rw [e1]
  exact ec
/-! ### a class of refusals, by a Bool -/
def triXB (K : PySem.W.Frag) (c : Str) : Bool :=
  He.eqO (PySem.W.findIn K (.ref (He.ga K c)) "__getattribute__") (some (some (.builtin "BaseException.__getattribute__"))) && (He.eqO (PySem.W.findIn K (.ref (He.ga K c)) "__getattr__") (some none) &&
  (decide (PySem.W.subIn K (.ref (He.ga K c)) (.type "BaseException") = some true) && (PySem.W.hasDictIn K (He.ga K c) &&
  (He.eqO (PySem.W.findIn K (.ref (He.ga K c)) "__class__") (some (some (.builtin "object.__class__"))) && (He.eqO (PySem.W.specialIn K (.builtin "object.__class__") "__get__") (some (some (.builtin "getset_descriptor.__get__"))) &&
  (decide (PySem.W.takesIn K (.builtin "object.__class__") = some true) && (decide (PySem.W.mroIn K (He.ga K c) (.type "object") = some true) &&
  (decide (PySem.W.exmOne K (.ref (He.ga K c)) (.ref (He.ga K "BadText")) = some false) && (decide (PySem.W.exmOne K (.ref (He.ga K c)) (.ref (He.ga K "FoldError")) = some true) &&
  wordL.all fun p => decide (PySem.W.kitOne K (.ref (He.ga K c)) (.ref (He.ga K p.2)) = some (decide (p.2 = c))))))))))))
theorem triXB_ok {K : PySem.W.Frag} {T : List (Addr × Str)} {c : Str} (h : triXB K c = true) : TriX K (GY K (He.ga K) T) c := by
  unfold triXB at h
  simp only [Bool.and_eq_true, decide_eq_true_eq, List.all_eq_true] at h
  obtain ⟨h1, h2, h3, h4, h5, h6, h7, h8, h9, h10, h11⟩ := h
  exact ⟨⟨He.eqO_ok h1, He.eqO_ok h2, h3, h4, He.eqO_ok h5, He.eqO_ok h6, h7, h8⟩, h9, h10, fun p hp => h11 p hp⟩
end Mm
namespace Mm
open PySem L2
/-! ### the tables of the defs that make lambdas -/
def Tof (K : PySem.W.Frag) (tf : List (He.Defn × Str)) : List (Addr × Str) := tf.map fun p => ((He.cT K p.1).2, p.2)
theorem mkrF_of {K : PySem.W.Frag} {mg : Str → Option Value} {base : Heap} {ca : Str → Addr} {x qual : Str} {st : Stmt} {dvs : List V} {fd : FuncData} {tf : List (He.Defn × Str)} {p : He.Defn × Str} (i : Nat) (h : tf[i]? = some p) (nd : (tf.map fun p => (He.cT K p.1).2).Nodup)
    (F : FnP K x qual st dvs (He.fAd K p.1) fd) (TB : ∀ q ∈ tf, LamX.TabB base mg (He.cT K q.1).1 (He.cT K q.1).2) : MkrF K mg base (GY K ca (Tof K tf)) (He.fAd K p.1) p.2 := by
  refine ⟨He.codeOf K p.1, (He.cT K p.1).2, codeIs_of F, TB p (List.mem_of_getElem? h), List.mem_map.mpr ⟨p, List.mem_of_getElem? h, rfl⟩, fun q hq e => ?_⟩
  obtain ⟨r, hr, er⟩ := List.mem_map.mp hq
  obtain ⟨j, hj, ej⟩ := List.mem_iff_getElem.mp hr
  obtain ⟨hi, ei⟩ := List.getElem?_eq_some_iff.mp h
  have e1 : (tf.map fun p => (He.cT K p.1).2)[j]'(by rw [List.length_map]; exact hj) = (tf.map fun p => (He.cT K p.1).2)[i]'(by rw [List.length_map]; exact hi) := by
    rw [List.getElem_map, List.getElem_map, ej, ei, ← e, ← er]
  have e2 := (List.getElem_inj nd).mp e1
  subst e2
  rw [ej] at ei
  rw [← er, ei]
theorem law_atT {l : PySem.W.OpenLaw} {w : World} {K : PySem.W.Frag} {k n : Nat} {x : Str} {mg : Str → Option Value} {fa : Addr} {h : Heap} {fd : FuncData} {ca : Str → Addr} {m : MFn} {facl : List He.Fa} {fns : List He.DefD} {ex : PySem.W.Frag → Bool} (tf : List (He.Defn × Str)) (c : He.SaysX facl fns [] (tf.map (·.1)) ex w h K) (KX : K.In h)
    (hb : ∀ (s : Shared) (u : Value), BindsTo s fd ⟨[u], []⟩ [(x, u)]) (hm : ∀ ns : List Int, ns.length ≤ n → (∀ z ∈ ns, Builtin.Int.intBits z ≤ 1048576) → ∃ S, m [.scr ns] [] = .ok (.val (.bl true)) S)
    (hF : ∀ base : Heap, (∀ q ∈ tf, LamX.TabB base mg (He.cT K q.1).1 (He.cT K q.1).2) → FnOk l.prog w K mg base (L2N.CX l.prog w) k fa fd [x] (spOf (GY K ca (Tof K tf)) 1 m)) : LamX.LawAtS l w K (L2N.CX l.prog w) k n x mg fa h := by
  have at_ : ∀ p ∈ tf.map (fun p => He.cT K p.1), ∃ q ∈ tf.map (·.1), He.cT K q = p := fun p hp => by
    obtain ⟨q, hq, e⟩ := List.mem_map.mp hp
    exact ⟨q.1, List.mem_map.mpr ⟨q, hq, rfl⟩, e⟩
  refine ⟨fd, tf.map (fun p => He.cT K p.1), spOf (GY K ca (Tof K tf)) 1 m, fun p hp => ?_, fun p hp => ?_, fun p hp => ?_, hb, fun H a ns hl hbt hT hS => ?_, fun base _ _ hTB => hF base fun q hq => hTB _ (List.mem_map.mpr ⟨q, hq, rfl⟩)⟩
  · obtain ⟨q, hq, e⟩ := at_ p hp
    rw [← e]
    exact c.empty q hq
  · obtain ⟨q, hq, e⟩ := at_ p hp
    rw [← e]
    exact c.out q hq
  · obtain ⟨q, hq, e⟩ := at_ p hp
    rw [← e]
    exact PySem.W.codeHd_of_K KX (c.hd q hq)
  · obtain ⟨S, e⟩ := hm ns hl hbt
    refine law_sp (fun p hp => ?_) hS e
    obtain ⟨q, hq, e⟩ := List.mem_map.mp hp
    rw [← e]
    exact hT _ (List.mem_map.mpr ⟨q, hq, rfl⟩)
end Mm
/-! Plain: blends of whole numbers digit by digit, spans, reduced bases. -/
namespace Gf
theorem nlt_of_bit {x y i : Nat} (hx : x.testBit i = false) (hy : y.testBit i = true) (h : ∀ j, i < j → x.testBit j = y.testBit j) : x < y := by
  have e : x / 2 ^ (i + 1) = y / 2 ^ (i + 1) := Nat.eq_of_testBit_eq fun j => by
    rw [Nat.testBit_div_two_pow, Nat.testBit_div_two_pow]
    exact h _ (by omega)
  have hx2 : x / 2 ^ i % 2 = 0 := by
    have := Nat.testBit_eq_decide_div_mod_eq (x := x) (i := i)
    rw [hx] at this
    have h3 := of_decide_eq_false this.symm
    omega
  have hy2 : y / 2 ^ i % 2 = 1 := by
    have := Nat.testBit_eq_decide_div_mod_eq (x := y) (i := i)
    rw [hy] at this
    exact of_decide_eq_true this.symm
  have e1 : x / 2 ^ i / 2 = y / 2 ^ i / 2 := by
    rw [Nat.div_div_eq_div_mul, Nat.div_div_eq_div_mul, ← Nat.pow_succ]
    exact e
  have l : x / 2 ^ i < y / 2 ^ i := by omega
  exact Nat.lt_of_not_le fun g => absurd (Nat.div_le_div_right (c := 2 ^ i) g) (by omega)
theorem xor_self_left (a b : Nat) : a ^^^ (a ^^^ b) = b := by rw [← Nat.xor_assoc, Nat.xor_self, Nat.zero_xor]
theorem xor_cancel_right (a b : Nat) : a ^^^ b ^^^ b = a := by rw [Nat.xor_assoc, Nat.xor_self, Nat.xor_zero]
theorem xor_eq_zero {a b : Nat} (h : a ^^^ b = 0) : a = b := by
  have := congrArg (· ^^^ b) h
  simpa [xor_cancel_right] using this
theorem bit_big {x w i : Nat} (h : x < 2 ^ w) (hi : w ≤ i) : x.testBit i = false := Nat.testBit_lt_two_pow (Nat.lt_of_lt_of_le h (Nat.pow_le_pow_right (by decide) hi))
theorem lt_of_bits {x w : Nat} (h : ∀ i, w ≤ i → x.testBit i = false) : x < 2 ^ w := Nat.lt_pow_two_of_testBit x fun i hi => h i hi
theorem log2_bit {n j : Nat} (h : n.log2 < j) : n.testBit j = false := by
  by_cases z : n = 0
  · subst z
    simp
  · exact Nat.testBit_lt_two_pow ((Nat.log2_lt z).mp h)
theorem log2_of {n i : Nat} (h : n.testBit i = true) (g : ∀ j, i < j → n.testBit j = false) : n.log2 = i := by
  have z : n ≠ 0 := by
    intro z
    subst z
    simp at h
  have a : ¬ n.log2 < i := fun l => by
    rw [log2_bit l] at h
    cases h
  have b : ¬ i < n.log2 := fun l => by
    have := g _ l
    rw [Nat.testBit_log2 z] at this
    cases this
  omega
theorem log2_ge {n i : Nat} (h : n.testBit i = true) : i ≤ n.log2 := Nat.le_of_not_lt fun l => by
  rw [log2_bit l] at h
  cases h
theorem ne_of_bit {n i : Nat} (h : n.testBit i = true) : n ≠ 0 := fun z => by
  subst z
  simp at h
/-! ### rows picked by digits -/
def app : List Nat → Nat → Nat
  | [], _ => 0
  | r :: rs, x => (if x.testBit 0 then r else 0) ^^^ app rs (x / 2)
theorem app_nil (x : Nat) : app [] x = 0 := rfl
theorem app_cons (r : Nat) (rs : List Nat) (x : Nat) : app (r :: rs) x = (if x.testBit 0 then r else 0) ^^^ app rs (x / 2) := rfl
theorem app_zero : ∀ rs : List Nat, app rs 0 = 0
  | [] => rfl
  | r :: rs => by
    rw [app_cons]
    simp [app_zero rs]
theorem app_xor : ∀ (rs : List Nat) (x y : Nat), app rs (x ^^^ y) = app rs x ^^^ app rs y
  | [], _, _ => by simp [app]
  | r :: rs, x, y => by
    rw [app_cons, app_cons, app_cons, Nat.xor_div_two, app_xor rs, Nat.testBit_xor]
    cases x.testBit 0 <;> cases y.testBit 0 <;> simp <;> apply Nat.eq_of_testBit_eq <;> intro i <;> simp only [Nat.testBit_xor] <;> cases r.testBit i <;> cases (app rs (x / 2)).testBit i <;> cases (app rs (y / 2)).testBit i <;> rfl
theorem app_lt {w : Nat} : ∀ {rs : List Nat} (x : Nat), (∀ r ∈ rs, r < 2 ^ w) → app rs x < 2 ^ w
  | [], _, _ => Nat.two_pow_pos w
  | r :: rs, x, h => by
    rw [app_cons]
    refine Nat.xor_lt_two_pow ?_ (app_lt (x / 2) fun s hs => h s (List.mem_cons_of_mem _ hs))
    split
    · exact h r List.mem_cons_self
    · exact Nat.two_pow_pos w
theorem app_pow : ∀ (rs : List Nat) (i : Nat), app rs (2 ^ i) = rs.getD i 0
  | [], i => by simp [app]
  | r :: rs, 0 => by
    rw [app_cons]
    simp [app_zero]
  | r :: rs, i + 1 => by
    rw [app_cons]
    have e : 2 ^ (i + 1) / 2 = 2 ^ i := by
      rw [Nat.pow_succ]
      omega
    rw [e, app_pow rs i]
    simp [Nat.testBit_two_pow]
/-- digits beyond the rows do nothing -/
theorem app_mod : ∀ (rs : List Nat) (x : Nat), app rs (x % 2 ^ rs.length) = app rs x
  | [], x => rfl
  | r :: rs, x => by
    rw [app_cons, app_cons, List.length_cons]
    have e1 : (x % 2 ^ (rs.length + 1)).testBit 0 = x.testBit 0 := by
      rw [Nat.testBit_mod_two_pow]
      simp
    have e2 : x % 2 ^ (rs.length + 1) / 2 = x / 2 % 2 ^ rs.length := Nat.eq_of_testBit_eq fun i => by
      rw [Nat.testBit_div_two, Nat.testBit_mod_two_pow, Nat.testBit_mod_two_pow, Nat.testBit_div_two]
      simp
    rw [e1, e2, app_mod rs]
/-- picked by the plain rows: the number itself -/
def plain (w : Nat) : List Nat := (List.range w).map (2 ^ ·)
theorem app_map2 (rs : List Nat) (x : Nat) : app (rs.map (2 * ·)) x = 2 * app rs x := by
  induction rs generalizing x with
  | nil => rfl
  | cons r rs ih =>
    rw [List.map_cons, app_cons, app_cons, ih]
    have e : ∀ a b : Nat, 2 * a ^^^ 2 * b = 2 * (a ^^^ b) := fun a b => by
      have := Nat.shiftLeft_xor_distrib (a := a) (b := b) (i := 1)
      simp only [Nat.shiftLeft_eq, Nat.pow_one] at this
      rw [Nat.mul_comm 2 a, Nat.mul_comm 2 b, Nat.mul_comm 2 (a ^^^ b)]
      exact this.symm
    rw [← e]
    split <;> rfl
theorem plain_succ (w : Nat) : plain (w + 1) = 1 :: (plain w).map (2 * ·) := by
  unfold plain
  rw [List.range_succ_eq_map, List.map_cons, List.map_map, List.map_map]
  congr 1
  apply List.map_congr_left
  intro i _
  show 2 ^ (i + 1) = 2 * 2 ^ i
  rw [Nat.pow_succ, Nat.mul_comm]
theorem tb_two (a i : Nat) : (2 * a).testBit i = (decide (1 ≤ i) && a.testBit (i - 1)) := by
  have e : 2 * a = a <<< 1 := by rw [Nat.shiftLeft_eq]; omega
  rw [e, Nat.testBit_shiftLeft]
theorem app_plain : ∀ (w x : Nat), x < 2 ^ w → app (plain w) x = x
  | 0, x, h => by
    have : x = 0 := by omega
    subst this
    rfl
  | w + 1, x, h => by
    rw [plain_succ, app_cons, app_map2, app_plain w (x / 2) (by rw [Nat.pow_succ] at h; omega)]
    apply Nat.eq_of_testBit_eq
    intro i
    rw [Nat.testBit_xor]
    cases i with
    | zero =>
      rw [tb_two]
      cases x.testBit 0 <;> simp
    | succ i =>
      rw [tb_two]
      have : (x / 2).testBit (i + 1 - 1) = x.testBit (i + 1) := Nat.testBit_div_two x i
      rw [this]
      have o : Nat.testBit 1 (i + 1) = false := by
        have := Nat.testBit_two_pow (n := 0) (m := i + 1)
        simpa using this
      split <;> simp [o]
theorem plain_len (w : Nat) : (plain w).length = w := by simp [plain]
theorem plain_mem {w x : Nat} : x ∈ plain w ↔ ∃ i, i < w ∧ x = 2 ^ i := by
  unfold plain
  simp only [List.mem_map, List.mem_range]
  constructor
  · rintro ⟨i, h, e⟩
    exact ⟨i, h, e.symm⟩
  · rintro ⟨i, h, e⟩
    exact ⟨i, h, e.symm⟩
/-- two folds alike on the plain digits are alike -/
theorem app_ext {rs ss : List Nat} (hl : rs.length = ss.length) (h : ∀ x, x < 2 ^ rs.length → app rs x = app ss x) : rs = ss := by
  apply List.ext_getElem hl
  intro i h1 h2
  have e := h (2 ^ i) (Nat.pow_lt_pow_right (by decide) h1)
  rw [app_pow, app_pow] at e
  simpa [List.getD_eq_getElem?_getD, h1, h2] using e
/-- one behind the other -/
theorem app_map (f : Nat → Nat) (f0 : f 0 = 0) (fx : ∀ x y, f (x ^^^ y) = f x ^^^ f y) : ∀ (rs : List Nat) (x : Nat), app (rs.map f) x = f (app rs x)
  | [], _ => by simp [app, f0]
  | r :: rs, x => by
    rw [List.map_cons, app_cons, app_cons, fx, app_map f f0 fx rs]
    split
    · rfl
    · rw [f0]
theorem app_app (rs ss : List Nat) (x : Nat) : app (rs.map (app ss)) x = app ss (app rs x) := app_map (app ss) (app_zero ss) (app_xor ss) rs x
/-! ### spans -/
def Sp (B : List Nat) (x : Nat) : Prop := ∃ m, app B m = x
theorem Sp.zero (B : List Nat) : Sp B 0 := ⟨0, app_zero B⟩
theorem Sp.xor {B : List Nat} {x y : Nat} (a : Sp B x) (b : Sp B y) : Sp B (x ^^^ y) := by
  obtain ⟨m, rfl⟩ := a
  obtain ⟨n, rfl⟩ := b
  exact ⟨m ^^^ n, app_xor B m n⟩
theorem Sp.nil {x : Nat} : Sp [] x ↔ x = 0 := ⟨fun ⟨_, h⟩ => h.symm, fun h => ⟨0, h.symm⟩⟩
theorem Sp.cons {a : Nat} {B : List Nat} {x : Nat} : Sp (a :: B) x ↔ Sp B x ∨ Sp B (x ^^^ a) := by
  constructor
  · rintro ⟨m, e⟩
    rw [app_cons] at e
    cases z : m.testBit 0 with
    | false =>
      rw [z] at e
      simp at e
      exact .inl ⟨_, e⟩
    | true =>
      rw [z] at e
      simp at e
      refine .inr ⟨m / 2, ?_⟩
      rw [← e, Nat.xor_comm a, xor_cancel_right]
  · rintro (⟨m, e⟩ | ⟨m, e⟩)
    · refine ⟨2 * m, ?_⟩
      rw [app_cons]
      have : (2 * m).testBit 0 = false := by simp
      rw [this, Nat.mul_div_cancel_left _ (by decide)]
      simpa using e
    · refine ⟨2 * m + 1, ?_⟩
      rw [app_cons]
      have : (2 * m + 1).testBit 0 = true := by simp
      have h2 : (2 * m + 1) / 2 = m := by omega
      rw [this, h2, e, if_pos rfl, Nat.xor_comm x, xor_self_left]
theorem Sp.head (a : Nat) (B : List Nat) : Sp (a :: B) a := Sp.cons.mpr (.inr (by rw [Nat.xor_self]; exact .zero B))
theorem Sp.tail {a : Nat} {B : List Nat} {x : Nat} (h : Sp B x) : Sp (a :: B) x := Sp.cons.mpr (.inl h)
theorem Sp.mem {a : Nat} : ∀ {B : List Nat}, a ∈ B → Sp B a
  | b :: B, h => by
    rcases List.mem_cons.mp h with e | h
    · rw [e]
      exact .head b B
    · exact (Sp.mem h).tail
theorem Sp.sub {C : List Nat} : ∀ {B : List Nat} {x : Nat}, (∀ b ∈ B, Sp C b) → Sp B x → Sp C x
  | [], x, _, h => by
    rw [Sp.nil.mp h]
    exact .zero C
  | b :: B, x, g, h => by
    rcases Sp.cons.mp h with h | h
    · exact Sp.sub (fun c hc => g c (List.mem_cons_of_mem _ hc)) h
    · have := (Sp.sub (fun c hc => g c (List.mem_cons_of_mem _ hc)) h).xor (g b List.mem_cons_self)
      rwa [xor_cancel_right] at this
theorem Sp.mono {B C : List Nat} {x : Nat} (s : ∀ b ∈ B, b ∈ C) (h : Sp B x) : Sp C x := h.sub fun b hb => .mem (s b hb)
theorem Sp.perm {B C : List Nat} (p : B.Perm C) {x : Nat} : Sp B x ↔ Sp C x := ⟨.mono fun b hb => p.mem_iff.mp hb, .mono fun b hb => p.mem_iff.mpr hb⟩
theorem Sp.lt {w : Nat} {B : List Nat} {x : Nat} (h : ∀ b ∈ B, b < 2 ^ w) (s : Sp B x) : x < 2 ^ w := by
  obtain ⟨m, rfl⟩ := s
  exact app_lt m h
theorem Sp.bit {i : Nat} : ∀ {B : List Nat} {x : Nat}, (∀ c ∈ B, c.testBit i = false) → Sp B x → x.testBit i = false
  | [], x, _, h => by
    rw [Sp.nil.mp h]
    simp
  | b :: B, x, g, h => by
    rcases Sp.cons.mp h with h | h
    · exact Sp.bit (fun c hc => g c (List.mem_cons_of_mem _ hc)) h
    · have := Sp.bit (fun c hc => g c (List.mem_cons_of_mem _ hc)) h
      rw [Nat.testBit_xor, g b List.mem_cons_self] at this
      simpa using this
/-! ### reduced bases -/
def RR (B : List Nat) : Prop := (∀ b ∈ B, b ≠ 0) ∧ B.Pairwise fun a b => a.testBit b.log2 = false ∧ b.testBit a.log2 = false
theorem RR.nil : RR [] := ⟨fun _ h => by simp at h, .nil⟩
theorem RR.cons {b : Nat} {B : List Nat} : RR (b :: B) ↔ b ≠ 0 ∧ (∀ c ∈ B, b.testBit c.log2 = false ∧ c.testBit b.log2 = false) ∧ RR B := by
  unfold RR
  rw [List.pairwise_cons]
  constructor
  · rintro ⟨h1, h2, h3⟩
    exact ⟨h1 b List.mem_cons_self, h2, fun c hc => h1 c (List.mem_cons_of_mem _ hc), h3⟩
  · rintro ⟨h1, h2, h3, h4⟩
    refine ⟨fun c hc => ?_, h2, h4⟩
    rcases List.mem_cons.mp hc with e | hc
    · rw [e]
      exact h1
    · exact h3 c hc
theorem RR.perm {B C : List Nat} (p : B.Perm C) (h : RR B) : RR C := ⟨fun c hc => h.1 c (p.mem_iff.mpr hc), (p.pairwise_iff fun z => ⟨z.2, z.1⟩).mp h.2⟩
theorem RR.nodup {B : List Nat} (h : RR B) : B.Nodup := by
  have h1 := h.1
  have h2 := h.2
  refine List.Pairwise.imp_of_mem (fun {a b} ha _ z e => ?_) h2
  rw [← e, Nat.testBit_log2 (h1 a ha)] at z
  cases z.1
/-- two of one basis: their tops -/
theorem RR.top {B : List Nat} (h : RR B) {a b : Nat} (ha : a ∈ B) (hb : b ∈ B) : a.testBit b.log2 = decide (a = b) := by
  by_cases e : a = b
  · subst e
    simp [Nat.testBit_log2 (h.1 a ha)]
  · rw [decide_eq_false e]
    revert ha hb
    induction B with
    | nil => intro ha; simp at ha
    | cons c B ih =>
      intro ha hb
      obtain ⟨_, h2, h3⟩ := RR.cons.mp h
      rcases List.mem_cons.mp ha with ea | ha <;> rcases List.mem_cons.mp hb with eb | hb
      · exact absurd (ea.trans eb.symm) e
      · rw [ea]
        exact (h2 b hb).1
      · rw [eb]
        exact (h2 a ha).2
      · exact ih h3 ha hb
def rst (l b : Nat) : Nat := if l.testBit b.log2 then l ^^^ b else l
def red (x : Nat) (B : List Nat) : Nat := B.foldl rst x
theorem red_cons (x b : Nat) (B : List Nat) : red x (b :: B) = red (rst x b) B := rfl
theorem red_keep {i : Nat} : ∀ {B : List Nat} (x : Nat), (∀ c ∈ B, c.testBit i = false) → (red x B).testBit i = x.testBit i
  | [], _, _ => rfl
  | b :: B, x, h => by
    rw [red_cons, red_keep _ fun c hc => h c (List.mem_cons_of_mem _ hc)]
    unfold rst
    split
    · rw [Nat.testBit_xor, h b List.mem_cons_self]
      simp
    · rfl
theorem red_top : ∀ {B : List Nat} (x : Nat), RR B → ∀ b ∈ B, (red x B).testBit b.log2 = false
  | b :: B, x, h, c, hc => by
    obtain ⟨h1, h2, h3⟩ := RR.cons.mp h
    rw [red_cons]
    rcases List.mem_cons.mp hc with e | hc
    · rw [e, red_keep _ fun d hd => (h2 d hd).2]
      unfold rst
      split
      · rename_i z
        rw [Nat.testBit_xor, z, Nat.testBit_log2 h1]
        rfl
      · rename_i z
        simpa using z
    · exact red_top _ h3 c hc
theorem red_sp : ∀ (B : List Nat) (x : Nat), Sp B (x ^^^ red x B)
  | [], x => by
    show Sp [] (x ^^^ x)
    rw [Nat.xor_self]
    exact .zero _
  | b :: B, x => by
    rw [red_cons]
    have h := (red_sp B (rst x b)).tail (a := b)
    by_cases z : x.testBit b.log2 = true
    · have e : rst x b = x ^^^ b := if_pos z
      rw [e] at h ⊢
      have := h.xor (Sp.head b B)
      have q : x ^^^ b ^^^ red (x ^^^ b) B ^^^ b = x ^^^ red (x ^^^ b) B := by
        rw [Nat.xor_assoc x b, Nat.xor_comm b, Nat.xor_assoc, xor_cancel_right]
      rwa [q] at this
    · have e : rst x b = x := if_neg z
      rw [e] at h ⊢
      exact h
theorem RR.indep : ∀ {B : List Nat} {y : Nat}, RR B → Sp B y → (∀ b ∈ B, y.testBit b.log2 = false) → y = 0
  | [], y, _, h, _ => Sp.nil.mp h
  | b :: B, y, h, s, t => by
    obtain ⟨h1, h2, h3⟩ := RR.cons.mp h
    rcases Sp.cons.mp s with s | s
    · exact RR.indep h3 s fun c hc => t c (List.mem_cons_of_mem _ hc)
    · have z := Sp.bit (i := b.log2) (fun c hc => (h2 c hc).2) s
      rw [Nat.testBit_xor, t b List.mem_cons_self, Nat.testBit_log2 h1] at z
      cases z
theorem red_zero {B : List Nat} (h : RR B) {x : Nat} : red x B = 0 ↔ Sp B x := by
  constructor
  · intro e
    have := red_sp B x
    rwa [e, Nat.xor_zero] at this
  · intro s
    have q := s.xor (red_sp B x)
    rw [xor_self_left] at q
    exact h.indep q (red_top x h)
theorem red_eq {B : List Nat} (h : RR B) {x y : Nat} (s : Sp B (x ^^^ y)) : red x B = red y B := by
  refine xor_eq_zero (h.indep ?_ fun b hb => by rw [Nat.testBit_xor, red_top x h b hb, red_top y h b hb]; rfl)
  have := ((red_sp B x).xor s).xor (red_sp B y)
  have e : x ^^^ red x B ^^^ (x ^^^ y) ^^^ (y ^^^ red y B) = red x B ^^^ red y B := by
    apply Nat.eq_of_testBit_eq
    intro i
    simp only [Nat.testBit_xor]
    cases x.testBit i <;> cases y.testBit i <;> cases (red x B).testBit i <;> cases (red y B).testBit i <;> rfl
  rwa [e] at this
theorem red_of : ∀ {B : List Nat} {x : Nat}, (∀ b ∈ B, x.testBit b.log2 = false) → red x B = x
  | [], _, _ => rfl
  | b :: B, x, h => by
    rw [red_cons]
    have e : rst x b = x := if_neg (by rw [h b List.mem_cons_self]; decide)
    rw [e]
    exact red_of fun c hc => h c (List.mem_cons_of_mem _ hc)
theorem red_lt {w : Nat} {B : List Nat} {x : Nat} (h : ∀ b ∈ B, b < 2 ^ w) (hx : x < 2 ^ w) : red x B < 2 ^ w := by
  have := Nat.xor_lt_two_pow hx ((red_sp B x).lt h)
  rwa [xor_self_left] at this
theorem log2_xor {a b : Nat} (ha : a ≠ 0) (h : b.log2 < a.log2) : (a ^^^ b).log2 = a.log2 := log2_of (by rw [Nat.testBit_xor, Nat.testBit_log2 ha, log2_bit h]; rfl) fun j hj => by
  rw [Nat.testBit_xor, log2_bit hj, log2_bit (Nat.lt_trans h hj)]
  rfl
/-- the top of what a reduced basis spans is a top of it -/
theorem RR.spTop : ∀ {B : List Nat} {s : Nat}, RR B → Sp B s → s ≠ 0 → ∃ b ∈ B, s.log2 = b.log2
  | [], s, _, h, n => absurd (Sp.nil.mp h) n
  | b :: B, s, h, sp, n => by
    obtain ⟨h1, h2, h3⟩ := RR.cons.mp h
    rcases Sp.cons.mp sp with q | q
    · obtain ⟨c, hc, e⟩ := RR.spTop h3 q n
      exact ⟨c, List.mem_cons_of_mem _ hc, e⟩
    · by_cases z : s ^^^ b = 0
      · rw [xor_eq_zero z]
        exact ⟨b, List.mem_cons_self, rfl⟩
      · obtain ⟨c, hc, e⟩ := RR.spTop h3 q z
        have es : s = b ^^^ (s ^^^ b) := by rw [Nat.xor_comm s, xor_self_left]
        have ne : b.log2 ≠ c.log2 := fun q => by
          have := (h2 c hc).1
          rw [← q, Nat.testBit_log2 h1] at this
          cases this
        rcases Nat.lt_or_gt_of_ne ne with l | l
        · refine ⟨c, List.mem_cons_of_mem _ hc, ?_⟩
          rw [es, Nat.xor_comm, log2_xor z (by omega), e]
        · refine ⟨b, List.mem_cons_self, ?_⟩
          have := log2_xor h1 (b := s ^^^ b) (by omega)
          rw [← es] at this
          exact this
/-- reduced: the least of its kind -/
theorem red_least {B : List Nat} (h : RR B) {x y : Nat} (s : Sp B (x ^^^ y)) : red x B ≤ y := by
  have q : Sp B (red x B ^^^ y) := by
    have := (red_sp B x).xor s
    have e : x ^^^ red x B ^^^ (x ^^^ y) = red x B ^^^ y := by
      rw [Nat.xor_comm x (red x B), Nat.xor_assoc, xor_self_left]
    rwa [e] at this
  by_cases z : red x B ^^^ y = 0
  · exact Nat.le_of_eq (xor_eq_zero z)
  · obtain ⟨b, hb, e⟩ := h.spTop q z
    have t := red_top x h b hb
    rw [← e] at t
    refine Nat.le_of_lt (nlt_of_bit t ?_ fun j hj => ?_)
    · have := Nat.testBit_log2 z
      rw [Nat.testBit_xor, t] at this
      simpa using this
    · have := log2_bit hj
      rw [Nat.testBit_xor] at this
      cases p : (red x B).testBit j <;> cases p2 : y.testBit j <;> rw [p, p2] at this <;> first | rfl | cases this
/-- one span, one reduced basis -/
theorem RR.uniq {B C : List Nat} (hB : RR B) (hC : RR C) (h : ∀ y, Sp B y ↔ Sp C y) : B.Perm C := by
  have half : ∀ {B C : List Nat}, RR B → RR C → (∀ y, Sp B y ↔ Sp C y) → ∀ a, a ∈ B → a ∈ C := fun {B C} hB hC h a ha => by
    obtain ⟨c, hc, e⟩ := hC.spTop ((h a).mp (.mem ha)) (hB.1 a ha)
    have q : a ^^^ c = 0 := hB.indep ((Sp.mem ha).xor ((h c).mpr (.mem hc))) fun b hb => by
      rw [Nat.testBit_xor, hB.top ha hb]
      obtain ⟨d, hd, e2⟩ := hC.spTop ((h b).mp (.mem hb)) (hB.1 b hb)
      rw [e2, hC.top hc hd]
      by_cases z : a = b
      · have : c = d := by
          subst z
          have := hC.top hc hd
          rw [← e2, e, Nat.testBit_log2 (hC.1 c hc)] at this
          exact of_decide_eq_true this.symm
        simp [z, this]
      · have : c ≠ d := fun y => by
          subst y
          have t := hB.top ha hb
          rw [e2, ← e, Nat.testBit_log2 (hB.1 a ha)] at t
          exact z (of_decide_eq_true t.symm)
        simp [z, this]
    rw [xor_eq_zero q]
    exact hc
  exact (List.perm_ext_iff_of_nodup hB.nodup hC.nodup).mpr fun a => ⟨half hB hC h a, half hC hB (fun y => (h y).symm) a⟩
/-! ### making one -/
def cst (l o : Nat) : Nat := if o.testBit l.log2 then o ^^^ l else o
def bst (F : List Nat) (x : Nat) : List Nat := if red x F = 0 then F else F.map (cst (red x F)) ++ [red x F]
def bas (xs : List Nat) : List Nat := xs.foldl bst []
theorem cst_log2 {l o : Nat} (hl : l ≠ 0) (ho : o ≠ 0) (h : l.testBit o.log2 = false) : (cst l o).log2 = o.log2 ∧ cst l o ≠ 0 := by
  unfold cst
  split
  · rename_i z
    have a := log2_ge z
    have b : l.log2 ≠ o.log2 := fun e => by
      rw [← e, Nat.testBit_log2 hl] at h
      cases h
    have c := log2_xor ho (b := l) (by omega)
    refine ⟨c, ne_of_bit (i := o.log2) ?_⟩
    rw [Nat.testBit_xor, Nat.testBit_log2 ho, h]
    rfl
  · exact ⟨rfl, ho⟩
theorem cst_top {l o : Nat} (hl : l ≠ 0) : (cst l o).testBit l.log2 = false := by
  unfold cst
  split
  · rename_i z
    rw [Nat.testBit_xor, z, Nat.testBit_log2 hl]
    rfl
  · rename_i z
    simpa using z
theorem RR.cst {F : List Nat} {l : Nat} (h : RR F) (hl : l ≠ 0) (ht : ∀ b ∈ F, l.testBit b.log2 = false) : RR (F.map (cst l) ++ [l]) := by
  refine ⟨fun b hb => ?_, ?_⟩
  · rcases List.mem_append.mp hb with hb | hb
    · obtain ⟨o, ho, rfl⟩ := List.mem_map.mp hb
      exact (cst_log2 hl (h.1 o ho) (ht o ho)).2
    · simp at hb
      rw [hb]
      exact hl
  · refine List.pairwise_append.mpr ⟨List.pairwise_map.mpr (List.Pairwise.imp_of_mem (fun {a b} ha hb z => ?_) h.2), List.pairwise_singleton _ _, fun a ha b hb => ?_⟩
    · rw [(cst_log2 hl (h.1 a ha) (ht a ha)).1, (cst_log2 hl (h.1 b hb) (ht b hb)).1]
      have q : ∀ u v : Nat, u.testBit v.log2 = false → l.testBit v.log2 = false → (Gf.cst l u).testBit v.log2 = false := fun u v h1 h2 => by
        unfold Gf.cst
        split
        · rw [Nat.testBit_xor, h1, h2]
          rfl
        · exact h1
      exact ⟨q a b z.1 (ht b hb), q b a z.2 (ht a ha)⟩
    · obtain ⟨o, ho, rfl⟩ := List.mem_map.mp ha
      simp at hb
      rw [hb, (cst_log2 hl (h.1 o ho) (ht o ho)).1]
      exact ⟨cst_top hl, ht o ho⟩
theorem sp_cst {F : List Nat} {l y : Nat} : Sp (F.map (cst l) ++ [l]) y ↔ Sp (l :: F) y := by
  constructor
  · refine .sub fun b hb => ?_
    rcases List.mem_append.mp hb with hb | hb
    · obtain ⟨o, ho, rfl⟩ := List.mem_map.mp hb
      unfold cst
      split
      · exact (Sp.mem ho).tail.xor (.head l F)
      · exact (Sp.mem ho).tail
    · simp at hb
      rw [hb]
      exact .head l F
  · refine .sub fun b hb => ?_
    have L : Sp (F.map (cst l) ++ [l]) l := .mem (by simp)
    rcases List.mem_cons.mp hb with e | hb
    · rw [e]
      exact L
    · have q : Sp (F.map (cst l) ++ [l]) (cst l b) := .mem (List.mem_append_left _ (List.mem_map_of_mem hb))
      unfold cst at q
      split at q
      · have := q.xor L
        rwa [xor_cancel_right] at this
      · exact q
theorem RR.bst {F : List Nat} (h : RR F) (x : Nat) : RR (bst F x) := by
  unfold Gf.bst
  split
  · exact h
  · rename_i z
    exact h.cst z (red_top x h)
theorem sp_bst {F : List Nat} (h : RR F) {x y : Nat} : Sp (bst F x) y ↔ Sp (x :: F) y := by
  unfold bst
  split
  · rename_i z
    refine ⟨.tail, .sub fun b hb => ?_⟩
    rcases List.mem_cons.mp hb with e | hb
    · rw [e]
      exact (red_zero h).mp z
    · exact .mem hb
  · rw [sp_cst]
    have q : Sp F (x ^^^ red x F) := red_sp F x
    constructor
    · refine .sub fun b hb => ?_
      rcases List.mem_cons.mp hb with e | hb
      · rw [e]
        have := q.tail (a := x) |>.xor (.head x F)
        have e2 : x ^^^ red x F ^^^ x = red x F := by rw [Nat.xor_comm x, xor_cancel_right]
        rwa [e2] at this
      · exact (Sp.mem hb).tail
    · refine .sub fun b hb => ?_
      rcases List.mem_cons.mp hb with e | hb
      · rw [e]
        have := q.tail (a := red x F) |>.xor (.head _ F)
        rwa [xor_cancel_right] at this
      · exact (Sp.mem hb).tail
theorem bas_go : ∀ (xs F : List Nat), RR F → RR (xs.foldl bst F) ∧ ∀ y, Sp (xs.foldl bst F) y ↔ Sp (xs ++ F) y
  | [], F, h => ⟨h, fun _ => .rfl⟩
  | x :: xs, F, h => by
    obtain ⟨h1, h2⟩ := bas_go xs (bst F x) (h.bst x)
    refine ⟨h1, fun y => ?_⟩
    rw [List.foldl_cons, h2]
    have up : ∀ b ∈ xs ++ bst F x, Sp (x :: xs ++ F) b := fun b hb => by
      rcases List.mem_append.mp hb with hb | hb
      · exact .mem (by simp [hb])
      · exact ((sp_bst h).mp (.mem hb)).mono fun c hc => by
          rcases List.mem_cons.mp hc with e | hc
          · simp [e]
          · simp [hc]
    have dn : ∀ b ∈ x :: xs ++ F, Sp (xs ++ bst F x) b := fun b hb => by
      have go : Sp (bst F x) b → Sp (xs ++ bst F x) b := .mono fun c hc => List.mem_append_right _ hc
      rcases List.mem_append.mp hb with hb | hb
      · rcases List.mem_cons.mp hb with e | hb
        · rw [e]
          exact .mono (fun c hc => List.mem_append_right _ hc) ((sp_bst h).mpr (.head x F))
        · exact .mem (List.mem_append_left _ hb)
      · exact go ((sp_bst h).mpr (Sp.mem hb).tail)
    exact ⟨.sub up, .sub dn⟩
theorem bas_rr (xs : List Nat) : RR (bas xs) := (bas_go xs [] .nil).1
theorem bas_sp (xs : List Nat) (y : Nat) : Sp (bas xs) y ↔ Sp xs y := by
  have := (bas_go xs [] .nil).2 y
  rwa [List.append_nil] at this
theorem bst_len (F : List Nat) (x : Nat) : (bst F x).length ≤ F.length + 1 := by
  unfold bst
  split <;> simp
theorem bas_len_go : ∀ (xs F : List Nat), (xs.foldl bst F).length ≤ F.length + xs.length
  | [], F => by simp
  | x :: xs, F => by
    have := bas_len_go xs (bst F x)
    have := bst_len F x
    rw [List.foldl_cons, List.length_cons]
    omega
theorem bas_len (xs : List Nat) : (bas xs).length ≤ xs.length := by
  have := bas_len_go xs []
  unfold bas
  simpa using this
/-! ### all numbers of w digits -/
def All (w : Nat) (B : List Nat) : Prop := ∀ x, x < 2 ^ w → Sp B x
theorem plain_rr (w : Nat) : RR (plain w) := by
  refine ⟨fun b hb => ?_, ?_⟩
  · obtain ⟨i, _, e⟩ := plain_mem.mp hb
    rw [e]
    exact Nat.ne_of_gt (Nat.two_pow_pos i)
  · unfold plain
    refine List.pairwise_map.mpr (List.Pairwise.imp (fun {a b} h => ?_) (List.pairwise_lt_range (n := w)))
    rw [Nat.log2_two_pow, Nat.log2_two_pow, Nat.testBit_two_pow, Nat.testBit_two_pow]
    constructor <;> (apply decide_eq_false; omega)
theorem plain_all (w : Nat) : All w (plain w) := fun x h => ⟨x, app_plain w x h⟩
theorem plain_lt {w : Nat} : ∀ b ∈ plain w, b < 2 ^ w := fun b hb => by
  obtain ⟨i, h, e⟩ := plain_mem.mp hb
  rw [e]
  exact Nat.pow_lt_pow_right (by decide) h
theorem RR.full {w : Nat} {B : List Nat} (h : RR B) (lt : ∀ b ∈ B, b < 2 ^ w) (a : All w B) : B.length = w := by
  have := (h.uniq (plain_rr w) fun y => ⟨fun s => plain_all w y (s.lt lt), fun s => a y (s.lt plain_lt)⟩).length_eq
  rw [this, plain_len]
/-- the tops are apart -/
theorem RR.tops {B : List Nat} (h : RR B) : (B.map Nat.log2).Nodup := by
  refine List.pairwise_map.mpr (List.Pairwise.imp_of_mem (fun {a b} ha hb z e => ?_) h.2)
  rw [← e, Nat.testBit_log2 (h.1 a ha)] at z
  cases z.1
theorem cover {w : Nat} {l : List Nat} (hn : l.Nodup) (lt : ∀ x ∈ l, x < w) (hw : w ≤ l.length) : ∀ i, i < w → i ∈ l := fun i hi => by
  apply Classical.byContradiction
  intro n
  have : (i :: l).Nodup := List.nodup_cons.mpr ⟨n, hn⟩
  have := this.length_le_of_subset (l₂ := List.range w) fun x hx => by
    rcases List.mem_cons.mp hx with e | hx
    · rw [e]
      simpa using hi
    · simpa using lt x hx
  simp at this
  omega
theorem RR.all {w : Nat} {B : List Nat} (h : RR B) (lt : ∀ b ∈ B, b < 2 ^ w) (hw : w ≤ B.length) : All w B := fun x hx => by
  rw [← red_zero h]
  apply Nat.eq_of_testBit_eq
  intro i
  rw [Nat.zero_testBit]
  by_cases hi : i < w
  · have := cover h.tops (fun t ht => by
      obtain ⟨b, hb, rfl⟩ := List.mem_map.mp ht
      exact (Nat.log2_lt (h.1 b hb)).mpr (lt b hb)) (by simpa using hw) i hi
    obtain ⟨b, hb, e⟩ := List.mem_map.mp this
    rw [← e]
    exact red_top x h b hb
  · exact bit_big (red_lt lt hx) (by omega)
/-- no more than w of w digits -/
theorem RR.len_le {w : Nat} {B : List Nat} (h : RR B) (lt : ∀ b ∈ B, b < 2 ^ w) : B.length ≤ w := by
  have := h.tops.length_le_of_subset (l₂ := List.range w) fun x hx => by
    obtain ⟨b, hb, rfl⟩ := List.mem_map.mp hx
    simpa using (Nat.log2_lt (h.1 b hb)).mpr (lt b hb)
  simpa using this
end Gf
/-! The machine run by simp. -/
namespace Mm
open PySem L2
section
variable {α β : Type} {env : Envr} {S S1 S2 : Sto} {i j : Nat} {d d1 d2 : D} {a b : ME} {c t u : MT} {s s1 s2 : MS} {m : MA}
@[simp] theorem bind_ok' (x : α) (S : Sto) (f : α → Sto → R β) : (R.ok x S).bind f = f x S := rfl
@[simp] theorem bind_exc' (c : Str) (p : Option D) (S : Sto) (f : α → Sto → R β) : (R.exc c p S : R α).bind f = .exc c p S := rfl
@[simp] theorem out_ok' (x : α) (S : Sto) (env : Envr) (f : α → Sto → Out) : (R.ok x S).out env f = f x S := rfl
@[simp] theorem out_exc' (c : Str) (p : Option D) (S : Sto) (env : Envr) (f : α → Sto → Out) : (R.exc c p S : R α).out env f = .exc c p env S := rfl
@[simp] theorem opt_some' (x : α) (S : Sto) : opt (some x) S = .ok x S := rfl
@[simp] theorem mFrz_eq (mf : MF) (env : Envr) (S : Sto) : mFrz mf env S = (mf env S).bind fun c S1 => .ok c.d S1 := rfl
@[simp] theorem d_lst (xs : List D) : (Cell.lst xs).d = .lst xs := rfl
@[simp] theorem d_ins (c : Str) (xs : List (Str × D)) : (Cell.ins c xs).d = .ins c xs := rfl
@[simp] theorem r_val (d : D) : (Ret.val d).d = d := rfl
@[simp] theorem r_own (d : Cell) : (Ret.own d).d = d.d := rfl
@[simp] theorem eV_eq (i : Nat) (env : Envr) (S : Sto) : eV i env S = (match env[i]? with
  | some (.v d) => .ok d S
  | _ => .stuck) := rfl
@[simp] theorem eC_eq (d : D) (env : Envr) (S : Sto) : eC d env S = .ok d S := rfl
@[simp] theorem eOp_eq (f : Sto → D → D → Option D) (ma mb : ME) (env : Envr) (S : Sto) : eOp f ma mb env S = ((ma env S).bind fun d1 S1 => (mb env S1).bind fun d2 S2 => opt (f S2 d1 d2) S2) := rfl
@[simp] theorem eUn_eq (f : Sto → D → Option D) (ma : ME) (env : Envr) (S : Sto) : eUn f ma env S = ((ma env S).bind fun d1 S1 => opt (f S1 d1) S1) := rfl
@[simp] theorem fNeg_eq (S : Sto) (i : Int) : fNeg S (.int i) = some (.int (-i)) := rfl
@[simp] theorem cB_eq (me : ME) (env : Envr) (S : Sto) : cB me env S = ((me env S).bind fun d S1 => match d with
  | .bl k => .ok k S1
  | _ => .stuck) := rfl
@[simp] theorem cAnd_eq (a b : MT) (env : Envr) (S : Sto) : cAnd a b env S = ((a env S).bind fun k S1 => if k = true then b env S1 else .ok false S1) := rfl
@[simp] theorem cOr_eq (a b : MT) (env : Envr) (S : Sto) : cOr a b env S = ((a env S).bind fun k S1 => if k = true then .ok true S1 else b env S1) := rfl
@[simp] theorem cNot_eq (a : MT) (env : Envr) (S : Sto) : cNot a env S = ((a env S).bind fun k S1 => .ok (!k) S1) := rfl
@[simp] theorem cYes_eq (env : Envr) (S : Sto) : cYes env S = .ok true S := rfl
@[simp] theorem eIf_eq (t : MT) (a b : ME) (env : Envr) (S : Sto) : eIf t a b env S = ((t env S).bind fun k S1 => if k = true then a env S1 else b env S1) := rfl
@[simp] theorem eAnd_eq (a b : ME) (env : Envr) (S : Sto) : eAnd a b env S = ((a env S).bind fun d S1 => match d with
  | .bl true => b env S1
  | .bl false => .ok (.bl false) S1
  | _ => .stuck) := rfl
@[simp] theorem eOr_eq (a b : ME) (env : Envr) (S : Sto) : eOr a b env S = ((a env S).bind fun d S1 => match d with
  | .bl true => .ok (.bl true) S1
  | .bl false => b env S1
  | _ => .stuck) := rfl
@[simp] theorem eNot_eq (a : ME) (env : Envr) (S : Sto) : eNot a env S = ((a env S).bind fun d S1 => match d with
  | .bl k => .ok (.bl (!k)) S1
  | _ => .stuck) := rfl
@[simp] theorem aNil_eq (env : Envr) (S : Sto) : aNil env S = .ok [] S := rfl
@[simp] theorem aCons_eq (ma : ME) (mr : MA) (env : Envr) (S : Sto) : aCons ma mr env S = ((ma env S).bind fun d S1 => (mr env S1).bind fun ds S2 => .ok (d :: ds) S2) := rfl
@[simp] theorem eTup_eq (m : MA) (env : Envr) (S : Sto) : eTup m env S = ((m env S).bind fun ds S1 => if szB ds.length then .ok (.tup ds) S1 else .stuck) := rfl
@[simp] theorem fLst_eq (m : MA) (env : Envr) (S : Sto) : fLst m env S = ((m env S).bind fun ds S1 => if szB ds.length then .ok (.lst ds) S1 else .stuck) := rfl
@[simp] theorem eCall_eq (f : MFn) (dd : List D) (m : MA) (env : Envr) (S : Sto) : eCall f dd m env S = ((m env S).bind fun ds S1 => (f (ds ++ dd) S1).bind fun r S2 => .ok r.d S2) := rfl
@[simp] theorem fCall_eq (f : MFn) (dd : List D) (m : MA) (env : Envr) (S : Sto) : fCall f dd m env S = ((m env S).bind fun ds S1 => (f (ds ++ dd) S1).bind rOwn) := rfl
@[simp] theorem rOwn_own (c : Cell) (S : Sto) : rOwn (.own c) S = .ok c S := rfl
@[simp] theorem sNil_eq (env : Envr) (S : Sto) : sNil env S = .nx env S := rfl
@[simp] theorem sBrk_eq (env : Envr) (S : Sto) : sBrk env S = .bk env S := rfl
@[simp] theorem sCnt_eq (env : Envr) (S : Sto) : sCnt env S = .ct env S := rfl
@[simp] theorem sSeq_eq (a b : MS) (env : Envr) (S : Sto) : sSeq a b env S = (match a env S with
  | .nx e S1 => b e S1
  | o => o) := rfl
@[simp] theorem sExpr_eq (me : ME) (env : Envr) (S : Sto) : sExpr me env S = (me env S).out env fun _ S1 => .nx env S1 := rfl
@[simp] theorem sRet_eq (me : ME) (env : Envr) (S : Sto) : sRet me env S = (me env S).out env fun d S1 => .rt (.val d) S1 := rfl
@[simp] theorem sRetF_eq (mf : MF) (env : Envr) (S : Sto) : sRetF mf env S = (mf env S).out env fun c S1 => .rt (.own c) S1 := rfl
@[simp] theorem sRetO_eq (i : Nat) (env : Envr) (S : Sto) : sRetO i env S = (match env[i]? with
  | some (.o c) => .rt (.own c) S
  | some (.v d) => .rt (.val d) S
  | _ => .stuck) := rfl
@[simp] theorem sRetN_eq (env : Envr) (S : Sto) : sRetN env S = .rt (.val .non) S := rfl
@[simp] theorem sIf_eq (c : MT) (a b : MS) (env : Envr) (S : Sto) : sIf c a b env S = (c env S).out env fun k S1 => if k = true then a env S1 else b env S1 := rfl
@[simp] theorem gN_eq (i : Nat) (d : D) (env : Envr) : gN i d env = some (env.set i (.v d)) := rfl
@[simp] theorem gN0_eq (env : Envr) : gN0 [] env = some env := rfl
@[simp] theorem gNC_eq (a : MG) (b : MGs) (d : D) (ds : List D) (env : Envr) : gNC a b (d :: ds) env = (a d env).bind fun e => b ds e := rfl
@[simp] theorem gT_eq (b : MGs) (ds : List D) (env : Envr) : gT b (.tup ds) env = b ds env := rfl
@[simp] theorem gU_eq (b : MGs) (ds : List D) (env : Envr) : gU b (.lst ds) env = b ds env := rfl
@[simp] theorem sAsg_eq (me : ME) (mg : MG) (env : Envr) (S : Sto) : sAsg me mg env S = (me env S).out env fun d S1 => match mg d env with
  | some e => .nx e S1
  | none => .stuck := rfl
@[simp] theorem sOwn_eq (i : Nat) (mf : MF) (env : Envr) (S : Sto) : sOwn i mf env S = (mf env S).out env fun c S1 => if i < env.length then .nx (env.set i (.o c)) S1 else .stuck := rfl
@[simp] theorem sPar_eq (i j : Nat) (m : MA) (env : Envr) (S : Sto) : sPar i j m env S = (m env S).out env fun ds S1 => match ds with
  | [d1, d2] => .nx ((env.set i (.v d1)).set j (.v d2)) S1
  | _ => .stuck := rfl
@[simp] theorem sFor_eq (mi : MI) (g : MG) (b : MS) (env : Envr) (S : Sto) : sFor mi g b env S = (mi env S).out env fun ds S1 => forL g b ds env S1 := rfl
@[simp] theorem fLc_eq (mi : MI) (g : MG) (tt : MT) (te : ME) (vs : List Nat) (env : Envr) (S : Sto) : fLc mi g tt te vs env S = (mi env S).bind fun ds S1 => (lcR g tt te (wipeE env vs) ds S1).bind fin := rfl
@[simp] theorem fin_eq (ys : List D) (S : Sto) : fin ys S = if szB ys.length then .ok (.lst ys) S else .stuck := rfl
@[simp] theorem startE_eq (n : Nat) (ds : List D) : startE n ds = ds.map Sl.v ++ List.replicate (n - ds.length) .no := rfl
@[simp] theorem mFn_eq (n : Nat) (m : MS) (ds : List D) (S : Sto) : mFn n m ds S = (match m (startE n ds) S with
  | .nx _ S1 => .ok (.val .non) S1
  | .rt r S1 => .ok r S1
  | .exc c p _ S1 => .exc c p S1
  | _ => .stuck) := rfl
@[simp] theorem itL_eq (me : ME) (env : Envr) (S : Sto) : itL me env S = (me env S).bind fun d S1 => match d with
  | .lst ds => .ok ds S1
  | .tup ds => .ok ds S1
  | _ => .stuck := rfl
@[simp] theorem itR1_eq (m : MA) (env : Envr) (S : Sto) : itR1 m env S = (m env S).bind fun ds S1 => match ds with
  | [.int j] => if rgB j then .ok (rngD 0 j.toNat) S1 else .stuck
  | _ => .stuck := rfl
@[simp] theorem itR2_eq (m : MA) (env : Envr) (S : Sto) : itR2 m env S = (m env S).bind fun ds S1 => match ds with
  | [.int i, .int j] => if rgB i && rgB j then .ok (rngD i (j - i).toNat) S1 else .stuck
  | _ => .stuck := rfl
@[simp] theorem itES_eq (m : MA) (env : Envr) (S : Sto) : itES m env S = (m env S).bind fun ds S1 => match ds with
  | [.lst ds] => .ok (enumD 0 ds) S1
  | [.tup ds] => .ok (enumD 0 ds) S1
  | _ => .stuck := rfl
@[simp] theorem itZ_eq (m : MA) (env : Envr) (S : Sto) : itZ m env S = (m env S).bind fun ds S1 => match ds with
  | [.lst xs, .lst ys] => .ok (zipD xs ys) S1
  | _ => .stuck := rfl
@[simp] theorem eCB_eq (f : Sto → List D → Option D) (m : MA) (env : Envr) (S : Sto) : eCB f m env S = (m env S).bind fun ds S1 => opt (f S1 ds) S1 := rfl
@[simp] theorem fCB_eq (f : Sto → List D → Option Cell) (m : MA) (env : Envr) (S : Sto) : fCB f m env S = (m env S).bind fun ds S1 => opt (f S1 ds) S1 := rfl
@[simp] theorem fOp_eq (f : Sto → D → D → Option Cell) (ma mb : ME) (env : Envr) (S : Sto) : fOp f ma mb env S = (ma env S).bind fun d1 S1 => (mb env S1).bind fun d2 S2 => opt (f S2 d1 d2) S2 := rfl
@[simp] theorem fLen_lst (S : Sto) (ds : List D) : fLen S [.lst ds] = some (.int ds.length) := rfl
@[simp] theorem fLen_tup (S : Sto) (ds : List D) : fLen S [.tup ds] = some (.int ds.length) := rfl
@[simp] theorem fListOf_lst (S : Sto) (ds : List D) : fListOf S [.lst ds] = some (.lst ds) := rfl
@[simp] theorem fListOf_tup (S : Sto) (ds : List D) : fListOf S [.tup ds] = some (.lst ds) := rfl
@[simp] theorem fTupOf_lst (S : Sto) (ds : List D) : fTupOf S [.lst ds] = some (.tup ds) := rfl
@[simp] theorem fTupOf_tup (S : Sto) (ds : List D) : fTupOf S [.tup ds] = some (.tup ds) := rfl
theorem fSorted_lst (S : Sto) (ds : List D) : fSorted S [.lst ds] = (intsOf ds).map fun ns => .lst ((isrt ns).map D.int) := rfl
@[simp] theorem fInt_int (S : Sto) (i : Int) : fInt S [.int i] = some (.int i) := rfl
@[simp] theorem fInt_bl (S : Sto) (b : Bool) : fInt S [.bl b] = some (.int (if b then 1 else 0)) := rfl
@[simp] theorem eBits_eq (me : ME) (env : Envr) (S : Sto) : eBits me env S = (me env S).bind fun d S1 => match d with
  | .int i => .ok (.int (Builtin.Int.intBits i : Nat)) S1
  | _ => .stuck := rfl
@[simp] theorem iAdd_eq (S : Sto) (i j : Int) : iAdd S (.int i) (.int j) = some (.int (i + j)) := rfl
@[simp] theorem iSub_eq (S : Sto) (i j : Int) : iSub S (.int i) (.int j) = some (.int (i - j)) := rfl
@[simp] theorem iMul_eq (S : Sto) (i j : Int) : iMul S (.int i) (.int j) = if mulB i j then some (.int (i * j)) else none := rfl
@[simp] theorem iDiv_eq (S : Sto) (i j : Int) : iDiv S (.int i) (.int j) = if divB i j then some (.int (i.fdiv j)) else none := rfl
@[simp] theorem iMod_eq (S : Sto) (i j : Int) : iMod S (.int i) (.int j) = if decide (j ≠ 0) then some (.int (i.fmod j)) else none := rfl
@[simp] theorem iPow_eq (S : Sto) (i j : Int) : iPow S (.int i) (.int j) = if powB i j then some (.int (i ^ j.toNat)) else none := rfl
@[simp] theorem iShl_eq (S : Sto) (i j : Int) : iShl S (.int i) (.int j) = if powB i j then some (.int (i * 2 ^ j.toNat)) else none := rfl
@[simp] theorem iShr_eq (S : Sto) (i j : Int) : iShr S (.int i) (.int j) = if decide (0 ≤ j) then some (.int (i / 2 ^ j.toNat)) else none := rfl
@[simp] theorem iAnd_eq (S : Sto) (i j : Int) : iAnd S (.int i) (.int j) = some (.int (Builtin.bitAnd i j)) := rfl
@[simp] theorem iOr_eq (S : Sto) (i j : Int) : iOr S (.int i) (.int j) = some (.int (Builtin.bitOr i j)) := rfl
@[simp] theorem iXor_eq (S : Sto) (i j : Int) : iXor S (.int i) (.int j) = some (.int (Builtin.bitXor i j)) := rfl
@[simp] theorem iLt_eq (S : Sto) (i j : Int) : iLt S (.int i) (.int j) = some (.bl (decide (i < j))) := rfl
@[simp] theorem iLe_eq (S : Sto) (i j : Int) : iLe S (.int i) (.int j) = some (.bl (decide (i ≤ j))) := rfl
@[simp] theorem iGt_eq (S : Sto) (i j : Int) : iGt S (.int i) (.int j) = some (.bl (decide (j < i))) := rfl
@[simp] theorem iGe_eq (S : Sto) (i j : Int) : iGe S (.int i) (.int j) = some (.bl (decide (j ≤ i))) := rfl
@[simp] theorem dAdd_int (S : Sto) (i j : Int) : dAdd S (.int i) (.int j) = some (.int (i + j)) := rfl
@[simp] theorem dAdd_lst (S : Sto) (xs ys : List D) : dAdd S (.lst xs) (.lst ys) = if szB (xs.length + ys.length) then some (.lst (xs ++ ys)) else none := by
  show (none : Option D).or (fCatD S (.lst xs) (.lst ys)) = _
  show (none : Option D).or ((if szB (xs.length + ys.length) then some (Cell.lst (xs ++ ys)) else none).map Cell.d) = _
  cases szB (xs.length + ys.length) <;> rfl
@[simp] theorem fCat_lst (S : Sto) (xs ys : List D) : fCat S (.lst xs) (.lst ys) = if szB (xs.length + ys.length) then some (.lst (xs ++ ys)) else none := rfl
@[simp] theorem fCatT_eq (S : Sto) (xs ys : List D) : fCatT S (.tup xs) (.tup ys) = if szB (xs.length + ys.length) then some (.tup (xs ++ ys)) else none := rfl
@[simp] theorem eSlT_eq (me : ME) (ml mh : MO) (env : Envr) (S : Sto) : eSlT me ml mh env S = (me env S).bind fun d S1 => (ml env S1).bind fun lo S2 => (mh env S2).bind fun hi S3 => match d with
  | .tup ds => .ok (.tup (cutD ds lo hi)) S3
  | _ => .stuck := rfl
@[simp] theorem fIx_lst (S : Sto) (xs : List D) (i : Int) : fIx S (.lst xs) (.int i) = atI xs i := rfl
@[simp] theorem fIx_tup (S : Sto) (xs : List D) (i : Int) : fIx S (.tup xs) (.int i) = atI xs i := rfl
@[simp] theorem fIx_ref (S : Sto) (n : Nat) (i : Int) : fIx S (.ref n) (.int i) = (match S[n]? with
    | some (.lst xs) => atI xs i
    | _ => none) := rfl
@[simp] theorem fIs_non (S : Sto) (d : D) : fIs S d .non = some (.bl d.isN) := rfl
@[simp] theorem fIsNot_non (S : Sto) (d : D) : fIsNot S d .non = some (.bl (!d.isN)) := rfl
@[simp] theorem isN_non : D.isN .non = true := rfl
@[simp] theorem isN_int (i : Int) : D.isN (.int i) = false := rfl
@[simp] theorem oNone_eq (env : Envr) (S : Sto) : oNone env S = .ok none S := rfl
@[simp] theorem oSome_eq (me : ME) (env : Envr) (S : Sto) : oSome me env S = (me env S).bind fun d S1 => match d with
  | .int i => .ok (some i) S1
  | _ => .stuck := rfl
@[simp] theorem fSl_eq (me : ME) (ml mh : MO) (env : Envr) (S : Sto) : fSl me ml mh env S = (me env S).bind fun d S1 => (ml env S1).bind fun lo S2 => (mh env S2).bind fun hi S3 => match d with
  | .lst ds => .ok (.lst (cutD ds lo hi)) S3
  | .scr ns => .ok (.lst (cutD (ns.map D.int) lo hi)) S3
  | _ => .stuck := rfl
@[simp] theorem sApp_eq (i : Nat) (me : ME) (env : Envr) (S : Sto) : sApp i me env S = (match env[i]? with
  | some (.o (.lst ds)) => (me env S).out env fun d S1 => if szB (ds.length + 1) then .nx (env.set i (.o (.lst (ds ++ [d])))) S1 else .stuck
  | _ => .stuck) := rfl
@[simp] theorem sIns_eq (i : Nat) (mk me : ME) (env : Envr) (S : Sto) : sIns i mk me env S = (match env[i]? with
  | some (.o (.lst ds)) => (mk env S).out env fun k S1 => (me env S1).out env fun d S2 => match k with
    | .int k => if decide (0 ≤ k) && (bBnd k 9223372036854775807 && szB (ds.length + 1)) then .nx (env.set i (.o (.lst (ds.take k.toNat ++ [d] ++ ds.drop k.toNat)))) S2 else .stuck
    | _ => .stuck
  | _ => .stuck) := rfl
@[simp] theorem sPut_eq (i : Nat) (mk me : ME) (env : Envr) (S : Sto) : sPut i mk me env S = (me env S).out env fun d S1 => match env[i]? with
  | some (.o (.lst ds)) => (mk env S1).out env fun k S2 => (match k with
    | .int k => (match ixN ds.length k with
      | some j => .nx (env.set i (.o (.lst (ds.set j d)))) S2
      | none => .stuck)
    | _ => .stuck)
  | some (.v (.ref n)) => (mk env S1).out env fun k S2 => (match S2[n]?, k with
    | some (.lst ds), .int k => (match ixN ds.length k with
      | some j => .nx env (S2.set n (.lst (ds.set j d)))
      | none => .stuck)
    | _, _ => .stuck)
  | _ => .stuck := rfl
@[simp] theorem sAug_eq (i : Nat) (f : Int → Int → Int) (me : ME) (env : Envr) (S : Sto) : sAug i f me env S = (match env[i]? with
  | some (.v (.int k)) => (me env S).out env fun d S1 => (match d with
    | .int j => .nx (env.set i (.v (.int (f k j)))) S1
    | _ => .stuck)
  | _ => .stuck) := rfl
@[simp] theorem sRaise_eq (c : Str) (env : Envr) (S : Sto) : sRaise c env S = .exc c none env S := rfl
@[simp] theorem eFld_eq (c f : Str) (me : ME) (env : Envr) (S : Sto) : eFld c f me env S = (me env S).bind fun d S1 => match insOf c S1 d with
  | some fs => opt (fs.lookup f) S1
  | none => .stuck := rfl
@[simp] theorem insOf_ins (c c' : Str) (S : Sto) (fs : List (Str × D)) : insOf c S (.ins c' fs) = if c' = c then some fs else none := rfl
@[simp] theorem insOf_ref (c : Str) (S : Sto) (n : Nat) : insOf c S (.ref n) = (match S[n]? with
    | some (.ins c' fs) => if c' = c then some fs else none
    | _ => none) := rfl
@[simp] theorem sFldC_eq (c f : Str) (mo me : ME) (env : Envr) (S : Sto) : sFldC c f mo me env S = (me env S).out env fun y S1 => (mo env S1).out env fun d S2 => match d with
  | .ref n => (match S2[n]? with
    | some (.ins c' fs) => if c' = c ∧ fs.length < 1000 then .nx env (S2.set n (.ins c (putFD f y fs))) else .stuck
    | _ => .stuck)
  | _ => .stuck := rfl
@[simp] theorem mGo_eq (c x : Str) (mf : MFn) (dd : List D) (mo : ME) (m : MA) (F : Ret → Sto → R α) (env : Envr) (S : Sto) : mGo c x mf dd mo m F env S = (mo env S).bind fun o S1 => match insOf c S1 o with
  | some fs => if fs.lookup x = none then (m env S1).bind fun ds S2 => (mf (o :: (ds ++ dd)) S2).bind F else .stuck
  | none => .stuck := rfl
@[simp] theorem eMeth_eq (c x : Str) (mf : MFn) (dd : List D) (mo : ME) (m : MA) (env : Envr) (S : Sto) : eMeth c x mf dd mo m env S = mGo c x mf dd mo m (fun r S => .ok r.d S) env S := rfl
@[simp] theorem fMeth_eq (c x : Str) (mf : MFn) (dd : List D) (mo : ME) (m : MA) (env : Envr) (S : Sto) : fMeth c x mf dd mo m env S = mGo c x mf dd mo m rOwn env S := rfl
@[simp] theorem eNew_eq (c : Str) (mf : MFn) (dd : List D) (m : MA) (env : Envr) (S : Sto) : eNew c mf dd m env S = (m env S).bind fun ds S1 => popI c S1 (mf (.ref S1.length :: (ds ++ dd)) (S1 ++ [.ins c []])) := rfl
@[simp] theorem sCell_eq (i : Nat) (mf : MF) (env : Envr) (S : Sto) : sCell i mf env S = (mf env S).out env fun c S1 => .nx (env.set i (.v (.ref S1.length))) (S1 ++ [c]) := rfl
@[simp] theorem frzAt_eq (i : Nat) (env : Envr) : frzAt i env = (match env[i]? with
  | some (.o c) => env.set i (.v c.d)
  | _ => env) := rfl
@[simp] theorem sFrz_eq (i : Nat) (m : MS) (env : Envr) (S : Sto) : sFrz i m env S = m (frzAt i env) S := rfl
@[simp] theorem sAugC_eq (mo mk : ME) (f : Int → Int → Int) (me : ME) (env : Envr) (S : Sto) : sAugC mo mk f me env S = (mo env S).out env fun o S1 => (mk env S1).out env fun k S2 => match o, k with
  | .ref n, .int k => (match S2[n]? with
    | some (.lst ds) => (match atI ds k with
      | some (.int x) => (me env S2).out env fun d S3 => (match d, S3[n]? with
        | .int y, some (.lst ds') => (match ixN ds'.length k with
          | some j => .nx env (S3.set n (.lst (ds'.set j (.int (f x y)))))
          | none => .stuck)
        | _, _ => .stuck)
      | _ => .stuck)
    | _ => .stuck)
  | _, _ => .stuck := rfl
@[simp] theorem eEqI_eq (c : Str) (f : MFn) (ma mb : ME) (env : Envr) (S : Sto) : eEqI c f ma mb env S = (ma env S).bind fun d1 S1 => (mb env S1).bind fun d2 S2 => match insOf c S2 d1, insOf c S2 d2, f [d1, d2] S2 with
  | some _, some _, .ok (.val (.bl k)) S3 => .ok (.bl k) S3
  | _, _, _ => .stuck := rfl
@[simp] theorem eIsC_eq (c : Str) (m : MA) (env : Envr) (S : Sto) : eIsC c m env S = (m env S).bind fun ds S1 => match ds with
  | [d, .cls c'] => if c' = c then (match insOf c S1 d with
    | some _ => .ok (.bl true) S1
    | none => .stuck) else .stuck
  | _ => .stuck := rfl
@[simp] theorem eLenA_eq (i : Nat) (env : Envr) (S : Sto) : eLenA i env S = (match env[i]? with
  | some (.o (.lst ds)) => .ok (.int ds.length) S
  | some (.v d) => opt (fLen S [d]) S
  | _ => .stuck) := rfl
@[simp] theorem eIxA_eq (i : Nat) (mk : ME) (env : Envr) (S : Sto) : eIxA i mk env S = (match env[i]? with
  | some (.o (.lst ds)) => (mk env S).bind fun k S1 => (match k with
    | .int k => opt (atI ds k) S1
    | _ => .stuck)
  | some (.v d) => (mk env S).bind fun k S1 => opt (fIx S1 d k) S1
  | _ => .stuck) := rfl
end
/-! ### loops -/
theorem forL_inv {I : List D → Envr → Sto → Prop} {g : MG} {b : MS} (step : ∀ d ds env S, I (d :: ds) env S → ∃ e1, g d env = some e1 ∧ ∃ e2 S2, (b e1 S = .nx e2 S2 ∨ b e1 S = .ct e2 S2) ∧ I ds e2 S2) :
    ∀ (ds : List D) (env : Envr) (S : Sto), I ds env S → ∃ e' S', forL g b ds env S = .nx e' S' ∧ I [] e' S'
  | [], env, S, h => ⟨env, S, rfl, h⟩
  | d :: ds, env, S, h => by
    obtain ⟨e1, h1, e2, S2, h2, h3⟩ := step d ds env S h
    unfold forL
    rw [h1]
    rcases h2 with h2 | h2 <;> (simp only [h2]; exact forL_inv step ds e2 S2 h3)
theorem forL_ret {I : List D → Envr → Sto → Prop} {Q : Ret → Sto → Prop} {g : MG} {b : MS} (step : ∀ d ds env S, I (d :: ds) env S → ∃ e1, g d env = some e1 ∧ ((∃ e2 S2, (b e1 S = .nx e2 S2 ∨ b e1 S = .ct e2 S2) ∧ I ds e2 S2) ∨ ∃ r S2, b e1 S = .rt r S2 ∧ Q r S2)) :
    ∀ (ds : List D) (env : Envr) (S : Sto), I ds env S → (∃ e' S', forL g b ds env S = .nx e' S' ∧ I [] e' S') ∨ ∃ r S', forL g b ds env S = .rt r S' ∧ Q r S'
  | [], env, S, h => .inl ⟨env, S, rfl, h⟩
  | d :: ds, env, S, h => by
    obtain ⟨e1, h1, h2⟩ := step d ds env S h
    unfold forL
    rw [h1]
    rcases h2 with ⟨e2, S2, h2 | h2, h3⟩ | ⟨r, S2, h2, h3⟩
    · simp only [h2]
      exact forL_ret step ds e2 S2 h3
    · simp only [h2]
      exact forL_ret step ds e2 S2 h3
    · simp only [h2]
      exact .inr ⟨r, S2, rfl, h3⟩
/-- a comprehension whose parts leave the store alone -/
theorem lcR_map {g : MG} {tt : MT} {te : ME} {env : Envr} {S : Sto} (p : D → Bool) (f : D → D) : ∀ (ds : List D), (∀ d ∈ ds, ∃ e1, g d env = some e1 ∧ tt e1 S = .ok (p d) S ∧ (p d = true → te e1 S = .ok (f d) S)) →
    lcR g tt te env ds S = .ok ((ds.filter p).map f) S
  | [], _ => rfl
  | d :: ds, h => by
    obtain ⟨e1, h1, h2, h3⟩ := h d List.mem_cons_self
    have ih := lcR_map p f ds fun x hx => h x (List.mem_cons_of_mem _ hx)
    unfold lcR
    rw [h1]
    cases z : p d with
    | true => simp only [h2, z, h3 z, ih, bind_ok', List.filter_cons, if_true, List.map_cons]
    | false => simp [h2, z, ih, List.filter_cons]
/-- one whose parts change it -/
theorem lcR_inv {I : List D → List D → Sto → Prop} {g : MG} {te : ME} {env : Envr} (step : ∀ d ds ys S, I (d :: ds) ys S → ∃ e1, g d env = some e1 ∧ ∃ y S2, te e1 S = .ok y S2 ∧ I ds (ys ++ [y]) S2) :
    ∀ (ds ys : List D) (S : Sto), I ds ys S → ∃ zs S', lcR g cYes te env ds S = .ok zs S' ∧ I [] (ys ++ zs) S'
  | [], ys, S, h => ⟨[], S, rfl, by rwa [List.append_nil]⟩
  | d :: ds, ys, S, h => by
    obtain ⟨e1, h1, y, S2, h2, h3⟩ := step d ds ys S h
    obtain ⟨zs, S', h4, h5⟩ := lcR_inv step ds (ys ++ [y]) S2 h3
    refine ⟨y :: zs, S', ?_, by simpa using h5⟩
    unfold lcR
    rw [h1]
    simp [h2, h4]
/-! ### whole numbers -/
@[simp] theorem band_nat (a b : Nat) : Builtin.bitAnd (a : Int) (b : Int) = ((a &&& b : Nat) : Int) := by simp [Builtin.bitAnd]
@[simp] theorem bxor_nat (a b : Nat) : Builtin.bitXor (a : Int) (b : Int) = ((a ^^^ b : Nat) : Int) := Bits.bitXor_pp (Int.natCast_nonneg a) (Int.natCast_nonneg b) |>.trans (by simp)
@[simp] theorem bor_nat (a b : Nat) : Builtin.bitOr (a : Int) (b : Int) = ((a ||| b : Nat) : Int) := Bits.bitOr_pp (Int.natCast_nonneg a) (Int.natCast_nonneg b) |>.trans (by simp)
theorem bits_nat {n : Nat} (h : n ≠ 0) : Builtin.Int.intBits (n : Int) = n.log2 + 1 := by
  unfold Builtin.Int.intBits
  have : ((n : Int) == 0) = false := by simpa using h
  rw [this]
  simp
@[simp] theorem shr_nat (a k : Nat) : (a : Int) / 2 ^ k = ((a >>> k : Nat) : Int) := by
  rw [Nat.shiftRight_eq_div_pow]
  simp
abbrev nd (n : Nat) : D := .int (n : Int)
def nl (xs : List Nat) : List D := xs.map nd
@[simp] theorem nl_nil : nl [] = [] := rfl
@[simp] theorem nl_cons (x : Nat) (xs : List Nat) : nl (x :: xs) = .int (x : Int) :: nl xs := rfl
@[simp] theorem nl_len (xs : List Nat) : (nl xs).length = xs.length := by simp [nl]
@[simp] theorem nl_append (xs ys : List Nat) : nl xs ++ nl ys = nl (xs ++ ys) := by simp [nl]
theorem szB_of {n : Nat} (h : n ≤ 100000) : szB n = true := decide_eq_true h
end Mm
/-! Plain: numbers traced, kernels, backwards. -/
namespace Gf
theorem Sp.image (f : Nat → Nat) (f0 : f 0 = 0) (fx : ∀ x y, f (x ^^^ y) = f x ^^^ f y) {B : List Nat} {x : Nat} (h : Sp B x) : Sp (B.map f) (f x) := by
  obtain ⟨m, rfl⟩ := h
  exact ⟨m, app_map f f0 fx B m⟩
theorem Sp.append {A B : List Nat} {x : Nat} (h : Sp (A ++ B) x) : ∃ u v, Sp A u ∧ Sp B v ∧ x = u ^^^ v := by
  induction A generalizing x with
  | nil => exact ⟨0, x, .zero _, h, by simp⟩
  | cons a A ih =>
    rcases Sp.cons.mp h with h | h
    · obtain ⟨u, v, h1, h2, e⟩ := ih h
      exact ⟨u, v, h1.tail, h2, e⟩
    · obtain ⟨u, v, h1, h2, e⟩ := ih h
      refine ⟨u ^^^ a, v, h1.tail.xor (.head a A), h2, ?_⟩
      have := congrArg (· ^^^ a) e
      simp only [xor_cancel_right] at this
      rw [this, Nat.xor_assoc, Nat.xor_comm v a, ← Nat.xor_assoc]
theorem RR.inj : ∀ {B : List Nat} {c : Nat}, RR B → c < 2 ^ B.length → app B c = 0 → c = 0
  | [], c, _, hc, _ => by simpa using hc
  | b :: B, c, h, hc, e => by
    obtain ⟨h1, h2, h3⟩ := RR.cons.mp h
    rw [app_cons] at e
    rw [List.length_cons, Nat.pow_succ] at hc
    cases z : c.testBit 0 with
    | true =>
      rw [z] at e
      have e2 : b = app B (c / 2) := xor_eq_zero (by simpa using e)
      have : Sp B b := ⟨_, e2.symm⟩
      have := Sp.bit (i := b.log2) (fun d hd => (h2 d hd).2) this
      rw [Nat.testBit_log2 h1] at this
      cases this
    | false =>
      rw [z] at e
      have := RR.inj h3 (c := c / 2) (by omega) (by simpa using e)
      have : c % 2 = 0 := by
        have q := Nat.testBit_zero c
        rw [z] at q
        have := of_decide_eq_false q.symm
        omega
      omega
abbrev PP := Nat × Nat
def tst (s p : PP) : PP := if s.1.testBit p.1.log2 then (s.1 ^^^ p.1, s.2 ^^^ p.2) else s
def tred (s : PP) (F : List PP) : PP := F.foldl tst s
theorem tred_fst : ∀ (F : List PP) (s : PP), (tred s F).1 = red s.1 (F.map (·.1))
  | [], _ => rfl
  | p :: F, s => by
    show (tred (tst s p) F).1 = red (rst s.1 p.1) (F.map (·.1))
    rw [tred_fst F]
    unfold tst rst
    split <;> rfl
theorem tred_rel {rs : List Nat} : ∀ {F : List PP} {s : PP}, (∀ p ∈ F, app rs p.2 = p.1) → app rs (tred s F).2 ^^^ (tred s F).1 = app rs s.2 ^^^ s.1
  | [], _, _ => rfl
  | p :: F, s, h => by
    show app rs (tred (tst s p) F).2 ^^^ (tred (tst s p) F).1 = _
    rw [tred_rel fun q hq => h q (List.mem_cons_of_mem _ hq)]
    unfold tst
    split
    · show app rs (s.2 ^^^ p.2) ^^^ (s.1 ^^^ p.1) = _
      rw [app_xor, h p List.mem_cons_self]
      apply Nat.eq_of_testBit_eq
      intro i
      simp only [Nat.testBit_xor]
      cases (app rs s.2).testBit i <;> cases s.1.testBit i <;> cases p.1.testBit i <;> rfl
    · rfl
theorem tred_sp : ∀ (F : List PP) (s : PP), Sp (F.map (·.2)) (s.2 ^^^ (tred s F).2)
  | [], s => by
    show Sp [] (s.2 ^^^ s.2)
    rw [Nat.xor_self]
    exact .zero _
  | p :: F, s => by
    have h := (tred_sp F (tst s p)).tail (a := p.2)
    show Sp (p.2 :: F.map (·.2)) (s.2 ^^^ (tred (tst s p) F).2)
    by_cases z : s.1.testBit p.1.log2 = true
    · have e : (tst s p).2 = s.2 ^^^ p.2 := by
        unfold tst
        rw [if_pos z]
      rw [e] at h
      have := h.xor (Sp.head p.2 (F.map (·.2)))
      have q : ∀ a b c : Nat, a ^^^ b ^^^ c ^^^ b = a ^^^ c := fun a b c => by rw [Nat.xor_assoc a b c, Nat.xor_comm b c, ← Nat.xor_assoc, xor_cancel_right]
      rwa [q] at this
    · have e : tst s p = s := by
        unfold tst
        rw [if_neg z]
      rw [e] at h ⊢
      exact h
abbrev TS2 := List PP × List Nat
def wst (l p : PP) : PP := if p.1.testBit l.1.log2 then (p.1 ^^^ l.1, p.2 ^^^ l.2) else p
def tstep (st : TS2) (k x : Nat) : TS2 := if (tred (x, 2 ^ k) st.1).1 = 0 then (st.1, st.2 ++ [(tred (x, 2 ^ k) st.1).2]) else (tred (x, 2 ^ k) st.1 :: st.1.map (wst (tred (x, 2 ^ k) st.1)), st.2)
def tgo : List Nat → Nat → TS2 → TS2
  | [], _, st => st
  | x :: xs, k, st => tgo xs (k + 1) (tstep st k x)
def tra (rs : List Nat) : TS2 := tgo rs 0 ([], [])
structure TOk (rs : List Nat) (k : Nat) (st : TS2) : Prop where
  rr : RR (st.1.map (·.1))
  fs : ∀ p ∈ st.1, app rs p.2 = p.1 ∧ p.2 < 2 ^ k
  is_ : ∀ m ∈ st.2, app rs m = 0 ∧ m < 2 ^ k
  sp : ∀ x, x < 2 ^ k → Sp (st.1.map (·.2) ++ st.2) x
  len : st.1.length + st.2.length = k
theorem TOk.step {rs : List Nat} {k x : Nat} {st : TS2} (h : TOk rs k st) (hx : app rs (2 ^ k) = x) : TOk rs (k + 1) (tstep st k x) := by
  have kk : 2 ^ k < 2 ^ (k + 1) := Nat.pow_lt_pow_right (by decide) (by omega)
  have e1 := tred_fst st.1 (x, 2 ^ k)
  have e2 := tred_rel (rs := rs) (F := st.1) (s := (x, 2 ^ k)) fun p hp => (h.fs p hp).1
  have e3 := tred_sp st.1 (x, 2 ^ k)
  have l2 : (tred (x, 2 ^ k) st.1).2 < 2 ^ (k + 1) := by
    have q := Sp.lt (w := k + 1) (fun b hb => by
      obtain ⟨p, hp, rfl⟩ := List.mem_map.mp hb
      exact Nat.lt_trans (h.fs p hp).2 kk) e3
    have := Nat.xor_lt_two_pow kk q
    rwa [xor_self_left] at this
  have e4 : app rs (tred (x, 2 ^ k) st.1).2 = (tred (x, 2 ^ k) st.1).1 := by
    have : app rs (2 ^ k) ^^^ x = 0 := by rw [hx, Nat.xor_self]
    exact xor_eq_zero (e2.trans this)
  generalize hl : tred (x, 2 ^ k) st.1 = l at *
  have split' : ∀ (C : List Nat), (∀ c ∈ st.1.map (·.2) ++ st.2, Sp C c) → Sp C l.2 → ∀ y, y < 2 ^ (k + 1) → Sp C y := fun C hC hl2 y hy => by
    have hk : Sp C (2 ^ k) := by
      have := (Sp.sub (fun b hb => hC b (List.mem_append_left _ hb)) e3).xor hl2
      rwa [xor_cancel_right] at this
    have low : ∀ z, z < 2 ^ k → Sp C z := fun z hz => Sp.sub hC (h.sp z hz)
    by_cases b : y.testBit k = true
    · have : y ^^^ 2 ^ k < 2 ^ k := lt_of_bits fun i hi => by
        rw [Nat.testBit_xor, Nat.testBit_two_pow]
        by_cases ei : k = i
        · subst ei
          simp [b]
        · rw [bit_big hy (by omega)]
          simp [ei]
      have := (low _ this).xor hk
      rwa [xor_cancel_right] at this
    · refine low y (lt_of_bits fun i hi => ?_)
      by_cases ei : k = i
      · subst ei
        simpa using b
      · exact bit_big hy (by omega)
  unfold tstep
  rw [hl]
  split
  · rename_i z
    refine ⟨h.rr, fun p hp => ⟨(h.fs p hp).1, Nat.lt_trans (h.fs p hp).2 kk⟩, fun m hm => ?_, ?_, ?_⟩
    · rcases List.mem_append.mp hm with hm | hm
      · exact ⟨(h.is_ m hm).1, Nat.lt_trans (h.is_ m hm).2 kk⟩
      · simp at hm
        rw [hm, e4, z]
        exact ⟨rfl, l2⟩
    · refine split' _ (fun c hc => .mem ?_) (.mem ?_)
      · rw [← List.append_assoc]
        exact List.mem_append_left _ hc
      · simp
    · simp
      have := h.len
      omega
  · rename_i z
    have tops : ∀ b ∈ st.1.map (·.1), l.1.testBit b.log2 = false := by
      rw [e1]
      exact red_top x h.rr
    have mp : (st.1.map (wst l)).map (·.1) = (st.1.map (·.1)).map (cst l.1) := by
      rw [List.map_map, List.map_map]
      apply List.map_congr_left
      intro p _
      show (wst l p).1 = cst l.1 p.1
      unfold wst cst
      split <;> rfl
    refine ⟨?_, fun p hp => ?_, fun m hm => ⟨(h.is_ m hm).1, Nat.lt_trans (h.is_ m hm).2 kk⟩, ?_, ?_⟩
    · rw [List.map_cons, mp]
      exact (h.rr.cst z tops).perm (by simpa using List.perm_append_comm (l₁ := (st.1.map (·.1)).map (cst l.1)) (l₂ := [l.1]))
    · rcases List.mem_cons.mp hp with e | hp
      · rw [e]
        exact ⟨e4, l2⟩
      · obtain ⟨q, hq, rfl⟩ := List.mem_map.mp hp
        have a := h.fs q hq
        unfold wst
        split
        · refine ⟨?_, Nat.xor_lt_two_pow (Nat.lt_trans a.2 kk) l2⟩
          show app rs (q.2 ^^^ l.2) = q.1 ^^^ l.1
          rw [app_xor, a.1, e4]
        · exact ⟨a.1, Nat.lt_trans a.2 kk⟩
    · have L : Sp ((l :: st.1.map (wst l)).map (·.2) ++ st.2) l.2 := .mem (by simp)
      refine split' _ (fun c hc => ?_) L
      rcases List.mem_append.mp hc with hc | hc
      · obtain ⟨q, hq, rfl⟩ := List.mem_map.mp hc
        have m : Sp ((l :: st.1.map (wst l)).map (·.2) ++ st.2) (wst l q).2 := .mem (List.mem_append_left _ (List.mem_map.mpr ⟨_, List.mem_cons_of_mem _ (List.mem_map_of_mem hq), rfl⟩))
        unfold wst at m
        split at m
        · have := m.xor L
          have e : (q.1 ^^^ l.1, q.2 ^^^ l.2).2 ^^^ l.2 = q.2 := xor_cancel_right _ _
          rwa [e] at this
        · exact m
      · exact .mem (List.mem_append_right _ hc)
    · simp
      have := h.len
      omega
theorem tgo_ok {rs : List Nat} : ∀ (xs : List Nat) (k : Nat) (st : TS2), TOk rs k st → rs.drop k = xs → k ≤ rs.length → TOk rs rs.length (tgo xs k st)
  | [], k, st, h, e, hk => by
    have : rs.length ≤ k := by simpa using List.drop_eq_nil_iff.mp e
    have : k = rs.length := by omega
    subst this
    exact h
  | x :: xs, k, st, h, e, hk => by
    have lt : k < rs.length := by
      apply Classical.byContradiction
      intro n
      rw [List.drop_eq_nil_iff.mpr (by omega)] at e
      cases e
    have e0 : rs[k]? = some x := by
      have := congrArg (·[0]?) e
      simpa using this
    have e1 : app rs (2 ^ k) = x := by
      rw [app_pow, List.getD_eq_getElem?_getD, e0]
      rfl
    refine tgo_ok xs (k + 1) _ (h.step e1) ?_ lt
    rw [← List.drop_drop, e]
    rfl
theorem tra_ok (rs : List Nat) : TOk rs rs.length (tra rs) := tgo_ok rs 0 _ ⟨RR.nil, fun _ h => by simp at h, fun _ h => by simp at h, fun x hx => by
  have : x = 0 := by omega
  subst this
  exact .zero _, rfl⟩ rfl (Nat.zero_le _)
/-- what is found spans what the rows span -/
theorem tra_sp (rs : List Nat) (y : Nat) : Sp ((tra rs).1.map (·.1)) y ↔ Sp rs y := by
  have h := tra_ok rs
  constructor
  · refine .sub fun b hb => ?_
    obtain ⟨p, hp, rfl⟩ := List.mem_map.mp hb
    exact ⟨p.2, (h.fs p hp).1⟩
  · rintro ⟨m, e⟩
    have s := h.sp (m % 2 ^ rs.length) (Nat.mod_lt _ (Nat.two_pow_pos _))
    have := Sp.image (app rs) (app_zero rs) (app_xor rs) s
    rw [app_mod, e] at this
    refine .sub (fun b hb => ?_) this
    rw [List.map_append] at hb
    rcases List.mem_append.mp hb with hb | hb
    · rw [List.map_map] at hb
      obtain ⟨p, hp, rfl⟩ := List.mem_map.mp hb
      show Sp _ (app rs p.2)
      rw [(h.fs p hp).1]
      exact .mem (List.mem_map_of_mem hp)
    · obtain ⟨q, hq, rfl⟩ := List.mem_map.mp hb
      rw [(h.is_ q hq).1]
      exact .zero _
/-- the idle ones span the kernel -/
theorem tra_ker (rs : List Nat) {x : Nat} (hx : x < 2 ^ rs.length) : Sp (tra rs).2 x ↔ app rs x = 0 := by
  have h := tra_ok rs
  constructor
  · rintro ⟨m, e⟩
    have := app_app (tra rs).2 rs m
    rw [e] at this
    rw [← this]
    have z : Sp ((tra rs).2.map (app rs)) (app ((tra rs).2.map (app rs)) m) := ⟨m, rfl⟩
    have := Sp.sub (C := []) (fun b hb => by
      obtain ⟨q, hq, rfl⟩ := List.mem_map.mp hb
      rw [(h.is_ q hq).1]
      exact .zero _) z
    exact Sp.nil.mp this
  · intro e
    obtain ⟨u, v, hu, hv, ex⟩ := (h.sp x hx).append
    have v0 : app rs v = 0 := by
      have z := Sp.image (app rs) (app_zero rs) (app_xor rs) hv
      exact Sp.nil.mp (Sp.sub (C := []) (fun b hb => by
        obtain ⟨q, hq, rfl⟩ := List.mem_map.mp hb
        rw [(h.is_ q hq).1]
        exact .zero _) z)
    have u0 : app rs u = 0 := by
      rw [ex, app_xor, v0, Nat.xor_zero] at e
      exact e
    obtain ⟨c, ec⟩ := hu
    have ec2 : app ((tra rs).1.map (·.1)) c = 0 := by
      have := app_app ((tra rs).1.map (·.2)) rs c
      rw [ec, u0, List.map_map] at this
      have e5 : (tra rs).1.map ((app rs) ∘ (·.2)) = (tra rs).1.map (·.1) := List.map_congr_left fun p hp => (h.fs p hp).1
      rwa [e5] at this
    rw [← app_mod] at ec2
    have c0 := h.rr.inj (Nat.mod_lt _ (Nat.two_pow_pos _)) ec2
    have : u = 0 := by
      have q := app_mod ((tra rs).1.map (·.2)) c
      have ll : ((tra rs).1.map (·.2)).length = ((tra rs).1.map (·.1)).length := by simp
      rw [ll, c0, app_zero, ec] at q
      exact q.symm
    rw [ex, this, Nat.zero_xor]
    exact hv
theorem tra_lt (rs : List Nat) : ∀ m ∈ (tra rs).2, m < 2 ^ rs.length := fun m hm => ((tra_ok rs).is_ m hm).2
theorem tra_len (rs : List Nat) : (tra rs).1.length + (tra rs).2.length = rs.length := (tra_ok rs).len
theorem tra_rank (rs : List Nat) : (tra rs).1.length = (bas rs).length := by
  have := (RR.uniq (tra_ok rs).rr (bas_rr rs) fun y => (tra_sp rs y).trans (bas_sp rs y).symm).length_eq
  simpa using this
/-! ### the way back -/
def trail (rs : List Nat) (x : Nat) : Option Nat := if (tred (x, 0) (tra rs).1).1 = 0 then some (tred (x, 0) (tra rs).1).2 else none
theorem trail_some {rs : List Nat} {x m : Nat} (h : trail rs x = some m) : app rs m = x ∧ m < 2 ^ rs.length := by
  unfold trail at h
  split at h
  · rename_i z
    have e := Option.some.inj h
    have r := tred_rel (rs := rs) (F := (tra rs).1) (s := (x, 0)) fun p hp => ((tra_ok rs).fs p hp).1
    rw [e, z, Nat.xor_zero, app_zero, Nat.zero_xor] at r
    refine ⟨r, ?_⟩
    have s := tred_sp (tra rs).1 (x, 0)
    rw [e, Nat.zero_xor] at s
    exact s.lt fun b hb => by
      obtain ⟨p, hp, rfl⟩ := List.mem_map.mp hb
      exact ((tra_ok rs).fs p hp).2
  · cases h
theorem trail_none {rs : List Nat} {x : Nat} : trail rs x = none ↔ ¬ Sp rs x := by
  unfold trail
  have : (tred (x, 0) (tra rs).1).1 = 0 ↔ Sp rs x := by
    rw [tred_fst, red_zero (tra_ok rs).rr]
    exact tra_sp rs x
  rw [← this]
  split
  · rename_i z
    simp [z]
  · rename_i z
    simp [z]
end Gf
namespace Fb
open PySem L2 Mm
noncomputable def m__law_box : MFn := mFn 1 (sRetF (fLst (aCons (mFrz (fCB fListOf (aCons (mFrz (fSl (eV 0) oNone (oSome (eC (.int 63))))) aNil))) (aCons (eC (.int 0)) (aCons (eC (.int 0)) (aCons (eC (.int 41)) aNil))))))
noncomputable def m__law_take : MFn := mFn 5 (sSeq (sIf (cB (eOp iGt (eOp fIx (eV 0) (eC (.int 2))) (eC (.int 0)))) (sSeq (sAsg (eOp fIx (eV 0) (eC (.int 2))) (gN 2))
    (sSeq (sPut 0 (eC (.int 2)) (eOp iDiv (eV 2) (eV 1)))
    (sRet (eOp iMod (eV 2) (eV 1))))) sNil)
    (sSeq (sAsg (eC (.int 0)) (gN 3))
    (sSeq (sIf (cB (eOp iLt (eOp fIx (eV 0) (eC (.int 1))) (eCB fLen (aCons (eOp fIx (eV 0) (eC (.int 0))) aNil)))) (sSeq (sAsg (eOp fIx (eOp fIx (eV 0) (eC (.int 0))) (eOp fIx (eV 0) (eC (.int 1)))) (gN 3))
    (sAugC (eV 0) (eC (.int 1)) (fun i j => i + j) (eC (.int 1)))) sNil)
    (sSeq (sIf (cB (eOp iGe (eV 3) (eOp iPow (eC (.int 10)) (eC (.int 18))))) (sSeq (sPut 0 (eC (.int 2)) (eOp iDiv (eV 3) (eV 1)))
    (sRet (eOp iMod (eV 3) (eV 1)))) sNil)
    (sSeq (sAsg (eOp fIx (eV 0) (eC (.int 3))) (gN 4))
    (sSeq (sPut 0 (eC (.int 3)) (eOp iMod (eOp dAdd (eOp dAdd (eOp dAdd (eOp iPow (eV 4) (eC (.int 3))) (eOp iMul (eC (.int 69621)) (eV 4))) (eOp iMul (eC (.int 40693)) (eOp iMod (eV 3) (eC (.int 2147483549))))) (eC (.int 17))) (eC (.int 2147483549))))
    (sRet (eOp iMod (eOp iDiv (eOp fIx (eV 0) (eC (.int 3))) (eC (.int 64))) (eV 1)))))))))
noncomputable def m_FoldU_initU : MFn := mFn 4 (sSeq (sIf (cOr (cB (eOp iLt (eV 2) (eC (.int 0)))) (cOr (cB (eOp iGt (eV 2) (eC (.int 12)))) (cB (eOp iGt (eCB fLen (aCons (eV 1) aNil)) (eC (.int 12)))))) (sRaise "BadFold") sNil)
    (sSeq (sFor (itL (eV 1)) (gN 3) (sIf (cOr (cB (eOp iLt (eV 3) (eC (.int 0)))) (cB (eOp iGt (eOp iShr (eV 3) (eV 2)) (eC (.int 0))))) (sRaise "BadFold") sNil))
    (sSeq (sFldC "Fold" "lines" (eV 0) (eCB fTupOf (aCons (eV 1) aNil)))
    (sFldC "Fold" "wide" (eV 0) (eV 2)))))
noncomputable def m__law_shuffled : MFn := mFn 4 (sSeq (sOwn 2 (fLst aNil))
    (sSeq (sFor (itL (eV 1)) (gN 3) (sIns 2 (eCall m__law_take [] (aCons (eV 0) (aCons (eOp dAdd (eLenA 2) (eC (.int 1))) aNil))) (eV 3)))
    (sRetO 2)))
noncomputable def m__law_numbers : MFn := mFn 4 (sRetF (fLc (itR1 (aCons (eV 1) aNil)) (gN 3) cYes (eCall m__law_take [] (aCons (eV 0) (aCons (eOp iShl (eC (.int 1)) (eV 2)) aNil))) [3]))
noncomputable def m__law_lines : MFn := mFn 9 (sSeq (sOwn 3 (fLc (itR1 (aCons (eV 2) aNil)) (gN 7) cYes (eOp iShl (eC (.int 1)) (eV 7)) [7]))
    (sFrz 3 (sSeq (sOwn 3 (fCall m__law_shuffled [] (aCons (eV 0) (aCons (eOp dAdd (eV 3) (eCall m__law_numbers [] (aCons (eV 0) (aCons (eOp iSub (eV 1) (eV 2)) (aCons (eV 2) aNil))))) aNil))))
    (sSeq (sFor (itR1 (aCons (eOp iMul (eCall m__law_take [] (aCons (eV 0) (aCons (eC (.int 7)) aNil))) (eCB fInt (aCons (eOp iGt (eV 1) (eC (.int 1))) aNil))) aNil)) (gN 4) (sSeq (sAsg (eCall m__law_take [] (aCons (eV 0) (aCons (eV 1) aNil))) (gN 5))
    (sSeq (sAsg (eOp dAdd (eOp dAdd (eV 5) (eC (.int 1))) (eCall m__law_take [] (aCons (eV 0) (aCons (eOp iSub (eV 1) (eC (.int 1))) aNil)))) (gN 6))
    (sPut 3 (eV 5) (eOp iXor (eIxA 3 (eV 5)) (eIxA 3 (eOp iMod (eV 6) (eV 1))))))))
    (sSeq (sFor (itR1 (aCons (eOp iMul (eCall m__law_take [] (aCons (eV 0) (aCons (eC (.int 4)) aNil))) (eCB fInt (aCons (eOp iGt (eV 2) (eC (.int 1))) aNil))) aNil)) (gN 4) (sSeq (sAsg (eCall m__law_take [] (aCons (eV 0) (aCons (eV 2) aNil))) (gN 5))
    (sSeq (sAsg (eOp iMod (eOp dAdd (eOp dAdd (eV 5) (eC (.int 1))) (eCall m__law_take [] (aCons (eV 0) (aCons (eOp iSub (eV 2) (eC (.int 1))) aNil)))) (eV 2)) (gN 6))
    (sFrz 3 (sOwn 3 (fLc (itL (eV 3)) (gN 8) cYes (eOp iXor (eV 8) (eOp iShl (eOp iAnd (eOp iShr (eV 8) (eV 5)) (eC (.int 1))) (eV 6))) [8]))))))
    (sFrz 3 (sRet (eCB fTupOf (aCons (eV 3) aNil)))))))))
noncomputable def m_Fold_many : MFn := mFn 1 (sRet (eCB fLen (aCons (eFld "Fold" "lines" (eV 0)) aNil)))
noncomputable def m_Fold_size : MFn := mFn 1 (sRet (eFld "Fold" "wide" (eV 0)))
noncomputable def m_blended : MFn := mFn 3 (sSeq (sAsg (eC (.int 0)) (gN 1))
    (sSeq (sFor (itL (eV 0)) (gN 2) (sAsg (eOp iXor (eV 1) (eV 2)) (gN 1)))
    (sRet (eV 1))))
noncomputable def m_picked : MFn := mFn 4 (sRet (eCall m_blended [] (aCons (mFrz (fLc (itES (aCons (eV 0) aNil)) (gT (gNC (gN 2) (gNC (gN 3) gN0))) (cB (eOp fEq (eOp iAnd (eOp iShr (eV 1) (eV 2)) (eC (.int 1))) (eC (.int 1)))) (eV 3) [2, 3])) aNil)))
noncomputable def m_Fold_to : MFn := mFn 2 (sSeq (sIf (cOr (cB (eOp iLt (eV 1) (eC (.int 0)))) (cB (eOp iGt (eOp iShr (eV 1) (eCB fLen (aCons (eFld "Fold" "lines" (eV 0)) aNil))) (eC (.int 0))))) (sRaise "BadNumber") sNil)
    (sRet (eCall m_picked [] (aCons (eFld "Fold" "lines" (eV 0)) (aCons (eV 1) aNil)))))
noncomputable def m_Fold_then : MFn := mFn 3 (sSeq (sIf (cB (eOp fNe (eMeth "Fold" "many" m_Fold_many [] (eV 1) aNil) (eFld "Fold" "wide" (eV 0)))) (sRaise "Unfit") sNil)
    (sRet (eNew "Fold" m_FoldU_initU [] (aCons (mFrz (fLc (itL (eFld "Fold" "lines" (eV 0))) (gN 2) cYes (eMeth "Fold" "to" m_Fold_to [] (eV 1) (aCons (eV 2) aNil)) [2])) (aCons (eMeth "Fold" "size" m_Fold_size [] (eV 1) aNil) aNil)))))
noncomputable def m_top_of : MFn := mFn 1 (sRet (eOp iShl (eC (.int 1)) (eOp iSub (eBits (eV 0)) (eC (.int 1)))))
noncomputable def m_reduced : MFn := mFn 4 (sSeq (sAsg (eV 0) (gN 2))
    (sSeq (sFor (itL (eV 1)) (gN 3) (sIf (cB (eOp iGt (eOp iAnd (eV 2) (eCall m_top_of [] (aCons (eV 3) aNil))) (eC (.int 0)))) (sAsg (eOp iXor (eV 2) (eV 3)) (gN 2)) sNil))
    (sRet (eV 2))))
noncomputable def m_basis_of : MFn := mFn 6 (sSeq (sAsg (mFrz (fLst aNil)) (gN 1))
    (sSeq (sFor (itL (eV 0)) (gN 2) (sSeq (sAsg (eCall m_reduced [] (aCons (eV 2) (aCons (eV 1) aNil))) (gN 3))
    (sIf (cB (eOp iGt (eV 3) (eC (.int 0)))) (sSeq (sAsg (eCall m_top_of [] (aCons (eV 3) aNil)) (gN 4))
    (sAsg (eOp dAdd (mFrz (fLc (itL (eV 1)) (gN 5) cYes (eIf (cB (eOp iGt (eOp iAnd (eV 5) (eV 4)) (eC (.int 0)))) (eOp iXor (eV 5) (eV 3)) (eV 5)) [5])) (mFrz (fLst (aCons (eV 3) aNil)))) (gN 1))) sNil)))
    (sRetF (fCB fSorted (aCons (eV 1) aNil)))))
noncomputable def m_Fold_onto : MFn := mFn 1 (sRet (eOp fEq (eCB fLen (aCons (eCall m_basis_of [] (aCons (eFld "Fold" "lines" (eV 0)) aNil)) aNil)) (eFld "Fold" "wide" (eV 0))))
noncomputable def m_traced : MFn := mFn 11 (sSeq (sAsg (mFrz (fLst aNil)) (gN 1))
    (sSeq (sOwn 2 (fLst aNil))
    (sSeq (sFor (itES (aCons (eV 0) aNil)) (gT (gNC (gN 3) (gNC (gN 4) gN0))) (sSeq (sPar 5 6 (aCons (eV 4) (aCons (eOp iShl (eC (.int 1)) (eV 3)) aNil)))
    (sSeq (sFor (itL (eV 1)) (gT (gNC (gN 7) (gNC (gN 8) gN0))) (sIf (cB (eOp iGt (eOp iAnd (eV 5) (eCall m_top_of [] (aCons (eV 7) aNil))) (eC (.int 0)))) (sPar 5 6 (aCons (eOp iXor (eV 5) (eV 7)) (aCons (eOp iXor (eV 6) (eV 8)) aNil))) sNil))
    (sIf (cB (eOp fEq (eV 5) (eC (.int 0)))) (sApp 2 (eV 6)) (sSeq (sAsg (eCall m_top_of [] (aCons (eV 5) aNil)) (gN 9))
    (sSeq (sOwn 10 (fLst (aCons (eTup (aCons (eV 5) (aCons (eV 6) aNil))) aNil)))
    (sSeq (sFor (itL (eV 1)) (gT (gNC (gN 7) (gNC (gN 8) gN0))) (sApp 10 (eIf (cB (eOp iGt (eOp iAnd (eV 7) (eV 9)) (eC (.int 0)))) (eTup (aCons (eOp iXor (eV 7) (eV 5)) (aCons (eOp iXor (eV 8) (eV 6)) aNil))) (eTup (aCons (eV 7) (aCons (eV 8) aNil))))))
    (sFrz 10 (sAsg (eV 10) (gN 1))))))))))
    (sFrz 2 (sRet (eTup (aCons (eV 1) (aCons (eV 2) aNil))))))))
noncomputable def m_trail_to : MFn := mFn 6 (sSeq (sPar 2 3 (aCons (eV 1) (aCons (eC (.int 0)) aNil)))
    (sSeq (sFor (itL (eOp fIx (eCall m_traced [] (aCons (eV 0) aNil)) (eC (.int 0)))) (gT (gNC (gN 4) (gNC (gN 5) gN0))) (sIf (cB (eOp iGt (eOp iAnd (eV 2) (eCall m_top_of [] (aCons (eV 4) aNil))) (eC (.int 0)))) (sPar 2 3 (aCons (eOp iXor (eV 2) (eV 4)) (aCons (eOp iXor (eV 3) (eV 5)) aNil))) sNil))
    (sRet (eIf (cB (eOp fEq (eV 2) (eC (.int 0)))) (eV 3) (eC .non)))))
noncomputable def m_Fold_kernel : MFn := mFn 1 (sRetF (fCall m_basis_of [] (aCons (eOp fIx (eCall m_traced [] (aCons (eFld "Fold" "lines" (eV 0)) aNil)) (eC (.int 1))) aNil)))
noncomputable def m_Fold_least : MFn := mFn 3 (sSeq (sAsg (eCall m_trail_to [] (aCons (eFld "Fold" "lines" (eV 0)) (aCons (eV 1) aNil))) (gN 2))
    (sRet (eIf (cB (eOp fIs (eV 2) (eC .non))) (eC .non) (eCall m_reduced [] (aCons (eV 2) (aCons (eMeth "Fold" "kernel" m_Fold_kernel [] (eV 0) aNil) aNil))))))
noncomputable def m_Fold_back : MFn := mFn 2 (sSeq (sIf (cNot (cB (eMeth "Fold" "onto" m_Fold_onto [] (eV 0) aNil))) (sRaise "NotOnto") sNil)
    (sRet (eNew "Fold" m_FoldU_initU [] (aCons (mFrz (fLc (itR1 (aCons (eFld "Fold" "wide" (eV 0)) aNil)) (gN 1) cYes (eMeth "Fold" "least" m_Fold_least [] (eV 0) (aCons (eOp iShl (eC (.int 1)) (eV 1)) aNil)) [1])) (aCons (eCB fLen (aCons (eFld "Fold" "lines" (eV 0)) aNil)) aNil)))))
noncomputable def m_span_of : MFn := mFn 4 (sSeq (sAsg (mFrz (fLst (aCons (eC (.int 0)) aNil))) (gN 1))
    (sSeq (sFor (itL (eV 0)) (gN 2) (sAsg (eOp dAdd (eV 1) (mFrz (fLc (itL (eV 1)) (gN 3) cYes (eOp iXor (eV 3) (eV 2)) [3]))) (gN 1)))
    (sRetF (fCB fSorted (aCons (eV 1) aNil)))))
noncomputable def m_through : MFn := mFn 4 (sSeq (sIf (cB (eOp fNe (eMeth "Fold" "many" m_Fold_many [] (eV 0) aNil) (eMeth "Fold" "many" m_Fold_many [] (eV 1) aNil))) (sRaise "Unfit") sNil)
    (sSeq (sAsg (eMeth "Fold" "back" m_Fold_back [] (eV 0) aNil) (gN 2))
    (sSeq (sFor (itL (eCall m_span_of [] (aCons (eMeth "Fold" "kernel" m_Fold_kernel [] (eV 0) aNil) aNil))) (gN 3) (sIf (cB (eOp fNe (eMeth "Fold" "to" m_Fold_to [] (eV 1) (aCons (eV 3) aNil)) (eC (.int 0)))) (sRet (eTup (aCons (eC (.str "parted")) (aCons (eV 3) aNil)))) sNil))
    (sRet (eTup (aCons (eC (.str "through")) (aCons (eMeth "Fold" "then" m_Fold_then [] (eV 2) (aCons (eV 1) aNil)) aNil)))))))
noncomputable def m_FoldU_eqU : MFn := mFn 2 (sRet (eAnd (eIsC "Fold" (aCons (eV 1) (aCons (eC (.cls "Fold")) aNil))) (eAnd (eOp fEq (eFld "Fold" "lines" (eV 0)) (eFld "Fold" "lines" (eV 1))) (eOp fEq (eFld "Fold" "wide" (eV 0)) (eFld "Fold" "wide" (eV 1))))))
noncomputable def m_Fold_single : MFn := mFn 1 (sRet (eOp fEq (eOp fIx (eCall m_traced [] (aCons (eFld "Fold" "lines" (eV 0)) aNil)) (eC (.int 1))) (mFrz (fLst aNil))))
noncomputable def m_need_numbers : MFn := mFn 3 (sFor (itL (eV 0)) (gN 2) (sIf (cOr (cB (eOp iLt (eV 2) (eC (.int 0)))) (cB (eOp iGt (eOp iShr (eV 2) (eV 1)) (eC (.int 0))))) (sRaise "BadNumber") sNil))
noncomputable def m_basis : MFn := mFn 1 (sSeq (sExpr (eCall m_need_numbers [.int 12] (aCons (eV 0) aNil)))
    (sRetF (fCall m_basis_of [] (aCons (eV 0) aNil))))
noncomputable def m_Fold_rows : MFn := mFn 1 (sRet (eFld "Fold" "lines" (eV 0)))
end Fb
/-! What the machine's defs answer. -/
namespace Mm
open PySem L2
/-! ### comparing -/
theorem pyAll_ints : ∀ xs : List Int, pyAll (xs.map D.int) = some (xs.map PyData.int)
  | [] => by simp [pyAll]
  | x :: xs => by simp [pyAll, D.py, pyAll_ints xs]
theorem canLay_ints : ∀ xs : List Int, PyData.canLayAll0 (xs.map PyData.int) = true
  | [] => by simp [PyData.canLayAll0]
  | x :: xs => by simp [PyData.canLayAll0, PyData.canLay0, canLay_ints xs]
theorem depth_ints : ∀ xs : List Int, PyData.depthAll (xs.map PyData.int) = 0
  | [] => by simp [PyData.depthAll]
  | x :: xs => by simp [PyData.depthAll, PyData.depth, depth_ints xs]
theorem eqv_ints : ∀ xs ys : List Int, PyData.eqvAll (xs.map PyData.int) (ys.map PyData.int) = decide (xs = ys)
  | [], [] => by simp [PyData.eqvAll]
  | [], y :: ys => by simp [PyData.eqvAll]
  | x :: xs, [] => by simp [PyData.eqvAll]
  | x :: xs, y :: ys => by
    rw [List.map_cons, List.map_cons, PyData.eqvAll, eqv_ints xs ys, PyData.eqv]
    by_cases h : x = y <;> by_cases h2 : xs = ys <;> simp [h, h2]
theorem shaped_list (xs : List Int) : SeqAt.shaped (.list (xs.map PyData.int)) = true := by simp [SeqAt.shaped, PyData.canLay0, PyData.depth, canLay_ints, depth_ints]
theorem shaped_tup (xs : List Int) : SeqAt.shaped (.tuple (xs.map PyData.int)) = true := by simp [SeqAt.shaped, PyData.canLay0, PyData.depth, canLay_ints, depth_ints]
theorem shaped_int (x : Int) : SeqAt.shaped (.int x) = true := by simp [SeqAt.shaped, PyData.canLay0, PyData.depth]
theorem shaped_bool (x : Bool) : SeqAt.shaped (.bool x) = true := by simp [SeqAt.shaped, PyData.canLay0, PyData.depth]
@[simp] theorem fEq_int (S : Sto) (i j : Int) : fEq S (.int i) (.int j) = some (.bl (decide (i = j))) := by
  simp [fEq, D.py, shaped_int, PyData.eqv]
  rfl
@[simp] theorem fNe_int (S : Sto) (i j : Int) : fNe S (.int i) (.int j) = some (.bl (!decide (i = j))) := by
  simp [fNe, D.py, shaped_int, PyData.eqv]
  rfl
@[simp] theorem fEq_bl (S : Sto) (i j : Bool) : fEq S (.bl i) (.bl j) = some (.bl (i == j)) := by
  simp [fEq, D.py, shaped_bool, PyData.eqv]
@[simp] theorem fNe_bl (S : Sto) (i j : Bool) : fNe S (.bl i) (.bl j) = some (.bl (!(i == j))) := by
  simp [fNe, D.py, shaped_bool, PyData.eqv]
theorem fEq_lstI (S : Sto) (xs ys : List Int) : fEq S (.lst (xs.map D.int)) (.lst (ys.map D.int)) = some (.bl (decide (xs = ys))) := by
  simp [fEq, D.py, pyAll_ints, shaped_list, PyData.eqv, eqv_ints]
theorem fEq_tupI (S : Sto) (xs ys : List Int) : fEq S (.tup (xs.map D.int)) (.tup (ys.map D.int)) = some (.bl (decide (xs = ys))) := by
  simp [fEq, D.py, pyAll_ints, shaped_tup, PyData.eqv, eqv_ints]
theorem fNe_lstI (S : Sto) (xs ys : List Int) : fNe S (.lst (xs.map D.int)) (.lst (ys.map D.int)) = some (.bl (!decide (xs = ys))) := by
  simp [fNe, D.py, pyAll_ints, shaped_list, PyData.eqv, eqv_ints]
theorem fNe_tupI (S : Sto) (xs ys : List Int) : fNe S (.tup (xs.map D.int)) (.tup (ys.map D.int)) = some (.bl (!decide (xs = ys))) := by
  simp [fNe, D.py, pyAll_ints, shaped_tup, PyData.eqv, eqv_ints]
theorem nl_eq (xs : List Nat) : nl xs = (xs.map Int.ofNat).map D.int := by simp [nl]
theorem ofNat_inj {xs ys : List Nat} : xs.map Int.ofNat = ys.map Int.ofNat ↔ xs = ys := by
  constructor
  · intro h
    have := congrArg (List.map Int.toNat) h
    rw [List.map_map, List.map_map] at this
    have e : Int.toNat ∘ Int.ofNat = id := by funext x; rfl
    simpa [e] using this
  · rintro rfl
    rfl
@[simp] theorem fEq_lst (S : Sto) (xs ys : List Nat) : fEq S (.lst (nl xs)) (.lst (nl ys)) = some (.bl (decide (xs = ys))) := by
  rw [nl_eq, nl_eq, fEq_lstI]
  congr 2
  exact decide_eq_decide.mpr ofNat_inj
@[simp] theorem fEq_tup (S : Sto) (xs ys : List Nat) : fEq S (.tup (nl xs)) (.tup (nl ys)) = some (.bl (decide (xs = ys))) := by
  rw [nl_eq, nl_eq, fEq_tupI]
  congr 2
  exact decide_eq_decide.mpr ofNat_inj
@[simp] theorem fEq_lst0 (S : Sto) (xs : List Nat) : fEq S (.lst (nl xs)) (.lst []) = some (.bl (decide (xs = []))) := fEq_lst S xs []
@[simp] theorem fNe_lst (S : Sto) (xs ys : List Nat) : fNe S (.lst (nl xs)) (.lst (nl ys)) = some (.bl (!decide (xs = ys))) := by
  rw [nl_eq, nl_eq, fNe_lstI]
  congr 3
  exact decide_eq_decide.mpr ofNat_inj
@[simp] theorem fNe_tup (S : Sto) (xs ys : List Nat) : fNe S (.tup (nl xs)) (.tup (nl ys)) = some (.bl (!decide (xs = ys))) := by
  rw [nl_eq, nl_eq, fNe_tupI]
  congr 3
  exact decide_eq_decide.mpr ofNat_inj
/-! ### sorting -/
theorem intsOf_ints : ∀ xs : List Int, intsOf (xs.map D.int) = some xs
  | [] => rfl
  | x :: xs => by simp [intsOf, intsOf_ints xs]
@[simp] theorem intsOf_nl (xs : List Nat) : intsOf (nl xs) = some (xs.map Int.ofNat) := by
  rw [nl_eq, intsOf_ints]
def nins (x : Nat) : List Nat → List Nat
  | [] => [x]
  | y :: ys => if x ≤ y then x :: y :: ys else y :: nins x ys
def nsrt : List Nat → List Nat
  | [] => []
  | x :: xs => nins x (nsrt xs)
theorem ins1_nat (x : Nat) : ∀ ys : List Nat, ins1 (Int.ofNat x) (ys.map Int.ofNat) = (nins x ys).map Int.ofNat
  | [] => rfl
  | y :: ys => by
    rw [List.map_cons, ins1, nins, ins1_nat x ys]
    by_cases h : x ≤ y
    · rw [if_pos h, if_pos (by simpa using h)]
      rfl
    · rw [if_neg h, if_neg (by simpa using h)]
      rfl
theorem isrt_nat : ∀ xs : List Nat, isrt (xs.map Int.ofNat) = (nsrt xs).map Int.ofNat
  | [] => rfl
  | x :: xs => by rw [List.map_cons, isrt, isrt_nat xs, nsrt, ins1_nat]
@[simp] theorem fSorted_nl (S : Sto) (xs : List Nat) : fSorted S [.lst (nl xs)] = some (.lst (nl (nsrt xs))) := by
  rw [fSorted_lst, intsOf_nl, Option.map_some, isrt_nat, nl_eq]
theorem nins_perm (x : Nat) : ∀ ys : List Nat, (nins x ys).Perm (x :: ys)
  | [] => .refl _
  | y :: ys => by
    unfold nins
    split
    · exact .refl _
    · exact ((nins_perm x ys).cons y).trans (.swap x y ys)
theorem nsrt_perm : ∀ xs : List Nat, (nsrt xs).Perm xs
  | [] => .refl _
  | x :: xs => (nins_perm x _).trans ((nsrt_perm xs).cons x)
theorem nins_sorted (x : Nat) : ∀ ys : List Nat, ys.Pairwise (· ≤ ·) → (nins x ys).Pairwise (· ≤ ·)
  | [], _ => List.pairwise_singleton _ _
  | y :: ys, h => by
    obtain ⟨h1, h2⟩ := List.pairwise_cons.mp h
    unfold nins
    split
    · rename_i l
      refine List.pairwise_cons.mpr ⟨fun z hz => ?_, h⟩
      rcases List.mem_cons.mp hz with e | hz
      · rw [e]
        exact l
      · exact Nat.le_trans l (h1 z hz)
    · rename_i l
      refine List.pairwise_cons.mpr ⟨fun z hz => ?_, nins_sorted x ys h2⟩
      rcases List.mem_cons.mp ((nins_perm x ys).mem_iff.mp hz) with e | hz
      · rw [e]
        omega
      · exact h1 z hz
theorem nsrt_sorted : ∀ xs : List Nat, (nsrt xs).Pairwise (· ≤ ·)
  | [] => .nil
  | x :: xs => nins_sorted x _ (nsrt_sorted xs)
theorem nsrt_eq {xs ys : List Nat} (h : xs.Perm ys) : nsrt xs = nsrt ys := List.Perm.eq_of_pairwise (fun a b _ _ h1 h2 => Nat.le_antisymm h1 h2) (nsrt_sorted xs) (nsrt_sorted ys) ((nsrt_perm xs).trans (h.trans (nsrt_perm ys).symm))
@[simp] theorem nsrt_len (xs : List Nat) : (nsrt xs).length = xs.length := (nsrt_perm xs).length_eq
end Mm
namespace Fb
open PySem L2 Mm Gf
theorem nl_take (xs : List Nat) (k : Nat) : (nl xs).take k = nl (xs.take k) := by simp [nl]
theorem nl_map {xs : List Nat} {f : D → D} {g : Nat → Nat} (h : ∀ x ∈ xs, f (nd x) = nd (g x)) : (nl xs).map f = nl (xs.map g) := by
  simp only [nl, List.map_map]
  exact List.map_congr_left fun x hx => h x hx
theorem mem_nl {d : D} {xs : List Nat} : d ∈ nl xs ↔ ∃ x ∈ xs, d = nd x := by
  unfold nl
  rw [List.mem_map]
  constructor
  · rintro ⟨x, hx, e⟩
    exact ⟨x, hx, e.symm⟩
  · rintro ⟨x, hx, e⟩
    exact ⟨x, hx, e.symm⟩
theorem and_pow_pos (l k : Nat) : decide ((0 : Int) < ((l &&& 2 ^ k : Nat) : Int)) = l.testBit k := by
  cases z : l.testBit k with
  | true =>
    have : (l &&& 2 ^ k).testBit k = true := by rw [Nat.testBit_and, z, Nat.testBit_two_pow]; simp
    have := ne_of_bit this
    exact decide_eq_true (by omega)
  | false =>
    have : l &&& 2 ^ k = 0 := Nat.eq_of_testBit_eq fun i => by
      rw [Nat.testBit_and, Nat.testBit_two_pow]
      by_cases e : k = i
      · subst e
        simp [z]
      · simp [e]
    rw [this]
    rfl
theorem powB_of {i : Int} {j : Int} (h0 : 0 ≤ j) (h1 : j ≤ 1000000) (hi : i.natAbs < 2 ^ 64) : powB i j = true := by
  unfold powB
  rw [decide_eq_true h0, bBnd_iff.mpr (show j.natAbs ≤ 1000000 by omega), bBnd_iff.mpr (show i.natAbs ≤ 18446744073709551615 by omega)]
  rfl
theorem top_ok (S : Sto) {n : Nat} (h : n ≠ 0) (hb : n.log2 ≤ 1000) : m_top_of [.int n] S = .ok (.val (nd (2 ^ n.log2))) S := by
  have e : ((n.log2 + 1 : Nat) : Int) - 1 = ((n.log2 : Nat) : Int) := by omega
  simp [m_top_of, bits_nat h]
  rw [if_pos (powB_of (by omega) (by omega) (by decide))]
  simp
theorem blended_ok (S : Sto) (xs : List Nat) : m_blended [.lst (nl xs)] S = .ok (.val (nd (xs.foldl (· ^^^ ·) 0))) S := by
  have key := forL_inv (I := fun ds env S' => S' = S ∧ ∃ (l : Nat) (bs : List Nat) (s : Sl), ds = nl bs ∧ env = [.v (.lst (nl xs)), .v (nd l), s] ∧ bs.foldl (· ^^^ ·) l = xs.foldl (· ^^^ ·) 0) (g := gN 2) (b := sAsg (eOp iXor (eV 1) (eV 2)) (gN 1))
    (fun d ds env S' h => by
      obtain ⟨rfl, l, bs, s, e1, rfl, e3⟩ := h
      cases bs with
      | nil => simp at e1
      | cons b bs =>
        simp at e1
        obtain ⟨rfl, rfl⟩ := e1
        refine ⟨_, rfl, [.v (.lst (nl xs)), .v (nd (l ^^^ b)), .v (nd b)], S', .inl ?_, rfl, _, bs, _, rfl, rfl, e3⟩
        simp) (nl xs) [.v (.lst (nl xs)), .v (nd 0), .no] S ⟨rfl, 0, xs, .no, rfl, rfl, rfl⟩
  obtain ⟨e', S', h1, rfl, l, bs, s, e1, rfl, e3⟩ := key
  have : bs = [] := by
    cases bs with
    | nil => rfl
    | cons b bs => simp at e1
  subst this
  simp [m_blended]
  have h1' : forL (gN 2) (sAsg (eOp iXor (eV 1) (eV 2)) (gN 1)) (nl xs) [.v (.lst (nl xs)), .v (.int 0), .no] S' = .nx [.v (.lst (nl xs)), .v (nd l), s] S' := h1
  rw [h1']
  simp at e3
  simp [e3]
end Fb
namespace Mm
open PySem L2
/-- a loop that leaves the store alone -/
theorem forM {α β σ : Type} {g : MG} {b : MS} {S : Sto} (φ : β → D) (E : α → σ → Envr) (f : α → β → α) (P : α → Prop) : ∀ (xs : List β),
    (∀ a s x, x ∈ xs → P a → ∃ e1, g (φ x) (E a s) = some e1 ∧ ∃ s2, b e1 S = .nx (E (f a x) s2) S ∧ P (f a x)) →
    ∀ a s, P a → ∃ s2, forL g b (xs.map φ) (E a s) S = .nx (E (xs.foldl f a) s2) S ∧ P (xs.foldl f a)
  | [], _, a, s, h => ⟨s, rfl, h⟩
  | x :: xs, step, a, s, h => by
    obtain ⟨e1, h1, s2, h2, h3⟩ := step a s x List.mem_cons_self h
    obtain ⟨s3, h4, h5⟩ := forM φ E f P xs (fun a s y hy => step a s y (List.mem_cons_of_mem _ hy)) (f a x) s2 h3
    refine ⟨s3, ?_, h5⟩
    rw [List.map_cons, forL, h1]
    simp only [h2]
    exact h4
@[simp] theorem wipe_nil (env : Envr) : wipeE env [] = env.map hideS := rfl
@[simp] theorem wipe_cons (env : Envr) (v : Nat) (vs : List Nat) : wipeE env (v :: vs) = (wipeE env vs).set v .no := rfl
@[simp] theorem hide_v (d : D) : hideS (.v d) = .v d := rfl
@[simp] theorem hide_o (d : Cell) : hideS (.o d) = .no := rfl
@[simp] theorem hide_no : hideS .no = .no := rfl
end Mm
namespace Fb
open PySem L2 Mm Gf
@[simp] theorem gt_band (a k : Nat) : (0 < Builtin.bitAnd (a : Int) (2 ^ k)) ↔ a.testBit k = true := by
  have h := and_pow_pos a k
  have e : (2 : Int) ^ k = ((2 ^ k : Nat) : Int) := by simp
  rw [e, band_nat]
  rw [← h]
  simp
theorem reduced_ok (S : Sto) (x : Nat) (B : List Nat) (h : ∀ b ∈ B, b ≠ 0 ∧ b.log2 ≤ 1000) : m_reduced [.int x, .lst (nl B)] S = .ok (.val (nd (red x B))) S := by
  obtain ⟨s2, e, _⟩ := forM (S := S) (g := gN 3) (b := sIf (cB (eOp iGt (eOp iAnd (eV 2) (eCall m_top_of [] (aCons (eV 3) aNil))) (eC (.int 0)))) (sAsg (eOp iXor (eV 2) (eV 3)) (gN 2)) sNil)
    nd (fun (l : Nat) (s : Sl) => [.v (nd x), .v (.lst (nl B)), .v (nd l), s]) rst (fun _ => True) B (fun a s b hb _ => by
      refine ⟨[.v (nd x), .v (.lst (nl B)), .v (nd a), .v (nd b)], rfl, .v (nd b), ?_, trivial⟩
      simp [top_ok S (h b hb).1 (h b hb).2]
      unfold rst
      cases a.testBit b.log2 <;> simp) x .no trivial
  simp [m_reduced]
  have e' : forL (gN 3) (sIf (cB (eOp iGt (eOp iAnd (eV 2) (eCall m_top_of [] (aCons (eV 3) aNil))) (eC (.int 0)))) (sAsg (eOp iXor (eV 2) (eV 3)) (gN 2)) sNil) (nl B) [.v (.int x), .v (.lst (nl B)), .v (.int x), .no] S = _ := e
  rw [e']
  rfl

/-! ### rows picked -/
def sel (x : Nat) : Nat → List Nat → List Nat
  | _, [] => []
  | k, r :: rs => if x.testBit k then r :: sel x (k + 1) rs else sel x (k + 1) rs
theorem xor_fold : ∀ (xs : List Nat) (a : Nat), xs.foldl (· ^^^ ·) a = a ^^^ xs.foldl (· ^^^ ·) 0
  | [], a => by simp
  | x :: xs, a => by
    rw [List.foldl_cons, List.foldl_cons, xor_fold xs (a ^^^ x), xor_fold xs (0 ^^^ x), Nat.zero_xor, Nat.xor_assoc]
theorem sel_app (x : Nat) : ∀ (rs : List Nat) (k : Nat), (sel x k rs).foldl (· ^^^ ·) 0 = app rs (x / 2 ^ k)
  | [], _ => rfl
  | r :: rs, k => by
    have e : (x / 2 ^ k).testBit 0 = x.testBit k := by rw [Nat.testBit_div_two_pow]; simp
    have e2 : x / 2 ^ k / 2 = x / 2 ^ (k + 1) := by rw [Nat.div_div_eq_div_mul, Nat.pow_succ]
    rw [app_cons, e, e2, ← sel_app x rs (k + 1), sel]
    split
    · rw [List.foldl_cons, xor_fold, Nat.zero_xor]
    · rw [Nat.zero_xor]
@[simp] theorem bit_and_one (x k : Nat) : (Builtin.bitAnd ((x : Int) >>> k) 1 = 1) ↔ x.testBit k = true := by
  have e : ((x : Int) >>> k) = ((x >>> k : Nat) : Int) := rfl
  have : Builtin.bitAnd (((x >>> k : Nat) : Int)) 1 = ((x >>> k &&& 1 : Nat) : Int) := band_nat (x >>> k) 1
  rw [e, this, Nat.and_one_is_mod, Nat.testBit_eq_decide_div_mod_eq, Nat.shiftRight_eq_div_pow, decide_eq_true_eq]
  omega
theorem picked_ok (S : Sto) (rs : List Nat) (x : Nat) (hl : rs.length ≤ 1000) (a : D) (ha : a = .tup (nl rs) ∨ a = .lst (nl rs)) : m_picked [a, .int x] S = .ok (.val (nd (app rs x))) S := by
  have key : ∀ (ys : List Nat) (k : Nat), lcR (gT (gNC (gN 2) (gNC (gN 3) gN0))) (cB (eOp fEq (eOp iAnd (eOp iShr (eV 1) (eV 2)) (eC (.int 1))) (eC (.int 1)))) (eV 3) [.v a, .v (nd x), .no, .no] (enumD k (nl ys)) S = .ok (nl (sel x k ys)) S := fun ys => by
    induction ys with
    | nil => intro k; rfl
    | cons y ys ih =>
      intro k
      rw [nl_cons, enumD, lcR]
      simp [ih]
      cases z : x.testBit k <;> simp [sel, z, ih]
  have key0 := key rs 0
  have len : ∀ (ys : List Nat) (k : Nat), (sel x k ys).length ≤ ys.length := fun ys => by
    induction ys with
    | nil => intro k; simp [sel]
    | cons y ys ih =>
      intro k
      have := ih (k + 1)
      unfold sel
      split <;> simp <;> omega
  have l0 := len rs 0
  have sz := szB_of (n := (sel x 0 rs).length) (by omega)
  have b := blended_ok S (sel x 0 rs)
  rw [sel_app, Nat.pow_zero, Nat.div_one] at b
  rcases ha with rfl | rfl <;> simp [m_picked, key0, sz, b]
/-! ### bases -/
theorem small_log {w b : Nat} (hw : w ≤ 1000) (h0 : b ≠ 0) (h : b < 2 ^ w) : b.log2 ≤ 1000 := by
  have := (Nat.log2_lt h0).mpr h
  omega
def Small (w : Nat) (F : List Nat) : Prop := RR F ∧ ∀ b ∈ F, b < 2 ^ w
theorem Small.bst {w x : Nat} {F : List Nat} (h : Small w F) (hx : x < 2 ^ w) : Small w (bst F x) := by
  refine ⟨h.1.bst x, fun b hb => ?_⟩
  have := (sp_bst h.1).mp (Sp.mem hb)
  exact this.lt fun c hc => by
    rcases List.mem_cons.mp hc with e | hc
    · rw [e]
      exact hx
    · exact h.2 c hc
theorem basis_of_ok (S : Sto) {w : Nat} (xs : List Nat) (hw : w ≤ 1000) (h : ∀ x ∈ xs, x < 2 ^ w) (a : D) (ha : a = .tup (nl xs) ∨ a = .lst (nl xs)) : m_basis_of [a] S = .ok (.own (.lst (nl (nsrt (bas xs))))) S := by
  obtain ⟨s2, e, _⟩ := forM (S := S) (g := gN 2) (b := (sSeq (sAsg (eCall m_reduced [] (aCons (eV 2) (aCons (eV 1) aNil))) (gN 3))
    (sIf (cB (eOp iGt (eV 3) (eC (.int 0)))) (sSeq (sAsg (eCall m_top_of [] (aCons (eV 3) aNil)) (gN 4))
    (sAsg (eOp dAdd (mFrz (fLc (itL (eV 1)) (gN 5) cYes (eIf (cB (eOp iGt (eOp iAnd (eV 5) (eV 4)) (eC (.int 0)))) (eOp iXor (eV 5) (eV 3)) (eV 5)) [5])) (mFrz (fLst (aCons (eV 3) aNil)))) (gN 1))) sNil)))
    nd (fun (F : List Nat) (s : Sl × Sl × Sl) => [.v a, .v (.lst (nl F)), s.1, s.2.1, s.2.2, .no]) bst (Small w) xs (fun F s x hx hF => by
      refine ⟨[.v a, .v (.lst (nl F)), .v (nd x), s.2.1, s.2.2, .no], rfl, ?_⟩
      have r := reduced_ok S x F fun b hb => ⟨hF.1.1 b hb, small_log hw (hF.1.1 b hb) (hF.2 b hb)⟩
      have l := hF.1.len_le hF.2
      have rl : red x F < 2 ^ w := red_lt hF.2 (h x hx)
      by_cases z : red x F = 0
      · refine ⟨(.v (nd x), .v (nd (red x F)), s.2.2), ?_, hF.bst (h x hx)⟩
        have e : bst F x = F := if_pos z
        rw [e]
        simp [r, z]
      · refine ⟨(.v (nd x), .v (nd (red x F)), .v (nd (2 ^ (red x F).log2))), ?_, hF.bst (h x hx)⟩
        have e : bst F x = F.map (cst (red x F)) ++ [red x F] := if_neg z
        have t := top_ok S z (small_log hw z rl)
        have lc := lcR_map (S := S) (g := gN 5) (tt := cYes) (te := eIf (cB (eOp iGt (eOp iAnd (eV 5) (eV 4)) (eC (.int 0)))) (eOp iXor (eV 5) (eV 3)) (eV 5)) (env := [.v a, .v (.lst (nl F)), .v (nd x), .v (nd (red x F)), .v (nd (2 ^ (red x F).log2)), .no]) (fun _ => true) (fun d => match d with
          | .int i => nd (cst (red x F) i.toNat)
          | d => d) (nl F) (fun d hd => by
            obtain ⟨y, hy, rfl⟩ := mem_nl.mp hd
            refine ⟨[.v a, .v (.lst (nl F)), .v (nd x), .v (nd (red x F)), .v (nd (2 ^ (red x F).log2)), .v (nd y)], rfl, rfl, fun _ => ?_⟩
            simp
            unfold cst
            cases y.testBit (red x F).log2 <;> simp)
        rw [List.filter_eq_self.mpr (fun _ _ => rfl), nl_map (g := cst (red x F)) (fun y _ => by simp)] at lc
        have s1 := szB_of (n := F.length) (by omega)
        have s2 := szB_of (n := F.length + 1) (by omega)
        have s3 := szB_of (n := 1) (by omega)
        have pos : 0 < red x F := Nat.pos_of_ne_zero z
        simp [r, t, lc, s1, s2, s3, e, pos]
        exact nl_append _ [_]) [] (.no, .no, .no) ⟨.nil, fun _ h => by simp at h⟩
  have e' := e
  have fl : xs.foldl bst [] = bas xs := rfl
  rw [fl] at e'
  have s0 := szB_of (n := 0) (by omega)
  rcases ha with rfl | rfl <;> (simp [m_basis_of, s0]; erw [e']; simp)
end Fb
namespace Mm
open PySem L2
/-- the same, what holds told by what is left -/
theorem forR {α β σ : Type} {g : MG} {b : MS} {S : Sto} (φ : β → D) (E : α → σ → Envr) (f : α → β → α) (P : List β → α → Prop) : ∀ (xs : List β),
    (∀ a s x r, P (x :: r) a → ∃ e1, g (φ x) (E a s) = some e1 ∧ ∃ s2, b e1 S = .nx (E (f a x) s2) S ∧ P r (f a x)) →
    ∀ a s, P xs a → ∃ s2, forL g b (xs.map φ) (E a s) S = .nx (E (xs.foldl f a) s2) S ∧ P [] (xs.foldl f a)
  | [], _, a, s, h => ⟨s, rfl, h⟩
  | x :: xs, step, a, s, h => by
    obtain ⟨e1, h1, s2, h2, h3⟩ := step a s x xs h
    obtain ⟨s3, h4, h5⟩ := forR φ E f P xs step (f a x) s2 h3
    refine ⟨s3, ?_, h5⟩
    rw [List.map_cons, forL, h1]
    simp only [h2]
    exact h4
theorem atI_nat {α : Type} (xs : List α) (k : Nat) : atI xs (k : Int) = xs[k]? := by
  unfold atI ixN
  rw [if_pos (Int.natCast_nonneg k)]
  by_cases h : k < xs.length
  · rw [if_pos (by omega)]
    simp
  · rw [if_neg (by omega)]
    simp
    omega
@[simp] theorem atI_0 {α : Type} (x : α) (xs : List α) : atI (x :: xs) 0 = some x := atI_nat (x :: xs) 0
@[simp] theorem atI_1 {α : Type} (x y : α) (xs : List α) : atI (x :: y :: xs) 1 = some y := atI_nat (x :: y :: xs) 1
@[simp] theorem atI_2 {α : Type} (x y z : α) (xs : List α) : atI (x :: y :: z :: xs) 2 = some z := atI_nat (x :: y :: z :: xs) 2
@[simp] theorem atI_3 {α : Type} (x y z u : α) (xs : List α) : atI (x :: y :: z :: u :: xs) 3 = some u := atI_nat (x :: y :: z :: u :: xs) 3
theorem atI_m1 {α : Type} (xs : List α) (x : α) : atI (xs ++ [x]) (-1) = some x := by
  unfold atI ixN
  rw [if_neg (by omega), if_pos (by simp; omega)]
  simp
  have : ((-1 : Int) + (xs.length + 1)).toNat = xs.length := by omega
  rw [this]
  simp
theorem ixN_of {n j : Nat} (hj : j < n) : ixN n (j : Int) = some j := by
  unfold ixN
  rw [if_pos (by omega), if_pos (by omega)]
  simp
end Mm
namespace Gf
def spl (B : List Nat) : List Nat := B.foldl (fun s b => s ++ s.map (· ^^^ b)) [0]
theorem spl_go : ∀ (B s : List Nat) (x : Nat), x ∈ B.foldl (fun s b => s ++ s.map (· ^^^ b)) s ↔ ∃ y ∈ s, Sp B (x ^^^ y)
  | [], s, x => by
    constructor
    · intro h
      exact ⟨x, h, by rw [Nat.xor_self]; exact .zero _⟩
    · rintro ⟨y, hy, h⟩
      rw [xor_eq_zero (Sp.nil.mp h)]
      exact hy
  | b :: B, s, x => by
    rw [List.foldl_cons, spl_go B]
    constructor
    · rintro ⟨y, hy, h⟩
      rcases List.mem_append.mp hy with hy | hy
      · exact ⟨y, hy, h.tail⟩
      · obtain ⟨z, hz, rfl⟩ := List.mem_map.mp hy
        refine ⟨z, hz, Sp.cons.mpr (.inr ?_)⟩
        rw [Nat.xor_assoc]
        exact h
    · rintro ⟨y, hy, h⟩
      rcases Sp.cons.mp h with h | h
      · exact ⟨y, List.mem_append_left _ hy, h⟩
      · refine ⟨y ^^^ b, List.mem_append_right _ (List.mem_map_of_mem hy), ?_⟩
        rw [← Nat.xor_assoc]
        exact h
theorem mem_spl {B : List Nat} {x : Nat} : x ∈ spl B ↔ Sp B x := by
  unfold spl
  rw [spl_go]
  constructor
  · rintro ⟨y, hy, h⟩
    simp at hy
    rwa [hy, Nat.xor_zero] at h
  · intro h
    exact ⟨0, by simp, by rwa [Nat.xor_zero]⟩
theorem spl_len_go : ∀ (B s : List Nat), (B.foldl (fun s b => s ++ s.map (· ^^^ b)) s).length = s.length * 2 ^ B.length
  | [], s => by simp
  | b :: B, s => by
    rw [List.foldl_cons, spl_len_go B, List.length_cons, Nat.pow_succ, List.length_append, List.length_map]
    have : s.length + s.length = s.length * 2 := by omega
    rw [this, Nat.mul_assoc, Nat.mul_comm 2]
theorem spl_len (B : List Nat) : (spl B).length = 2 ^ B.length := by
  unfold spl
  rw [spl_len_go]
  simp
end Gf
namespace Fb
open PySem L2 Mm Gf
theorem span_of_ok (S : Sto) (B : List Nat) (hl : B.length ≤ 16) : m_span_of [.lst (nl B)] S = .ok (.own (.lst (nl (nsrt (spl B))))) S := by
  obtain ⟨s2, e, _⟩ := forR (S := S) (g := gN 2) (b := sAsg (eOp dAdd (eV 1) (mFrz (fLc (itL (eV 1)) (gN 3) cYes (eOp iXor (eV 3) (eV 2)) [3]))) (gN 1))
    nd (fun (s : List Nat) (q : Sl) => [.v (.lst (nl B)), .v (.lst (nl s)), q, .no]) (fun s b => s ++ s.map (· ^^^ b)) (fun r s => s.length * 2 ^ r.length ≤ 65536) B (fun s q b r h => by
      refine ⟨[.v (.lst (nl B)), .v (.lst (nl s)), .v (nd b), .no], rfl, .v (nd b), ?_, ?_⟩
      · have lc := lcR_map (S := S) (g := gN 3) (tt := cYes) (te := eOp iXor (eV 3) (eV 2)) (env := [.v (.lst (nl B)), .v (.lst (nl s)), .v (nd b), .no]) (fun _ => true) (fun d => match d with
          | .int i => nd (i.toNat ^^^ b)
          | d => d) (nl s) (fun d hd => by
            obtain ⟨y, hy, rfl⟩ := mem_nl.mp hd
            refine ⟨[.v (.lst (nl B)), .v (.lst (nl s)), .v (nd b), .v (nd y)], rfl, rfl, fun _ => ?_⟩
            simp)
        rw [List.filter_eq_self.mpr (fun _ _ => rfl), nl_map (g := (· ^^^ b)) (fun y _ => by simp)] at lc
        rw [List.length_cons, Nat.pow_succ] at h
        have h1 : s.length * 2 ≤ s.length * (2 ^ r.length * 2) := Nat.mul_le_mul_left _ (by have := Nat.two_pow_pos r.length; omega)
        have z1 := szB_of (n := s.length) (by omega)
        have z2 := szB_of (n := s.length + s.length) (by omega)
        simp [lc, z1, z2]
      · rw [List.length_cons, Nat.pow_succ] at h
        rw [List.length_append, List.length_map]
        have : (s.length + s.length) * 2 ^ r.length = s.length * (2 ^ r.length * 2) := by
          rw [← Nat.mul_two, Nat.mul_assoc, Nat.mul_comm 2]
        omega) [0] .no (by
          have : 2 ^ B.length ≤ 2 ^ 16 := Nat.pow_le_pow_right (by decide) hl
          simp
          omega)
  have e' : forL (gN 2) (sAsg (eOp dAdd (eV 1) (mFrz (fLc (itL (eV 1)) (gN 3) cYes (eOp iXor (eV 3) (eV 2)) [3]))) (gN 1)) (nl B) [.v (.lst (nl B)), .v (.lst [.int 0]), .no, .no] S = .nx [.v (.lst (nl B)), .v (.lst (nl (spl B))), s2, .no] S := e
  have s0 := szB_of (n := 1) (by omega)
  simp [m_span_of, s0, e']
/-! ### traced -/
def pd (p : PP) : D := .tup [nd p.1, nd p.2]
def enumN (k : Nat) : List Nat → List PP
  | [] => []
  | x :: xs => (k, x) :: enumN (k + 1) xs
theorem enumN_eq : ∀ (xs : List Nat) (k : Nat), enumD k (nl xs) = (enumN k xs).map pd
  | [], _ => rfl
  | x :: xs, k => by
    rw [nl_cons, enumD, enumN_eq xs (k + 1)]
    rfl
theorem tgo_fold : ∀ (xs : List Nat) (k : Nat) (st : TS2), tgo xs k st = (enumN k xs).foldl (fun st p => tstep st p.1 p.2) st
  | [], _, _ => rfl
  | x :: xs, k, st => by
    rw [tgo, tgo_fold xs (k + 1)]
    rfl
theorem enumN_len : ∀ (xs : List Nat) (k : Nat), (enumN k xs).length = xs.length
  | [], _ => rfl
  | x :: xs, k => by simp [enumN, enumN_len xs (k + 1)]
theorem enumN_mem : ∀ (xs : List Nat) (k : Nat) (p : PP), p ∈ enumN k xs → k ≤ p.1 ∧ p.1 < k + xs.length ∧ p.2 ∈ xs
  | [], _, p, h => by simp [enumN] at h
  | x :: xs, k, p, h => by
    rcases List.mem_cons.mp h with e | h
    · rw [e]
      simp
    · have := enumN_mem xs (k + 1) p h
      simp
      exact ⟨by omega, by omega, .inr this.2.2⟩
noncomputable def tFor1 : MS := sFor (itL (eV 1)) (gT (gNC (gN 7) (gNC (gN 8) gN0))) (sIf (cB (eOp iGt (eOp iAnd (eV 5) (eCall m_top_of [] (aCons (eV 7) aNil))) (eC (.int 0)))) (sPar 5 6 (aCons (eOp iXor (eV 5) (eV 7)) (aCons (eOp iXor (eV 6) (eV 8)) aNil))) sNil)
theorem tFor1_ok (S : Sto) {F : List PP} (hF : ∀ p ∈ F, p.1 ≠ 0 ∧ p.1.log2 ≤ 1000) (a s2 s3 s4 s7 s8 s9 s10 : Sl) (l m : Nat) : ∃ s7' s8', tFor1 [a, .v (.lst (F.map pd)), s2, s3, s4, .v (nd l), .v (nd m), s7, s8, s9, s10] S =
    .nx [a, .v (.lst (F.map pd)), s2, s3, s4, .v (nd (tred (l, m) F).1), .v (nd (tred (l, m) F).2), s7', s8', s9, s10] S := by
  obtain ⟨q, e, _⟩ := forM (S := S) (g := gT (gNC (gN 7) (gNC (gN 8) gN0))) (b := sIf (cB (eOp iGt (eOp iAnd (eV 5) (eCall m_top_of [] (aCons (eV 7) aNil))) (eC (.int 0)))) (sPar 5 6 (aCons (eOp iXor (eV 5) (eV 7)) (aCons (eOp iXor (eV 6) (eV 8)) aNil))) sNil)
    pd (fun (p : PP) (q : Sl × Sl) => [a, .v (.lst (F.map pd)), s2, s3, s4, .v (nd p.1), .v (nd p.2), q.1, q.2, s9, s10]) tst (fun _ => True) F (fun p q x hx _ => by
      refine ⟨[a, .v (.lst (F.map pd)), s2, s3, s4, .v (nd p.1), .v (nd p.2), .v (nd x.1), .v (nd x.2), s9, s10], rfl, (.v (nd x.1), .v (nd x.2)), ?_, trivial⟩
      simp [top_ok S (hF x hx).1 (hF x hx).2]
      unfold tst
      cases p.1.testBit x.1.log2 <;> simp) (l, m) (s7, s8) trivial
  refine ⟨q.1, q.2, ?_⟩
  have e' := e
  simp [tFor1]
  exact e
noncomputable def tFor2 : MS := sFor (itL (eV 1)) (gT (gNC (gN 7) (gNC (gN 8) gN0))) (sApp 10 (eIf (cB (eOp iGt (eOp iAnd (eV 7) (eV 9)) (eC (.int 0)))) (eTup (aCons (eOp iXor (eV 7) (eV 5)) (aCons (eOp iXor (eV 8) (eV 6)) aNil))) (eTup (aCons (eV 7) (aCons (eV 8) aNil)))))
theorem app_fold (l : PP) : ∀ (F G : List PP), F.foldl (fun G p => G ++ [wst l p]) G = G ++ F.map (wst l)
  | [], G => by simp
  | p :: F, G => by
    rw [List.foldl_cons, app_fold l F]
    simp
theorem tFor2_ok (S : Sto) {F : List PP} (hF : F.length ≤ 1000) (a s2 s3 s4 s7 s8 : Sl) (l : PP) : ∃ s7' s8', tFor2 [a, .v (.lst (F.map pd)), s2, s3, s4, .v (nd l.1), .v (nd l.2), s7, s8, .v (nd (2 ^ l.1.log2)), .o (.lst [pd l])] S =
    .nx [a, .v (.lst (F.map pd)), s2, s3, s4, .v (nd l.1), .v (nd l.2), s7', s8', .v (nd (2 ^ l.1.log2)), .o (.lst ((l :: F.map (wst l)).map pd))] S := by
  obtain ⟨q, e, _⟩ := forR (S := S) (g := gT (gNC (gN 7) (gNC (gN 8) gN0))) (b := sApp 10 (eIf (cB (eOp iGt (eOp iAnd (eV 7) (eV 9)) (eC (.int 0)))) (eTup (aCons (eOp iXor (eV 7) (eV 5)) (aCons (eOp iXor (eV 8) (eV 6)) aNil))) (eTup (aCons (eV 7) (aCons (eV 8) aNil)))))
    pd (fun (G : List PP) (q : Sl × Sl) => [a, .v (.lst (F.map pd)), s2, s3, s4, .v (nd l.1), .v (nd l.2), q.1, q.2, .v (nd (2 ^ l.1.log2)), .o (.lst (G.map pd))]) (fun G p => G ++ [wst l p]) (fun r G => G.length + r.length ≤ 2000) F (fun G q x r h => by
      refine ⟨[a, .v (.lst (F.map pd)), s2, s3, s4, .v (nd l.1), .v (nd l.2), .v (nd x.1), .v (nd x.2), .v (nd (2 ^ l.1.log2)), .o (.lst (G.map pd))], rfl, (.v (nd x.1), .v (nd x.2)), ?_, by simp at h ⊢; omega⟩
      simp at h
      have z1 := szB_of (n := 2) (by omega)
      have z2 := szB_of (n := G.length + 1) (by omega)
      simp [z1, z2]
      unfold wst pd
      cases z : x.1.testBit l.1.log2 <;> simp [z, z1, z2]) [l] (s7, s8) (by simp; omega)
  refine ⟨q.1, q.2, ?_⟩
  rw [app_fold] at e
  simp [tFor2]
  simpa using e

noncomputable def tBody : MS := sSeq (sPar 5 6 (aCons (eV 4) (aCons (eOp iShl (eC (.int 1)) (eV 3)) aNil)))
    (sSeq tFor1
    (sIf (cB (eOp fEq (eV 5) (eC (.int 0)))) (sApp 2 (eV 6)) (sSeq (sAsg (eCall m_top_of [] (aCons (eV 5) aNil)) (gN 9))
    (sSeq (sOwn 10 (fLst (aCons (eTup (aCons (eV 5) (aCons (eV 6) aNil))) aNil)))
    (sSeq tFor2
    (sFrz 10 (sAsg (eV 10) (gN 1))))))))
theorem m_traced_eq : m_traced = mFn 11 (sSeq (sAsg (mFrz (fLst aNil)) (gN 1))
    (sSeq (sOwn 2 (fLst aNil))
    (sSeq (sFor (itES (aCons (eV 0) aNil)) (gT (gNC (gN 3) (gNC (gN 4) gN0))) tBody)
    (sFrz 2 (sRet (eTup (aCons (eV 1) (aCons (eV 2) aNil)))))))) := rfl
theorem tBody_ok (S : Sto) {w : Nat} (hw : w ≤ 1000) {F : List PP} {I : List Nat} (hF : Small w (F.map (·.1))) (hI : I.length ≤ 1000) (a s5 s6 s7 s8 s9 s10 : Sl) {k x : Nat} (hk : k ≤ 1000) (hx : x < 2 ^ w) :
    ∃ s5' s6' s7' s8' s9' s10', tBody [a, .v (.lst (F.map pd)), .o (.lst (nl I)), .v (nd k), .v (nd x), s5, s6, s7, s8, s9, s10] S =
      .nx [a, .v (.lst ((tstep (F, I) k x).1.map pd)), .o (.lst (nl (tstep (F, I) k x).2)), .v (nd k), .v (nd x), s5', s6', s7', s8', s9', s10'] S := by
  have hF1 : ∀ p ∈ F, p.1 ≠ 0 ∧ p.1.log2 ≤ 1000 := fun p hp => by
    have m : p.1 ∈ F.map (·.1) := List.mem_map_of_mem hp
    exact ⟨hF.1.1 _ m, small_log hw (hF.1.1 _ m) (hF.2 _ m)⟩
  have lF : F.length ≤ w := by simpa using hF.1.len_le hF.2
  have pw := powB_of (i := 1) (j := (k : Int)) (by omega) (by omega) (by decide)
  obtain ⟨s7', s8', e1⟩ := tFor1_ok S hF1 a (.o (.lst (nl I))) (.v (nd k)) (.v (nd x)) s7 s8 s9 s10 x (2 ^ k)
  have f1 := tred_fst F (x, 2 ^ k)
  have lt : (tred (x, 2 ^ k) F).1 < 2 ^ w := by
    rw [f1]
    exact red_lt hF.2 hx
  by_cases z : (tred (x, 2 ^ k) F).1 = 0
  · have et : tstep (F, I) k x = (F, I ++ [(tred (x, 2 ^ k) F).2]) := if_pos z
    have z2 := szB_of (n := I.length + 1) (by omega)
    refine ⟨.v (nd (tred (x, 2 ^ k) F).1), .v (nd (tred (x, 2 ^ k) F).2), s7', s8', s9, s10, ?_⟩
    rw [et]
    simp [tBody, pw]
    erw [e1]
    simp [z, z2]
    exact nl_append _ [_]
  · have et : tstep (F, I) k x = (tred (x, 2 ^ k) F :: F.map (wst (tred (x, 2 ^ k) F)), I) := if_neg z
    have t := top_ok S z (small_log hw z lt)
    have z1 := szB_of (n := 1) (by omega)
    have z2 := szB_of (n := 2) (by omega)
    obtain ⟨s7'', s8'', e2⟩ := tFor2_ok S (F := F) (by omega) a (.o (.lst (nl I))) (.v (nd k)) (.v (nd x)) s7' s8' (tred (x, 2 ^ k) F)
    refine ⟨.v (nd (tred (x, 2 ^ k) F).1), .v (nd (tred (x, 2 ^ k) F).2), s7'', s8'', .v (nd (2 ^ (tred (x, 2 ^ k) F).1.log2)), .v (.lst ((tred (x, 2 ^ k) F :: F.map (wst (tred (x, 2 ^ k) F))).map pd)), ?_⟩
    rw [et]
    simp [tBody, pw]
    erw [e1]
    simp [z, z1, z2, t]
    erw [e2]
    simp
theorem Small.tstep {w k x : Nat} {F : List PP} {I : List Nat} (h : Small w (F.map (·.1))) (hx : x < 2 ^ w) : Small w ((tstep (F, I) k x).1.map (·.1)) := by
  unfold Gf.tstep
  split
  · exact h
  · rename_i z
    have e : ((tred (x, 2 ^ k) F :: F.map (wst (tred (x, 2 ^ k) F))).map (·.1)).Perm (Gf.bst (F.map (·.1)) x) := by
      have f1 := tred_fst F (x, 2 ^ k)
      have z' : red x (F.map (·.1)) ≠ 0 := by
        rw [← f1]
        exact z
      have mp : (F.map (wst (tred (x, 2 ^ k) F))).map (·.1) = (F.map (·.1)).map (cst (tred (x, 2 ^ k) F).1) := by
        rw [List.map_map, List.map_map]
        apply List.map_congr_left
        intro p _
        show (wst _ p).1 = cst _ p.1
        unfold wst cst
        split <;> rfl
      have eb : Gf.bst (F.map (·.1)) x = (F.map (·.1)).map (cst (red x (F.map (·.1)))) ++ [red x (F.map (·.1))] := if_neg z'
      rw [eb, List.map_cons, mp, f1]
      exact (List.perm_append_comm (l₁ := [red x (F.map (·.1))]) (l₂ := (F.map (·.1)).map (cst (red x (F.map (·.1))))))
    exact ⟨(h.bst hx).1.perm e.symm, fun b hb => (h.bst hx).2 b (e.mem_iff.mp hb)⟩
theorem traced_ok (S : Sto) {w : Nat} (hw : w ≤ 1000) (rs : List Nat) (hr : ∀ r ∈ rs, r < 2 ^ w) (hl : rs.length ≤ 900) (a : D) (ha : a = .tup (nl rs) ∨ a = .lst (nl rs)) :
    m_traced [a] S = .ok (.val (.tup [.lst ((tra rs).1.map pd), .lst (nl (tra rs).2)])) S := by
  obtain ⟨q, e, _⟩ := forR (S := S) (g := gT (gNC (gN 3) (gNC (gN 4) gN0))) (b := tBody) pd
    (fun (st : TS2) (q : Sl × Sl × Sl × Sl × Sl × Sl × Sl × Sl) => [.v a, .v (.lst (st.1.map pd)), .o (.lst (nl st.2)), q.1, q.2.1, q.2.2.1, q.2.2.2.1, q.2.2.2.2.1, q.2.2.2.2.2.1, q.2.2.2.2.2.2.1, q.2.2.2.2.2.2.2])
    (fun st p => tstep st p.1 p.2) (fun r st => Small w (st.1.map (·.1)) ∧ st.2.length + r.length ≤ 900 ∧ ∀ p ∈ r, p.1 ≤ 1000 ∧ p.2 < 2 ^ w) (enumN 0 rs) (fun st q x r h => by
      obtain ⟨h1, h2, h3⟩ := h
      have hx := h3 x List.mem_cons_self
      simp at h2
      obtain ⟨s5, s6, s7, s8, s9, s10, eb⟩ := tBody_ok S hw (F := st.1) (I := st.2) h1 (by omega) (.v a) q.2.2.1 q.2.2.2.1 q.2.2.2.2.1 q.2.2.2.2.2.1 q.2.2.2.2.2.2.1 q.2.2.2.2.2.2.2 hx.1 hx.2
      refine ⟨[.v a, .v (.lst (st.1.map pd)), .o (.lst (nl st.2)), .v (nd x.1), .v (nd x.2), q.2.2.1, q.2.2.2.1, q.2.2.2.2.1, q.2.2.2.2.2.1, q.2.2.2.2.2.2.1, q.2.2.2.2.2.2.2], rfl, (.v (nd x.1), .v (nd x.2), s5, s6, s7, s8, s9, s10), eb, h1.tstep hx.2, ?_, fun p hp => h3 p (List.mem_cons_of_mem _ hp)⟩
      unfold tstep
      split <;> simp <;> omega) ([], []) (.no, .no, .no, .no, .no, .no, .no, .no) ⟨⟨.nil, fun _ h => by simp at h⟩, by simpa [enumN_len] using hl, fun p hp => by
        have := enumN_mem rs 0 p hp
        exact ⟨by omega, hr _ this.2.2⟩⟩
  rw [← tgo_fold, ← enumN_eq] at e
  have s0 := szB_of (n := 0) (by omega)
  have s2 := szB_of (n := 2) (by omega)
  have e' : forL (gT (gNC (gN 3) (gNC (gN 4) gN0))) tBody (enumD 0 (nl rs)) [.v a, .v (.lst []), .o (.lst []), .no, .no, .no, .no, .no, .no, .no, .no] S = _ := e
  rw [m_traced_eq]
  rcases ha with rfl | rfl <;> (simp [s0]; rw [e']; simp [s2]; exact ⟨rfl, rfl⟩)
theorem trail_ok (S : Sto) {w : Nat} (hw : w ≤ 1000) (rs : List Nat) (hr : ∀ r ∈ rs, r < 2 ^ w) (hl : rs.length ≤ 900) (a : D) (ha : a = .tup (nl rs) ∨ a = .lst (nl rs)) (x : Nat) :
    m_trail_to [a, .int x] S = .ok (.val (match trail rs x with
      | some m => nd m
      | none => .non)) S := by
  have T := traced_ok S hw rs hr hl a ha
  have ok := tra_ok rs
  have hF : ∀ p ∈ (tra rs).1, p.1 ≠ 0 ∧ p.1.log2 ≤ 1000 := fun p hp => by
    have m : p.1 ∈ (tra rs).1.map (·.1) := List.mem_map_of_mem hp
    have lt : p.1 < 2 ^ w := ((tra_sp rs p.1).mp (.mem m)).lt hr
    exact ⟨ok.rr.1 _ m, small_log hw (ok.rr.1 _ m) lt⟩
  obtain ⟨q, e, _⟩ := forM (S := S) (g := gT (gNC (gN 4) (gNC (gN 5) gN0))) (b := sIf (cB (eOp iGt (eOp iAnd (eV 2) (eCall m_top_of [] (aCons (eV 4) aNil))) (eC (.int 0)))) (sPar 2 3 (aCons (eOp iXor (eV 2) (eV 4)) (aCons (eOp iXor (eV 3) (eV 5)) aNil))) sNil)
    pd (fun (p : PP) (q : Sl × Sl) => [.v a, .v (nd x), .v (nd p.1), .v (nd p.2), q.1, q.2]) tst (fun _ => True) (tra rs).1 (fun p q y hy _ => by
      refine ⟨[.v a, .v (nd x), .v (nd p.1), .v (nd p.2), .v (nd y.1), .v (nd y.2)], rfl, (.v (nd y.1), .v (nd y.2)), ?_, trivial⟩
      simp [top_ok S (hF y hy).1 (hF y hy).2]
      unfold tst
      cases p.1.testBit y.1.log2 <;> simp) (x, 0) (.no, .no) trivial
  have e' : forL (gT (gNC (gN 4) (gNC (gN 5) gN0))) (sIf (cB (eOp iGt (eOp iAnd (eV 2) (eCall m_top_of [] (aCons (eV 4) aNil))) (eC (.int 0)))) (sPar 2 3 (aCons (eOp iXor (eV 2) (eV 4)) (aCons (eOp iXor (eV 3) (eV 5)) aNil))) sNil) ((tra rs).1.map pd) [.v a, .v (.int x), .v (.int x), .v (.int 0), .no, .no] S =
    .nx [.v a, .v (nd x), .v (nd (tred (x, 0) (tra rs).1).1), .v (nd (tred (x, 0) (tra rs).1).2), q.1, q.2] S := e
  simp [m_trail_to, T, e']
  unfold trail
  by_cases z : (tred (x, 0) (tra rs).1).1 = 0 <;> simp [z]
/-! ### folds -/
def ffs (rs : List Nat) (w : Nat) : List (Str × D) := [("lines", .tup (nl rs)), ("wide", nd w)]
def fold (rs : List Nat) (w : Nat) : D := .ins "Fold" (ffs rs w)
@[simp] theorem fold_ins (S : Sto) (rs : List Nat) (w : Nat) : insOf "Fold" S (fold rs w) = some (ffs rs w) := by
  unfold fold
  simp
@[simp] theorem ffs_lines (rs : List Nat) (w : Nat) : (ffs rs w).lookup ("lines" : Str) = some (D.tup (nl rs)) := rfl
@[simp] theorem ffs_wide (rs : List Nat) (w : Nat) : (ffs rs w).lookup ("wide" : Str) = some (nd w) := rfl
@[simp] theorem ffs_to (rs : List Nat) (w : Nat) : (ffs rs w).lookup ("to" : Str) = none := rfl
@[simp] theorem ffs_many (rs : List Nat) (w : Nat) : (ffs rs w).lookup ("many" : Str) = none := rfl
@[simp] theorem ffs_size (rs : List Nat) (w : Nat) : (ffs rs w).lookup ("size" : Str) = none := rfl
@[simp] theorem ffs_then (rs : List Nat) (w : Nat) : (ffs rs w).lookup ("then" : Str) = none := rfl
@[simp] theorem ffs_kernel (rs : List Nat) (w : Nat) : (ffs rs w).lookup ("kernel" : Str) = none := rfl
@[simp] theorem ffs_onto (rs : List Nat) (w : Nat) : (ffs rs w).lookup ("onto" : Str) = none := rfl
@[simp] theorem ffs_single (rs : List Nat) (w : Nat) : (ffs rs w).lookup ("single" : Str) = none := rfl
@[simp] theorem ffs_back (rs : List Nat) (w : Nat) : (ffs rs w).lookup ("back" : Str) = none := rfl
@[simp] theorem ffs_least (rs : List Nat) (w : Nat) : (ffs rs w).lookup ("least" : Str) = none := rfl
@[simp] theorem ffs_rows (rs : List Nat) (w : Nat) : (ffs rs w).lookup ("rows" : Str) = none := rfl
@[simp] theorem ffs_part (rs : List Nat) (w : Nat) : (ffs rs w).lookup ("part" : Str) = none := rfl
@[simp] theorem ffs_beside (rs : List Nat) (w : Nat) : (ffs rs w).lookup ("beside" : Str) = none := rfl
/-- a fold that was made -/
structure FOk (rs : List Nat) (w : Nat) : Prop where
  len : rs.length ≤ 12
  wide : w ≤ 12
  lt : ∀ r ∈ rs, r < 2 ^ w
theorem shr_pos {x k : Nat} : decide ((0 : Int) < ((x >>> k : Nat) : Int)) = decide (2 ^ k ≤ x) := by
  rw [Nat.shiftRight_eq_div_pow]
  apply decide_eq_decide.mpr
  constructor
  · intro h
    have h' : 0 < x / 2 ^ k := by omega
    exact Nat.le_of_not_lt fun l => by
      rw [Nat.div_eq_of_lt l] at h'
      omega
  · intro h
    have := Nat.div_pos h (Nat.two_pow_pos k)
    omega
theorem many_ok (S : Sto) (rs : List Nat) (w : Nat) : m_Fold_many [fold rs w] S = .ok (.val (nd rs.length)) S := by
  simp [m_Fold_many]
theorem size_ok (S : Sto) (rs : List Nat) (w : Nat) : m_Fold_size [fold rs w] S = .ok (.val (nd w)) S := by
  simp [m_Fold_size]
end Fb
namespace Mm
open PySem L2
theorem set_last {α : Type} (S : List α) (x y : α) : (S ++ [x]).set S.length y = S ++ [y] := by
  rw [List.set_append_right _ _ (Nat.le_refl _)]
  simp
theorem under_nl (n : Nat) (xs : List Nat) : underL n (nl xs) := by
  rw [nl_eq]
  exact under_ints n _
end Mm
namespace Fb
open PySem L2 Mm Gf
theorem new_ok (S : Sto) {rs : List Nat} {w : Nat} (h : FOk rs w) (a : D) (ha : a = .tup (nl rs) ∨ a = .lst (nl rs)) : popI "Fold" S (m_FoldU_initU [.ref S.length, a, .int w] (S ++ [.ins "Fold" []])) = .ok (fold rs w) S := by
  obtain ⟨s2, e, _⟩ := forM (S := S ++ [.ins "Fold" []]) (g := gN 3) (b := sIf (cOr (cB (eOp iLt (eV 3) (eC (.int 0)))) (cB (eOp iGt (eOp iShr (eV 3) (eV 2)) (eC (.int 0))))) (sRaise "BadFold") sNil)
    nd (fun (_ : Unit) (s : Sl) => [.v (.ref S.length), .v a, .v (nd w), s]) (fun _ _ => ()) (fun _ => True) rs (fun _ s r hr _ => by
      refine ⟨[.v (.ref S.length), .v a, .v (nd w), .v (nd r)], rfl, .v (nd r), ?_, trivial⟩
      have q := shr_pos (x := r) (k := w)
      have : ¬ 2 ^ w ≤ r := Nat.not_le.mpr (h.lt r hr)
      have n0 : ¬ ((r : Int) < 0) := by omega
      have e : ((r : Int) >>> w) = ((r >>> w : Nat) : Int) := rfl
      have e2 : (r : Int) >>> w = 0 := by
        rw [e, Nat.shiftRight_eq_div_pow, Nat.div_eq_of_lt (h.lt r hr)]
        rfl
      simp [n0, e2]) () .no trivial
  have e' : forL (gN 3) (sIf (cOr (cB (eOp iLt (eV 3) (eC (.int 0)))) (cB (eOp iGt (eOp iShr (eV 3) (eV 2)) (eC (.int 0))))) (sRaise "BadFold") sNil) (nl rs) [.v (.ref S.length), .v a, .v (.int w), .no] (S ++ [.ins "Fold" []]) = .nx [.v (.ref S.length), .v a, .v (nd w), s2] (S ++ [.ins "Fold" []]) := e
  have h1 := h.len
  have h2 := h.wide
  have n1 : ¬ ((w : Int) < 0) := by omega
  have n2 : ¬ ((12 : Int) < w) := by omega
  have n3 : ¬ ((12 : Int) < rs.length) := by omega
  have run : m_FoldU_initU [.ref S.length, a, .int w] (S ++ [.ins "Fold" []]) = .ok (.val .non) (S ++ [.ins "Fold" [("lines", .tup (nl rs)), ("wide", nd w)]]) := by
    rcases ha with rfl | rfl <;> (simp [m_FoldU_initU, n1, n2, n3]; rw [e']; simp [set_last, putFD, show ¬ ("lines" : Str) = "wide" by decide])
  rw [run]
  have u : underF S.length [("lines", .tup (nl rs)), ("wide", nd w)] := by
    refine ⟨?_, ?_, trivial⟩
    · unfold D.under
      exact under_nl _ _
    · unfold D.under
      trivial
  unfold popI
  simp only [List.getLast?_append, List.getLast?_singleton, Option.some_or]
  rw [if_pos ⟨rfl, rfl, u⟩]
  rfl
theorem to_ok (S : Sto) {rs : List Nat} {w x : Nat} (h : FOk rs w) (hx : x < 2 ^ rs.length) : m_Fold_to [fold rs w, .int x] S = .ok (.val (nd (app rs x))) S := by
  have p := picked_ok S rs x (by have := h.len; omega) (.tup (nl rs)) (.inl rfl)
  have n0 : ¬ ((x : Int) < 0) := by omega
  have n1 : ¬ (0 < (x : Int) >>> rs.length) := by
    have e : ((x : Int) >>> rs.length) = ((x >>> rs.length : Nat) : Int) := rfl
    rw [e, Nat.shiftRight_eq_div_pow, Nat.div_eq_of_lt hx]
    simp
  simp [m_Fold_to, n0, n1, p]
theorem eqm_ok (S : Sto) (rs ss : List Nat) (v w : Nat) : m_FoldU_eqU [fold rs v, fold ss w] S = .ok (.val (.bl (decide (rs = ss) && decide (v = w)))) S := by
  simp [m_FoldU_eqU]
  by_cases h : rs = ss <;> by_cases h2 : v = w <;> simp [h, h2] <;> omega
theorem then_ok (S : Sto) {rs ss : List Nat} {v w : Nat} (h1 : FOk rs v) (h2 : FOk ss w) (hv : ss.length = v) : m_Fold_then [fold rs v, fold ss w] S = .ok (.val (fold (rs.map (app ss)) w)) S := by
  have lc := lcR_map (S := S) (g := gN 2) (tt := cYes) (te := eMeth "Fold" "to" m_Fold_to [] (eV 1) (aCons (eV 2) aNil)) (env := [.v (fold rs v), .v (fold ss w), .no]) (fun _ => true) (fun d => match d with
    | .int i => nd (app ss i.toNat)
    | d => d) (nl rs) (fun d hd => by
      obtain ⟨y, hy, rfl⟩ := mem_nl.mp hd
      refine ⟨[.v (fold rs v), .v (fold ss w), .v (nd y)], rfl, rfl, fun _ => ?_⟩
      have t := to_ok S h2 (x := y) (by rw [hv]; exact h1.lt y hy)
      simp [t])
  rw [List.filter_eq_self.mpr (fun _ _ => rfl), nl_map (g := app ss) (fun y _ => by simp)] at lc
  have F : FOk (rs.map (app ss)) w := ⟨by simpa using h1.len, h2.wide, fun r hr => by
    obtain ⟨q, _, rfl⟩ := List.mem_map.mp hr
    exact app_lt q h2.lt⟩
  have sz := szB_of (n := rs.length) (by have := h1.len; omega)
  have N := new_ok S F (.lst (nl (rs.map (app ss)))) (.inr rfl)
  have lc' := lc
  simp [m_Fold_then, many_ok, size_ok, hv, lc, sz, N]
end Fb
namespace Gf
open Mm
/-- the kernel's basis, ordered -/
def kerL (rs : List Nat) : List Nat := nsrt (bas (tra rs).2)
theorem kerL_rr (rs : List Nat) : RR (kerL rs) := (bas_rr _).perm (nsrt_perm _).symm
theorem kerL_sp {rs : List Nat} {x : Nat} (hx : x < 2 ^ rs.length) : Sp (kerL rs) x ↔ app rs x = 0 := by
  rw [← tra_ker rs hx]
  exact (Sp.perm (nsrt_perm _)).trans (bas_sp _ x)
theorem kerL_lt (rs : List Nat) : ∀ b ∈ kerL rs, b < 2 ^ rs.length := fun b hb => by
  have := (nsrt_perm _).mem_iff.mp hb
  exact ((bas_sp _ b).mp (Sp.mem this)).lt (tra_lt rs)
theorem kerL_len (rs : List Nat) : (kerL rs).length ≤ rs.length := (kerL_rr rs).len_le (kerL_lt rs)
/-- the least number that is led to x -/
def lst (rs : List Nat) (x : Nat) : Option Nat := (trail rs x).map fun m => red m (kerL rs)
theorem lst_some {rs : List Nat} {x m : Nat} (h : lst rs x = some m) : app rs m = x ∧ m < 2 ^ rs.length ∧ ∀ y, y < 2 ^ rs.length → app rs y = x → m ≤ y := by
  unfold lst at h
  cases q : trail rs x with
  | none =>
    rw [q] at h
    cases h
  | some t =>
    rw [q] at h
    have e : red t (kerL rs) = m := Option.some.inj h
    obtain ⟨h1, h2⟩ := trail_some q
    have lt : m < 2 ^ rs.length := by
      rw [← e]
      exact red_lt (kerL_lt rs) h2
    have s := red_sp (kerL rs) t
    rw [e] at s
    have z := (kerL_sp (Nat.xor_lt_two_pow h2 lt)).mp s
    rw [app_xor, h1] at z
    refine ⟨(xor_eq_zero z).symm, lt, fun y hy ey => ?_⟩
    rw [← e]
    refine red_least (kerL_rr rs) ((kerL_sp (Nat.xor_lt_two_pow h2 hy)).mpr ?_)
    rw [app_xor, h1, ey, Nat.xor_self]
theorem lst_of {rs : List Nat} {x : Nat} (h : Sp rs x) : ∃ m, lst rs x = some m := by
  unfold lst
  cases q : trail rs x with
  | none => exact absurd h (trail_none.mp q)
  | some t => exact ⟨_, rfl⟩
def bk (rs : List Nat) (x : Nat) : Nat := (lst rs x).getD 0
def backL (rs : List Nat) (w : Nat) : List Nat := (List.range w).map fun i => bk rs (2 ^ i)
theorem bk_app {rs : List Nat} {x : Nat} (h : Sp rs x) : app rs (bk rs x) = x ∧ bk rs x < 2 ^ rs.length := by
  obtain ⟨m, e⟩ := lst_of h
  unfold bk
  rw [e]
  have := lst_some e
  exact ⟨this.1, this.2.1⟩
theorem backL_len (rs : List Nat) (w : Nat) : (backL rs w).length = w := by simp [backL]
theorem backL_lt {rs : List Nat} {w : Nat} (a : All w rs) : ∀ r ∈ backL rs w, r < 2 ^ rs.length := fun r hr => by
  obtain ⟨i, hi, rfl⟩ := List.mem_map.mp hr
  exact (bk_app (a _ (Nat.pow_lt_pow_right (by decide) (List.mem_range.mp hi)))).2
/-- back and forth again -/
theorem backL_app {rs : List Nat} {w : Nat} (a : All w rs) {x : Nat} (hx : x < 2 ^ w) : app rs (app (backL rs w) x) = x := by
  rw [← app_app]
  have : (backL rs w).map (app rs) = plain w := by
    unfold backL plain
    rw [List.map_map]
    apply List.map_congr_left
    intro i hi
    exact (bk_app (a _ (Nat.pow_lt_pow_right (by decide) (List.mem_range.mp hi)))).1
  rw [this]
  exact app_plain w x hx
theorem onto_iff {rs : List Nat} {w : Nat} (lt : ∀ r ∈ rs, r < 2 ^ w) : (bas rs).length = w ↔ All w rs := by
  have blt : ∀ b ∈ bas rs, b < 2 ^ w := fun b hb => ((bas_sp rs b).mp (.mem hb)).lt lt
  constructor
  · intro h x hx
    exact (bas_sp rs x).mp ((bas_rr rs).all blt (by omega) x hx)
  · intro a
    exact (bas_rr rs).full blt fun x hx => (bas_sp rs x).mpr (a x hx)
theorem single_iff (rs : List Nat) : (tra rs).2 = [] ↔ ∀ x, x < 2 ^ rs.length → app rs x = 0 → x = 0 := by
  constructor
  · intro h x hx e
    have := (tra_ker rs hx).mpr e
    rw [h] at this
    exact Sp.nil.mp this
  · intro h
    have z : ∀ m ∈ (tra rs).2, m = 0 := fun m hm => h m (tra_lt rs m hm) ((tra_ker rs (tra_lt rs m hm)).mp (.mem hm))
    -- no nought among the idle ones: their count
    have ok := tra_ok rs
    have r := tra_rank rs
    have l := tra_len rs
    -- the plain digits are led apart, so the found ones are as many
    have inj : ∀ x, x < 2 ^ rs.length → Sp ((tra rs).1.map (·.2)) x := fun x hx => by
      obtain ⟨u, v, hu, hv, e⟩ := (ok.sp x hx).append
      have : v = 0 := Sp.nil.mp (Sp.sub (C := []) (fun b hb => by rw [z b hb]; exact .zero _) hv)
      rw [e, this, Nat.xor_zero]
      exact hu
    have b := bas_rr ((tra rs).1.map (·.2))
    have fl := b.full (w := rs.length) (fun c hc => ((bas_sp _ c).mp (.mem hc)).lt fun d hd => by
      obtain ⟨p, hp, rfl⟩ := List.mem_map.mp hd
      exact (ok.fs p hp).2) fun x hx => (bas_sp _ x).mpr (inj x hx)
    have := bas_len ((tra rs).1.map (·.2))
    rw [fl, List.length_map] at this
    have : (tra rs).2.length = 0 := by omega
    exact List.eq_nil_of_length_eq_zero this
end Gf
namespace Fb
open PySem L2 Mm Gf
theorem rng0 (n : Nat) : rngD 0 n = nl (List.range n) := by
  unfold rngD nl
  apply List.map_congr_left
  intro i _
  show D.int (0 + (i : Int)) = nd i
  rw [Int.zero_add]
theorem rgB_nat {n : Nat} (h : n ≤ 100000) : rgB (n : Int) = true := by
  exact bBnd_iff.mpr (by omega)
theorem kernel_ok (S : Sto) {rs : List Nat} {w : Nat} (h : FOk rs w) : m_Fold_kernel [fold rs w] S = .ok (.own (.lst (nl (kerL rs)))) S := by
  have hl := h.len
  have hw := h.wide
  have T := traced_ok S (w := w) (by omega) rs h.lt (by omega) (.tup (nl rs)) (.inl rfl)
  have B := basis_of_ok S (w := rs.length) (tra rs).2 (by omega) (tra_lt rs) (.lst (nl (tra rs).2)) (.inr rfl)
  simp [m_Fold_kernel, T, B]
  rfl
theorem onto_ok (S : Sto) {rs : List Nat} {w : Nat} (h : FOk rs w) : m_Fold_onto [fold rs w] S = .ok (.val (.bl (decide ((bas rs).length = w)))) S := by
  have hw := h.wide
  have B := basis_of_ok S (w := w) rs (by omega) h.lt (.tup (nl rs)) (.inl rfl)
  simp [m_Fold_onto, B]
  omega
theorem onto_yes (S : Sto) {rs : List Nat} {w : Nat} (h : FOk rs w) (a : All w rs) : m_Fold_onto [fold rs w] S = .ok (.val (.bl true)) S := by
  rw [onto_ok S h, decide_eq_true ((onto_iff h.lt).mpr a)]
theorem single_ok (S : Sto) {rs : List Nat} {w : Nat} (h : FOk rs w) : m_Fold_single [fold rs w] S = .ok (.val (.bl (decide ((tra rs).2 = [])))) S := by
  have hl := h.len
  have hw := h.wide
  have T := traced_ok S (w := w) (by omega) rs h.lt (by omega) (.tup (nl rs)) (.inl rfl)
  have s0 := szB_of (n := 0) (by omega)
  simp [m_Fold_single, T, s0]
def od : Option Nat → D
  | some m => nd m
  | none => .non
theorem least_ok (S : Sto) {rs : List Nat} {w : Nat} (h : FOk rs w) (x : Nat) : m_Fold_least [fold rs w, .int x] S = .ok (.val (od (lst rs x))) S := by
  have hl := h.len
  have hw := h.wide
  have T := trail_ok S (w := w) (by omega) rs h.lt (by omega) (.tup (nl rs)) (.inl rfl) x
  have K := kernel_ok S h
  have kl := kerL_len rs
  cases q : trail rs x with
  | none =>
    rw [q] at T
    simp [m_Fold_least, T, lst, q, od]
  | some m =>
    rw [q] at T
    have R := reduced_ok S m (kerL rs) fun b hb => ⟨(kerL_rr rs).1 b hb, small_log (w := rs.length) (by omega) ((kerL_rr rs).1 b hb) (kerL_lt rs b hb)⟩
    simp [m_Fold_least, T, K, R, lst, q, od]
theorem least_pow (S : Sto) {rs : List Nat} {w i : Nat} (h : FOk rs w) (a : All w rs) (hi : i < w) : eMeth "Fold" "least" m_Fold_least [] (eV 0) (aCons (eOp iShl (eC (.int 1)) (eV 1)) aNil) [.v (fold rs w), .v (nd i)] S = .ok (nd (bk rs (2 ^ i))) S := by
  have hw := h.wide
  have pw := powB_of (i := 1) (j := (i : Int)) (by omega) (by omega) (by decide)
  have L := least_ok S h (2 ^ i)
  obtain ⟨m, e⟩ := lst_of (a (2 ^ i) (Nat.pow_lt_pow_right (by decide) hi))
  rw [e] at L
  have L' : m_Fold_least [fold rs w, .int (2 ^ i)] S = .ok (.val (nd m)) S := by
    have e5 : (2 : Int) ^ i = ((2 ^ i : Nat) : Int) := by simp
    rw [e5]
    exact L
  simp [pw, L', bk, e]
theorem back_lc (S : Sto) {rs : List Nat} {w : Nat} (h : FOk rs w) (a : All w rs) : lcR (gN 1) cYes (eMeth "Fold" "least" m_Fold_least [] (eV 0) (aCons (eOp iShl (eC (.int 1)) (eV 1)) aNil)) [.v (fold rs w), .no] (nl (List.range w)) S = .ok (nl (backL rs w)) S := by
  have lc := lcR_map (S := S) (g := gN 1) (tt := cYes) (te := eMeth "Fold" "least" m_Fold_least [] (eV 0) (aCons (eOp iShl (eC (.int 1)) (eV 1)) aNil)) (env := [.v (fold rs w), .no]) (fun _ => true) (fun d => match d with
    | .int i => nd (bk rs (2 ^ i.toNat))
    | d => d) (nl (List.range w)) (fun d hd => by
      obtain ⟨i, hi, rfl⟩ := mem_nl.mp hd
      exact ⟨[.v (fold rs w), .v (nd i)], rfl, rfl, fun _ => least_pow S h a (List.mem_range.mp hi)⟩)
  rw [List.filter_eq_self.mpr (fun _ _ => rfl), nl_map (g := fun i => bk rs (2 ^ i)) (fun y _ => by simp)] at lc
  exact lc
theorem back_ok (S : Sto) {rs : List Nat} {w : Nat} (h : FOk rs w) (a : All w rs) : m_Fold_back [fold rs w] S = .ok (.val (fold (backL rs w) rs.length)) S := by
  have hl := h.len
  have hw := h.wide
  have O := onto_yes S h a
  have lc := back_lc S h a
  have F : FOk (backL rs w) rs.length := ⟨by rw [backL_len]; exact hw, hl, backL_lt a⟩
  have sz := szB_of (n := w) (by omega)
  have N := new_ok S F (.lst (nl (backL rs w))) (.inr rfl)
  have rg := rgB_nat (n := w) (by omega)
  simp [m_Fold_back, O, rg, rng0, lc, backL_len, sz, N]
theorem bool_dec (a : Prop) [Decidable a] (h : a) : decide a = true := decide_eq_true h
/-- what through tells of two folds from one count of digits, the first one onto -/
inductive Thr (rs ss : List Nat) (v w : Nat) : D → Prop
  | yes (h : ∀ x, x < 2 ^ rs.length → app rs x = 0 → app ss x = 0) : Thr rs ss v w (.tup [.str "through", fold ((backL rs v).map (app ss)) w])
  | no (x : Nat) (hx : x < 2 ^ rs.length) (h1 : app rs x = 0) (h2 : app ss x ≠ 0) (least : ∀ y, y < x → app rs y = 0 → app ss y = 0) : Thr rs ss v w (.tup [.str "parted", nd x])
theorem through_ok (S : Sto) {rs ss : List Nat} {v w : Nat} (h1 : FOk rs v) (h2 : FOk ss w) (hl : rs.length = ss.length) (a : All v rs) : ∃ d, m_through [fold rs v, fold ss w] S = .ok (.val d) S ∧ Thr rs ss v w d := by
  have Bk := back_ok S h1 a
  have K := kernel_ok S h1
  have kl := kerL_len rs
  have l1 := h1.len
  have Sn := span_of_ok S (kerL rs) (by omega)
  have FB : FOk (backL rs v) rs.length := ⟨by rw [backL_len]; exact h1.wide, l1, backL_lt a⟩
  have Tn := then_ok S FB h2 hl.symm
  have memK : ∀ x, x ∈ nsrt (spl (kerL rs)) ↔ x < 2 ^ rs.length ∧ app rs x = 0 := fun x => by
    rw [(nsrt_perm _).mem_iff, mem_spl]
    constructor
    · intro s
      have lt := s.lt (kerL_lt rs)
      exact ⟨lt, (kerL_sp lt).mp s⟩
    · rintro ⟨lt, e⟩
      exact (kerL_sp lt).mpr e
  have srt := nsrt_sorted (spl (kerL rs))
  have key := forL_ret (g := gN 3) (b := sIf (cB (eOp fNe (eMeth "Fold" "to" m_Fold_to [] (eV 1) (aCons (eV 3) aNil)) (eC (.int 0)))) (sRet (eTup (aCons (eC (.str "parted")) (aCons (eV 3) aNil)))) sNil)
    (I := fun ds env S' => S' = S ∧ ∃ (pre rest : List Nat) (s : Sl), ds = nl rest ∧ nsrt (spl (kerL rs)) = pre ++ rest ∧ env = [.v (fold rs v), .v (fold ss w), .v (fold (backL rs v) rs.length), s] ∧ ∀ y ∈ pre, app ss y = 0)
    (Q := fun r S' => S' = S ∧ ∃ d, r = .val d ∧ Thr rs ss v w d)
    (fun d ds env S' h => by
      obtain ⟨rfl, pre, rest, s, e1, e2, rfl, e4⟩ := h
      cases rest with
      | nil => simp at e1
      | cons x rest =>
        simp at e1
        obtain ⟨rfl, rfl⟩ := e1
        have hx := (memK x).mp (by rw [e2]; simp)
        have t := to_ok S' h2 (x := x) (by rw [← hl]; exact hx.1)
        refine ⟨[.v (fold rs v), .v (fold ss w), .v (fold (backL rs v) rs.length), .v (nd x)], rfl, ?_⟩
        by_cases z : app ss x = 0
        · refine .inl ⟨[.v (fold rs v), .v (fold ss w), .v (fold (backL rs v) rs.length), .v (nd x)], S', .inl (by simp [t, z]), rfl, pre ++ [x], rest, .v (nd x), rfl, by simpa using e2, rfl, fun y hy => ?_⟩
          rcases List.mem_append.mp hy with hy | hy
          · exact e4 y hy
          · simp at hy
            rw [hy]
            exact z
        · have s2 := szB_of (n := 2) (by omega)
          refine .inr ⟨.val (.tup [.str "parted", nd x]), S', by simp [t, z, s2], rfl, _, rfl, .no x hx.1 hx.2 z fun y hy ey => ?_⟩
          have my := (memK y).mpr ⟨Nat.lt_trans hy hx.1, ey⟩
          rw [e2] at my
          rcases List.mem_append.mp my with my | my
          · exact e4 y my
          · rw [e2] at srt
            have := (List.pairwise_cons.mp (List.pairwise_append.mp srt).2.1).1
            rcases List.mem_cons.mp my with e | my
            · omega
            · have := this y my
              omega) (nl (nsrt (spl (kerL rs)))) [.v (fold rs v), .v (fold ss w), .v (fold (backL rs v) rs.length), .no] S ⟨rfl, [], _, _, rfl, rfl, rfl, fun y hy => by simp at hy⟩
  have ne : (rs.length : Int) = ss.length := by omega
  have s2 := szB_of (n := 2) (by omega)
  rcases key with ⟨e', S', k1, rfl, pre, rest, s, e1, e2, rfl, e4⟩ | ⟨r, S', k1, rfl, d, rfl, th⟩
  · refine ⟨_, ?_, .yes fun x hx ex => e4 x ?_⟩
    · simp [m_through, many_ok, ne, Bk, K, Sn]
      rw [k1]
      simp [Tn, s2]
    · have m := (memK x).mpr ⟨hx, ex⟩
      rw [e2] at m
      have : rest = [] := by
        cases rest with
        | nil => rfl
        | cons b r => simp at e1
      rw [this, List.append_nil] at m
      exact m
  · refine ⟨d, ?_, th⟩
    simp [m_through, many_ok, ne, Bk, K, Sn]
    rw [k1]
end Fb
namespace Fb
open PySem L2 Mm Gf
/-- the law's box -/
def bx (xs : List Int) (i : Nat) (t s : Int) : Cell := .lst [.lst (xs.map D.int), .int i, .int t, .int s]
def Bx (b : Cell) : Prop := ∃ (xs : List Int) (i : Nat) (t s : Int), b = bx xs i t s ∧ s.natAbs < 2147483549
theorem divB_of {i : Int} {k : Nat} (h0 : 0 < k) (h1 : k < 1073741824) : divB i (k : Int) = true := by
  unfold divB
  rw [decide_eq_true (show (k : Int) ≠ 0 by omega), decide_eq_true (show (k : Int).natAbs < 1073741824 by omega)]
  rfl
theorem fmod_nat (i : Int) {k : Nat} (h : 0 < k) : ∃ r : Nat, i.fmod (k : Int) = (r : Int) ∧ r < k := by
  have h1 : 0 ≤ i.fmod (k : Int) := Int.fmod_nonneg_of_pos i (by omega)
  have h2 : i.fmod (k : Int) < k := Int.fmod_lt_of_pos i (by omega)
  exact ⟨(i.fmod (k : Int)).toNat, by omega, by omega⟩
theorem mulB_r {i j : Int} (h : j.natAbs ≤ 18446744073709551615) : mulB i j = true := by
  unfold mulB
  rw [bBnd_iff.mpr h, Bool.or_true]
theorem mulB_l {i j : Int} (h : i.natAbs ≤ 18446744073709551615) : mulB i j = true := by
  unfold mulB
  rw [bBnd_iff.mpr h, Bool.true_or]
theorem powB_nat {i : Int} (h : i.natAbs ≤ 18446744073709551615) (j : Nat) (hj : j ≤ 1000000) : powB i (j : Int) = true := powB_of (by omega) (by omega) (by omega)
@[simp] theorem ixN41 : ixN 4 1 = some 1 := rfl
@[simp] theorem ixN42 : ixN 4 2 = some 2 := rfl
@[simp] theorem ixN43 : ixN 4 3 = some 3 := rfl
noncomputable def takeTail : MS := sSeq (sIf (cB (eOp iGe (eV 3) (eOp iPow (eC (.int 10)) (eC (.int 18))))) (sSeq (sPut 0 (eC (.int 2)) (eOp iDiv (eV 3) (eV 1)))
    (sRet (eOp iMod (eV 3) (eV 1)))) sNil)
    (sSeq (sAsg (eOp fIx (eV 0) (eC (.int 3))) (gN 4))
    (sSeq (sPut 0 (eC (.int 3)) (eOp iMod (eOp dAdd (eOp dAdd (eOp dAdd (eOp iPow (eV 4) (eC (.int 3))) (eOp iMul (eC (.int 69621)) (eV 4))) (eOp iMul (eC (.int 40693)) (eOp iMod (eV 3) (eC (.int 2147483549))))) (eC (.int 17))) (eC (.int 2147483549))))
    (sRet (eOp iMod (eOp iDiv (eOp fIx (eV 0) (eC (.int 3))) (eC (.int 64))) (eV 1)))))
theorem m_take_eq : m__law_take = mFn 5 (sSeq (sIf (cB (eOp iGt (eOp fIx (eV 0) (eC (.int 2))) (eC (.int 0)))) (sSeq (sAsg (eOp fIx (eV 0) (eC (.int 2))) (gN 2))
    (sSeq (sPut 0 (eC (.int 2)) (eOp iDiv (eV 2) (eV 1)))
    (sRet (eOp iMod (eV 2) (eV 1))))) sNil)
    (sSeq (sAsg (eC (.int 0)) (gN 3))
    (sSeq (sIf (cB (eOp iLt (eOp fIx (eV 0) (eC (.int 1))) (eCB fLen (aCons (eOp fIx (eV 0) (eC (.int 0))) aNil)))) (sSeq (sAsg (eOp fIx (eOp fIx (eV 0) (eC (.int 0))) (eOp fIx (eV 0) (eC (.int 1)))) (gN 3))
    (sAugC (eV 0) (eC (.int 1)) (fun i j => i + j) (eC (.int 1)))) sNil) takeTail))) := rfl
theorem set_same {S : Sto} {n : Nat} {b : Cell} (hS : S[n]? = some b) : S.set n b = S := by
  apply List.ext_getElem?
  intro j
  by_cases ej : n = j
  · subst ej
    rw [List.getElem?_set_self (List.getElem?_eq_some_iff.mp hS).1]
    exact hS.symm
  · rw [List.getElem?_set_ne ej]
theorem pow1018 : powB 10 18 = true := powB_of (by omega) (by omega) (by decide)
theorem tail_ok {S : Sto} {n : Nat} {xs : List Int} {i : Nat} {t s : Int} (hS : S[n]? = some (bx xs i t s)) (hs : s.natAbs < 2147483549) {k : Nat} (h0 : 0 < k) (h1 : k < 1073741824) (c : Int) :
    ∃ b' r, takeTail [.v (.ref n), .v (.int k), .no, .v (.int c), .no] S = .rt (.val (nd r)) (S.set n b') ∧ Bx b' ∧ r < k := by
  have hn : n < S.length := (List.getElem?_eq_some_iff.mp hS).1
  have kz' : ¬ k = 0 := by omega
  have dv := fun i : Int => divB_of (i := i) h0 h1
  have dv64 := fun i : Int => divB_of (i := i) (k := 64) (by decide) (by decide)
  have p18 := pow1018
  by_cases hc : (10 : Int) ^ 18 ≤ c
  · obtain ⟨r, e1, e2⟩ := fmod_nat c h0
    refine ⟨bx xs i (c.fdiv k) s, r, ?_, ⟨xs, i, _, s, rfl, hs⟩, e2⟩
    have hc' : (1000000000000000000 : Int) ≤ c := hc
    simp [takeTail, hS, bx, p18, hc', dv, kz', e1]
  · have hc' : ¬ (1000000000000000000 : Int) ≤ c := hc
    obtain ⟨q, q1, q2⟩ := fmod_nat c (k := 2147483549) (by decide)
    have pw := powB_nat (i := s) (by omega) 3 (by decide)
    have m1 := mulB_l (i := 69621) (j := s) (by decide)
    have m2 := fun j : Int => mulB_l (i := 40693) (j := j) (by decide)
    obtain ⟨s', s1, s2⟩ := fmod_nat (s ^ 3 + 69621 * s + 40693 * c.fmod 2147483549 + 17) (k := 2147483549) (by decide)
    obtain ⟨r, e1, e2⟩ := fmod_nat ((s' : Int).fdiv 64) h0
    refine ⟨bx xs i t s', r, ?_, ⟨xs, i, t, s', rfl, by omega⟩, e2⟩
    have s1' : (s ^ 3 + 69621 * s + 40693 * c.fmod 2147483549 + 17).fmod 2147483549 = (s' : Int) := s1
    have pw' : powB s 3 = true := pw
    have d64 : ∀ i : Int, divB i 64 = true := dv64
    have gs : ∀ x, (S.set n x)[n]? = some x := fun x => List.getElem?_set_self hn
    simp [takeTail, hS, bx, p18, hc', dv, d64, kz', pw', m1, m2, s1', e1, gs]
theorem take_ok {S : Sto} {n : Nat} {b : Cell} (hS : S[n]? = some b) (hb : Bx b) {k : Nat} (h0 : 0 < k) (h1 : k < 1073741824) : ∃ b' r, m__law_take [.ref n, .int k] S = .ok (.val (nd r)) (S.set n b') ∧ Bx b' ∧ r < k := by
  obtain ⟨xs, i, t, s, rfl, hs⟩ := hb
  have hn : n < S.length := (List.getElem?_eq_some_iff.mp hS).1
  have kz' : ¬ k = 0 := by omega
  have dv := fun i : Int => divB_of (i := i) h0 h1
  rw [m_take_eq]
  by_cases ht : 0 < t
  · obtain ⟨r, e1, e2⟩ := fmod_nat t h0
    refine ⟨bx xs i (t.fdiv k) s, r, ?_, ⟨xs, i, _, s, rfl, hs⟩, e2⟩
    simp [hS, bx, ht, dv, kz', e1]
  · by_cases hi : i < xs.length
    · have e : atI (xs.map D.int) (i : Int) = some (.int (xs[i])) := by
        rw [Mm.atI_nat]
        simp [hi]
      obtain ⟨b', r, h3, h4, h5⟩ := tail_ok (S := S.set n (bx xs (i + 1) t s)) (n := n) (List.getElem?_set_self hn) hs h0 h1 xs[i]
      refine ⟨b', r, ?_, h4, h5⟩
      rw [List.set_set] at h3
      have h3' : takeTail [.v (.ref n), .v (.int k), .no, .v (.int xs[i]), .no] (S.set n (.lst [.lst (xs.map D.int), .int ((i : Int) + 1), .int t, .int s])) = _ := h3
      simp [hS, bx, hi, e, ht]
      rw [h3']
    · obtain ⟨b', r, h3, h4, h5⟩ := tail_ok hS hs h0 h1 0
      refine ⟨b', r, ?_, h4, h5⟩
      simp [hS, bx, hi, ht]
      rw [h3]
/-- at one box -/
theorem take1 {b : Cell} (hb : Bx b) {k : Nat} (h0 : 0 < k) (h1 : k < 1073741824) : ∃ b' r, m__law_take [.ref 0, .int k] [b] = .ok (.val (nd r)) [b'] ∧ Bx b' ∧ r < k := take_ok (S := [b]) (n := 0) rfl hb h0 h1
theorem cut_map (ns : List Int) (lo hi : Option Int) : ∃ xs : List Int, cutD (ns.map D.int) lo hi = xs.map D.int := by
  unfold cutD
  exact ⟨(ns.drop (HT.sIx (ns.map D.int).length 0 lo)).take (HT.sIx (ns.map D.int).length (ns.map D.int).length hi - HT.sIx (ns.map D.int).length 0 lo), by rw [List.map_take, List.map_drop]⟩
theorem box_ok (ns : List Int) (S : Sto) : ∃ b, m__law_box [.scr ns] S = .ok (.own b) S ∧ Bx b := by
  have s4 := szB_of (n := 4) (by omega)
  obtain ⟨xs, e⟩ := cut_map ns none (some 63)
  refine ⟨bx xs 0 0 41, ?_, ⟨_, 0, 0, 41, rfl, by decide⟩⟩
  simp [m__law_box, s4, bx, e]
/-! ### drawn rows -/
theorem insert_perm (xs : List Nat) (k x : Nat) : (xs.take k ++ [x] ++ xs.drop k).Perm (x :: xs) := by
  rw [List.append_assoc]
  have := List.perm_middle (l₁ := xs.take k) (l₂ := xs.drop k) (a := x)
  simpa using this
theorem nl_drop (xs : List Nat) (k : Nat) : (nl xs).drop k = nl (xs.drop k) := by simp [nl]
theorem shuffled_ok {b : Cell} (hb : Bx b) (xs : List Nat) (hl : xs.length ≤ 1000) : ∃ b' ys, m__law_shuffled [.ref 0, .lst (nl xs)] [b] = .ok (.own (.lst (nl ys))) [b'] ∧ Bx b' ∧ ys.Perm xs := by
  have key := forL_inv (g := gN 3) (b := sIns 2 (eCall m__law_take [] (aCons (eV 0) (aCons (eOp dAdd (eLenA 2) (eC (.int 1))) aNil))) (eV 3))
    (I := fun ds env S' => ∃ (b' : Cell) (ys rest : List Nat) (s : Sl), S' = [b'] ∧ Bx b' ∧ ds = nl rest ∧ env = [.v (.ref 0), .v (.lst (nl xs)), .o (.lst (nl ys)), s] ∧ (ys ++ rest).Perm xs)
    (fun d ds env S' h => by
      obtain ⟨b', ys, rest, s, rfl, hb', e1, rfl, p⟩ := h
      cases rest with
      | nil => simp at e1
      | cons x rest =>
        simp at e1
        obtain ⟨rfl, rfl⟩ := e1
        have pl := p.length_eq
        simp at pl
        obtain ⟨b2, r, t, hb2, hr⟩ := take1 hb' (k := ys.length + 1) (by omega) (by omega)
        have t' : m__law_take [.ref 0, .int ((ys.length : Int) + 1)] [b'] = .ok (.val (nd r)) [b2] := t
        refine ⟨_, rfl, [.v (.ref 0), .v (.lst (nl xs)), .o (.lst (nl (ys.take r ++ [x] ++ ys.drop r))), .v (nd x)], [b2], .inl ?_, b2, _, rest, _, rfl, hb2, rfl, rfl, ?_⟩
        · have bd := (bBnd_iff (i := (r : Int)) (n := 9223372036854775807)).mpr (by omega)
          have sz := szB_of (n := ys.length + 1) (by omega)
          simp [t', bd, sz]
          simp [nl]
        · exact ((insert_perm ys r x).append_right rest).trans ((List.perm_middle (l₁ := ys) (l₂ := rest) (a := x)).symm.trans p)) (nl xs) [.v (.ref 0), .v (.lst (nl xs)), .o (.lst []), .no] [b] ⟨b, [], xs, .no, rfl, hb, rfl, rfl, by simp⟩
  obtain ⟨e', S', k1, b', ys, rest, s, rfl, hb', e1, rfl, p⟩ := key
  have : rest = [] := by
    cases rest with
    | nil => rfl
    | cons b r => simp at e1
  subst this
  refine ⟨b', ys, ?_, hb', by simpa using p⟩
  have s0 := szB_of (n := 0) (by omega)
  simp [m__law_shuffled, s0]
  rw [k1]
  rfl
theorem numbers_ok {b : Cell} (hb : Bx b) (c w : Nat) (hc : c ≤ 1000) (hw : w ≤ 20) : ∃ b' ys, m__law_numbers [.ref 0, .int c, .int w] [b] = .ok (.own (.lst (nl ys))) [b'] ∧ Bx b' ∧ ys.length = c ∧ ∀ y ∈ ys, y < 2 ^ w := by
  have pw := powB_nat (i := 1) (by decide) w (by omega)
  have w2 : 2 ^ w < 1073741824 := Nat.lt_of_le_of_lt (Nat.pow_le_pow_right (by decide) hw) (by decide)
  have key := lcR_inv (g := gN 3) (te := eCall m__law_take [] (aCons (eV 0) (aCons (eOp iShl (eC (.int 1)) (eV 2)) aNil))) (env := [.v (.ref 0), .v (.int c), .v (.int w), .no])
    (I := fun ds zs S' => ∃ (b' : Cell) (ys : List Nat), S' = [b'] ∧ Bx b' ∧ zs = nl ys ∧ ys.length + ds.length = c ∧ ∀ y ∈ ys, y < 2 ^ w)
    (fun d ds zs S' h => by
      obtain ⟨b', ys, rfl, hb', rfl, l, lt⟩ := h
      obtain ⟨b2, r, t, hb2, hr⟩ := take1 hb' (k := 2 ^ w) (Nat.two_pow_pos w) w2
      have t' : m__law_take [.ref 0, .int (2 ^ w)] [b'] = .ok (.val (nd r)) [b2] := by
        have e5 : (2 : Int) ^ w = ((2 ^ w : Nat) : Int) := by simp
        rw [e5]
        exact t
      refine ⟨_, rfl, nd r, [b2], ?_, b2, ys ++ [r], rfl, hb2, nl_append ys [r], by simp at l ⊢; omega, fun y hy => ?_⟩
      · simp [pw, t']
      · rcases List.mem_append.mp hy with hy | hy
        · exact lt y hy
        · simp at hy
          rw [hy]
          exact hr) (nl (List.range c)) [] [b] ⟨b, [], rfl, hb, rfl, by simp, fun y hy => by simp at hy⟩
  obtain ⟨zs, S', k1, b', ys, rfl, hb', e1, l, lt⟩ := key
  simp at e1 l
  subst e1
  have rg := rgB_nat (n := c) (by omega)
  have sz := szB_of (n := c) (by omega)
  refine ⟨b', ys, ?_, hb', l, lt⟩
  simp [m__law_numbers, rg, rng0, k1, l, sz]
end Fb
namespace Gf
theorem all_row {w n : Nat} {ls : List Nat} {o j : Nat} (hl : ls.length = n) (ho : o < n) (hj : j < n) (ne : o ≠ j) (a : All w ls) : All w (ls.set o (ls.getD o 0 ^^^ ls.getD j 0)) := fun x hx => by
  refine .sub (fun b hb => ?_) (a x hx)
  obtain ⟨i, hi⟩ := List.getElem?_of_mem hb
  have lo : o < ls.length := by omega
  have lj : j < ls.length := by omega
  have mj : Sp (ls.set o (ls.getD o 0 ^^^ ls.getD j 0)) (ls.getD j 0) := .mem (List.mem_of_getElem? (i := j) (by
    rw [List.getElem?_set_ne ne]
    simp [List.getD_eq_getElem?_getD, lj]))
  by_cases e : o = i
  · subst e
    have mo : Sp (ls.set o (ls.getD o 0 ^^^ ls.getD j 0)) (ls.getD o 0 ^^^ ls.getD j 0) := .mem (List.mem_of_getElem? (i := o) (List.getElem?_set_self lo))
    have := mo.xor mj
    have eb : ls.getD o 0 = b := by rw [List.getD_eq_getElem?_getD, hi]; rfl
    rw [xor_cancel_right] at this
    rw [← eb]
    exact this
  · exact .mem (List.mem_of_getElem? (i := i) (by rw [List.getElem?_set_ne e]; exact hi))
def phi (o f l : Nat) : Nat := l ^^^ if l.testBit o then 2 ^ f else 0
theorem phi_bit (o f l i : Nat) : (phi o f l).testBit i = (l.testBit i ^^ (l.testBit o && decide (f = i))) := by
  unfold phi
  rw [Nat.testBit_xor]
  congr 1
  split
  · rename_i z
    rw [z, Nat.testBit_two_pow]
    simp
  · rename_i z
    simp at z
    simp [z]
theorem phi_zero (o f : Nat) : phi o f 0 = 0 := by simp [phi]
theorem phi_xor (o f x y : Nat) : phi o f (x ^^^ y) = phi o f x ^^^ phi o f y := Nat.eq_of_testBit_eq fun i => by
  simp only [phi_bit, Nat.testBit_xor]
  cases x.testBit i <;> cases y.testBit i <;> cases x.testBit o <;> cases y.testBit o <;> cases decide (f = i) <;> rfl
theorem phi_phi {o f : Nat} (h : f ≠ o) (x : Nat) : phi o f (phi o f x) = x := Nat.eq_of_testBit_eq fun i => by
  simp only [phi_bit]
  simp [h]
theorem phi_lt {o f w l : Nat} (hl : l < 2 ^ w) (hf : f < w) : phi o f l < 2 ^ w := by
  unfold phi
  refine Nat.xor_lt_two_pow hl ?_
  split
  · exact Nat.pow_lt_pow_right (by decide) hf
  · exact Nat.two_pow_pos w
theorem all_col {w : Nat} {ls : List Nat} {o f : Nat} (hf : f < w) (ne : f ≠ o) (a : All w ls) : All w (ls.map (phi o f)) := fun x hx => by
  have := Sp.image (phi o f) (phi_zero o f) (phi_xor o f) (a (phi o f x) (phi_lt hx hf))
  rwa [phi_phi ne] at this
/-- rows onto all numbers of w digits -/
structure Lin (n w : Nat) (ls : List Nat) : Prop where
  len : ls.length = n
  lt : ∀ l ∈ ls, l < 2 ^ w
  all : All w ls
theorem Lin.row {n w : Nat} {ls : List Nat} {o j : Nat} (h : Lin n w ls) (ho : o < n) (hj : j < n) (ne : o ≠ j) : Lin n w (ls.set o (ls.getD o 0 ^^^ ls.getD j 0)) where
  len := by rw [List.length_set]; exact h.len
  lt := fun l hl => by
    rcases List.mem_or_eq_of_mem_set hl with hl | e
    · exact h.lt l hl
    · rw [e]
      have lo : o < ls.length := by have := h.len; omega
      have lj : j < ls.length := by have := h.len; omega
      refine Nat.xor_lt_two_pow (h.lt _ ?_) (h.lt _ ?_)
      · simp [List.getD_eq_getElem?_getD, lo]
      · simp [List.getD_eq_getElem?_getD, lj]
  all := all_row h.len ho hj ne h.all
theorem Lin.col {n w : Nat} {ls : List Nat} {o f : Nat} (h : Lin n w ls) (hf : f < w) (ne : f ≠ o) : Lin n w (ls.map (phi o f)) where
  len := by rw [List.length_map]; exact h.len
  lt := fun l hl => by
    obtain ⟨x, hx, rfl⟩ := List.mem_map.mp hl
    exact phi_lt (h.lt x hx) hf
  all := all_col hf ne h.all
theorem Lin.perm {n w : Nat} {ls ks : List Nat} (p : ks.Perm ls) (h : Lin n w ls) : Lin n w ks where
  len := p.length_eq.trans h.len
  lt := fun l hl => h.lt l (p.mem_iff.mp hl)
  all := fun x hx => (Sp.perm p).mpr (h.all x hx)
theorem Lin.plain {n w : Nat} {ys : List Nat} (hl : ys.length = n - w) (hw : w ≤ n) (lt : ∀ y ∈ ys, y < 2 ^ w) : Lin n w (plain w ++ ys) where
  len := by rw [List.length_append, plain_len]; omega
  lt := fun l h => by
    rcases List.mem_append.mp h with h | h
    · exact plain_lt l h
    · exact lt l h
  all := fun x hx => (plain_all w x hx).mono fun b hb => List.mem_append_left _ hb
end Gf
namespace Fb
open PySem L2 Mm Gf
theorem mod_ne {o r n : Nat} (ho : o < n) (hr : r < n - 1) : (o + 1 + r) % n < n ∧ o ≠ (o + 1 + r) % n := by
  refine ⟨Nat.mod_lt _ (by omega), ?_⟩
  by_cases h : o + 1 + r < n
  · rw [Nat.mod_eq_of_lt h]
    omega
  · have : (o + 1 + r) % n = o + 1 + r - n := by
      rw [Nat.mod_eq_sub_mod (by omega), Nat.mod_eq_of_lt (by omega)]
    omega
theorem fmod_natnat (a b : Nat) : (a : Int).fmod (b : Int) = ((a % b : Nat) : Int) := by
  rw [Int.fmod_eq_emod_of_nonneg _ (by omega)]
  rfl
theorem nl_get {xs : List Nat} {i : Nat} (h : i < xs.length) : atI (nl xs) (i : Int) = some (nd (xs.getD i 0)) := by
  rw [Mm.atI_nat]
  simp [nl, h]
theorem nl_set (xs : List Nat) (i x : Nat) : (nl xs).set i (nd x) = nl (xs.set i x) := by simp [nl, List.map_set]
noncomputable def lBody1 : MS := sSeq (sAsg (eCall m__law_take [] (aCons (eV 0) (aCons (eV 1) aNil))) (gN 5))
    (sSeq (sAsg (eOp dAdd (eOp dAdd (eV 5) (eC (.int 1))) (eCall m__law_take [] (aCons (eV 0) (aCons (eOp iSub (eV 1) (eC (.int 1))) aNil)))) (gN 6))
    (sPut 3 (eV 5) (eOp iXor (eIxA 3 (eV 5)) (eIxA 3 (eOp iMod (eV 6) (eV 1))))))
noncomputable def lBody2 : MS := sSeq (sAsg (eCall m__law_take [] (aCons (eV 0) (aCons (eV 2) aNil))) (gN 5))
    (sSeq (sAsg (eOp iMod (eOp dAdd (eOp dAdd (eV 5) (eC (.int 1))) (eCall m__law_take [] (aCons (eV 0) (aCons (eOp iSub (eV 2) (eC (.int 1))) aNil)))) (eV 2)) (gN 6))
    (sFrz 3 (sOwn 3 (fLc (itL (eV 3)) (gN 8) cYes (eOp iXor (eV 8) (eOp iShl (eOp iAnd (eOp iShr (eV 8) (eV 5)) (eC (.int 1))) (eV 6))) [8]))))
theorem lBody1_ok {b : Cell} (hb : Bx b) {n w : Nat} {ls : List Nat} (h : Lin n w ls) (hn : 1 < n) (hn2 : n ≤ 1000) (s4 s5 s6 : Sl) : ∃ b' ls' s5' s6', lBody1 [.v (.ref 0), .v (nd n), .v (nd w), .o (.lst (nl ls)), s4, s5, s6, .no, .no] [b] =
    .nx [.v (.ref 0), .v (nd n), .v (nd w), .o (.lst (nl ls')), s4, s5', s6', .no, .no] [b'] ∧ Bx b' ∧ Lin n w ls' := by
  obtain ⟨b1, o, t1, hb1, ho⟩ := take1 hb (k := n) (by omega) (by omega)
  obtain ⟨b2, r, t2, hb2, hr⟩ := take1 hb1 (k := n - 1) (by omega) (by omega)
  have t2' : m__law_take [.ref 0, .int ((n : Int) - 1)] [b1] = .ok (.val (nd r)) [b2] := by
    have e : (n : Int) - 1 = ((n - 1 : Nat) : Int) := by omega
    rw [e]
    exact t2
  obtain ⟨m1, m2⟩ := mod_ne ho hr
  have e1 : ((o : Int) + 1 + r).fmod n = (((o + 1 + r) % n : Nat) : Int) := by
    rw [← fmod_natnat]
    rfl
  have hl := h.len
  have g1 := nl_get (xs := ls) (i := o) (by omega)
  have g2 := nl_get (xs := ls) (i := (o + 1 + r) % n) (by omega)
  have ix := ixN_of (n := ls.length) (j := o) (by omega)
  have nz : ¬ n = 0 := by omega
  refine ⟨b2, ls.set o (ls.getD o 0 ^^^ ls.getD ((o + 1 + r) % n) 0), .v (nd o), .v (.int ((o : Int) + 1 + r)), ?_, hb2, h.row ho m1 m2⟩
  have g2' : atI (nl ls) (((o : Int) + 1 + r) % (n : Int)) = some (nd (ls.getD ((o + 1 + r) % n) 0)) := g2
  simp [lBody1, t1, t2', nz, e1, g1, g2', ix]
  exact nl_set _ _ _
theorem phi_int (l o f : Nat) : ((l : Int) >>> o).toNat &&& 1 = if l.testBit o then 1 else 0 := by
  have e : ((l : Int) >>> o) = ((l >>> o : Nat) : Int) := rfl
  rw [e, Int.toNat_natCast, Nat.and_one_is_mod, Nat.testBit_eq_decide_div_mod_eq, Nat.shiftRight_eq_div_pow]
  simp
  split <;> omega
theorem band_one (l o : Nat) : Builtin.bitAnd ((l : Int) >>> o) 1 = ((if l.testBit o then 1 else 0 : Nat) : Int) := by
  have e : ((l : Int) >>> o) = ((l >>> o : Nat) : Int) := rfl
  have : Builtin.bitAnd (((l >>> o : Nat) : Int)) 1 = ((l >>> o &&& 1 : Nat) : Int) := band_nat (l >>> o) 1
  rw [e, this, ← phi_int l o 0, e, Int.toNat_natCast]
theorem phi_xorI (l o f : Nat) : Builtin.bitXor (l : Int) (((if l.testBit o then 1 else 0 : Nat) : Int) * 2 ^ f) = ((phi o f l : Nat) : Int) := by
  unfold phi
  split
  · have : ((1 : Nat) : Int) * 2 ^ f = ((2 ^ f : Nat) : Int) := by simp
    rw [this, bxor_nat]
  · have : ((0 : Nat) : Int) * 2 ^ f = ((0 : Nat) : Int) := by simp
    rw [this, bxor_nat]
theorem lBody2_ok {b : Cell} (hb : Bx b) {n w : Nat} {ls : List Nat} (h : Lin n w ls) (hn : 1 < w) (hw : w ≤ 1000) (hn2 : n ≤ 1000) (s4 s5 s6 : Sl) : ∃ b' ls' s5' s6', lBody2 [.v (.ref 0), .v (nd n), .v (nd w), .o (.lst (nl ls)), s4, s5, s6, .no, .no] [b] =
    .nx [.v (.ref 0), .v (nd n), .v (nd w), .o (.lst (nl ls')), s4, s5', s6', .no, .no] [b'] ∧ Bx b' ∧ Lin n w ls' := by
  obtain ⟨b1, o, t1, hb1, ho⟩ := take1 hb (k := w) (by omega) (by omega)
  obtain ⟨b2, r, t2, hb2, hr⟩ := take1 hb1 (k := w - 1) (by omega) (by omega)
  have t2' : m__law_take [.ref 0, .int ((w : Int) - 1)] [b1] = .ok (.val (nd r)) [b2] := by
    have e : (w : Int) - 1 = ((w - 1 : Nat) : Int) := by omega
    rw [e]
    exact t2
  obtain ⟨m1, m2⟩ := mod_ne ho hr
  have e1 : ((o : Int) + 1 + r).fmod w = (((o + 1 + r) % w : Nat) : Int) := by
    rw [← fmod_natnat]
    rfl
  have hl := h.len
  have nz : ¬ w = 0 := by omega
  generalize hf : (o + 1 + r) % w = f at *
  have lc := lcR_map (S := [b2]) (g := gN 8) (tt := cYes) (te := eOp iXor (eV 8) (eOp iShl (eOp iAnd (eOp iShr (eV 8) (eV 5)) (eC (.int 1))) (eV 6))) (env := [.v (.ref 0), .v (nd n), .v (nd w), .v (.lst (nl ls)), s4, .v (nd o), .v (nd f), .no, .no].map hideS) (fun _ => true) (fun d => match d with
    | .int i => nd (phi o f i.toNat)
    | d => d) (nl ls) (fun d hd => by
      obtain ⟨y, hy, rfl⟩ := mem_nl.mp hd
      refine ⟨[.v (.ref 0), .v (nd n), .v (nd w), .v (.lst (nl ls)), hideS s4, .v (nd o), .v (nd f), .no, .v (nd y)], rfl, rfl, fun _ => ?_⟩
      have bb := band_one y o
      have pw := powB_nat (i := ((if y.testBit o then 1 else 0 : Nat) : Int)) (by split <;> decide) f (by omega)
      have px := phi_xorI y o f
      simp only [eOp_eq, eV_eq, eC_eq, bind_ok', iAnd_eq, iShr_eq, iShl_eq, iXor_eq, shr_nat]
      simp
      rw [bb]
      simp only [pw, if_true, opt_some', bind_ok', iXor_eq, Int.toNat_natCast]
      rw [px])
  rw [List.filter_eq_self.mpr (fun _ _ => rfl), nl_map (g := phi o f) (fun y _ => by simp)] at lc
  have sz := szB_of (n := ls.length) (by omega)
  refine ⟨b2, ls.map (phi o f), .v (nd o), .v (nd f), ?_, hb2, h.col m1 (fun e => m2 e.symm)⟩
  simp at lc
  simp [lBody2, t1, t2', nz, e1, sz, lc]
end Fb
namespace Fb
open PySem L2 Mm Gf
theorem m_lines_eq : m__law_lines = mFn 9 (sSeq (sOwn 3 (fLc (itR1 (aCons (eV 2) aNil)) (gN 7) cYes (eOp iShl (eC (.int 1)) (eV 7)) [7]))
    (sFrz 3 (sSeq (sOwn 3 (fCall m__law_shuffled [] (aCons (eV 0) (aCons (eOp dAdd (eV 3) (eCall m__law_numbers [] (aCons (eV 0) (aCons (eOp iSub (eV 1) (eV 2)) (aCons (eV 2) aNil))))) aNil))))
    (sSeq (sFor (itR1 (aCons (eOp iMul (eCall m__law_take [] (aCons (eV 0) (aCons (eC (.int 7)) aNil))) (eCB fInt (aCons (eOp iGt (eV 1) (eC (.int 1))) aNil))) aNil)) (gN 4) lBody1)
    (sSeq (sFor (itR1 (aCons (eOp iMul (eCall m__law_take [] (aCons (eV 0) (aCons (eC (.int 4)) aNil))) (eCB fInt (aCons (eOp iGt (eV 2) (eC (.int 1))) aNil))) aNil)) (gN 4) lBody2)
    (sFrz 3 (sRet (eCB fTupOf (aCons (eV 3) aNil))))))))) := rfl
abbrev lEnv (n w : Nat) (ls : List Nat) (s4 s5 s6 : Sl) : Envr := [.v (.ref 0), .v (nd n), .v (nd w), .o (.lst (nl ls)), s4, s5, s6, .no, .no]
theorem lFor {n w : Nat} {B : MS} (c : Prop) (hB : c → ∀ {b : Cell} (_ : Bx b) {ls : List Nat} (_ : Lin n w ls) (s4 s5 s6 : Sl), ∃ b' ls' s5' s6', B (lEnv n w ls s4 s5 s6) [b] = .nx (lEnv n w ls' s4 s5' s6') [b'] ∧ Bx b' ∧ Lin n w ls')
    (m : Nat) (hc : m = 0 ∨ c) {b : Cell} (hb : Bx b) {ls : List Nat} (h : Lin n w ls) (s4 s5 s6 : Sl) : ∃ b' ls' s4' s5' s6', forL (gN 4) B (nl (List.range m)) (lEnv n w ls s4 s5 s6) [b] = .nx (lEnv n w ls' s4' s5' s6') [b'] ∧ Bx b' ∧ Lin n w ls' := by
  have key := forL_inv (g := gN 4) (b := B) (I := fun ds env S => (ds = [] ∨ c) ∧ ∃ (b' : Cell) (ls' : List Nat) (s4' s5' s6' : Sl), S = [b'] ∧ Bx b' ∧ Lin n w ls' ∧ env = lEnv n w ls' s4' s5' s6')
    (fun d ds env S h => by
      obtain ⟨hc, b', ls', s4', s5', s6', rfl, hb', hL, rfl⟩ := h
      have c' : c := hc.resolve_left (fun z => by cases z)
      obtain ⟨b2, ls2, s5'', s6'', e, hb2, hL2⟩ := hB c' hb' hL (.v d) s5' s6'
      exact ⟨lEnv n w ls' (.v d) s5' s6', rfl, _, _, .inl e, .inr c', b2, ls2, _, _, _, rfl, hb2, hL2, rfl⟩) (nl (List.range m)) (lEnv n w ls s4 s5 s6) [b] ⟨by
        rcases hc with rfl | hc
        · exact .inl rfl
        · exact .inr hc, b, ls, _, _, _, rfl, hb, h, rfl⟩
  obtain ⟨e', S', k1, _, b', ls', s4', s5', s6', rfl, hb', hL, rfl⟩ := key
  exact ⟨b', ls', s4', s5', s6', k1, hb', hL⟩
/-- the count of rounds of a loop: r * int(x > 1) -/
theorem cnt (r x : Nat) : (r : Int) * (if decide ((1 : Int) < (x : Int)) = true then 1 else 0) = ((r * (if 1 < x then 1 else 0) : Nat) : Int) := by
  by_cases h : 1 < x
  · have : (1 : Int) < (x : Int) := by omega
    simp [h, this]
  · have : ¬ (1 : Int) < (x : Int) := by omega
    simp [h, this]
theorem lIt {b : Cell} (hb : Bx b) {k x i : Nat} (hk : 0 < k) (hk2 : k ≤ 1000) {env : Envr} (h0 : env[0]? = some (.v (.ref 0))) (hi : env[i]? = some (.v (nd x))) :
    ∃ b' m, itR1 (aCons (eOp iMul (eCall m__law_take [] (aCons (eV 0) (aCons (eC (nd k)) aNil))) (eCB fInt (aCons (eOp iGt (eV i) (eC (.int 1))) aNil))) aNil) env [b] = .ok (nl (List.range m)) [b'] ∧ Bx b' ∧ (m = 0 ∨ 1 < x) := by
  obtain ⟨b1, r, t, hb1, hr⟩ := take1 hb (k := k) hk (by omega)
  refine ⟨b1, r * (if 1 < x then 1 else 0), ?_, hb1, ?_⟩
  · have c := cnt r x
    have mm := mulB_l (i := (r : Int)) (j := (if decide ((1 : Int) < (x : Int)) = true then 1 else 0)) (by omega)
    have le : r * (if 1 < x then 1 else 0) ≤ 100000 := by split <;> omega
    have rg := rgB_nat le
    simp only [itR1_eq, aCons_eq, aNil_eq, eOp_eq, eCall_eq, eV_eq, eC_eq, eCB_eq, h0, hi, bind_ok', List.append_nil, t, r_val, iGt_eq, opt_some', fInt_bl, iMul_eq, mm, if_true, c, rg]
    rw [Int.toNat_natCast, rng0]
  · split
    · rename_i z
      exact .inr z
    · exact .inl (by simp)
theorem plain_lc (S : Sto) (n w : Nat) (hw : w ≤ 1000) : lcR (gN 7) cYes (eOp iShl (eC (.int 1)) (eV 7)) [.v (.ref 0), .v (nd n), .v (nd w), .no, .no, .no, .no, .no, .no] (nl (List.range w)) S = .ok (nl (plain w)) S := by
  have lc := lcR_map (S := S) (g := gN 7) (tt := cYes) (te := eOp iShl (eC (.int 1)) (eV 7)) (env := [.v (.ref 0), .v (nd n), .v (nd w), .no, .no, .no, .no, .no, .no]) (fun _ => true) (fun d => match d with
    | .int i => nd (2 ^ i.toNat)
    | d => d) (nl (List.range w)) (fun d hd => by
      obtain ⟨i, hi, rfl⟩ := mem_nl.mp hd
      have hi := List.mem_range.mp hi
      have pw := powB_nat (i := 1) (by decide) i (by omega)
      refine ⟨[.v (.ref 0), .v (nd n), .v (nd w), .no, .no, .no, .no, .v (nd i), .no], rfl, rfl, fun _ => ?_⟩
      simp [pw])
  rw [List.filter_eq_self.mpr (fun _ _ => rfl), nl_map (g := (2 ^ ·)) (fun y _ => by simp)] at lc
  exact lc
theorem lines_ok {b : Cell} (hb : Bx b) {n w : Nat} (hn : n ≤ 12) (hw : w ≤ n) : ∃ b' ls, m__law_lines [.ref 0, .int n, .int w] [b] = .ok (.val (.tup (nl ls))) [b'] ∧ Bx b' ∧ Lin n w ls := by
  obtain ⟨b1, ys, e1, hb1, l1, lt1⟩ := numbers_ok hb (n - w) w (by omega) (by omega)
  have e1' : m__law_numbers [.ref 0, .int ((n : Int) - w), .int w] [b] = .ok (.own (.lst (nl ys))) [b1] := by
    have e : (n : Int) - w = ((n - w : Nat) : Int) := by omega
    rw [e]
    exact e1
  have L0 := Lin.plain (n := n) (w := w) l1 hw lt1
  obtain ⟨b2, zs, e2, hb2, p2⟩ := shuffled_ok hb1 (plain w ++ ys) (by rw [L0.len]; omega)
  have L1 := L0.perm p2
  obtain ⟨b3, m, e3, hb3, c3⟩ := lIt hb2 (k := 7) (x := n) (i := 1) (env := lEnv n w zs .no .no .no) (by decide) (by decide) rfl rfl
  obtain ⟨b4, ls4, s4, s5, s6, e4, hb4, L4⟩ := lFor (1 < n) (fun c _ hb _ hL s4 s5 s6 => lBody1_ok hb hL c (by omega) s4 s5 s6) m c3 hb3 L1 .no .no .no
  obtain ⟨b5, m5, e5, hb5, c5⟩ := lIt hb4 (k := 4) (x := w) (i := 2) (env := lEnv n w ls4 s4 s5 s6) (by decide) (by decide) rfl rfl
  obtain ⟨b6, ls6, t4, t5, t6, e6, hb6, L6⟩ := lFor (1 < w) (fun c _ hb _ hL s4 s5 s6 => lBody2_ok hb hL c (by omega) (by omega) s4 s5 s6) m5 c5 hb5 L4 s4 s5 s6
  refine ⟨b6, ls6, ?_, hb6, L6⟩
  have rg := rgB_nat (n := w) (by omega)
  have pl := plain_lc [b] n w (by omega)
  have sz := szB_of (n := w) (by omega)
  have sz2 := szB_of (n := w + ys.length) (by omega)
  have e3' : itR1 (aCons (eOp iMul (eCall m__law_take [] (aCons (eV 0) (aCons (eC (.int 7)) aNil))) (eCB fInt (aCons (eOp iGt (eV 1) (eC (.int 1))) aNil))) aNil) (lEnv n w zs .no .no .no) [b2] = _ := e3
  have e5' : itR1 (aCons (eOp iMul (eCall m__law_take [] (aCons (eV 0) (aCons (eC (.int 4)) aNil))) (eCB fInt (aCons (eOp iGt (eV 2) (eC (.int 1))) aNil))) aNil) (lEnv n w ls4 s4 s5 s6) [b4] = _ := e5
  rw [m_lines_eq]
  have a1 : (sOwn 3 (fLc (itR1 (aCons (eV 2) aNil)) (gN 7) cYes (eOp iShl (eC (.int 1)) (eV 7)) [7])) [.v (.ref 0), .v (nd n), .v (nd w), .no, .no, .no, .no, .no, .no] [b] = .nx (lEnv n w (plain w) .no .no .no) [b] := by
    simp [rg, rng0, pl, sz, Gf.plain_len]
  have a2 : (sOwn 3 (fCall m__law_shuffled [] (aCons (eV 0) (aCons (eOp dAdd (eV 3) (eCall m__law_numbers [] (aCons (eV 0) (aCons (eOp iSub (eV 1) (eV 2)) (aCons (eV 2) aNil))))) aNil)))) (frzAt 3 (lEnv n w (plain w) .no .no .no)) [b] = .nx (lEnv n w zs .no .no .no) [b2] := by
    simp [e1', Gf.plain_len, sz2, e2]
  simp only [mFn_eq, startE_eq, sSeq_eq, sFor_eq, sFrz_eq]
  have st : ([D.ref 0, D.int n, D.int w].map Sl.v ++ List.replicate (9 - [D.ref 0, D.int n, D.int w].length) Sl.no) = [.v (.ref 0), .v (nd n), .v (nd w), .no, .no, .no, .no, .no, .no] := rfl
  rw [st, a1]
  simp only []
  rw [a2]
  simp only []
  rw [e3']
  simp only [out_ok']
  rw [e4]
  simp only []
  rw [e5']
  simp only [out_ok']
  rw [e6]
  simp
end Fb
namespace Mm
open PySem L2
@[simp] theorem eIsT_eq (me : ME) (m : MA) (env : Envr) (S : Sto) : eIsT me m env S = (me env S).bind fun d S1 => (m env S1).bind fun ds S2 => match d.tyN, tysOf ds with
  | some t, some ns => if szB ds.length then opt ((kitL t ns).map D.bl) S2 else .stuck
  | _, _ => .stuck := rfl
@[simp] theorem itZA_eq (m : MA) (env : Envr) (S : Sto) : itZA m env S = (m env S).bind fun ds S1 => match ds with
  | [.lst xs, .lst ys] => .ok (zipD xs ys) S1
  | [.tup xs, .tup ys] => .ok (zipD xs ys) S1
  | _ => .stuck := rfl
@[simp] theorem eChain_eq (f g : Sto → D → D → Option D) (ma mb mc : ME) (env : Envr) (S : Sto) : eChain f g ma mb mc env S = (ma env S).bind fun x S1 => (mb env S1).bind fun y S2 => match f S2 x y with
  | some (.bl true) => (mc env S2).bind fun z S3 => opt (g S3 y z) S3
  | some (.bl false) => .ok (.bl false) S2
  | _ => .stuck := rfl
@[simp] theorem eCnt_eq (mo me : ME) (env : Envr) (S : Sto) : eCnt mo me env S = (mo env S).bind fun d S1 => match d with
  | .lst ds => (me env S1).bind fun k S2 => (match k with
    | .int k => opt ((intsOf ds).map fun ns => D.int (ns.count k : Nat)) S2
    | _ => .stuck)
  | _ => .stuck := rfl
@[simp] theorem fMin2_eq (S : Sto) (i j : Int) : fMin2 S [.int i, .int j] = some (.int (if j < i then j else i)) := rfl
@[simp] theorem fMax2_eq (S : Sto) (i j : Int) : fMax2 S [.int i, .int j] = some (.int (if j > i then j else i)) := rfl
@[simp] theorem eTried_eq (cs : List Str) (me : ME) (env : Envr) (S : Sto) : eTried cs me env S = tryW cs (me (wipeE env []) S) := rfl
@[simp] theorem tryW_ok (cs : List Str) (d : D) (S : Sto) : tryW cs (.ok d S) = .ok (.tup [.str "told", d]) S := rfl
theorem tryW_exc (cs : List Str) (c : Str) (S : Sto) : tryW cs (.exc c none S) = if c ∈ cs then .ok (.tup (wordsOf c)) S else .stuck := rfl
@[simp] theorem cLend_eq (is : List Nat) (m : MT) (env : Envr) (S : Sto) : cLend is m env S = (match m (lendE is env) [] with
  | .ok b _ => .ok b S
  | _ => .stuck) := rfl
theorem wordsOf_of {c w : Str} (h : (wordL.filter fun p => decide (p.2 = c)) = [(w, c)]) : wordsOf c = [.str w] := by
  unfold wordsOf
  rw [h]
  rfl
@[simp] theorem wordsOf_BadNumber : wordsOf "BadNumber" = [.str "badnumber"] := wordsOf_of (by decide +kernel)
@[simp] theorem wordsOf_BadFold : wordsOf "BadFold" = [.str "badfold"] := wordsOf_of (by decide +kernel)
@[simp] theorem wordsOf_Unfit : wordsOf "Unfit" = [.str "unfit"] := wordsOf_of (by decide +kernel)
@[simp] theorem wordsOf_NotPart : wordsOf "NotPart" = [.str "notpart"] := wordsOf_of (by decide +kernel)
@[simp] theorem wordsOf_NotOnto : wordsOf "NotOnto" = [.str "notonto"] := wordsOf_of (by decide +kernel)
@[simp] theorem wordsOf_BadSize : wordsOf "BadSize" = [.str "badsize"] := wordsOf_of (by decide +kernel)
@[simp] theorem wordsOf_NoBerth : wordsOf "NoBerth" = [.str "noberth"] := wordsOf_of (by decide +kernel)
@[simp] theorem wordsOf_BadSides : wordsOf "BadSides" = [.str "badsides"] := wordsOf_of (by decide +kernel)
@[simp] theorem wordsOf_BadRows : wordsOf "BadRows" = [.str "badrows"] := wordsOf_of (by decide +kernel)
@[simp] theorem tyN_non : D.tyN .non = some "NoneType" := rfl
@[simp] theorem tyN_bl (b : Bool) : D.tyN (.bl b) = some "bool" := rfl
@[simp] theorem tyN_int (b : Int) : D.tyN (.int b) = some "int" := rfl
@[simp] theorem tyN_str (b : Str) : D.tyN (.str b) = some "str" := rfl
@[simp] theorem tyN_lst (b : List D) : D.tyN (.lst b) = some "list" := rfl
@[simp] theorem tyN_tup (b : List D) : D.tyN (.tup b) = some "tuple" := rfl
end Mm
namespace Fb
open PySem L2 Mm Gf
noncomputable def m__law_same : Nat → MFn
  | 0 => fun _ _ => .stuck
  | n + 1 => mFn 4 (sSeq (sIf (cB (eIsT (eV 1) (aCons (eC (.ty "list")) (aCons (eC (.ty "tuple")) aNil)))) (sSeq (sIf (cOr (cB (eOp fNe (eCB fIsi (aCons (eV 0) (aCons (eC (.ty "list")) aNil))) (eCB fIsi (aCons (eV 1) (aCons (eC (.ty "list")) aNil))))) (cB (eOp fNe (eCB fIsi (aCons (eV 0) (aCons (eC (.ty "tuple")) aNil))) (eCB fIsi (aCons (eV 1) (aCons (eC (.ty "tuple")) aNil)))))) (sRet (eC (.bl false))) sNil)
    (sRet (eAnd (eOp fEq (eCB fLen (aCons (eV 0) aNil)) (eCB fLen (aCons (eV 1) aNil))) (eCB fAll (aCons (mFrz (fLc (itZA (aCons (eV 0) (aCons (eV 1) aNil))) (gT (gNC (gN 2) (gNC (gN 3) gN0))) cYes (eCall (m__law_same n) [] (aCons (eV 2) (aCons (eV 3) aNil))) [2, 3])) aNil))))) sNil)
    (sSeq (sIf (cOr (cB (eOp fNe (eOp fIs (eV 0) (eC .non)) (eOp fIs (eV 1) (eC .non)))) (cB (eOp fNe (eCB fIsi (aCons (eV 0) (aCons (eC (.ty "bool")) aNil))) (eCB fIsi (aCons (eV 1) (aCons (eC (.ty "bool")) aNil)))))) (sRet (eC (.bl false))) sNil)
    (sSeq (sIf (cB (eOp fNe (eCB fIsi (aCons (eV 0) (aCons (eC (.ty "int")) aNil))) (eCB fIsi (aCons (eV 1) (aCons (eC (.ty "int")) aNil))))) (sRet (eC (.bl false))) sNil)
    (sRet (eAnd (eOp fEq (eCB fIsi (aCons (eV 0) (aCons (eC (.ty "str")) aNil))) (eCB fIsi (aCons (eV 1) (aCons (eC (.ty "str")) aNil)))) (eOp fEq (eV 0) (eV 1)))))))
noncomputable def m__law_images : MFn := mFn 4 (sSeq (sAsg (mFrz (fLst (aCons (eC (.int 0)) aNil))) (gN 1))
    (sSeq (sFor (itL (eV 0)) (gN 2) (sAsg (eOp dAdd (eV 1) (mFrz (fLc (itL (eV 1)) (gN 3) cYes (eOp iXor (eV 3) (eV 2)) [3]))) (gN 1)))
    (sRet (eV 1))))
noncomputable def m__law_blend : MFn := mFn 3 (sSeq (sAsg (eC (.int 0)) (gN 1))
    (sSeq (sFor (itL (eV 0)) (gN 2) (sAsg (eOp iXor (eV 1) (eV 2)) (gN 1)))
    (sRet (eV 1))))
noncomputable def m__law_to : MFn := mFn 4 (sRet (eCall m__law_blend [] (aCons (mFrz (fLc (itES (aCons (eV 0) aNil)) (gT (gNC (gN 2) (gNC (gN 3) gN0))) (cB (eOp fEq (eOp iAnd (eOp iShr (eV 1) (eV 2)) (eC (.int 1))) (eC (.int 1)))) (eV 3) [2, 3])) aNil)))
noncomputable def m__law_of : MFn := mFn 2 (sRet (eOp fIx (eV 1) (eCall m__law_take [] (aCons (eV 0) (aCons (eCB fLen (aCons (eV 1) aNil)) aNil)))))
noncomputable def m_blend : MFn := mFn 1 (sSeq (sExpr (eCall m_need_numbers [.int 12] (aCons (eV 0) aNil)))
    (sRet (eCall m_blended [] (aCons (eV 0) aNil))))
noncomputable def m__law_span : MFn := mFn 4 (sSeq (sAsg (mFrz (fLst (aCons (eC (.int 0)) aNil))) (gN 1))
    (sSeq (sFor (itL (eV 0)) (gN 2) (sIf (cB (eOp (fIn true) (eV 2) (eV 1))) (sAsg (eOp dAdd (eV 1) (mFrz (fLc (itL (eV 1)) (gN 3) cYes (eOp iXor (eV 3) (eV 2)) [3]))) (gN 1)) sNil))
    (sRet (eV 1))))
noncomputable def m__law_top : MFn := mFn 2 (sSeq (sAsg (eC (.int 0)) (gN 1))
    (sSeq (whL (cB (eOp iGt (eOp iShr (eV 0) (eV 1)) (eC (.int 1)))) (sAug 1 (fun i j => i + j) (eC (.int 1))) 100)
    (sRet (eV 1))))
noncomputable def m__law_is_basis : MFn := mFn 5 (sSeq (sIf (cOr (cNot (cB (eCall (m__law_same 4) [] (aCons (eV 0) (aCons (mFrz (fCB fSorted (aCons (eV 0) aNil))) aNil))))) (cOr (cB (eOp (fIn false) (eC (.int 0)) (eV 0))) (cB (eOp fNe (mFrz (fCB fSorted (aCons (eCall m__law_span [] (aCons (eV 0) aNil)) aNil))) (mFrz (fCB fSorted (aCons (eV 1) aNil))))))) (sRet (eC (.bl false))) sNil)
    (sSeq (sIf (cB (eOp fNe (eCB fLen (aCons (eV 1) aNil)) (eOp iShl (eC (.int 1)) (eCB fLen (aCons (eV 0) aNil))))) (sRet (eC (.bl false))) sNil)
    (sSeq (sAsg (mFrz (fLc (itL (eV 0)) (gN 3) cYes (eCall m__law_top [] (aCons (eV 3) aNil)) [3])) (gN 2))
    (sRet (eCB fAll (aCons (mFrz (fLc (itL (eV 2)) (gN 4) cYes (eOp fEq (eCnt (mFrz (fLc (itL (eV 0)) (gN 3) cYes (eOp iAnd (eOp iShr (eV 3) (eV 4)) (eC (.int 1))) [3])) (eC (.int 1))) (eC (.int 1))) [4])) aNil))))))
noncomputable def m__law_far : MFn := mFn 1 (sRet (eOp fIx (mFrz (fLst (aCons (eUn fNeg (eC (.int 1))) (aCons (eC (.int 4096)) (aCons (eOp iPow (eC (.int 10)) (eC (.int 20))) (aCons (eUn fNeg (eOp iPow (eC (.int 10)) (eC (.int 30)))) aNil)))))) (eCall m__law_take [] (aCons (eV 0) (aCons (eC (.int 4)) aNil)))))
noncomputable def m_meet : MFn := mFn 5 (sSeq (sExpr (eCall m_need_numbers [.int 12] (aCons (eOp dAdd (mFrz (fCB fListOf (aCons (eV 0) aNil))) (mFrz (fCB fListOf (aCons (eV 1) aNil)))) aNil)))
    (sSeq (sAsg (eOp dAdd (mFrz (fLc (itL (eV 0)) (gN 3) cYes (eOp dAdd (eOp iMul (eV 3) (eC (.int 4096))) (eV 3)) [3])) (mFrz (fLc (itL (eV 1)) (gN 3) cYes (eOp iMul (eV 3) (eC (.int 4096))) [3]))) (gN 2))
    (sRetF (fLc (itL (eCall m_basis_of [] (aCons (eV 2) aNil))) (gN 4) (cB (eOp iLt (eV 4) (eC (.int 4096)))) (eV 4) [4]))))
end Fb
namespace Mm
open PySem L2
/-- comprehensions that leave the store alone, over any list -/
theorem lc_gen {β : Type} {g : MG} {tt : MT} {te : ME} {env : Envr} {S : Sto} (ψ : β → D) (p : β → Bool) (φ : β → D) : ∀ (xs : List β), (∀ y ∈ xs, ∃ e1, g (ψ y) env = some e1 ∧ tt e1 S = .ok (p y) S ∧ (p y = true → te e1 S = .ok (φ y) S)) → lcR g tt te env (xs.map ψ) S = .ok ((xs.filter p).map φ) S
  | [], _ => rfl
  | y :: xs, h => by
    obtain ⟨e1, h1, h2, h3⟩ := h y List.mem_cons_self
    have ih := lc_gen (g := g) (tt := tt) (te := te) (env := env) (S := S) ψ p φ xs fun z hz => h z (List.mem_cons_of_mem _ hz)
    rw [List.map_cons, lcR, h1]
    simp only [h2]
    cases hp : p y with
    | true =>
      simp only [h3 hp, ih, bind_ok']
      rw [List.filter_cons_of_pos hp, List.map_cons]
    | false =>
      simp only [ih]
      rw [List.filter_cons_of_neg (by simp [hp])]
theorem lc_all {β : Type} {g : MG} {te : ME} {env : Envr} {S : Sto} (ψ φ : β → D) (xs : List β) (h : ∀ y ∈ xs, ∃ e1, g (ψ y) env = some e1 ∧ te e1 S = .ok (φ y) S) : lcR g cYes te env (xs.map ψ) S = .ok (xs.map φ) S := by
  have := lc_gen (g := g) (tt := cYes) (te := te) (env := env) (S := S) ψ (fun _ => true) φ xs fun y hy => by
    obtain ⟨e1, h1, h2⟩ := h y hy
    exact ⟨e1, h1, rfl, fun _ => h2⟩
  rwa [List.filter_eq_self.mpr (fun _ _ => rfl)] at this
end Mm
namespace Fb
open PySem L2 Mm Gf
theorem lc_nl {te : ME} {k : Nat} {env : Envr} {S : Sto} (f : Nat → Nat) (xs : List Nat) (h : ∀ y ∈ xs, te (env.set k (.v (nd y))) S = .ok (nd (f y)) S) : lcR (gN k) cYes te env (nl xs) S = .ok (nl (xs.map f)) S := by
  have := lc_all (g := gN k) (te := te) (env := env) (S := S) nd (fun y => nd (f y)) xs fun y hy => ⟨_, rfl, h y hy⟩
  unfold nl
  rw [this, List.map_map]
  rfl
theorem lc_nlp {tt : MT} {te : ME} {k : Nat} {env : Envr} {S : Sto} (p : Nat → Bool) (f : Nat → Nat) (xs : List Nat) (h : ∀ y ∈ xs, tt (env.set k (.v (nd y))) S = .ok (p y) S ∧ (p y = true → te (env.set k (.v (nd y))) S = .ok (nd (f y)) S)) : lcR (gN k) tt te env (nl xs) S = .ok (nl ((xs.filter p).map f)) S := by
  have := lc_gen (g := gN k) (tt := tt) (te := te) (env := env) (S := S) nd p (fun y => nd (f y)) xs fun y hy => ⟨_, rfl, (h y hy).1, (h y hy).2⟩
  unfold nl
  rw [this, List.map_map]
  rfl
/-! ### same -/
@[simp] theorem kl_int : kitL "int" ["list", "tuple"] = some false := by decide +kernel
@[simp] theorem kl_bool : kitL "bool" ["list", "tuple"] = some false := by decide +kernel
@[simp] theorem kl_str : kitL "str" ["list", "tuple"] = some false := by decide +kernel
@[simp] theorem kl_non : kitL "NoneType" ["list", "tuple"] = some false := by decide +kernel
@[simp] theorem kl_list : kitL "list" ["list", "tuple"] = some true := by decide +kernel
@[simp] theorem kl_tuple : kitL "tuple" ["list", "tuple"] = some true := by decide +kernel
@[simp] theorem isi_non_list (S : Sto) : fIsi S [.non, .ty "list"] = some (.bl false) := congrArg (Option.map D.bl) (by decide +kernel : kitB "NoneType" "list" = some false)
@[simp] theorem isi_non_tuple (S : Sto) : fIsi S [.non, .ty "tuple"] = some (.bl false) := congrArg (Option.map D.bl) (by decide +kernel : kitB "NoneType" "tuple" = some false)
@[simp] theorem isi_non_bool (S : Sto) : fIsi S [.non, .ty "bool"] = some (.bl false) := congrArg (Option.map D.bl) (by decide +kernel : kitB "NoneType" "bool" = some false)
@[simp] theorem isi_non_int (S : Sto) : fIsi S [.non, .ty "int"] = some (.bl false) := congrArg (Option.map D.bl) (by decide +kernel : kitB "NoneType" "int" = some false)
@[simp] theorem isi_non_str (S : Sto) : fIsi S [.non, .ty "str"] = some (.bl false) := congrArg (Option.map D.bl) (by decide +kernel : kitB "NoneType" "str" = some false)
@[simp] theorem isi_bl_list (S : Sto) (b : Bool) : fIsi S [(.bl b), .ty "list"] = some (.bl false) := congrArg (Option.map D.bl) (by decide +kernel : kitB "bool" "list" = some false)
@[simp] theorem isi_bl_tuple (S : Sto) (b : Bool) : fIsi S [(.bl b), .ty "tuple"] = some (.bl false) := congrArg (Option.map D.bl) (by decide +kernel : kitB "bool" "tuple" = some false)
@[simp] theorem isi_bl_bool (S : Sto) (b : Bool) : fIsi S [(.bl b), .ty "bool"] = some (.bl true) := congrArg (Option.map D.bl) (by decide +kernel : kitB "bool" "bool" = some true)
@[simp] theorem isi_bl_int (S : Sto) (b : Bool) : fIsi S [(.bl b), .ty "int"] = some (.bl true) := congrArg (Option.map D.bl) (by decide +kernel : kitB "bool" "int" = some true)
@[simp] theorem isi_bl_str (S : Sto) (b : Bool) : fIsi S [(.bl b), .ty "str"] = some (.bl false) := congrArg (Option.map D.bl) (by decide +kernel : kitB "bool" "str" = some false)
@[simp] theorem isi_int_list (S : Sto) (b : Int) : fIsi S [(.int b), .ty "list"] = some (.bl false) := congrArg (Option.map D.bl) (by decide +kernel : kitB "int" "list" = some false)
@[simp] theorem isi_int_tuple (S : Sto) (b : Int) : fIsi S [(.int b), .ty "tuple"] = some (.bl false) := congrArg (Option.map D.bl) (by decide +kernel : kitB "int" "tuple" = some false)
@[simp] theorem isi_int_bool (S : Sto) (b : Int) : fIsi S [(.int b), .ty "bool"] = some (.bl false) := congrArg (Option.map D.bl) (by decide +kernel : kitB "int" "bool" = some false)
@[simp] theorem isi_int_int (S : Sto) (b : Int) : fIsi S [(.int b), .ty "int"] = some (.bl true) := congrArg (Option.map D.bl) (by decide +kernel : kitB "int" "int" = some true)
@[simp] theorem isi_int_str (S : Sto) (b : Int) : fIsi S [(.int b), .ty "str"] = some (.bl false) := congrArg (Option.map D.bl) (by decide +kernel : kitB "int" "str" = some false)
@[simp] theorem isi_str_list (S : Sto) (b : Str) : fIsi S [(.str b), .ty "list"] = some (.bl false) := congrArg (Option.map D.bl) (by decide +kernel : kitB "str" "list" = some false)
@[simp] theorem isi_str_tuple (S : Sto) (b : Str) : fIsi S [(.str b), .ty "tuple"] = some (.bl false) := congrArg (Option.map D.bl) (by decide +kernel : kitB "str" "tuple" = some false)
@[simp] theorem isi_str_bool (S : Sto) (b : Str) : fIsi S [(.str b), .ty "bool"] = some (.bl false) := congrArg (Option.map D.bl) (by decide +kernel : kitB "str" "bool" = some false)
@[simp] theorem isi_str_int (S : Sto) (b : Str) : fIsi S [(.str b), .ty "int"] = some (.bl false) := congrArg (Option.map D.bl) (by decide +kernel : kitB "str" "int" = some false)
@[simp] theorem isi_str_str (S : Sto) (b : Str) : fIsi S [(.str b), .ty "str"] = some (.bl true) := congrArg (Option.map D.bl) (by decide +kernel : kitB "str" "str" = some true)
@[simp] theorem isi_lst_list (S : Sto) (b : List D) : fIsi S [(.lst b), .ty "list"] = some (.bl true) := congrArg (Option.map D.bl) (by decide +kernel : kitB "list" "list" = some true)
@[simp] theorem isi_lst_tuple (S : Sto) (b : List D) : fIsi S [(.lst b), .ty "tuple"] = some (.bl false) := congrArg (Option.map D.bl) (by decide +kernel : kitB "list" "tuple" = some false)
@[simp] theorem isi_lst_bool (S : Sto) (b : List D) : fIsi S [(.lst b), .ty "bool"] = some (.bl false) := congrArg (Option.map D.bl) (by decide +kernel : kitB "list" "bool" = some false)
@[simp] theorem isi_lst_int (S : Sto) (b : List D) : fIsi S [(.lst b), .ty "int"] = some (.bl false) := congrArg (Option.map D.bl) (by decide +kernel : kitB "list" "int" = some false)
@[simp] theorem isi_lst_str (S : Sto) (b : List D) : fIsi S [(.lst b), .ty "str"] = some (.bl false) := congrArg (Option.map D.bl) (by decide +kernel : kitB "list" "str" = some false)
@[simp] theorem isi_tup_list (S : Sto) (b : List D) : fIsi S [(.tup b), .ty "list"] = some (.bl false) := congrArg (Option.map D.bl) (by decide +kernel : kitB "tuple" "list" = some false)
@[simp] theorem isi_tup_tuple (S : Sto) (b : List D) : fIsi S [(.tup b), .ty "tuple"] = some (.bl true) := congrArg (Option.map D.bl) (by decide +kernel : kitB "tuple" "tuple" = some true)
@[simp] theorem isi_tup_bool (S : Sto) (b : List D) : fIsi S [(.tup b), .ty "bool"] = some (.bl false) := congrArg (Option.map D.bl) (by decide +kernel : kitB "tuple" "bool" = some false)
@[simp] theorem isi_tup_int (S : Sto) (b : List D) : fIsi S [(.tup b), .ty "int"] = some (.bl false) := congrArg (Option.map D.bl) (by decide +kernel : kitB "tuple" "int" = some false)
@[simp] theorem isi_tup_str (S : Sto) (b : List D) : fIsi S [(.tup b), .ty "str"] = some (.bl false) := congrArg (Option.map D.bl) (by decide +kernel : kitB "tuple" "str" = some false)
@[simp] theorem tysOf_lt : tysOf [.ty "list", .ty "tuple"] = some ["list", "tuple"] := rfl
@[simp] theorem fAll_eq (S : Sto) (bs : List Bool) : fAll S [.lst (bs.map D.bl)] = some (.bl (bs.all id)) := by
  show Option.map _ (blsOf (bs.map D.bl)) = _
  rw [blsOf_map]
  rfl
@[simp] theorem isN_bl (b : Bool) : D.isN (.bl b) = false := rfl
@[simp] theorem isN_str (b : Str) : D.isN (.str b) = false := rfl
@[simp] theorem isN_lst (b : List D) : D.isN (.lst b) = false := rfl
@[simp] theorem isN_tup (b : List D) : D.isN (.tup b) = false := rfl
@[simp] theorem isN_ins (c : Str) (b : List (Str × D)) : D.isN (.ins c b) = false := rfl
theorem same_int (n : Nat) (x y : Int) (S : Sto) : m__law_same (n + 1) [.int x, .int y] S = .ok (.val (.bl (decide (x = y)))) S := by
  simp [m__law_same, szB]
theorem same_bl (n : Nat) (x y : Bool) (S : Sto) : m__law_same (n + 1) [.bl x, .bl y] S = .ok (.val (.bl (decide (x = y)))) S := by
  simp [m__law_same, szB]
  cases x <;> cases y <;> rfl
/-- lists of things that are the same by q -/
theorem same_lists {β : Type} (n : Nat) (φ ψ : β → D) (S : Sto) (xs ys : List β) (q : β → β → Bool) (hl : xs.length ≤ 100000) (h : ∀ x ∈ xs, ∀ y ∈ ys, m__law_same n [φ x, ψ y] S = .ok (.val (.bl (q x y))) S) (a b : D) (hab : (a = .lst (xs.map φ) ∧ b = .lst (ys.map ψ)) ∨ (a = .tup (xs.map φ) ∧ b = .tup (ys.map ψ))) :
    m__law_same (n + 1) [a, b] S = .ok (.val (.bl (decide (xs.length = ys.length) && (xs.zip ys).all fun p => q p.1 p.2))) S := by
  have lc : ∀ (xs ys : List β), (∀ x ∈ xs, ∀ y ∈ ys, m__law_same n [φ x, ψ y] S = .ok (.val (.bl (q x y))) S) → lcR (gT (gNC (gN 2) (gNC (gN 3) gN0))) cYes (eCall (m__law_same n) [] (aCons (eV 2) (aCons (eV 3) aNil))) [.v a, .v b, .no, .no] (zipD (xs.map φ) (ys.map ψ)) S = .ok (((xs.zip ys).map fun p => q p.1 p.2).map D.bl) S := by
    intro xs
    induction xs with
    | nil => intro ys _; rfl
    | cons x xs ih =>
      intro ys h
      cases ys with
      | nil => rfl
      | cons y ys =>
        have h1 := h x List.mem_cons_self y List.mem_cons_self
        have h2 := ih ys fun u hu v hv => h u (List.mem_cons_of_mem _ hu) v (List.mem_cons_of_mem _ hv)
        rw [List.map_cons, List.map_cons, zipD, lcR]
        simp [h1, h2]
  have key := lc xs ys h
  have z : ((xs.zip ys).map fun p => q p.1 p.2).length ≤ 100000 := by simp; omega
  have sz := szB_of (n := min xs.length ys.length) (by omega)
  have fa := fAll_eq S ((xs.zip ys).map fun p => q p.1 p.2)
  have al : ((xs.zip ys).map fun p => q p.1 p.2).all id = (xs.zip ys).all fun p => q p.1 p.2 := by simp [List.all_map, Function.comp_def]
  rw [al] at fa
  have two := szB_of (n := 2) (by decide)
  have body : (sRet (eAnd (eOp fEq (eCB fLen (aCons (eV 0) aNil)) (eCB fLen (aCons (eV 1) aNil))) (eCB fAll (aCons (mFrz (fLc (itZA (aCons (eV 0) (aCons (eV 1) aNil))) (gT (gNC (gN 2) (gNC (gN 3) gN0))) cYes (eCall (m__law_same n) [] (aCons (eV 2) (aCons (eV 3) aNil))) [2, 3])) aNil)))) [.v a, .v b, .no, .no] S = .rt (.val (.bl (decide (xs.length = ys.length) && (xs.zip ys).all fun p => q p.1 p.2))) S := by
    rcases hab with ⟨rfl, rfl⟩ | ⟨rfl, rfl⟩
    · by_cases hl : xs.length = ys.length
      · simp only [sRet_eq, eAnd_eq, eOp_eq, eCB_eq, aCons_eq, aNil_eq, eV_eq, List.getElem?_cons_zero, List.getElem?_cons_succ, bind_ok', fLen_lst, opt_some', List.length_map, mFrz_eq, fLc_eq, itZA_eq]
        simp [hl]
        erw [key]
        have ln : (((xs.zip ys).map fun p => q p.1 p.2).map D.bl).length = min xs.length ys.length := by simp
        simp only [bind_ok', fin_eq, ln, sz, if_true, d_lst, fa, opt_some', out_ok', decide_true, Bool.true_and]
      · have hl' : ¬ ((xs.length : Int) = (ys.length : Int)) := by omega
        simp [hl, hl']
    · by_cases hl : xs.length = ys.length
      · simp only [sRet_eq, eAnd_eq, eOp_eq, eCB_eq, aCons_eq, aNil_eq, eV_eq, List.getElem?_cons_zero, List.getElem?_cons_succ, bind_ok', fLen_tup, opt_some', List.length_map, mFrz_eq, fLc_eq, itZA_eq]
        simp [hl]
        erw [key]
        have ln : (((xs.zip ys).map fun p => q p.1 p.2).map D.bl).length = min xs.length ys.length := by simp
        simp only [bind_ok', fin_eq, ln, sz, if_true, d_lst, fa, opt_some', out_ok', decide_true, Bool.true_and]
      · have hl' : ¬ ((xs.length : Int) = (ys.length : Int)) := by omega
        simp [hl, hl']
  unfold m__law_same
  rw [mFn_eq, sSeq_eq]
  have st : startE 4 [a, b] = [.v a, .v b, .no, .no] := rfl
  rw [st]
  have i1 : (sIf (cB (eIsT (eV 1) (aCons (eC (.ty "list")) (aCons (eC (.ty "tuple")) aNil)))) (sSeq (sIf (cOr (cB (eOp fNe (eCB fIsi (aCons (eV 0) (aCons (eC (.ty "list")) aNil))) (eCB fIsi (aCons (eV 1) (aCons (eC (.ty "list")) aNil))))) (cB (eOp fNe (eCB fIsi (aCons (eV 0) (aCons (eC (.ty "tuple")) aNil))) (eCB fIsi (aCons (eV 1) (aCons (eC (.ty "tuple")) aNil)))))) (sRet (eC (.bl false))) sNil) (sRet (eAnd (eOp fEq (eCB fLen (aCons (eV 0) aNil)) (eCB fLen (aCons (eV 1) aNil))) (eCB fAll (aCons (mFrz (fLc (itZA (aCons (eV 0) (aCons (eV 1) aNil))) (gT (gNC (gN 2) (gNC (gN 3) gN0))) cYes (eCall (m__law_same n) [] (aCons (eV 2) (aCons (eV 3) aNil))) [2, 3])) aNil))))) sNil) [.v a, .v b, .no, .no] S = .rt (.val (.bl (decide (xs.length = ys.length) && (xs.zip ys).all fun p => q p.1 p.2))) S := by
    rw [sIf_eq]
    have c : (cB (eIsT (eV 1) (aCons (eC (.ty "list")) (aCons (eC (.ty "tuple")) aNil)))) [.v a, .v b, .no, .no] S = .ok true S := by
      rcases hab with ⟨rfl, rfl⟩ | ⟨rfl, rfl⟩ <;> simp [two]
    rw [c]
    simp only [out_ok', if_true, sSeq_eq]
    have c2 : (sIf (cOr (cB (eOp fNe (eCB fIsi (aCons (eV 0) (aCons (eC (.ty "list")) aNil))) (eCB fIsi (aCons (eV 1) (aCons (eC (.ty "list")) aNil))))) (cB (eOp fNe (eCB fIsi (aCons (eV 0) (aCons (eC (.ty "tuple")) aNil))) (eCB fIsi (aCons (eV 1) (aCons (eC (.ty "tuple")) aNil)))))) (sRet (eC (.bl false))) sNil) [.v a, .v b, .no, .no] S = .nx [.v a, .v b, .no, .no] S := by
      rcases hab with ⟨rfl, rfl⟩ | ⟨rfl, rfl⟩ <;> simp
    rw [c2]
    exact body
  rw [i1]
theorem zip_all_eq {β : Type} [DecidableEq β] : ∀ (xs ys : List β), (decide (xs.length = ys.length) && (xs.zip ys).all fun p => decide (p.1 = p.2)) = decide (xs = ys)
  | [], [] => rfl
  | [], y :: ys => by simp
  | x :: xs, [] => by simp
  | x :: xs, y :: ys => by
    have ih := zip_all_eq xs ys
    have e : decide ((x :: xs).length = (y :: ys).length) = decide (xs.length = ys.length) := by simp
    rw [e, List.zip_cons_cons, List.all_cons]
    have e2 : decide (x :: xs = y :: ys) = (decide (x = y) && decide (xs = ys)) := by simp
    rw [e2, ← ih]
    cases decide (xs.length = ys.length) <;> simp
/-- two lists of numbers -/
theorem same_nl (n : Nat) (xs ys : List Nat) (S : Sto) (hl : xs.length ≤ 100000) : m__law_same (n + 2) [.lst (nl xs), .lst (nl ys)] S = .ok (.val (.bl (decide (xs = ys)))) S := by
  have h := same_lists (n + 1) nd nd S xs ys (fun x y => decide (x = y)) hl (fun x _ y _ => by
    have := same_int n (x : Int) (y : Int) S
    rw [show decide ((x : Int) = (y : Int)) = decide (x = y) from decide_eq_decide.mpr (by omega)] at this
    exact this) (.lst (nl xs)) (.lst (nl ys)) (.inl ⟨rfl, rfl⟩)
  rw [zip_all_eq] at h
  exact h
theorem same_nt (n : Nat) (xs ys : List Nat) (S : Sto) (hl : xs.length ≤ 100000) : m__law_same (n + 2) [.tup (nl xs), .tup (nl ys)] S = .ok (.val (.bl (decide (xs = ys)))) S := by
  have h := same_lists (n + 1) nd nd S xs ys (fun x y => decide (x = y)) hl (fun x _ y _ => by
    have := same_int n (x : Int) (y : Int) S
    rw [show decide ((x : Int) = (y : Int)) = decide (x = y) from decide_eq_decide.mpr (by omega)] at this
    exact this) (.tup (nl xs)) (.tup (nl ys)) (.inr ⟨rfl, rfl⟩)
  rw [zip_all_eq] at h
  exact h
/-- lists of answers -/
theorem same_bls (n : Nat) (xs ys : List Bool) (S : Sto) (hl : xs.length ≤ 100000) : m__law_same (n + 2) [.lst (xs.map D.bl), .lst (ys.map D.bl)] S = .ok (.val (.bl (decide (xs = ys)))) S := by
  have h := same_lists (n + 1) D.bl D.bl S xs ys (fun x y => decide (x = y)) hl (fun x _ y _ => same_bl n x y S) (.lst (xs.map D.bl)) (.lst (ys.map D.bl)) (.inl ⟨rfl, rfl⟩)
  rw [zip_all_eq] at h
  exact h
/-! ### blend, to, images -/
theorem lblend_ok (S : Sto) (xs : List Nat) : m__law_blend [.lst (nl xs)] S = .ok (.val (nd (xs.foldl (· ^^^ ·) 0))) S := blended_ok S xs
theorem lto_ok (S : Sto) (rs : List Nat) (x : Nat) (hl : rs.length ≤ 1000) (a : D) (ha : a = .tup (nl rs) ∨ a = .lst (nl rs)) : m__law_to [a, .int x] S = .ok (.val (nd (app rs x))) S := picked_ok S rs x hl a ha
theorem images_ok (S : Sto) (B : List Nat) (hl : B.length ≤ 16) (a : D) (ha : a = .tup (nl B) ∨ a = .lst (nl B)) : m__law_images [a] S = .ok (.val (.lst (nl (spl B)))) S := by
  obtain ⟨s2, e, _⟩ := forR (S := S) (g := gN 2) (b := sAsg (eOp dAdd (eV 1) (mFrz (fLc (itL (eV 1)) (gN 3) cYes (eOp iXor (eV 3) (eV 2)) [3]))) (gN 1))
    nd (fun (s : List Nat) (q : Sl) => [.v a, .v (.lst (nl s)), q, .no]) (fun s b => s ++ s.map (· ^^^ b)) (fun r s => s.length * 2 ^ r.length ≤ 65536) B (fun s q b r h => by
      refine ⟨[.v a, .v (.lst (nl s)), .v (nd b), .no], rfl, .v (nd b), ?_, ?_⟩
      · have lc := lc_nl (te := eOp iXor (eV 3) (eV 2)) (k := 3) (env := [.v a, .v (.lst (nl s)), .v (nd b), .no]) (S := S) (· ^^^ b) s fun y _ => by simp
        rw [List.length_cons, Nat.pow_succ] at h
        have h1 : s.length * 2 ≤ s.length * (2 ^ r.length * 2) := Nat.mul_le_mul_left _ (by have := Nat.two_pow_pos r.length; omega)
        have z1 := szB_of (n := s.length) (by omega)
        have z2 := szB_of (n := s.length + s.length) (by omega)
        simp [lc, z1, z2]
      · rw [List.length_cons, Nat.pow_succ] at h
        rw [List.length_append, List.length_map]
        have : (s.length + s.length) * 2 ^ r.length = s.length * (2 ^ r.length * 2) := by
          rw [← Nat.mul_two, Nat.mul_assoc, Nat.mul_comm 2]
        omega) [0] .no (by
          have : 2 ^ B.length ≤ 2 ^ 16 := Nat.pow_le_pow_right (by decide) hl
          simp
          omega)
  have e' : forL (gN 2) (sAsg (eOp dAdd (eV 1) (mFrz (fLc (itL (eV 1)) (gN 3) cYes (eOp iXor (eV 3) (eV 2)) [3]))) (gN 1)) (nl B) [.v a, .v (.lst [.int 0]), .no, .no] S = .nx [.v a, .v (.lst (nl (spl B))), s2, .no] S := e
  have s0 := szB_of (n := 1) (by omega)
  rcases ha with rfl | rfl <;> simp [m__law_images, s0, e']
end Fb
namespace Gf
/-- the images in order -/
theorem spl_app_go : ∀ (B : List Nat) (f : Nat → Nat) (n : Nat), B.foldl (fun s b => s ++ s.map (· ^^^ b)) ((List.range (2 ^ n)).map f) = (List.range (2 ^ (n + B.length))).map fun x => f (x % 2 ^ n) ^^^ app B (x / 2 ^ n)
  | [], f, n => by
    simp only [List.foldl_nil, List.length_nil, Nat.add_zero, app_nil, Nat.xor_zero]
    refine List.map_congr_left fun x hx => ?_
    rw [Nat.mod_eq_of_lt (List.mem_range.mp hx)]
  | b :: B, f, n => by
    have e : (List.range (2 ^ n)).map f ++ ((List.range (2 ^ n)).map f).map (· ^^^ b) = (List.range (2 ^ (n + 1))).map fun x => f (x % 2 ^ n) ^^^ if x.testBit n then b else 0 := by
      rw [Nat.pow_succ, Nat.mul_two, List.range_add, List.map_append, List.map_map, List.map_map]
      congr 1
      · refine List.map_congr_left fun x hx => ?_
        have hx := List.mem_range.mp hx
        rw [Nat.mod_eq_of_lt hx, Nat.testBit_lt_two_pow hx]
        simp
      · refine List.map_congr_left fun x hx => ?_
        have hx := List.mem_range.mp hx
        have h1 : (2 ^ n + x) % 2 ^ n = x := by rw [Nat.add_mod_left, Nat.mod_eq_of_lt hx]
        have h2 : (2 ^ n + x).testBit n = true := by
          rw [Nat.testBit_two_pow_add_eq, Nat.testBit_lt_two_pow hx]
          rfl
        simp only [Function.comp, h1, h2, if_true]
    rw [List.foldl_cons, e, spl_app_go B _ (n + 1), List.length_cons, Nat.add_right_comm, ← Nat.add_assoc]
    refine List.map_congr_left fun x _ => ?_
    have h1 : x % 2 ^ (n + 1) % 2 ^ n = x % 2 ^ n := Nat.mod_mod_of_dvd _ ⟨2, Nat.pow_succ ..⟩
    have h2 : (x % 2 ^ (n + 1)).testBit n = x.testBit n := by rw [Nat.testBit_mod_two_pow]; simp
    have h3 : (x / 2 ^ n).testBit 0 = x.testBit n := by rw [Nat.testBit_div_two_pow]; simp
    have h4 : x / 2 ^ n / 2 = x / 2 ^ (n + 1) := by rw [Nat.div_div_eq_div_mul, Nat.pow_succ]
    rw [h1, h2, app_cons, h3, h4, Nat.xor_assoc]
theorem spl_app (B : List Nat) : spl B = (List.range (2 ^ B.length)).map (app B) := by
  have := spl_app_go B (fun _ => 0) 0
  simp at this
  unfold spl
  rw [this]
end Gf
namespace Fb
open PySem L2 Mm Gf
/-! ### texts compared -/
theorem shaped_str {x : Str} (h : PyData.strOk x = true) : SeqAt.shaped (.str x) = true := by simp [SeqAt.shaped, PyData.canLay0, PyData.depth, h]
theorem shaped_word {x : Str} (h : PyData.strOk x = true) : SeqAt.shaped (.tuple [.str x]) = true := by simp [SeqAt.shaped, PyData.canLay0, PyData.canLayAll0, PyData.depthAll, PyData.depth, h]
theorem fEq_str (S : Sto) {x y : Str} (hx : PyData.strOk x = true) (hy : PyData.strOk y = true) : fEq S (.str x) (.str y) = some (.bl (decide (x = y))) := by
  simp [fEq, D.py, shaped_str hx, shaped_str hy, PyData.eqv]
  rfl
theorem fNe_str (S : Sto) {x y : Str} (hx : PyData.strOk x = true) (hy : PyData.strOk y = true) : fNe S (.str x) (.str y) = some (.bl (!decide (x = y))) := by
  simp [fNe, D.py, shaped_str hx, shaped_str hy, PyData.eqv]
  rfl
theorem fNe_word (S : Sto) {x y : Str} (hx : PyData.strOk x = true) (hy : PyData.strOk y = true) : fNe S (.tup [.str x]) (.tup [.str y]) = some (.bl (!decide (x = y))) := by
  simp [fNe, D.py, pyAll, shaped_word hx, shaped_word hy, PyData.eqv, PyData.eqvAll]
  rfl
theorem fEq_word (S : Sto) {x y : Str} (hx : PyData.strOk x = true) (hy : PyData.strOk y = true) : fEq S (.tup [.str x]) (.tup [.str y]) = some (.bl (decide (x = y))) := by
  simp [fEq, D.py, pyAll, shaped_word hx, shaped_word hy, PyData.eqv, PyData.eqvAll]
  rfl
theorem sok_badnumber : PyData.strOk "badnumber" = true := by decide +kernel
theorem sok_badfold : PyData.strOk "badfold" = true := by decide +kernel
theorem sok_unfit : PyData.strOk "unfit" = true := by decide +kernel
theorem sok_notpart : PyData.strOk "notpart" = true := by decide +kernel
theorem sok_notonto : PyData.strOk "notonto" = true := by decide +kernel
theorem sok_badsize : PyData.strOk "badsize" = true := by decide +kernel
theorem sok_noberth : PyData.strOk "noberth" = true := by decide +kernel
theorem sok_told : PyData.strOk "told" = true := by decide +kernel
theorem sok_parted : PyData.strOk "parted" = true := by decide +kernel
theorem sok_through : PyData.strOk "through" = true := by decide +kernel
@[simp] theorem nw_badnumber (S : Sto) : fNe S (.tup [.str "badnumber"]) (.tup [.str "badnumber"]) = some (.bl false) := by rw [fNe_word S sok_badnumber sok_badnumber]; simp
@[simp] theorem ew_badnumber (S : Sto) : fEq S (.tup [.str "badnumber"]) (.tup [.str "badnumber"]) = some (.bl true) := by rw [fEq_word S sok_badnumber sok_badnumber]; simp
@[simp] theorem nw_badfold (S : Sto) : fNe S (.tup [.str "badfold"]) (.tup [.str "badfold"]) = some (.bl false) := by rw [fNe_word S sok_badfold sok_badfold]; simp
@[simp] theorem ew_badfold (S : Sto) : fEq S (.tup [.str "badfold"]) (.tup [.str "badfold"]) = some (.bl true) := by rw [fEq_word S sok_badfold sok_badfold]; simp
@[simp] theorem nw_unfit (S : Sto) : fNe S (.tup [.str "unfit"]) (.tup [.str "unfit"]) = some (.bl false) := by rw [fNe_word S sok_unfit sok_unfit]; simp
@[simp] theorem ew_unfit (S : Sto) : fEq S (.tup [.str "unfit"]) (.tup [.str "unfit"]) = some (.bl true) := by rw [fEq_word S sok_unfit sok_unfit]; simp
@[simp] theorem nw_notpart (S : Sto) : fNe S (.tup [.str "notpart"]) (.tup [.str "notpart"]) = some (.bl false) := by rw [fNe_word S sok_notpart sok_notpart]; simp
@[simp] theorem ew_notpart (S : Sto) : fEq S (.tup [.str "notpart"]) (.tup [.str "notpart"]) = some (.bl true) := by rw [fEq_word S sok_notpart sok_notpart]; simp
@[simp] theorem nw_notonto (S : Sto) : fNe S (.tup [.str "notonto"]) (.tup [.str "notonto"]) = some (.bl false) := by rw [fNe_word S sok_notonto sok_notonto]; simp
@[simp] theorem ew_notonto (S : Sto) : fEq S (.tup [.str "notonto"]) (.tup [.str "notonto"]) = some (.bl true) := by rw [fEq_word S sok_notonto sok_notonto]; simp
@[simp] theorem nw_badsize (S : Sto) : fNe S (.tup [.str "badsize"]) (.tup [.str "badsize"]) = some (.bl false) := by rw [fNe_word S sok_badsize sok_badsize]; simp
@[simp] theorem ew_badsize (S : Sto) : fEq S (.tup [.str "badsize"]) (.tup [.str "badsize"]) = some (.bl true) := by rw [fEq_word S sok_badsize sok_badsize]; simp
@[simp] theorem nw_noberth (S : Sto) : fNe S (.tup [.str "noberth"]) (.tup [.str "noberth"]) = some (.bl false) := by rw [fNe_word S sok_noberth sok_noberth]; simp
@[simp] theorem ew_noberth (S : Sto) : fEq S (.tup [.str "noberth"]) (.tup [.str "noberth"]) = some (.bl true) := by rw [fEq_word S sok_noberth sok_noberth]; simp
@[simp] theorem ns_told (S : Sto) : fNe S (.str "told") (.str "told") = some (.bl false) := by rw [fNe_str S sok_told sok_told]; simp
@[simp] theorem es_told (S : Sto) : fEq S (.str "told") (.str "told") = some (.bl true) := by rw [fEq_str S sok_told sok_told]; simp
/-! ### refusals -/
/-- a number that has not so many digits -/
def Far (k : Nat) (x : Int) : Prop := x < 0 ∨ ((2 ^ k : Nat) : Int) ≤ x
theorem far_shr {k : Nat} {x : Int} (h0 : ¬ x < 0) (h : ((2 ^ k : Nat) : Int) ≤ x) : 0 < x / 2 ^ k := by
  obtain ⟨n, rfl⟩ := Int.eq_ofNat_of_zero_le (Int.not_lt.mp h0)
  have h : 2 ^ k ≤ n := by exact_mod_cast h
  have e : ((n : Int) / 2 ^ k) = ((n / 2 ^ k : Nat) : Int) := by simp
  rw [e]
  have := Nat.div_pos h (Nat.two_pow_pos k)
  omega
theorem to_bad (S : Sto) {rs : List Nat} {w : Nat} {x : Int} (h : Far rs.length x) : m_Fold_to [fold rs w, .int x] S = .exc "BadNumber" none S := by
  by_cases h0 : x < 0
  · simp [m_Fold_to, h0]
  · have p := far_shr h0 (h.resolve_left h0)
    simp [m_Fold_to, h0, p]
/-! ### comprehensions at their place -/
theorem flc_nl {mi : MI} {te : ME} {k : Nat} {vs : List Nat} {env : Envr} {S : Sto} (f : Nat → Nat) (xs : List Nat) (h1 : mi env S = .ok (nl xs) S) (hz : xs.length ≤ 100000) (h2 : ∀ y ∈ xs, te ((wipeE env vs).set k (.v (nd y))) S = .ok (nd (f y)) S) : fLc mi (gN k) cYes te vs env S = .ok (.lst (nl (xs.map f))) S := by
  have lc := lc_nl f xs h2
  rw [fLc_eq, h1, bind_ok', lc, bind_ok', fin_eq, if_pos (szB_of (by simpa using hz))]
theorem flc_nlp {mi : MI} {tt : MT} {te : ME} {k : Nat} {vs : List Nat} {env : Envr} {S : Sto} (p : Nat → Bool) (f : Nat → Nat) (xs : List Nat) (h1 : mi env S = .ok (nl xs) S) (hz : xs.length ≤ 100000) (h2 : ∀ y ∈ xs, tt ((wipeE env vs).set k (.v (nd y))) S = .ok (p y) S ∧ (p y = true → te ((wipeE env vs).set k (.v (nd y))) S = .ok (nd (f y)) S)) : fLc mi (gN k) tt te vs env S = .ok (.lst (nl ((xs.filter p).map f))) S := by
  have lc := lc_nlp p f xs h2
  have l := List.length_filter_le p xs
  rw [fLc_eq, h1, bind_ok', lc, bind_ok', fin_eq, if_pos (szB_of (by simp; omega))]
theorem flc_of {β : Type} {mi : MI} {te : ME} {k : Nat} {vs : List Nat} {env : Envr} {S : Sto} (ψ φ : β → D) (xs : List β) (h1 : mi env S = .ok (xs.map ψ) S) (hz : xs.length ≤ 100000) (h2 : ∀ y ∈ xs, te ((wipeE env vs).set k (.v (ψ y))) S = .ok (φ y) S) : fLc mi (gN k) cYes te vs env S = .ok (.lst (xs.map φ)) S := by
  have lc := lc_all (g := gN k) (te := te) (env := wipeE env vs) (S := S) ψ φ xs fun y hy => ⟨_, rfl, h2 y hy⟩
  rw [fLc_eq, h1, bind_ok', lc, bind_ok', fin_eq, if_pos (szB_of (by simpa using hz))]
theorem itR1_nat {m : MA} {env : Envr} {S : Sto} {n : Nat} (h : m env S = .ok [.int n] S) (hn : n ≤ 100000) : itR1 m env S = .ok (nl (List.range n)) S := by
  rw [itR1_eq, h]
  simp [rgB_nat hn, rng0]
/-! ### drawing, by written numbers -/
theorem takeK {b : Cell} (hb : Bx b) (K : Int) (k : Nat) (e : K = (k : Int)) (h0 : 0 < k) (h1 : k < 1073741824) : ∃ b' r, m__law_take [.ref 0, .int K] [b] = .ok (.val (nd r)) [b'] ∧ Bx b' ∧ r < k := by
  subst e
  exact take1 hb h0 h1
theorem numbersK {b : Cell} (hb : Bx b) (C W : Int) (c w : Nat) (e1 : C = (c : Int)) (e2 : W = (w : Int)) (hc : c ≤ 1000) (hw : w ≤ 20) : ∃ b' ys, m__law_numbers [.ref 0, .int C, .int W] [b] = .ok (.own (.lst (nl ys))) [b'] ∧ Bx b' ∧ ys.length = c ∧ ∀ y ∈ ys, y < 2 ^ w := by
  subst e1 e2
  exact numbers_ok hb c w hc hw
/-- a fold is made, beside one cell -/
theorem newK (b : Cell) {rs : List Nat} {w : Nat} (W : Int) (e : W = (w : Int)) (h : FOk rs w) (a : D) (ha : a = .tup (nl rs) ∨ a = .lst (nl rs)) : popI "Fold" [b] (m_FoldU_initU [.ref 1, a, .int W] [b, .ins "Fold" []]) = .ok (fold rs w) [b] := by
  subst e
  exact new_ok [b] h a ha
end Fb
namespace Gf
/-! ### spans listed -/
def lstep (F : List Nat) (x : Nat) : List Nat := if x ∈ F then F else F ++ F.map (· ^^^ x)
def lsp (xs : List Nat) : List Nat := xs.foldl lstep [0]
theorem lsp_go : ∀ (xs ys F : List Nat), (∀ y, y ∈ F ↔ Sp ys y) → F.Nodup → (∀ y, y ∈ xs.foldl lstep F ↔ Sp (xs ++ ys) y) ∧ (xs.foldl lstep F).Nodup
  | [], ys, F, h, n => ⟨h, n⟩
  | x :: xs, ys, F, h, n => by
    have key : (∀ y, y ∈ lstep F x ↔ Sp (x :: ys) y) ∧ (lstep F x).Nodup := by
      unfold lstep
      by_cases hx : x ∈ F
      · rw [if_pos hx]
        refine ⟨fun y => ?_, n⟩
        rw [Sp.cons, h y]
        constructor
        · exact .inl
        · rintro (z | z)
          · exact z
          · have := z.xor ((h x).mp hx)
            rwa [xor_cancel_right] at this
      · rw [if_neg hx]
        refine ⟨fun y => ?_, ?_⟩
        · rw [List.mem_append, List.mem_map, Sp.cons, h y]
          constructor
          · rintro (z | ⟨z, hz, rfl⟩)
            · exact .inl z
            · exact .inr (by rw [xor_cancel_right]; exact (h z).mp hz)
          · rintro (z | z)
            · exact .inl z
            · exact .inr ⟨_, (h _).mpr z, xor_cancel_right _ _⟩
        · rw [List.nodup_append]
          refine ⟨n, ?_, fun a ha b hb e => ?_⟩
          · refine List.Pairwise.map _ (fun a b hab e => hab ?_) n
            have := congrArg (· ^^^ x) e
            simpa [xor_cancel_right] using this
          · obtain ⟨z, hz, rfl⟩ := List.mem_map.mp hb
            apply hx
            rw [h]
            have := ((h a).mp ha).xor ((h z).mp hz)
            rw [e] at this
            have e2 : z ^^^ x ^^^ z = x := by rw [Nat.xor_comm z x, xor_cancel_right]
            rwa [e2] at this
    obtain ⟨k1, k2⟩ := key
    obtain ⟨r1, r2⟩ := lsp_go xs (x :: ys) (lstep F x) k1 k2
    refine ⟨fun y => ?_, r2⟩
    rw [List.foldl_cons, r1 y]
    exact Sp.perm (by simpa using List.perm_middle)
theorem mem_lsp {xs : List Nat} {y : Nat} : y ∈ lsp xs ↔ Sp xs y := by
  have := (lsp_go xs [] [0] (fun y => by rw [Sp.nil]; simp) (by simp)).1 y
  rwa [List.append_nil] at this
theorem lsp_nodup (xs : List Nat) : (lsp xs).Nodup := (lsp_go xs [] [0] (fun y => by rw [Sp.nil]; simp) (by simp)).2
theorem perm_of_mem {xs ys : List Nat} (h1 : xs.Nodup) (h2 : ys.Nodup) (h : ∀ z, z ∈ xs ↔ z ∈ ys) : xs.Perm ys := (List.perm_ext_iff_of_nodup h1 h2).mpr h
theorem spl_nodup {B : List Nat} (h : RR B) : (spl B).Nodup := by
  rw [spl_app]
  refine List.pairwise_map.mpr (List.nodup_range.imp_of_mem fun {x y} hx hy ne e => ne ?_)
  have hx := List.mem_range.mp hx
  have hy := List.mem_range.mp hy
  have e2 : app B (x ^^^ y) = 0 := by rw [app_xor, e, Nat.xor_self]
  exact xor_eq_zero (h.inj (Nat.xor_lt_two_pow hx hy) e2)
theorem RR.span_len {B L : List Nat} (h : RR B) (hn : L.Nodup) (hm : ∀ y, y ∈ L ↔ Sp B y) : L.length = 2 ^ B.length := by
  rw [← spl_len B]
  exact (perm_of_mem hn (spl_nodup h) fun z => by rw [hm, mem_spl]).length_eq
theorem lsp_len (xs : List Nat) : (lsp xs).length = 2 ^ (bas xs).length := (bas_rr xs).span_len (lsp_nodup xs) fun y => by rw [mem_lsp, bas_sp]
/-- each top stands in one number alone -/
theorem RR.count {B : List Nat} (h : RR B) {b : Nat} (hb : b ∈ B) : (B.map fun a => if a.testBit b.log2 then 1 else 0).count 1 = 1 := by
  have e : (B.map fun a => if a.testBit b.log2 then 1 else 0) = B.map fun a => if a = b then 1 else 0 := List.map_congr_left fun a ha => by
    rw [h.top ha hb]
    by_cases z : a = b <;> simp [z]
  rw [e]
  have n := h.nodup
  have c : ∀ (B : List Nat), (B.map fun a => if a = b then 1 else 0).count 1 = B.count b := fun B => by
    induction B with
    | nil => rfl
    | cons a B ih =>
      rw [List.map_cons, List.count_cons, List.count_cons, ih]
      by_cases z : a = b <;> simp [z]
  rw [c]
  rw [n.count, if_pos hb]
/-- what lies below, of a reduced basis -/
theorem RR.low {B : List Nat} {k : Nat} (h : RR B) (x : Nat) : Sp (B.filter fun b => decide (b < 2 ^ k)) x ↔ Sp B x ∧ x < 2 ^ k := by
  constructor
  · intro s
    refine ⟨s.mono fun b hb => (List.mem_filter.mp hb).1, s.lt fun b hb => ?_⟩
    simpa using (List.mem_filter.mp hb).2
  · rintro ⟨s, hx⟩
    have hr : RR (B.filter fun b => decide (b < 2 ^ k)) := ⟨fun b hb => h.1 b (List.mem_filter.mp hb).1, h.2.filter _⟩
    -- what is left of x lies in the span and has no top of the basis
    have l1 := red_sp (B.filter fun b => decide (b < 2 ^ k)) x
    have z : red x (B.filter fun b => decide (b < 2 ^ k)) = 0 := by
      refine h.indep ?_ fun b hb => ?_
      · have := s.xor (l1.mono fun b hb => (List.mem_filter.mp hb).1)
        rwa [xor_self_left] at this
      · by_cases hk : b < 2 ^ k
        · exact red_top x hr b (List.mem_filter.mpr ⟨hb, by simpa using hk⟩)
        · have hl : k ≤ b.log2 := (Nat.le_log2 (h.1 b hb)).mpr (by omega)
          exact bit_big (red_lt (w := k) (fun c hc => by simpa using (List.mem_filter.mp hc).2) hx) hl
    rw [z, Nat.xor_zero] at l1
    exact l1
theorem RR.filter {B : List Nat} (h : RR B) (p : Nat → Bool) : RR (B.filter p) := ⟨fun b hb => h.1 b (List.mem_filter.mp hb).1, h.2.filter _⟩
end Gf
namespace Fb
open PySem L2 Mm Gf
/-! ### need_numbers -/
def farB (k : Nat) (x : Int) : Bool := decide (x < 0) || decide (0 < x / 2 ^ k)
theorem farB_nat {k x : Nat} (h : x < 2 ^ k) : farB k (x : Int) = false := by
  have e : ((x : Int) / 2 ^ k) = ((x / 2 ^ k : Nat) : Int) := by simp
  have n0 : ¬ (x : Int) < 0 := by omega
  unfold farB
  rw [e, Nat.div_eq_of_lt h]
  simp [n0]
theorem farB_far {k : Nat} {x : Int} (h : Far k x) : farB k x = true := by
  unfold farB
  by_cases h0 : x < 0
  · simp [h0]
  · have p := far_shr h0 (h.resolve_left h0)
    simp [p]
noncomputable def needB : MS := sIf (cOr (cB (eOp iLt (eV 2) (eC (.int 0)))) (cB (eOp iGt (eOp iShr (eV 2) (eV 1)) (eC (.int 0))))) (sRaise "BadNumber") sNil
theorem needB_ok (a : D) (k : Nat) (x : Int) (S : Sto) : needB [.v a, .v (.int k), .v (.int x)] S = if farB k x then .exc "BadNumber" none [.v a, .v (.int k), .v (.int x)] S else .nx [.v a, .v (.int k), .v (.int x)] S := by
  unfold needB farB
  by_cases h0 : x < 0
  · simp [h0]
  · by_cases h1 : 0 < x / 2 ^ k <;> simp [h0, h1]
theorem need_go (a : D) (k : Nat) (S : Sto) : ∀ (xs : List Int) (s : Sl), (xs.all (fun x => !farB k x) = true → ∃ s', forL (gN 2) needB (xs.map D.int) [.v a, .v (.int k), s] S = .nx [.v a, .v (.int k), s'] S) ∧ (xs.all (fun x => !farB k x) = false → ∃ e, forL (gN 2) needB (xs.map D.int) [.v a, .v (.int k), s] S = .exc "BadNumber" none e S)
  | [], s => ⟨fun _ => ⟨s, rfl⟩, fun h => by simp at h⟩
  | x :: xs, s => by
    have b := needB_ok a k x S
    have e : forL (gN 2) needB ((x :: xs).map D.int) [.v a, .v (.int k), s] S = match needB [.v a, .v (.int k), .v (.int x)] S with
      | .nx e S1 => forL (gN 2) needB (xs.map D.int) e S1
      | .ct e S1 => forL (gN 2) needB (xs.map D.int) e S1
      | .bk e S1 => .nx e S1
      | o => o := rfl
    rw [b] at e
    obtain ⟨h1, h2⟩ := need_go a k S xs (.v (.int x))
    cases f : farB k x with
    | true =>
      rw [f] at e
      exact ⟨fun h => by simp [f] at h, fun _ => ⟨_, e⟩⟩
    | false =>
      rw [f] at e
      refine ⟨fun h => ?_, fun h => ?_⟩
      · obtain ⟨s', q⟩ := h1 (by simpa [f] using h)
        exact ⟨s', e.trans q⟩
      · obtain ⟨s', q⟩ := h2 (by rw [List.all_cons, f] at h; simpa using h)
        exact ⟨s', e.trans q⟩
theorem need_eq : m_need_numbers = mFn 3 (sFor (itL (eV 0)) (gN 2) needB) := rfl
theorem need_good (S : Sto) (xs : List Int) (k : Nat) (h : ∀ x ∈ xs, farB k x = false) (a : D) (ha : a = .tup (xs.map D.int) ∨ a = .lst (xs.map D.int)) : m_need_numbers [a, .int k] S = .ok (.val .non) S := by
  obtain ⟨s', e⟩ := (need_go a k S xs .no).1 (List.all_eq_true.mpr fun x hx => by rw [h x hx]; rfl)
  rw [need_eq]
  rcases ha with rfl | rfl <;> (simp; rw [e])
theorem need_bad (S : Sto) (xs : List Int) (k : Nat) {x : Int} (hx : x ∈ xs) (h : farB k x = true) (a : D) (ha : a = .tup (xs.map D.int) ∨ a = .lst (xs.map D.int)) : m_need_numbers [a, .int k] S = .exc "BadNumber" none S := by
  obtain ⟨s', e⟩ := (need_go a k S xs .no).2 (by
    cases z : xs.all (fun x => !farB k x) with
    | false => rfl
    | true =>
      have := List.all_eq_true.mp z x hx
      rw [h] at this
      cases this)
  rw [need_eq]
  rcases ha with rfl | rfl <;> (simp; rw [e])
theorem need_ok (S : Sto) {rs : List Nat} {k : Nat} (h : ∀ r ∈ rs, r < 2 ^ k) (a : D) (ha : a = .tup (nl rs) ∨ a = .lst (nl rs)) : m_need_numbers [a, .int k] S = .ok (.val .non) S := by
  rw [nl_eq] at ha
  refine need_good S (rs.map Int.ofNat) k (fun x hx => ?_) a ha
  obtain ⟨r, hr, rfl⟩ := List.mem_map.mp hx
  exact farB_nat (h r hr)
theorem need12 (S : Sto) {rs : List Nat} (h : ∀ r ∈ rs, r < 4096) (a : D) (ha : a = .tup (nl rs) ∨ a = .lst (nl rs)) : m_need_numbers [a, .int 12] S = .ok (.val .non) S := need_ok S (k := 12) h a ha
theorem need12_bad (S : Sto) (xs : List Int) {x : Int} (hx : x ∈ xs) (h : Far 12 x) (a : D) (ha : a = .tup (xs.map D.int) ∨ a = .lst (xs.map D.int)) : m_need_numbers [a, .int 12] S = .exc "BadNumber" none S := need_bad S xs 12 hx (farB_far h) a ha
theorem basis_ok (S : Sto) {rs : List Nat} (h : ∀ r ∈ rs, r < 4096) (a : D) (ha : a = .tup (nl rs) ∨ a = .lst (nl rs)) : m_basis [a] S = .ok (.own (.lst (nl (nsrt (bas rs))))) S := by
  have N := need12 S h a ha
  have B := basis_of_ok S (w := 12) rs (by omega) h a ha
  simp [m_basis, N, B]
theorem basis_bad (S : Sto) (xs : List Int) {x : Int} (hx : x ∈ xs) (h : Far 12 x) (a : D) (ha : a = .tup (xs.map D.int) ∨ a = .lst (xs.map D.int)) : m_basis [a] S = .exc "BadNumber" none S := by
  have N := need12_bad S xs hx h a ha
  simp [m_basis, N]
/-! ### the law's span, top -/
@[simp] theorem fIn_nl (S : Sto) (neg : Bool) (x : Nat) (xs : List Nat) : fIn neg S (.int x) (.lst (nl xs)) = some (.bl (if neg then !decide (x ∈ xs) else decide (x ∈ xs))) := by
  have e : decide ((x : Int) ∈ xs.map Int.ofNat) = decide (x ∈ xs) := decide_eq_decide.mpr (by
    rw [List.mem_map]
    constructor
    · rintro ⟨y, hy, e⟩
      have : y = x := by have e : (y : Int) = x := e; omega
      rw [← this]
      exact hy
    · exact fun h => ⟨x, h, rfl⟩)
  show (intsOf (nl xs)).map _ = _
  rw [intsOf_nl]
  show some (D.bl (if neg then !decide ((x : Int) ∈ xs.map Int.ofNat) else decide ((x : Int) ∈ xs.map Int.ofNat))) = _
  rw [e]
theorem lstep_len {F : List Nat} (x : Nat) : (lstep F x).length ≤ 2 * F.length := by
  unfold lstep
  split
  · omega
  · rw [List.length_append, List.length_map]
    omega
theorem span_ok (S : Sto) {w : Nat} (hw : w ≤ 14) (xs : List Nat) (hx : ∀ x ∈ xs, x < 2 ^ w) (a : D) (ha : a = .tup (nl xs) ∨ a = .lst (nl xs)) : m__law_span [a] S = .ok (.val (.lst (nl (lsp xs)))) S := by
  have lim : ∀ F : List Nat, F.Nodup → (∀ y ∈ F, y < 2 ^ w) → F.length ≤ 20000 := fun F n h => by
    have h1 : F.length ≤ (List.range (2 ^ w)).length := List.Nodup.length_le_of_subset n fun y hy => List.mem_range.mpr (h y hy)
    have h2 : 2 ^ w ≤ 2 ^ 14 := Nat.pow_le_pow_right (by decide) hw
    simp at h1
    omega
  obtain ⟨s2, e, _⟩ := forM (S := S) (g := gN 2) (b := sIf (cB (eOp (fIn true) (eV 2) (eV 1))) (sAsg (eOp dAdd (eV 1) (mFrz (fLc (itL (eV 1)) (gN 3) cYes (eOp iXor (eV 3) (eV 2)) [3]))) (gN 1)) sNil)
    nd (fun (F : List Nat) (q : Sl) => [.v a, .v (.lst (nl F)), q, .no]) lstep (fun F => F.Nodup ∧ (∀ y ∈ F, y < 2 ^ w) ∧ ∃ ys, ∀ y, y ∈ F ↔ Sp ys y) xs (fun F q x hxm hF => by
      obtain ⟨n, lt, ys, hy⟩ := hF
      have l := lim F n lt
      refine ⟨[.v a, .v (.lst (nl F)), .v (nd x), .no], rfl, .v (nd x), ?_, ?_⟩
      · have lc := flc_nl (mi := itL (eV 1)) (te := eOp iXor (eV 3) (eV 2)) (k := 3) (vs := [3]) (env := [.v a, .v (.lst (nl F)), .v (nd x), .no]) (S := S) (· ^^^ x) F (by simp) (by omega) fun y _ => by simp
        have z2 := szB_of (n := F.length + F.length) (by omega)
        unfold lstep
        by_cases hx : x ∈ F
        · simp [hx]
        · simp [-fLc_eq, hx, lc, z2]
      · obtain ⟨k1, k2⟩ := lsp_go [x] ys F hy n
        have k1 : ∀ y, y ∈ lstep F x ↔ Sp ([x] ++ ys) y := k1
        refine ⟨k2, fun y hy' => ?_, _, k1⟩
        have k3 := (k1 y).mp hy'
        rcases Sp.cons.mp k3 with z | z
        · exact lt y ((hy y).mpr z)
        · have := lt _ ((hy _).mpr z)
          have h3 := Nat.xor_lt_two_pow this (hx x hxm)
          rwa [xor_cancel_right] at h3) [0] .no ⟨by simp, fun y hy => by simp at hy; rw [hy]; exact Nat.two_pow_pos w, [], fun y => by rw [Sp.nil]; simp⟩
  have e' : forL (gN 2) (sIf (cB (eOp (fIn true) (eV 2) (eV 1))) (sAsg (eOp dAdd (eV 1) (mFrz (fLc (itL (eV 1)) (gN 3) cYes (eOp iXor (eV 3) (eV 2)) [3]))) (gN 1)) sNil) (nl xs) [.v a, .v (.lst [.int 0]), .no, .no] S = .nx [.v a, .v (.lst (nl (lsp xs))), s2, .no] S := e
  have s0 := szB_of (n := 1) (by omega)
  rcases ha with rfl | rfl <;> simp [m__law_span, s0, e']
theorem top_go (x : Nat) (S : Sto) : ∀ (n k : Nat), k ≤ x.log2 → x.log2 - k < n → whL (cB (eOp iGt (eOp iShr (eV 0) (eV 1)) (eC (.int 1)))) (sAug 1 (fun i j => i + j) (eC (.int 1))) n [.v (nd x), .v (nd k)] S = .nx [.v (nd x), .v (nd x.log2)] S
  | 0, k, _, h => by omega
  | n + 1, k, h1, h2 => by
    have e : ((x : Int) / 2 ^ k) = ((x / 2 ^ k : Nat) : Int) := by simp
    by_cases hk : k = x.log2
    · subst hk
      have : ¬ 1 < x / 2 ^ x.log2 := by
        have := Nat.lt_log2_self (n := x)
        rw [Nat.pow_succ] at this
        have := (Nat.div_lt_iff_lt_mul (Nat.two_pow_pos x.log2)).mpr (by rw [Nat.mul_comm]; exact this : x < 2 * 2 ^ x.log2)
        omega
      have t : (cB (eOp iGt (eOp iShr (eV 0) (eV 1)) (eC (.int 1)))) [.v (nd x), .v (nd x.log2)] S = .ok false S := by
        simp
        have e2 : ((x : Int) >>> x.log2) = ((x / 2 ^ x.log2 : Nat) : Int) := by
          rw [← Nat.shiftRight_eq_div_pow]
          rfl
        rw [e2]
        omega
      rw [whL, t]
      simp
    · have hx0 : x ≠ 0 := fun z => by
        subst z
        simp at h1
        simp at hk
        omega
      have : 2 ≤ x / 2 ^ k := by
        rw [Nat.le_div_iff_mul_le (Nat.two_pow_pos k)]
        have h3 : 2 ^ (k + 1) ≤ 2 ^ x.log2 := Nat.pow_le_pow_right (by decide) (by omega)
        have h4 := Nat.log2_self_le hx0
        rw [Nat.pow_succ] at h3
        omega
      have t : (cB (eOp iGt (eOp iShr (eV 0) (eV 1)) (eC (.int 1)))) [.v (nd x), .v (nd k)] S = .ok true S := by
        simp
        have e2 : ((x : Int) >>> k) = ((x / 2 ^ k : Nat) : Int) := by
          rw [← Nat.shiftRight_eq_div_pow]
          rfl
        rw [e2]
        omega
      have ih := top_go x S n (k + 1) (by omega) (by omega)
      rw [whL, t]
      simp
      exact ih
theorem ltop_ok (S : Sto) (x : Nat) (h : x.log2 ≤ 90) : m__law_top [.int x] S = .ok (.val (nd x.log2)) S := by
  have := top_go x S 100 0 (by omega) (by omega)
  have e : whL (cB (eOp iGt (eOp iShr (eV 0) (eV 1)) (eC (.int 1)))) (sAug 1 (fun i j => i + j) (eC (.int 1))) 100 [.v (.int x), .v (.int 0)] S = .nx [.v (nd x), .v (nd x.log2)] S := this
  simp [m__law_top, e]
end Fb
namespace Fb
open PySem L2 Mm Gf
theorem nsrt_id {xs : List Nat} (h : xs.Pairwise (· ≤ ·)) : nsrt xs = xs := List.Perm.eq_of_pairwise (fun a b _ _ h1 h2 => Nat.le_antisymm h1 h2) (nsrt_sorted xs) h (nsrt_perm xs)
theorem nsrt_nsrt (xs : List Nat) : nsrt (nsrt xs) = nsrt xs := nsrt_id (nsrt_sorted xs)
@[simp] theorem fSorted_nl (S : Sto) (xs : List Nat) : fSorted S [.lst (nl xs)] = some (.lst (nl (nsrt xs))) := by
  rw [fSorted_lst, intsOf_nl]
  show some (Cell.lst ((isrt (xs.map Int.ofNat)).map D.int)) = _
  rw [isrt_nat, ← nl_eq]
theorem count_nat (k : Nat) (xs : List Nat) : (xs.map Int.ofNat).count (k : Int) = xs.count k := by
  induction xs with
  | nil => rfl
  | cons x xs ih =>
    rw [List.map_cons, List.count_cons, List.count_cons, ih]
    have e : (Int.ofNat x == (k : Int)) = (x == k) := by
      rw [Bool.eq_iff_iff]
      simp
      omega
    rw [e]
/-- the law's look at a basis -/
theorem isb_ok (S : Sto) {w : Nat} (hw : w ≤ 14) {B L : List Nat} (hB : RR B) (hs : B.Pairwise (· ≤ ·)) (lt : ∀ b ∈ B, b < 2 ^ w) (hn : L.Nodup) (hm : ∀ y, y ∈ L ↔ Sp B y) : m__law_is_basis [.lst (nl B), .lst (nl L)] S = .ok (.val (.bl true)) S := by
  have len := hB.span_len hn hm
  have bl := hB.len_le lt
  have p14 : 2 ^ B.length ≤ 2 ^ 14 := Nat.pow_le_pow_right (by decide) (by omega)
  have sm := same_nl 2 B (nsrt B) S (by omega)
  rw [nsrt_id hs] at sm
  have sp := span_ok S hw B lt (.lst (nl B)) (.inr rfl)
  have pe : nsrt (lsp B) = nsrt L := nsrt_eq (perm_of_mem (lsp_nodup B) hn fun z => by rw [mem_lsp, hm])
  have z0 : (0 : Nat) ∉ B := fun h => hB.1 0 h rfl
  have i0 := fIn_nl S false 0 B
  have i0' : fIn false S (.int 0) (.lst (nl B)) = some (.bl false) := by
    have : fIn false S (.int 0) (.lst (nl B)) = _ := i0
    rw [this]
    simp [z0]
  have pw := powB_nat (i := 1) (by decide) B.length (by omega)
  have lenI : ((L.length : Nat) : Int) = 2 ^ B.length := by rw [len]; simp
  have c1 : (sIf (cOr (cNot (cB (eCall (m__law_same 4) [] (aCons (eV 0) (aCons (mFrz (fCB fSorted (aCons (eV 0) aNil))) aNil))))) (cOr (cB (eOp (fIn false) (eC (.int 0)) (eV 0))) (cB (eOp fNe (mFrz (fCB fSorted (aCons (eCall m__law_span [] (aCons (eV 0) aNil)) aNil))) (mFrz (fCB fSorted (aCons (eV 1) aNil))))))) (sRet (eC (.bl false))) sNil) [.v (.lst (nl B)), .v (.lst (nl L)), .no, .no, .no] S = .nx [.v (.lst (nl B)), .v (.lst (nl L)), .no, .no, .no] S := by
    simp [nsrt_id hs, sm, i0', sp, pe]
  have c2 : (sIf (cB (eOp fNe (eCB fLen (aCons (eV 1) aNil)) (eOp iShl (eC (.int 1)) (eCB fLen (aCons (eV 0) aNil))))) (sRet (eC (.bl false))) sNil) [.v (.lst (nl B)), .v (.lst (nl L)), .no, .no, .no] S = .nx [.v (.lst (nl B)), .v (.lst (nl L)), .no, .no, .no] S := by
    simp [pw, lenI]
  have lc1 := flc_nl (mi := itL (eV 0)) (te := eCall m__law_top [] (aCons (eV 3) aNil)) (k := 3) (vs := [3]) (env := [.v (.lst (nl B)), .v (.lst (nl L)), .no, .no, .no]) (S := S) Nat.log2 B (by simp) (by omega) fun y hy => by
    have hl : y.log2 < w := (Nat.log2_lt (hB.1 y hy)).mpr (lt y hy)
    simp [ltop_ok S y (by omega)]
  have c3 : (sAsg (mFrz (fLc (itL (eV 0)) (gN 3) cYes (eCall m__law_top [] (aCons (eV 3) aNil)) [3])) (gN 2)) [.v (.lst (nl B)), .v (.lst (nl L)), .no, .no, .no] S = .nx [.v (.lst (nl B)), .v (.lst (nl L)), .v (.lst (nl (B.map Nat.log2))), .no, .no] S := by
    simp [-fLc_eq, lc1]
  have lc2 := flc_of (mi := itL (eV 2)) (te := eOp fEq (eCnt (mFrz (fLc (itL (eV 0)) (gN 3) cYes (eOp iAnd (eOp iShr (eV 3) (eV 4)) (eC (.int 1))) [3])) (eC (.int 1))) (eC (.int 1))) (k := 4) (vs := [4]) (env := [.v (.lst (nl B)), .v (.lst (nl L)), .v (.lst (nl (B.map Nat.log2))), .no, .no]) (S := S) (fun b : Nat => nd b.log2) (fun _ => D.bl true) B (by simp [nl]) (by omega) fun b hb => by
    have lc := flc_nl (mi := itL (eV 0)) (te := eOp iAnd (eOp iShr (eV 3) (eV 4)) (eC (.int 1))) (k := 3) (vs := [3]) (env := [.v (.lst (nl B)), .v (.lst (nl L)), .v (.lst (nl (B.map Nat.log2))), .no, .v (nd b.log2)]) (S := S) (fun a => if a.testBit b.log2 then 1 else 0) B (by simp) (by omega) fun y hy => by
      have := band_one y b.log2
      simp [this]
    have cn := hB.count hb
    have cn2 := count_nat 1 (B.map fun a => if a.testBit b.log2 then 1 else 0)
    rw [cn] at cn2
    have cn3 : (((B.map fun a => if a.testBit b.log2 then 1 else 0).map Int.ofNat).count (1 : Int)) = 1 := cn2
    have it := intsOf_nl (B.map fun a => if a.testBit b.log2 then 1 else 0)
    have step : (eCnt (mFrz (fLc (itL (eV 0)) (gN 3) cYes (eOp iAnd (eOp iShr (eV 3) (eV 4)) (eC (.int 1))) [3])) (eC (.int 1))) [.v (.lst (nl B)), .v (.lst (nl L)), .v (.lst (nl (B.map Nat.log2))), .no, .v (nd b.log2)] S = .ok (.int 1) S := by
      rw [eCnt_eq, mFrz_eq, lc]
      simp only [bind_ok', d_lst, eC_eq, it, Option.map_some, opt_some', cn3]
      rfl
    have step' : (eOp fEq (eCnt (mFrz (fLc (itL (eV 0)) (gN 3) cYes (eOp iAnd (eOp iShr (eV 3) (eV 4)) (eC (.int 1))) [3])) (eC (.int 1))) (eC (.int 1))) [.v (.lst (nl B)), .v (.lst (nl L)), .v (.lst (nl (B.map Nat.log2))), .no, .v (nd b.log2)] S = .ok (.bl true) S := by
      rw [eOp_eq, step]
      simp
    exact step'
  have c4 : (sRet (eCB fAll (aCons (mFrz (fLc (itL (eV 2)) (gN 4) cYes (eOp fEq (eCnt (mFrz (fLc (itL (eV 0)) (gN 3) cYes (eOp iAnd (eOp iShr (eV 3) (eV 4)) (eC (.int 1))) [3])) (eC (.int 1))) (eC (.int 1))) [4])) aNil))) [.v (.lst (nl B)), .v (.lst (nl L)), .v (.lst (nl (B.map Nat.log2))), .no, .no] S = .rt (.val (.bl true)) S := by
    have fa := fAll_eq S (B.map fun _ => true)
    rw [List.map_map] at fa
    have fa2 : fAll S [.lst (B.map fun _ => D.bl true)] = some (.bl true) := by
      have : fAll S [.lst (B.map fun _ => D.bl true)] = _ := fa
      rw [this]
      simp
    rw [sRet_eq, eCB_eq, aCons_eq, mFrz_eq, lc2]
    simp only [bind_ok', d_lst, aNil_eq, fa2, opt_some', out_ok']
  have st : startE 5 [.lst (nl B), .lst (nl L)] = [.v (.lst (nl B)), .v (.lst (nl L)), .no, .no, .no] := rfl
  unfold m__law_is_basis
  rw [mFn_eq, st, sSeq_eq, c1]
  simp only [sSeq_eq, c2, c3, c4]
end Fb
namespace Gf
open Fb Mm
/-! ### meets -/
def mRows (xs ys : List Nat) : List Nat := xs.map (fun x => x * 4096 + x) ++ ys.map (fun x => x * 4096)
def meetL (xs ys : List Nat) : List Nat := (nsrt (bas (mRows xs ys))).filter fun b => decide (b < 4096)
theorem shl_add {x k y : Nat} (h : y < 2 ^ k) : x * 2 ^ k + y = (x * 2 ^ k) ^^^ y := by
  refine Nat.eq_of_testBit_eq fun i => ?_
  have e1 : x * 2 ^ k + y = 2 ^ k * x + y := by rw [Nat.mul_comm]
  rw [e1, Nat.testBit_two_pow_mul_add x h, Nat.testBit_xor, Nat.mul_comm x, Nat.testBit_two_pow_mul]
  by_cases hi : i < k
  · have d : decide (i ≥ k) = false := decide_eq_false (by omega)
    rw [if_pos hi, d]
    simp
  · have d : decide (i ≥ k) = true := decide_eq_true (by omega)
    rw [if_neg hi, bit_big h (by omega), d]
    simp
theorem shl_xor (k x y : Nat) : (x ^^^ y) * 2 ^ k = (x * 2 ^ k) ^^^ (y * 2 ^ k) := by
  refine Nat.eq_of_testBit_eq fun i => ?_
  rw [Nat.testBit_xor, Nat.mul_comm, Nat.mul_comm x, Nat.mul_comm y, Nat.testBit_two_pow_mul, Nat.testBit_two_pow_mul, Nat.testBit_two_pow_mul, Nat.testBit_xor]
  cases decide (i ≥ k) <;> simp
theorem Sp.map {f : Nat → Nat} (f0 : f 0 = 0) (fx : ∀ x y, f (x ^^^ y) = f x ^^^ f y) : ∀ {B : List Nat} {y : Nat}, Sp (B.map f) y ↔ ∃ x, Sp B x ∧ y = f x := fun {B y} => by
  constructor
  · rintro ⟨m, rfl⟩
    exact ⟨app B m, ⟨m, rfl⟩, app_map f f0 fx B m⟩
  · rintro ⟨x, ⟨m, rfl⟩, rfl⟩
    exact ⟨m, app_map f f0 fx B m⟩
theorem Sp.app_iff {A B : List Nat} {x : Nat} : Sp (A ++ B) x ↔ ∃ u v, Sp A u ∧ Sp B v ∧ x = u ^^^ v := ⟨Sp.append, fun ⟨u, v, hu, hv, e⟩ => by
  rw [e]
  exact (hu.mono fun b hb => List.mem_append_left _ hb).xor (hv.mono fun b hb => List.mem_append_right _ hb)⟩
def up (k x : Nat) : Nat := x * 2 ^ k
def dbl (k x : Nat) : Nat := up k x ^^^ x
theorem up0 (k : Nat) : up k 0 = 0 := Nat.zero_mul _
theorem upx (k x y : Nat) : up k (x ^^^ y) = up k x ^^^ up k y := shl_xor k x y
theorem dbl0 (k : Nat) : dbl k 0 = 0 := by unfold dbl; rw [up0, Nat.xor_zero]
theorem dblx (k x y : Nat) : dbl k (x ^^^ y) = dbl k x ^^^ dbl k y := by
  unfold dbl
  rw [upx]
  ac_rfl
theorem mk_sp {k : Nat} {xs ys : List Nat} (hx : ∀ x ∈ xs, x < 2 ^ k) {z : Nat} (hz : z < 2 ^ k) : Sp (xs.map (dbl k) ++ ys.map (up k)) z ↔ Sp xs z ∧ Sp ys z := by
  rw [Sp.app_iff]
  constructor
  · rintro ⟨u, v, hu, hv, e⟩
    obtain ⟨a, ha, rfl⟩ := (Sp.map (dbl0 k) (dblx k)).mp hu
    obtain ⟨b, hb, rfl⟩ := (Sp.map (up0 k) (upx k)).mp hv
    have hal := ha.lt hx
    have e2 : z = up k (a ^^^ b) ^^^ a := by
      rw [e, upx]
      unfold dbl
      ac_rfl
    unfold up at e2
    rw [← shl_add hal] at e2
    have h0 : a ^^^ b = 0 := by
      cases q : a ^^^ b with
      | zero => rfl
      | succ n =>
        rw [q, Nat.succ_mul] at e2
        omega
    have hab : a = b := xor_eq_zero h0
    rw [h0, Nat.zero_mul, Nat.zero_add] at e2
    subst e2
    exact ⟨ha, hab ▸ hb⟩
  · rintro ⟨ha, hb⟩
    refine ⟨dbl k z, up k z, (Sp.map (dbl0 k) (dblx k)).mpr ⟨z, ha, rfl⟩, (Sp.map (up0 k) (upx k)).mpr ⟨z, hb, rfl⟩, ?_⟩
    unfold dbl
    rw [Nat.xor_comm (up k z) z, xor_cancel_right]
theorem mRows_eq {k : Nat} (hk : 2 ^ k = 4096) {xs ys : List Nat} (hx : ∀ x ∈ xs, x < 4096) : mRows xs ys = xs.map (dbl k) ++ ys.map (up k) := by
  unfold mRows
  rw [← hk] at hx ⊢
  congr 1
  exact List.map_congr_left fun x h => shl_add (hx x h)
theorem mRows_sp {xs ys : List Nat} (hx : ∀ x ∈ xs, x < 4096) {z : Nat} (hz : z < 4096) : Sp (mRows xs ys) z ↔ Sp xs z ∧ Sp ys z := by
  obtain ⟨k, hk⟩ : ∃ k, 2 ^ k = 4096 := ⟨12, rfl⟩
  rw [mRows_eq hk hx]
  rw [← hk] at hx hz
  exact mk_sp hx hz
theorem meetL_rr (xs ys : List Nat) : RR (meetL xs ys) := ((bas_rr _).perm (nsrt_perm _).symm).filter _
theorem meetL_sp {xs ys : List Nat} (hx : ∀ x ∈ xs, x < 4096) (hy : ∀ y ∈ ys, y < 4096) (z : Nat) : Sp (meetL xs ys) z ↔ Sp xs z ∧ Sp ys z := by
  have h := ((bas_rr (mRows xs ys)).perm (nsrt_perm _).symm).low (k := 12) z
  have h : Sp (meetL xs ys) z ↔ Sp (nsrt (bas (mRows xs ys))) z ∧ z < 4096 := h
  rw [h, Sp.perm (nsrt_perm _), bas_sp]
  constructor
  · rintro ⟨a, b⟩
    exact (mRows_sp hx b).mp a
  · rintro ⟨a, b⟩
    have : z < 2 ^ 12 := a.lt hx
    exact ⟨(mRows_sp hx this).mpr ⟨a, b⟩, this⟩
theorem meetL_sorted (xs ys : List Nat) : (meetL xs ys).Pairwise (· ≤ ·) := (nsrt_sorted _).filter _
theorem meetL_lt (xs ys : List Nat) : ∀ b ∈ meetL xs ys, b < 4096 := fun b hb => by simpa using (List.mem_filter.mp hb).2
end Gf
namespace Fb
open PySem L2 Mm Gf
theorem meet_ok (S : Sto) {xs ys : List Nat} (hx : ∀ x ∈ xs, x < 4096) (hy : ∀ y ∈ ys, y < 4096) (lx : xs.length ≤ 1000) (ly : ys.length ≤ 1000) (a b : D) (ha : a = .tup (nl xs) ∨ a = .lst (nl xs)) (hb : b = .tup (nl ys) ∨ b = .lst (nl ys)) : m_meet [a, b] S = .ok (.own (.lst (nl (meetL xs ys)))) S := by
  have N := need12 S (rs := xs ++ ys) (fun r hr => (List.mem_append.mp hr).elim (hx r) (hy r)) (.lst (nl (xs ++ ys))) (.inr rfl)
  have z1 := szB_of (n := xs.length + ys.length) (by omega)
  have mu : ∀ x : Nat, mulB (x : Int) 4096 = true := fun x => mulB_r (by decide)
  have lc1 := flc_nl (mi := itL (eV 0)) (te := eOp dAdd (eOp iMul (eV 3) (eC (.int 4096))) (eV 3)) (k := 3) (vs := [3]) (env := [.v a, .v b, .no, .no, .no]) (S := S) (fun x => x * 4096 + x) xs (by rcases ha with rfl | rfl <;> simp) (by omega) fun y hy => by simp [mu]
  have lc2 := flc_nl (mi := itL (eV 1)) (te := eOp iMul (eV 3) (eC (.int 4096))) (k := 3) (vs := [3]) (env := [.v a, .v b, .no, .no, .no]) (S := S) (fun x => x * 4096) ys (by rcases hb with rfl | rfl <;> simp) (by omega) fun y hy => by simp [mu]
  have rl : ∀ r ∈ mRows xs ys, r < 2 ^ 24 := fun r hr => by
    rcases List.mem_append.mp hr with hr | hr
    · obtain ⟨x, h, rfl⟩ := List.mem_map.mp hr
      have := hx x h
      omega
    · obtain ⟨x, h, rfl⟩ := List.mem_map.mp hr
      have := hy x h
      omega
  have B := basis_of_ok S (w := 24) (mRows xs ys) (by omega) rl (.lst (nl (mRows xs ys))) (.inr rfl)
  have bl := bas_len (mRows xs ys)
  have ml : (mRows xs ys).length = xs.length + ys.length := by simp [mRows]
  have nsl := (nsrt_perm (bas (mRows xs ys))).length_eq
  have lc3 := flc_nlp (mi := itL (eCall m_basis_of [] (aCons (eV 2) aNil))) (tt := cB (eOp iLt (eV 4) (eC (.int 4096)))) (te := eV 4) (k := 4) (vs := [4]) (env := [.v a, .v b, .v (.lst (nl (mRows xs ys))), .no, .no]) (S := S) (fun b => decide (b < 4096)) id (nsrt (bas (mRows xs ys))) (by simp [B]) (by omega) fun y hy => by
    refine ⟨?_, fun _ => by simp⟩
    have e : decide ((y : Int) < 4096) = decide (y < 4096) := decide_eq_decide.mpr (by omega)
    simp [e]
  rw [List.map_id] at lc3
  have la : fListOf S [a] = some (.lst (nl xs)) := by rcases ha with rfl | rfl <;> rfl
  have lb : fListOf S [b] = some (.lst (nl ys)) := by rcases hb with rfl | rfl <;> rfl
  have ap : nl (xs.map fun x => x * 4096 + x) ++ nl (ys.map fun x => x * 4096) = nl (mRows xs ys) := by rw [nl_append]; rfl
  have st : startE 5 [a, b] = [.v a, .v b, .no, .no, .no] := rfl
  unfold m_meet
  simp only [mFn_eq, st, sSeq_eq, sExpr_eq, eCall_eq, aCons_eq, eOp_eq, mFrz_eq, fCB_eq, eV_eq, List.getElem?_cons_zero, List.getElem?_cons_succ, bind_ok', aNil_eq, la, lb, opt_some', d_lst, dAdd_lst, nl_len, z1, if_true, nl_append, List.cons_append, List.nil_append, N, out_ok', r_val, sAsg_eq, lc1, lc2, List.length_map, gN_eq, List.set_cons_succ, List.set_cons_zero, sRetF_eq]
  rw [show xs.map (fun x => x * 4096 + x) ++ ys.map (fun x => x * 4096) = mRows xs ys from rfl, lc3]
  rfl
theorem meet_bad (S : Sto) (xs ys : List Int) {x : Int} (hx : x ∈ xs ++ ys) (h : Far 12 x) (lx : xs.length ≤ 1000) (ly : ys.length ≤ 1000) (a b : D) (ha : a = .tup (xs.map D.int) ∨ a = .lst (xs.map D.int)) (hb : b = .tup (ys.map D.int) ∨ b = .lst (ys.map D.int)) : m_meet [a, b] S = .exc "BadNumber" none S := by
  have N := need12_bad S (xs ++ ys) hx h (.lst ((xs ++ ys).map D.int)) (.inr rfl)
  have z1 := szB_of (n := xs.length + ys.length) (by omega)
  have la : fListOf S [a] = some (.lst (xs.map D.int)) := by rcases ha with rfl | rfl <;> rfl
  have lb : fListOf S [b] = some (.lst (ys.map D.int)) := by rcases hb with rfl | rfl <;> rfl
  have st : startE 5 [a, b] = [.v a, .v b, .no, .no, .no] := rfl
  unfold m_meet
  simp only [mFn_eq, st, sSeq_eq, sExpr_eq, eCall_eq, aCons_eq, eOp_eq, mFrz_eq, fCB_eq, eV_eq, List.getElem?_cons_zero, List.getElem?_cons_succ, bind_ok', aNil_eq, la, lb, opt_some', d_lst, dAdd_lst, List.length_map, z1, if_true, ← List.map_append, List.cons_append, List.nil_append, N, bind_exc', out_exc']
/-! ### numbers beyond -/
theorem far_ok {b : Cell} (hb : Bx b) : ∃ b' x, m__law_far [.ref 0] [b] = .ok (.val (.int x)) [b'] ∧ Bx b' ∧ Far 12 x := by
  obtain ⟨b1, r, t, hb1, hr⟩ := takeK hb 4 4 rfl (by decide) (by decide)
  have p20 : powB 10 20 = true := powB_of (by omega) (by omega) (by decide)
  have p30 : powB 10 30 = true := powB_of (by omega) (by omega) (by decide)
  have z4 := szB_of (n := 4) (by omega)
  have f1 : Far 12 (-1) := .inl (by omega)
  have f2 : Far 12 4096 := .inr (by decide)
  have f3 : Far 12 (10 ^ 20) := .inr (by decide)
  have f4 : Far 12 (-10 ^ 30) := .inl (by decide)
  have cs : r = 0 ∨ r = 1 ∨ r = 2 ∨ r = 3 := by omega
  rcases cs with rfl | rfl | rfl | rfl
  · exact ⟨b1, -1, by simp [m__law_far, t, p20, p30, z4], hb1, f1⟩
  · exact ⟨b1, 4096, by simp [m__law_far, t, p20, p30, z4], hb1, f2⟩
  · exact ⟨b1, 10 ^ 20, by simp [m__law_far, t, p20, p30, z4], hb1, f3⟩
  · exact ⟨b1, -10 ^ 30, by simp [m__law_far, t, p20, p30, z4], hb1, f4⟩
end Fb
namespace Fb
open PySem L2 Mm Gf
/-- some of a list are drawn -/
theorem draw_lc {k : Nat} {env : Envr} (h1 : env[1]? = some (.v (.ref 0))) (hk : k ≠ 1) (hl : k < env.length) : ∀ (xs : List Nat) {b : Cell}, Bx b → ∃ b' ys, lcR (gN k) (cB (eOp fEq (eCall m__law_take [] (aCons (eV 1) (aCons (eC (.int 2)) aNil))) (eC (.int 0)))) (eV k) env (nl xs) [b] = .ok (nl ys) [b'] ∧ Bx b' ∧ ys.Sublist xs
  | [], b, hb => ⟨b, [], rfl, hb, .slnil⟩
  | x :: xs, b, hb => by
    obtain ⟨b1, r, t, hb1, hr⟩ := takeK hb 2 2 rfl (by decide) (by decide)
    obtain ⟨b2, ys, e, hb2, sl⟩ := draw_lc h1 hk hl xs hb1
    have g1 : (env.set k (.v (nd x)))[1]? = some (.v (.ref 0)) := by rw [List.getElem?_set_ne (by omega)]; exact h1
    have g2 : (env.set k (.v (nd x)))[k]? = some (.v (nd x)) := List.getElem?_set_self hl
    have tt : (cB (eOp fEq (eCall m__law_take [] (aCons (eV 1) (aCons (eC (.int 2)) aNil))) (eC (.int 0)))) (env.set k (.v (nd x))) [b] = .ok (decide (r = 0)) [b1] := by
      have e0 : decide ((r : Int) = 0) = decide (r = 0) := decide_eq_decide.mpr (by omega)
      simp [g1, t, e0]
    rw [nl_cons, lcR, gN_eq]
    simp only [tt]
    by_cases h0 : r = 0
    · refine ⟨b2, x :: ys, ?_, hb2, sl.cons₂ _⟩
      simp only [h0, decide_true, eV_eq, g2, e, bind_ok', nl_cons]
    · refine ⟨b2, ys, ?_, hb2, sl.cons _⟩
      simp only [h0, decide_false, e]
theorem blend_sp {xs : List Nat} : Sp xs (xs.foldl (· ^^^ ·) 0) := by
  induction xs with
  | nil => exact .zero _
  | cons x xs ih =>
    rw [List.foldl_cons, xor_fold, Nat.zero_xor]
    exact (Sp.head x xs).xor (Sp.tail ih)
/-- blends of some, drawn -/
theorem blends_lc {j k : Nat} {env : Envr} (h1 : env[1]? = some (.v (.ref 0))) {i : Nat} {xs : List Nat} (hi : env[i]? = some (.v (.lst (nl xs)))) (hj : j ≠ 1) (hij : i ≠ j) (hk : k ≠ 1) (hl : k < env.length) (hz : xs.length ≤ 1000) : ∀ (zs : List D) {b : Cell}, Bx b →
    ∃ b' ys, lcR (gN j) cYes (eCall m__law_blend [] (aCons (mFrz (fLc (itL (eV i)) (gN k) (cB (eOp fEq (eCall m__law_take [] (aCons (eV 1) (aCons (eC (.int 2)) aNil))) (eC (.int 0)))) (eV k) [k])) aNil)) env zs [b] = .ok (nl ys) [b'] ∧ Bx b' ∧ ys.length = zs.length ∧ ∀ y ∈ ys, Sp xs y
  | [], b, hb => ⟨b, [], rfl, hb, rfl, fun _ h => by simp at h⟩
  | z :: zs, b, hb => by
    have w1 : ((wipeE (env.set j (.v z)) []).set k .no)[1]? = some (.v (.ref 0)) := by
      rw [List.getElem?_set_ne (by omega)]
      show ((env.set j (.v z)).map hideS)[1]? = _
      rw [List.getElem?_map, List.getElem?_set_ne (by omega), h1]
      rfl
    have w2 : k < ((wipeE (env.set j (.v z)) []).set k .no).length := by
      rw [List.length_set]
      show k < ((env.set j (.v z)).map hideS).length
      rw [List.length_map, List.length_set]
      exact hl
    obtain ⟨b1, us, e1, hb1, sl⟩ := draw_lc w1 hk w2 xs hb
    obtain ⟨b2, ys, e2, hb2, l2, s2⟩ := blends_lc h1 hi hj hij hk hl hz zs hb1
    have gi : (env.set j (.v z))[i]? = some (.v (.lst (nl xs))) := by rw [List.getElem?_set_ne (by omega)]; exact hi
    have sz := szB_of (n := us.length) (by have := sl.length_le; omega)
    have bl := lblend_ok [b1] us
    have te : (eCall m__law_blend [] (aCons (mFrz (fLc (itL (eV i)) (gN k) (cB (eOp fEq (eCall m__law_take [] (aCons (eV 1) (aCons (eC (.int 2)) aNil))) (eC (.int 0)))) (eV k) [k])) aNil)) (env.set j (.v z)) [b] = .ok (nd (us.foldl (· ^^^ ·) 0)) [b1] := by
      simp only [eCall_eq, aCons_eq, mFrz_eq, fLc_eq, itL_eq, eV_eq, gi, bind_ok']
      rw [show wipeE (env.set j (.v z)) [k] = (wipeE (env.set j (.v z)) []).set k .no from rfl, e1]
      simp [sz, bl]
    refine ⟨b2, us.foldl (· ^^^ ·) 0 :: ys, ?_, hb2, by simp [l2], fun y hy => ?_⟩
    · rw [lcR, gN_eq]
      simp only [cYes_eq, te, e2, bind_ok', nl_cons]
    · rcases List.mem_cons.mp hy with rfl | hy
      · exact blend_sp.mono fun a ha => sl.subset ha
      · exact s2 y hy
/-! ### lists of two lists -/
theorem fNe_two (S : Sto) (xs ys : List Nat) : fNe S (.lst [.lst (nl xs), .lst (nl ys)]) (.lst [.lst (nl xs), .lst (nl ys)]) = some (.bl false) := by
  have sh : SeqAt.shaped (.list [.list ((xs.map Int.ofNat).map PyData.int), .list ((ys.map Int.ofNat).map PyData.int)]) = true := by
    simp [-List.map_map, SeqAt.shaped, PyData.canLay0, PyData.canLayAll0, PyData.depth, PyData.depthAll, canLay_ints, depth_ints]
  simp [-List.map_map, fNe, D.py, pyAll, nl_eq, pyAll_ints, sh, PyData.eqv, PyData.eqvAll, eqv_ints]
end Fb
namespace Fb
open PySem L2 Mm Gf
/-! ### shuffles of anything -/
theorem insert_permG {α : Type} (xs : List α) (k : Nat) (x : α) : (xs.take k ++ [x] ++ xs.drop k).Perm (x :: xs) := by
  rw [List.append_assoc]
  have := List.perm_middle (l₁ := xs.take k) (l₂ := xs.drop k) (a := x)
  simpa using this
theorem shuffledD {b : Cell} (hb : Bx b) (xs : List D) (hl : xs.length ≤ 1000) : ∃ b' ys, m__law_shuffled [.ref 0, .lst xs] [b] = .ok (.own (.lst ys)) [b'] ∧ Bx b' ∧ ys.Perm xs := by
  have key := forL_inv (g := gN 3) (b := sIns 2 (eCall m__law_take [] (aCons (eV 0) (aCons (eOp dAdd (eLenA 2) (eC (.int 1))) aNil))) (eV 3))
    (I := fun ds env S' => ∃ (b' : Cell) (ys : List D) (s : Sl), S' = [b'] ∧ Bx b' ∧ env = [.v (.ref 0), .v (.lst xs), .o (.lst ys), s] ∧ (ys ++ ds).Perm xs)
    (fun x rest env S' h => by
      obtain ⟨b', ys, s, rfl, hb', rfl, p⟩ := h
      have pl := p.length_eq
      simp at pl
      obtain ⟨b2, r, t, hb2, hr⟩ := take1 hb' (k := ys.length + 1) (by omega) (by omega)
      have t' : m__law_take [.ref 0, .int ((ys.length : Int) + 1)] [b'] = .ok (.val (nd r)) [b2] := t
      refine ⟨_, rfl, [.v (.ref 0), .v (.lst xs), .o (.lst (ys.take r ++ [x] ++ ys.drop r)), .v x], [b2], .inl ?_, b2, _, _, rfl, hb2, rfl, ?_⟩
      · have bd := (bBnd_iff (i := (r : Int)) (n := 9223372036854775807)).mpr (by omega)
        have sz := szB_of (n := ys.length + 1) (by omega)
        simp [t', bd, sz]
      · exact ((insert_permG ys r x).append_right rest).trans ((List.perm_middle (l₁ := ys) (l₂ := rest) (a := x)).symm.trans p)) xs [.v (.ref 0), .v (.lst xs), .o (.lst []), .no] [b] ⟨b, [], .no, rfl, hb, rfl, by simp⟩
  obtain ⟨e', S', k1, b', ys, s, rfl, hb', rfl, p⟩ := key
  refine ⟨b', ys, ?_, hb', by simpa using p⟩
  have s0 := szB_of (n := 0) (by omega)
  simp [m__law_shuffled, s0]
  rw [k1]
  rfl
theorem ints_of_perm {xs : List Int} {ys : List D} (p : ys.Perm (xs.map D.int)) : ∃ zs : List Int, ys = zs.map D.int ∧ zs.Perm xs := by
  obtain ⟨zs, hz, e⟩ : ∃ zs : List Int, zs.Perm xs ∧ ys = zs.map D.int := by
    let f : D → Int := fun d => match d with
      | .int i => i
      | _ => 0
    refine ⟨ys.map f, ?_, ?_⟩
    · have := p.map f
      rw [List.map_map] at this
      have e : f ∘ D.int = id := rfl
      rwa [e, List.map_id] at this
    · rw [List.map_map]
      have h : ∀ d ∈ ys, (D.int ∘ f) d = d := fun d hd => by
        obtain ⟨i, _, rfl⟩ := List.mem_map.mp (p.mem_iff.mp hd)
        rfl
      exact (List.map_congr_left h |>.trans (List.map_id ys)).symm
  exact ⟨zs, e, hz⟩
theorem shuffledI {b : Cell} (hb : Bx b) (xs : List Int) (hl : xs.length ≤ 1000) : ∃ (b' : Cell) (ys : List Int), m__law_shuffled [.ref 0, .lst (xs.map D.int)] [b] = .ok (.own (.lst (ys.map D.int))) [b'] ∧ Bx b' ∧ ys.Perm xs := by
  obtain ⟨b', ys, e, hb', p⟩ := shuffledD hb (xs.map D.int) (by simpa using hl)
  obtain ⟨zs, rfl, q⟩ := ints_of_perm p
  exact ⟨b', zs, e, hb', q⟩
/-! ### blends -/
theorem blendedA (S : Sto) (xs : List Nat) (a : D) (ha : a = .tup (nl xs) ∨ a = .lst (nl xs)) : m_blended [a] S = .ok (.val (nd (xs.foldl (· ^^^ ·) 0))) S := by
  obtain ⟨s2, e, _⟩ := forM (S := S) (g := gN 2) (b := sAsg (eOp iXor (eV 1) (eV 2)) (gN 1)) nd (fun (l : Nat) (s : Sl) => [.v a, .v (nd l), s]) (· ^^^ ·) (fun _ => True) xs (fun l s x _ _ => ⟨[.v a, .v (nd l), .v (nd x)], rfl, .v (nd x), by simp, trivial⟩) 0 .no trivial
  have e' : forL (gN 2) (sAsg (eOp iXor (eV 1) (eV 2)) (gN 1)) (nl xs) [.v a, .v (.int 0), .no] S = .nx [.v a, .v (nd (xs.foldl (· ^^^ ·) 0)), s2] S := e
  rcases ha with rfl | rfl <;> simp [m_blended, e']
theorem blend_ok (S : Sto) {xs : List Nat} (h : ∀ x ∈ xs, x < 4096) (a : D) (ha : a = .tup (nl xs) ∨ a = .lst (nl xs)) : m_blend [a] S = .ok (.val (nd (xs.foldl (· ^^^ ·) 0))) S := by
  have N := need12 S h a ha
  have B := blendedA S xs a ha
  simp [m_blend, N, B]
theorem blend_bad (S : Sto) (xs : List Int) {x : Int} (hx : x ∈ xs) (h : Far 12 x) (a : D) (ha : a = .tup (xs.map D.int) ∨ a = .lst (xs.map D.int)) : m_blend [a] S = .exc "BadNumber" none S := by
  have N := need12_bad S xs hx h a ha
  simp [m_blend, N]
/-! ### one of two -/
theorem of2 {b : Cell} (hb : Bx b) (x y : D) : ∃ b' z, m__law_of [.ref 0, .lst [x, y]] [b] = .ok (.val z) [b'] ∧ Bx b' ∧ (z = x ∨ z = y) := by
  obtain ⟨b1, r, t, hb1, hr⟩ := takeK hb 2 2 rfl (by decide) (by decide)
  have cs : r = 0 ∨ r = 1 := by omega
  rcases cs with rfl | rfl
  · exact ⟨b1, x, by simp [m__law_of, t], hb1, .inl rfl⟩
  · exact ⟨b1, y, by simp [m__law_of, t], hb1, .inr rfl⟩
/-! ### same, item by item -/
theorem same_each (n : Nat) (S : Sto) : ∀ (xs ys : List D) (a b : D), (∀ p ∈ xs.zip ys, m__law_same n [p.1, p.2] S = .ok (.val (.bl true)) S) →
    lcR (gT (gNC (gN 2) (gNC (gN 3) gN0))) cYes (eCall (m__law_same n) [] (aCons (eV 2) (aCons (eV 3) aNil))) [.v a, .v b, .no, .no] (zipD xs ys) S = .ok ((xs.zip ys).map fun _ => D.bl true) S
  | [], _, _, _, _ => rfl
  | _ :: _, [], _, _, _ => rfl
  | x :: xs, y :: ys, a, b, h => by
    have h1 : m__law_same n [x, y] S = _ := h (x, y) List.mem_cons_self
    have h2 := same_each n S xs ys a b fun p hp => h p (List.mem_cons_of_mem _ hp)
    rw [zipD, lcR]
    simp [h1, h2]
theorem same_listsT (n : Nat) (S : Sto) (xs ys : List D) (hl : xs.length = ys.length) (hz : xs.length ≤ 100000) (h : ∀ p ∈ xs.zip ys, m__law_same n [p.1, p.2] S = .ok (.val (.bl true)) S) : m__law_same (n + 1) [.lst xs, .lst ys] S = .ok (.val (.bl true)) S := by
  have lc := same_each n S xs ys (.lst xs) (.lst ys) h
  have sz := szB_of (n := min xs.length ys.length) (by omega)
  have two := szB_of (n := 2) (by decide)
  have fa : fAll S [.lst ((xs.zip ys).map fun _ => D.bl true)] = some (.bl true) := by
    have := fAll_eq S ((xs.zip ys).map fun _ => true)
    rw [List.map_map] at this
    have this : fAll S [.lst ((xs.zip ys).map fun _ => D.bl true)] = _ := this
    rw [this]
    simp
  have e : (itZA (aCons (eV 0) (aCons (eV 1) aNil))) [.v (.lst xs), .v (.lst ys), .no, .no] S = .ok (zipD xs ys) S := rfl
  have body : (fLc (itZA (aCons (eV 0) (aCons (eV 1) aNil))) (gT (gNC (gN 2) (gNC (gN 3) gN0))) cYes (eCall (m__law_same n) [] (aCons (eV 2) (aCons (eV 3) aNil))) [2, 3]) [.v (.lst xs), .v (.lst ys), .no, .no] S = .ok (.lst ((xs.zip ys).map fun _ => D.bl true)) S := by
    rw [fLc_eq, e, bind_ok']
    erw [lc]
    rw [bind_ok', fin_eq, if_pos (by simpa using sz)]
  unfold m__law_same
  simp [-fLc_eq, two, hl, body, fa]
/-! ### lending -/
theorem noRefL_nl (xs : List Nat) : noRefL (nl xs) = true := by
  induction xs with
  | nil => rfl
  | cons x xs ih =>
    rw [nl_cons, noRefL, ih]
    rfl
@[simp] theorem noRef_lst (xs : List Nat) : noRef (.lst (nl xs)) = true := by
  unfold noRef
  exact noRefL_nl xs
@[simp] theorem noRef_tup (xs : List Nat) : noRef (.tup (nl xs)) = true := by
  unfold noRef
  exact noRefL_nl xs
@[simp] theorem lendV_no : lendV .no = .no := rfl
@[simp] theorem lendV_ref (n : Nat) : lendV (.v (.ref n)) = .no := rfl
@[simp] theorem lendV_scr (n : List Int) : lendV (.v (.scr n)) = .v (.scr n) := rfl
@[simp] theorem lendV_int (n : Int) : lendV (.v (.int n)) = .v (.int n) := rfl
@[simp] theorem lendV_lst (xs : List Nat) : lendV (.v (.lst (nl xs))) = .v (.lst (nl xs)) := if_pos (noRef_lst xs)
@[simp] theorem lendV_tup (xs : List Nat) : lendV (.v (.tup (nl xs))) = .v (.tup (nl xs)) := if_pos (noRef_tup xs)
end Fb
namespace Fb
open PySem L2 Mm Gf
noncomputable def m__law_fold : MFn := mFn 3 (sRet (eNew "Fold" m_FoldU_initU [] (aCons (eCall m__law_numbers [] (aCons (eV 0) (aCons (eV 1) (aCons (eV 2) aNil)))) (aCons (eV 2) aNil))))
noncomputable def m_Fold_beside : MFn := mFn 3 (sSeq (sIf (cOr (cB (eOp iGt (eOp dAdd (eCB fLen (aCons (eFld "Fold" "lines" (eV 0)) aNil)) (eMeth "Fold" "many" m_Fold_many [] (eV 1) aNil)) (eC (.int 12)))) (cB (eOp iGt (eOp dAdd (eFld "Fold" "wide" (eV 0)) (eMeth "Fold" "size" m_Fold_size [] (eV 1) aNil)) (eC (.int 12))))) (sRaise "Unfit") sNil)
    (sRet (eNew "Fold" m_FoldU_initU [] (aCons (eOp fCatT (eFld "Fold" "lines" (eV 0)) (eCB fTupOf (aCons (mFrz (fLc (itL (eMeth "Fold" "rows" m_Fold_rows [] (eV 1) aNil)) (gN 2) cYes (eOp iShl (eV 2) (eFld "Fold" "wide" (eV 0))) [2])) aNil))) (aCons (eOp dAdd (eFld "Fold" "wide" (eV 0)) (eMeth "Fold" "size" m_Fold_size [] (eV 1) aNil)) aNil)))))
noncomputable def m_Fold_part : MFn := mFn 6 (sSeq (sAsg (eTup (aCons (eMeth "Fold" "many" m_Fold_many [] (eV 1) aNil) (aCons (eMeth "Fold" "size" m_Fold_size [] (eV 1) aNil) aNil))) (gT (gNC (gN 2) (gNC (gN 3) gN0))))
    (sSeq (sAsg (eSlT (eFld "Fold" "lines" (eV 0)) (oSome (eV 2)) oNone) (gN 4))
    (sSeq (sIf (cOr (cB (eOp iGt (eV 3) (eFld "Fold" "wide" (eV 0)))) (cB (eOp fNe (eSlT (eFld "Fold" "lines" (eV 0)) oNone (oSome (eV 2))) (eMeth "Fold" "rows" m_Fold_rows [] (eV 1) aNil)))) (sRaise "NotPart") sNil)
    (sSeq (sIf (cB (eCB fAny (aCons (mFrz (fLc (itL (eV 4)) (gN 5) cYes (eOp fNe (eV 5) (eOp iShl (eOp iShr (eV 5) (eV 3)) (eV 3))) [5])) aNil))) (sRaise "NotPart") sNil)
    (sRet (eNew "Fold" m_FoldU_initU [] (aCons (mFrz (fLc (itL (eV 4)) (gN 5) cYes (eOp iShr (eV 5) (eV 3)) [5])) (aCons (eOp iSub (eFld "Fold" "wide" (eV 0)) (eV 3)) aNil))))))))
end Fb
namespace Fb
open PySem L2 Mm Gf
theorem rows_ok (S : Sto) (rs : List Nat) (w : Nat) : m_Fold_rows [fold rs w] S = .ok (.val (.tup (nl rs))) S := by
  simp [m_Fold_rows]
def bes (rs ss : List Nat) (v : Nat) : List Nat := rs ++ ss.map (· <<< v)
theorem bes_lt {rs ss : List Nat} {v w : Nat} (h1 : ∀ r ∈ rs, r < 2 ^ v) (h2 : ∀ r ∈ ss, r < 2 ^ w) : ∀ r ∈ bes rs ss v, r < 2 ^ (v + w) := fun r hr => by
  rcases List.mem_append.mp hr with hr | hr
  · exact Nat.lt_of_lt_of_le (h1 r hr) (Nat.pow_le_pow_right (by decide) (by omega))
  · obtain ⟨x, hx, rfl⟩ := List.mem_map.mp hr
    have := h2 x hx
    show x <<< v < 2 ^ (v + w)
    rw [Nat.shiftLeft_eq, Nat.pow_add, Nat.mul_comm]
    exact Nat.mul_lt_mul_of_pos_left this (Nat.two_pow_pos v)
theorem bes_fok {rs ss : List Nat} {v w : Nat} (h1 : FOk rs v) (h2 : FOk ss w) (hl : rs.length + ss.length ≤ 12) (hw : v + w ≤ 12) : FOk (bes rs ss v) (v + w) := ⟨by simp [bes]; exact hl, hw, bes_lt h1.lt h2.lt⟩
theorem beside_ok (S : Sto) {rs ss : List Nat} {v w : Nat} (h1 : FOk rs v) (h2 : FOk ss w) (hl : rs.length + ss.length ≤ 12) (hw : v + w ≤ 12) : m_Fold_beside [fold rs v, fold ss w] S = .ok (.val (fold (bes rs ss v) (v + w))) S := by
  have lc := lcR_map (S := S) (g := gN 2) (tt := cYes) (te := eOp iShl (eV 2) (eFld "Fold" "wide" (eV 0))) (env := [.v (fold rs v), .v (fold ss w), .no]) (fun _ => true) (fun d => match d with
    | .int i => nd (i.toNat <<< v)
    | d => d) (nl ss) (fun d hd => by
      obtain ⟨y, hy, rfl⟩ := mem_nl.mp hd
      refine ⟨[.v (fold rs v), .v (fold ss w), .v (nd y)], rfl, rfl, fun _ => ?_⟩
      have yl : y < 2 ^ 12 := Nat.lt_of_lt_of_le (h2.lt y hy) (Nat.pow_le_pow_right (by decide) h2.wide)
      have pw := powB_nat (i := (y : Int)) (by omega) v (by have := h1.wide; omega)
      simp [pw, Nat.shiftLeft_eq])
  rw [List.filter_eq_self.mpr (fun _ _ => rfl), nl_map (g := (· <<< v)) (fun y _ => by simp)] at lc
  have sz := szB_of (n := ss.length) (by omega)
  have sz2 := szB_of (n := rs.length + ss.length) (by omega)
  have N := new_ok S (bes_fok h1 h2 hl hw) (.tup (nl (bes rs ss v))) (.inl rfl)
  have n1 : ¬ (12 : Int) < (rs.length : Int) + ss.length := by omega
  have n2 : ¬ (12 : Int) < (v : Int) + w := by omega
  have N' : popI "Fold" S (m_FoldU_initU [.ref S.length, .tup (nl (rs ++ ss.map (· <<< v))), .int ((v : Int) + w)] (S ++ [.ins "Fold" []])) = .ok (fold (bes rs ss v) (v + w)) S := N
  simp [m_Fold_beside, many_ok, size_ok, rows_ok, n1, n2, lc, sz, sz2, N']
theorem cut_hiA (xs : List D) (k : Nat) : cutD xs (some (k : Int)) none = xs.drop k := by
  unfold cutD
  rw [HT.sIx_nat, HT.sIx_none]
  rw [List.take_of_length_le (by simp)]
  by_cases h : k ≤ xs.length
  · rw [Nat.min_eq_left h]
  · rw [Nat.min_eq_right (by omega), List.drop_of_length_le (by omega), List.drop_of_length_le (by omega)]
theorem cut_loA (xs : List D) (k : Nat) : cutD xs none (some (k : Int)) = xs.take k := by
  unfold cutD
  rw [HT.sIx_nat, HT.sIx_none]
  by_cases h : k ≤ xs.length
  · rw [Nat.min_eq_left h]
    simp
  · rw [Nat.min_eq_right (by omega), List.take_of_length_le (by simp), List.take_of_length_le (by omega)]
    simp
theorem shlr (x w : Nat) : x <<< w >>> w = x := by
  rw [Nat.shiftLeft_eq, Nat.shiftRight_eq_div_pow, Nat.mul_div_cancel _ (Nat.two_pow_pos w)]
theorem fAny_eq (S : Sto) (bs : List Bool) : fAny S [.lst (bs.map D.bl)] = some (.bl (bs.any id)) := by
  show (blsOf (bs.map D.bl)).map _ = _
  rw [blsOf_map]
  rfl
theorem comp_fok {rs ss : List Nat} {v w : Nat} (h1 : FOk rs v) (h2 : FOk ss w) : FOk (rs.map (app ss)) w := ⟨by simpa using h1.len, h2.wide, fun r hr => by
    obtain ⟨q, _, rfl⟩ := List.mem_map.mp hr
    exact app_lt q h2.lt⟩
theorem then_bad (S : Sto) {rs ss : List Nat} {v w : Nat} (h : ss.length ≠ v) : m_Fold_then [fold rs v, fold ss w] S = .exc "Unfit" none S := by
  have e : ¬ ((ss.length : Int) = (v : Int)) := by omega
  simp [m_Fold_then, many_ok, e]
theorem beside_bad (S : Sto) {rs ss : List Nat} {v w : Nat} (h : 12 < rs.length + ss.length ∨ 12 < v + w) : m_Fold_beside [fold rs v, fold ss w] S = .exc "Unfit" none S := by
  by_cases h1 : 12 < rs.length + ss.length
  · have n1 : (12 : Int) < (rs.length : Int) + ss.length := by omega
    simp [m_Fold_beside, many_ok, n1]
  · have n1 : ¬ (12 : Int) < (rs.length : Int) + ss.length := by omega
    have n2 : (12 : Int) < (v : Int) + w := by omega
    simp [m_Fold_beside, many_ok, size_ok, n1, n2]
/-- what is cut off below -/
theorem part_len (S : Sto) {ls ss : List Nat} {W w : Nat} (h : ls.length < ss.length) : m_Fold_part [fold ls W, fold ss w] S = .exc "NotPart" none S := by
  have c1 := cut_hiA (nl ls) ss.length
  have c2 := cut_loA (nl ls) ss.length
  have s2 := szB_of (n := 2) (by omega)
  have ne : ¬ (ls.take ss.length = ss) := fun e => by
    have := congrArg List.length e
    simp at this
    omega
  rw [nl_take] at c2
  by_cases hw : (W : Int) < w
  · simp [m_Fold_part, many_ok, size_ok, rows_ok, s2, c1, c2, hw]
  · simp [m_Fold_part, many_ok, size_ok, rows_ok, s2, c1, c2, hw, ne]
def lowB (w : Nat) (ls : List Nat) : Bool := ls.all fun y => decide (y % 2 ^ w = 0)
theorem shr_shl (y w : Nat) : decide (y = y >>> w <<< w) = decide (y % 2 ^ w = 0) := by
  rw [Nat.shiftLeft_eq, Nat.shiftRight_eq_div_pow]
  have := Nat.div_add_mod y (2 ^ w)
  rw [Nat.mul_comm] at this
  exact decide_eq_decide.mpr (by omega)
theorem part_gen (S : Sto) {ls ss : List Nat} {W w : Nat} (h1 : FOk ls W) (h2 : FOk ss w) (hw : w ≤ W) : m_Fold_part [fold ls W, fold ss w] S =
    if ls.take ss.length = ss ∧ lowB w (ls.drop ss.length) = true then .ok (.val (fold ((ls.drop ss.length).map (· >>> w)) (W - w))) S else .exc "NotPart" none S := by
  have c1 := cut_hiA (nl ls) ss.length
  have c2 := cut_loA (nl ls) ss.length
  have s2 := szB_of (n := 2) (by omega)
  rw [nl_take] at c2
  rw [nl_drop] at c1
  have nw : ¬ (W : Int) < w := by omega
  by_cases e1 : ls.take ss.length = ss
  · have lt : ∀ y ∈ ls.drop ss.length, y < 2 ^ W := fun y hy => h1.lt y (List.mem_of_mem_drop hy)
    have l12 := h1.len
    have w12 := h2.wide
    have W12 := h1.wide
    generalize hr : ls.drop ss.length = rr at *
    have lr : rr.length ≤ 12 := by rw [← hr]; simp; omega
    have pw : ∀ y, y ∈ rr → powB ((y >>> w : Nat) : Int) (w : Int) = true := fun y hy => powB_nat (by
      have yl : y < 2 ^ 12 := Nat.lt_of_lt_of_le (lt y hy) (Nat.pow_le_pow_right (by decide) W12)
      have q : y >>> w ≤ y := by rw [Nat.shiftRight_eq_div_pow]; exact Nat.div_le_self ..
      generalize y >>> w = z at q
      omega) w (by omega)
    have lcA := lc_all (S := S) (g := gN 5) (te := eOp fNe (eV 5) (eOp iShl (eOp iShr (eV 5) (eV 3)) (eV 3))) (env := [.v (fold ls W), .v (fold ss w), .v (nd ss.length), .v (nd w), .v (.tup (nl rr)), .no]) nd (fun y => .bl (!decide (y % 2 ^ w = 0))) rr (fun y hy => by
        refine ⟨[.v (fold ls W), .v (fold ss w), .v (nd ss.length), .v (nd w), .v (.tup (nl rr)), .v (nd y)], rfl, ?_⟩
        have e1 : (y : Int) / 2 ^ w = ((y >>> w : Nat) : Int) := by
          rw [shr_nat]
        have e2 : ((y >>> w : Nat) : Int) * 2 ^ w = ((y >>> w <<< w : Nat) : Int) := by
          rw [Nat.shiftLeft_eq]
          simp
        have e3 := shr_shl y w
        have e4 : decide ((y : Int) = ((y >>> w <<< w : Nat) : Int)) = decide (y = y >>> w <<< w) := decide_eq_decide.mpr (by omega)
        simp only [eOp_eq, eV_eq, bind_ok', List.getElem?_cons_succ, List.getElem?_cons_zero, iShr_eq, decide_eq_true (Int.natCast_nonneg w), if_true, Int.toNat_natCast, opt_some', e1, iShl_eq, pw y hy, fNe_int, e2, e4, e3])
    have an := fAny_eq S (rr.map fun y => !decide (y % 2 ^ w = 0))
    rw [List.map_map] at an
    have an : fAny S [.lst (rr.map fun y => D.bl (!decide (y % 2 ^ w = 0)))] = _ := an
    have ea : (rr.map fun y => !decide (y % 2 ^ w = 0)).any id = !lowB w rr := by
      unfold lowB
      rw [List.any_map, List.not_all_eq_any_not]
      rfl
    rw [ea] at an
    have lcA : lcR (gN 5) cYes (eOp fNe (eV 5) (eOp iShl (eOp iShr (eV 5) (eV 3)) (eV 3))) [.v (fold ls W), .v (fold ss w), .v (nd ss.length), .v (nd w), .v (.tup (nl rr)), .no] (nl rr) S = _ := lcA
    have st := szB_of (n := rr.length) (by omega)
    cases hg : lowB w rr with
    | false =>
      rw [hg] at an
      rw [if_neg (by simp)]
      have lx : (rr.map (fun y => D.bl (!decide (y % 2 ^ w = 0)))).length = rr.length := by simp
      generalize rr.map (fun y => D.bl (!decide (y % 2 ^ w = 0))) = XX at *
      simp [m_Fold_part, many_ok, size_ok, rows_ok, s2, c1, c2, nw, e1, lcA, lx, st, an]
    | true =>
      have lcB := lc_nl (te := eOp iShr (eV 5) (eV 3)) (k := 5) (env := [.v (fold ls W), .v (fold ss w), .v (nd ss.length), .v (nd w), .v (.tup (nl rr)), .no]) (S := S) (· >>> w) rr fun y _ => by simp
      have F : FOk (rr.map (· >>> w)) (W - w) := ⟨by simpa using lr, by omega, fun r hr => by
        obtain ⟨q, hq, rfl⟩ := List.mem_map.mp hr
        have := lt q hq
        show q >>> w < _
        rw [Nat.shiftRight_eq_div_pow, Nat.div_lt_iff_lt_mul (Nat.two_pow_pos w), ← Nat.pow_add]
        rwa [Nat.sub_add_cancel hw]⟩
      have N := new_ok S F (.lst (nl (rr.map (· >>> w)))) (.inr rfl)
      have eu : (W : Int) - w = ((W - w : Nat) : Int) := by omega
      rw [hg] at an
      rw [if_pos ⟨e1, rfl⟩]
      have lx : (rr.map (fun y => D.bl (!decide (y % 2 ^ w = 0)))).length = rr.length := by simp
      have ly : (rr.map (· >>> w)).length = rr.length := by simp
      generalize rr.map (fun y => D.bl (!decide (y % 2 ^ w = 0))) = XX at *
      generalize rr.map (· >>> w) = YY at *
      simp [m_Fold_part, many_ok, size_ok, rows_ok, s2, c1, c2, nw, e1, lcA, lcB, lx, ly, st, an, eu, N]
  · rw [if_neg (fun h => e1 h.1)]
    simp [m_Fold_part, many_ok, size_ok, rows_ok, s2, c1, c2, nw, e1]
end Fb
namespace Mm
open PySem PySem.Spec PyProof.Rows L2 PpSet
section
variable {X : Cx}
/-! ### set comprehensions of numbers -/
theorem setI_new {w : World} {P : Program} {H : Hp} {h : Heap} {a : Addr} {S : Int → Bool} {n : Nat} (R : h.SetOf (intKind P w) a S n) : ObjOk P w H h a (.set S n) := R
theorem addI_ok {pins : List (Addr × Obj)} {σ : L2.St} {H : Hp} {s : Shared} {E : Value → Shared → Prop} {D : Addr} {S : Int → Bool} {n : Nat} {y : Int} {v : Value} {Q : Value → Shared → Prop} (I : Inv X pins σ H s) (hD : H D = some (.set S n)) (r : RelV (.int y) v) (room : n + 1 < scanBound)
    (h : ∀ s', Inv X pins σ (upd H D (.set (fun j => S j || decide (j = y)) (if S y = true then n else n + 1))) s' → Q .none s') : wpAny (model X.prog X.w) X.A (call (.builtin "set.add") [.ref D, v]) Q E s := by
  obtain ⟨t, rfl⟩ := (show ∃ t, v = Value.int y t from r)
  have R : s.heap.SetOf (intKind X.prog X.w) D S n := I.hok D _ hD
  refine call_set_add (intKind_is X.prog X.w y t) rfl R room fun h' sb new => ?_
  have he : ∃ u, h'.get? D = some u := by
    have ⟨o, _, _, _, ho, _⟩ := new
    exact ⟨o, ho⟩
  exact h _ (I.write (e := D) (t' := s.toks + 1) (by rw [hD]; trivial) (.inl rfl) (fun b u hb hu => (sb.2 b hb).trans hu) he (setI_new new))
/-- {elt for target in iter if ..}, elt a number: D the new set -/
def tScI (wi : TI) (g : TG) (tt : TT) (te : TE) (vs : List Nat) : TE := fun σ H Q => wi σ H fun J H1 => ∀ D, H1 D = none → ∃ W : Nat → Nat → Hp → Prop, (∃ m, W 0 m (upd H1 D (.set (fun _ => false) 0))) ∧ ∀ i m H, W i m H →
  (J.stop i H ∧ Q (.ref D) H) ∨ (J.go i H ∧ ∃ Nx : Hp → Prop, (∀ H', Nx H' → ∃ m', m' < m ∧ W (i + 1) m' H') ∧ ∀ x H', J.yld i H x H' → g x (wipe σ vs) H' fun σ2 H2 => wipe σ2 vs = wipe σ vs ∧ tt σ2 H2 fun b H3 =>
    if b = true then te σ2 H3 fun y H4 => ∃ (c : Int) (S : Int → Bool) (n : Nat), y = .int c ∧ H4 D = some (.set S n) ∧ n + 1 < scanBound ∧ Nx (upd H4 D (.set (fun j => S j || decide (j = c)) (if S c = true then n else n + 1))) else Nx H3)
theorem scI_core {pins : List (Addr × Obj)} {s : Shared} {σ : L2.St} {H : Hp} {Q : VK} {elt tg iter : Expr} {ifs : List Expr} {scope : Scope} {own : List (PySem.Str × Nat)} {pos pos' : Pos} {wi : TI} {g : TG} {tt : TT} {te : TE} {use : Option (Value → Sem Unit)} {Qf : Value → Shared → Prop}
    (hc : X.calm = true) (hN : X.N.Nodup) (I : Inv X pins σ H s) (hi : PI X tg iter wi) (ok : BlkOk X.N X.env.scope scope own)
    (hg : ∀ (s : Shared) (H : Hp) (C : Addr) (cl : List (PySem.Str × Addr)) (fp : List Addr), PG (X.blk s H scope (compEnvC scope cl C X.env) fp) tg g) (ht : ∀ (s : Shared) (H : Hp) (C : Addr) (cl : List (PySem.Str × Addr)) (fp : List Addr), PTs (X.blk s H scope (compEnvC scope cl C X.env) fp) ifs tt)
    (he : ∀ (s : Shared) (H : Hp) (C : Addr) (cl : List (PySem.Str × Addr)) (fp : List Addr), PE (X.blk s H scope (compEnvC scope cl C X.env) fp) elt te) (hs : ∀ x, foldedSetIterable iter X.env x = pure x)
    (h : tScI wi g tt te (own.map (·.2)) σ H Q)
    (hRR : ∀ D C s' m H', Inv X pins σ H' s' → Q (.ref D) H' → s'.heap.Ns C m → FpOk X pins H' C → compPost (model X.prog X.w) X.A X.xe use Qf (.ref D) C (.ok .next) s') :
    wpAny (model X.prog X.w) X.A (comprehension (.SetComp elt [⟨tg, iter, ifs, 0⟩] scope pos) scope X.env pos' (newSet (.type "set")) false (eval iter X.env) use) Qf X.xe s := by
  have clo : ∀ y ∈ scope.names, y.2 = .free → ∃ c, X.env.cells.lookup y.1 = some c := fun y hy e => I.ok.has _ (ok.free y hy e)
  refine wpAny_comprehension_free (use := use) rfl hs (closure_ok clo) ok.kind (fun y hy e => by rw [ok.uniq y hy, e])
    (thn (hi.run pins s σ H _ I h) fun xv s1 hx => thn hx fun itv s2 h2 => ?_)
  obtain ⟨it, fp, tn, J, H2, e, I2, T, st2, f2, q⟩ := h2
  subst e
  refine newSet_ok (newEnv_comp ?_)
  generalize hD : s2.heap.objs.size = D
  have hDn : H2 D = none := I2.hok.fresh (Nat.le_of_eq hD)
  obtain ⟨W, ⟨m0, w0⟩, turn⟩ := q D hDn
  generalize hs3 : ({ s2 with heap := s2.heap.push { cls := .type "set", dict := none, data := .set #[] 0 (.fresh 0 0 (!X.w.params.followText "set-order")) } } : Shared) = s3
  have I3 : Inv X pins σ (upd H2 D (.set (fun _ => false) 0)) s3 := by
    rw [← hs3]
    refine I2.laid (t' := s2.toks) (fun b o e => Heap.get?_push_of_some _ e) (Nat.le_of_eq hD) ?_
    rw [← hD]
    exact setI_new (setR_fresh X.w).setOf
  have h3 : s3.heap = s2.heap.push { cls := .type "set", dict := none, data := .set #[] 0 (.fresh 0 0 (!X.w.params.followText "set-order")) } := by rw [← hs3]
  have sz : ∀ b ∈ fp, b < s2.heap.objs.size := fun b hb => by
    obtain ⟨o, e, _⟩ := T.obj _ _ st2 b hb
    exact Heap.lt_size e
  have f3 : ∀ b ∈ fp, FpOk X pins (upd H2 D (.set (fun _ => false) 0)) b ∧ b < s3.heap.objs.size := fun b hb => by
    have hlt := sz b hb
    refine ⟨⟨?_, (f2 b hb).2⟩, by rw [h3, Heap.size_push]; exact Nat.lt_succ_of_lt hlt⟩
    rw [upd_ne (by rw [← hD]; exact Nat.ne_of_lt hlt)]
    exact (f2 b hb).1
  have st3 : tn 0 s3.heap := T.keep _ _ _ st2 fun b _ o e => by rw [h3]; exact Heap.get?_push_of_some _ e
  have I4 := block_start I3 ok hN f3
  have pg := hg s3 (upd H2 D (.set (fun _ => false) 0)) s3.heap.objs.size (cellsFrom (s3.heap.objs.size + 1) scope.names (cloFrom X.env.cells scope.names [])) fp
  have pt := ht s3 (upd H2 D (.set (fun _ => false) 0)) s3.heap.objs.size (cellsFrom (s3.heap.objs.size + 1) scope.names (cloFrom X.env.cells scope.names [])) fp
  have pe := he s3 (upd H2 D (.set (fun _ => false) 0)) s3.heap.objs.size (cellsFrom (s3.heap.objs.size + 1) scope.names (cloFrom X.env.cells scope.names [])) fp
  show codeAny _ _ (.compStart (.SetComp elt [⟨tg, iter, ifs, 0⟩] scope pos) 0 (.ref it) (.ref D) (compEnvC scope (cellsFrom (s3.heap.objs.size + 1) scope.names (cloFrom X.env.cells scope.names [])) s3.heap.objs.size X.env)) (compPost (model X.prog X.w) X.A X.xe use Qf (.ref D) s3.heap.objs.size) { s3 with heap := pushCells (s3.heap.push { cls := .type "dict", data := .dict #[] }) scope.names }
  have nfp : ∀ b ∈ fp, (upd H2 D (.set (fun _ => false) 0)) b = none := fun b hb => (f3 b hb).1.1
  generalize hce : compEnvC scope (cellsFrom (s3.heap.objs.size + 1) scope.names (cloFrom X.env.cells scope.names [])) s3.heap.objs.size X.env = ce at I4 pg pt pe ⊢
  have cL : ce.locals = s3.heap.objs.size := by subst hce; rfl
  generalize hH3 : upd H2 D (.set (fun _ => false) 0) = H3 at I3 I4 pg pt pe w0 nfp f3
  generalize hs4 : ({ s3 with heap := pushCells (s3.heap.push { cls := .type "dict", data := .dict #[] }) scope.names } : Shared) = s4 at I4 ⊢
  have st4 : tn 0 s4.heap := T.keep _ _ _ st3 fun b _ o e => by rw [← hs4]; exact pushCells_keeps _ _ _ _ (Heap.get?_push_of_some _ e)
  have stat : ∀ {σ' : L2.St} {H' : Hp} {s' : Shared}, Inv (X.blk s3 H3 scope ce fp) [] σ' H' s' → (∀ b ∈ fp, H' b = none) → ∀ b ∈ fp, FpOk (X.blk s3 H3 scope ce fp) [] H' b := fun {σ' H' s'} I' hn b hb =>
    ⟨hn b hb, (I'.ok.exf b hb).1, I'.ok.exfs b hb, .inl hb, fun x c e => (I'.ok.exf b hb).2 x c e, fun p hp => absurd (show p ∈ ([] : List (Addr × Obj)) ++ [] from hp) (by simp)⟩
  have loop : codeAny (model X.prog X.w) X.A (.compLoop (.SetComp elt [⟨tg, iter, ifs, 0⟩] scope pos) 0 (.ref it) (.ref D) ce) (compPost (model X.prog X.w) X.A X.xe use Qf (.ref D) s3.heap.objs.size) s4 := by
    refine compLoopS_any (fun n s' => ∃ i H', Inv (X.blk s3 H3 scope ce fp) [] (wipe σ (own.map (·.2))) H' s' ∧ tn i s'.heap ∧ (∀ b ∈ fp, H' b = none) ∧ W i n H') ?_ m0 ⟨0, H3, I4, st4, nfp, w0⟩
    rintro n s5 ⟨i, H5, I5, st5, n5, w5⟩
    rcases turn i n H5 w5 with ⟨stop, qq⟩ | ⟨go, Nx, hNx, step⟩
    · have td := T.done (X.blk s3 H3 scope ce fp) rfl rfl rfl hc i [] s5 _ H5 (fun _ _ => False) I5 (stat I5 n5) st5 stop
      refine thnF td fun r s6 ⟨hr, I6⟩ => ?_
      subst hr
      have I7 : Inv X pins σ H5 s6 := I3.call' (ch := fp) I6.os I6.base I6.hok I6.bare fun b hb => ⟨(f3 b hb).1.2.2.2.1, (f3 b hb).1.2.1, (f3 b hb).1.2.2.2.2.1, (f3 b hb).1.2.2.2.2.2⟩
      have nC : H5 s3.heap.objs.size = none := by
        have z : H5 ce.locals = none := I6.free
        rw [cL] at z
        exact z
      obtain ⟨m, hn, _⟩ := I6.loc
      have hn : s6.heap.Ns ce.locals m := hn
      rw [cL] at hn
      exact hRR D s3.heap.objs.size s6 m H5 I7 qq hn (I3.fpOk (Nat.le_refl _) nC)
    · have ti := T.item (X.blk s3 H3 scope ce fp) rfl rfl rfl hc i [] s5 _ H5 (fun _ _ => False) I5 (stat I5 n5) st5 go
      refine thnF ti fun r s6 ⟨u, hr, h6⟩ => ?_
      subst hr
      refine thnF h6 fun _ s7 ⟨x, H7, I7, r7, y7, st7, n7⟩ => ?_
      have I7' := I7.pinned (stat I7 n7) (T.obj _ _ st7)
      refine thnF (pg.run _ s7 _ H7 x u _ I7' r7 (step x H7 y7)) fun _ s8 ⟨σ8, H8, I8, hw8, q8⟩ => ?_
      refine thnF (pt.run _ s8 σ8 H8 _ I8 q8) fun b s9 ⟨H9, I9, q9⟩ => ?_
      have fin : ∀ {s' : Shared} {H' : Hp}, Inv (X.blk s3 H3 scope ce fp) ([] ++ pinsAt fp s7.heap) σ8 H' s' → Nx H' → ∃ m, m < n ∧ ∃ i H', Inv (X.blk s3 H3 scope ce fp) [] (wipe σ (own.map (·.2))) H' s' ∧ tn i s'.heap ∧ (∀ b ∈ fp, H' b = none) ∧ W i m H' := fun {s' H'} I' nx => by
        obtain ⟨m', hm, w'⟩ := hNx H' nx
        have pin' : ∀ b ∈ fp, ∀ o, s7.heap.get? b = some o → s'.heap.get? b = some o ∧ H' b = none := fun b hb o e =>
          let z := I'.pin (b, o) (List.mem_append_right _ (List.mem_append_right _ (mem_pinsAt hb e)))
          ⟨z.1, z.2.1⟩
        have hl : (wipe σ (own.map (·.2))).length = σ8.length := by rw [← hw8, wipe_length]
        refine ⟨m', hm, i + 1, H', (I'.unpinned (pins := [])).weak hl (fun j v e => ?_), T.keep _ _ _ st7 fun b hb o e => (pin' b hb o e).1, fun b hb => ?_, w'⟩
        · rw [← hw8] at e
          exact (wipe_some e).1
        · obtain ⟨o, e, _⟩ := T.obj _ _ st7 b hb
          exact (pin' b hb o e).2
      cases b with
      | false =>
        simp only [Bool.false_eq_true, if_false] at q9 ⊢
        exact fin I9 q9
      | true =>
        simp only [if_true] at q9 ⊢
        refine thnF (pe.run _ s9 σ8 H9 _ I9 q9) fun z s10 ⟨yv, H10, I10, r10, cb, S0, n0, ey, hD10, hz10, nx⟩ => ?_
        subst ey
        exact addI_ok (X := X.blk s3 H3 scope ce fp) I10 hD10 r10 hz10 fun s11 I11 => fin I11 nx
  exact codeAny_compStart_set loop (T.self X.A 0 _ _ _ st4 loop)
theorem pe_scI {elt tg iter : Expr} {ifs : List Expr} {scope : Scope} {own : List (PySem.Str × Nat)} {pos : Pos} {wi : TI} {g : TG} {tt : TT} {te : TE} (hc : X.calm = true) (hN : X.N.Nodup) (hi : PI X tg iter wi) (ok : BlkOk X.N X.env.scope scope own)
    (hg : ∀ (s : Shared) (H : Hp) (C : Addr) (cl : List (PySem.Str × Addr)) (fp : List Addr), PG (X.blk s H scope (compEnvC scope cl C X.env) fp) tg g) (ht : ∀ (s : Shared) (H : Hp) (C : Addr) (cl : List (PySem.Str × Addr)) (fp : List Addr), PTs (X.blk s H scope (compEnvC scope cl C X.env) fp) ifs tt)
    (he : ∀ (s : Shared) (H : Hp) (C : Addr) (cl : List (PySem.Str × Addr)) (fp : List Addr), PE (X.blk s H scope (compEnvC scope cl C X.env) fp) elt te) (hs : ∀ x, foldedSetIterable iter X.env x = pure x := by intro _; rfl) :
    PE X (.SetComp elt [⟨tg, iter, ifs, 0⟩] scope pos) (tScI wi g tt te (own.map (·.2))) := by
  refine ⟨fun pins s σ H Q I h => ?_⟩
  rw [eval_SetComp]
  refine scI_core hc hN I hi ok hg ht he hs h fun D C s' m H' I' q hn f => ⟨m, hn, fun h'' sb => ?_⟩
  obtain ⟨f0, f1, f2, f3, f4, f5⟩ := f
  exact ⟨.ref D, H', I'.turned (t' := s'.toks) (fun b o hb e => (sb.2 b hb).trans e) f0 f1 f3 f4 f5, rfl, q⟩
theorem ps_setSc {i : Nat} {y : PySem.Str} {py : Pos} {elt tg iter : Expr} {ifs : List Expr} {scope : Scope} {own : List (PySem.Str × Nat)} {pos spos : Pos} {wi : TI} {g : TG} {tt : TT} {te : TE} (hc : X.calm = true) (hN : X.N.Nodup) (hy : X.N[i]? = some y) (hyl : X.env.scope.names.lookup y = some .local)
    (hsw : swapsWith (.SetComp elt [⟨tg, iter, ifs, 0⟩] scope pos) (some (.Name y py)) spos.line X.env = pure true) (hi : PI X tg iter wi) (ok : BlkOk X.N X.env.scope scope own)
    (hg : ∀ (s : Shared) (H : Hp) (C : Addr) (cl : List (PySem.Str × Addr)) (fp : List Addr), PG (X.blk s H scope (compEnvC scope cl C X.env) fp) tg g) (ht : ∀ (s : Shared) (H : Hp) (C : Addr) (cl : List (PySem.Str × Addr)) (fp : List Addr), PTs (X.blk s H scope (compEnvC scope cl C X.env) fp) ifs tt)
    (he : ∀ (s : Shared) (H : Hp) (C : Addr) (cl : List (PySem.Str × Addr)) (fp : List Addr), PE (X.blk s H scope (compEnvC scope cl C X.env) fp) elt te) (hs : ∀ x, foldedSetIterable iter X.env x = pure x := by intro _; rfl) :
    PS X (.Assign [.Name y py] (.SetComp elt [⟨tg, iter, ifs, 0⟩] scope pos) spos) (tAsg (tScI wi g tt te (own.map (·.2))) (gName i)) := by
  refine ⟨fun pins s σ H D I h => ?_⟩
  rw [exec_Assign_Name_used _ _ _ _ hsw]
  refine wpAny_bind (wpAny_standAt (wpAny_bind ?_))
  show wpAny _ X.A (do let _ ← comprehension (.SetComp elt [⟨tg, iter, ifs, 0⟩] scope pos) scope X.env (firstIterPos [⟨tg, iter, ifs, 0⟩] pos) (newSet (.type "set")) false (eval iter X.env) (some (assign (.Name y py) X.env))) _ _ s
  have h : tScI wi g tt te (own.map (·.2)) σ H (fun x H1 => gName i x σ H1 D.nx) := h
  refine wpAny_bind (thn (scI_core (Qf := fun _ s' => SP X pins D .next s') hc hN I hi ok hg ht he hs h fun L C s' m H' I' q hn f => ?_) fun _ s' hq => wpAny_pure (wpAny_pure hq))
  show wpAny _ _ (assign (.Name y py) X.env (.ref L)) _ _ _
  refine wpAny_assign_Name (store_ok2 (v := V.ref L) I' hN hy (.inl hyl) rfl (fun s2 I2 ⟨a, sb, ha⟩ => ?_) (.inr hyl))
  obtain ⟨f0, f1, f2, f3, f4, f5⟩ := f
  have haC : C ≠ a := by
    rcases ha with z | z
    · rw [z]; exact f1
    · exact fun e => f4 y a z e.symm
  refine ⟨m, hn.sameBut sb haC, fun h3 sb3 => ?_⟩
  exact ⟨_, H', I2.turned (t' := s2.toks) (fun b o hb e => (sb3.2 b hb).trans e) f0 f1 f3 f4 f5, q⟩
theorem sw_trueS {elt : Expr} {gs : List Comprehension} {scope : Scope} {pos py : Pos} {y : PySem.Str} {l : Nat} {env : Env} (hk : env.scope.kind = .function) (hy : env.scope.names.lookup y = some .local) (hl : (py.line == pos.line) = true)
    (ha : (scope.names.any fun (n, k) => n == y && (k == .local || k == .cell)) = false) : swapsWith (.SetComp elt gs scope pos) (some (.Name y py)) l env = pure true := by
  have ky : env.kindOf y = some .local := hy
  have hb : env.blockKind = .function := by unfold Env.blockKind; rw [hk]; rfl
  unfold swapsWith
  simp only [hb, ky, ha, Expr.pos, hl]
  rfl
/-! ### in, of sets of numbers -/
def rInS (neg : Bool) : V → V → Hp → VK → Prop := fun x y H Q => ∃ (k : Int) (a : Addr) (S : Int → Bool) (n : Nat), x = .int k ∧ y = V.ref a ∧ H a = some (.set S n) ∧ Q (.bl (if neg then !S k else S k)) H
theorem or_inS : OpR X (compareOp .In) (rInS false) := by
  intro pins s σ H x y v u Q I rx ry h
  obtain ⟨k, a, S, n, rfl, rfl, ha, q⟩ := h
  cases ry
  obtain ⟨t, rfl⟩ := (show ∃ t, v = Value.int k t from rx)
  exact wpAny_inSet_of (intKind_is X.prog X.w k t) rfl (I.hok a _ ha) ⟨.bl (S k), H, I.tok _, rfl, q⟩
theorem or_notinS : OpR X (compareOp .NotIn) (rInS true) := by
  intro pins s σ H x y v u Q I rx ry h
  obtain ⟨k, a, S, n, rfl, rfl, ha, q⟩ := h
  cases ry
  obtain ⟨t, rfl⟩ := (show ∃ t, v = Value.int k t from rx)
  exact wpAny_notInSet_of (intKind_is X.prog X.w k t) rfl (I.hok a _ ha) ⟨.bl (!S k), H, I.tok _, rfl, q⟩
end
/-! ### their mirrors -/
def ddp (l : List Int) : List Int := l.foldl (fun xs i => if i ∈ xs then xs else xs ++ [i]) []
theorem ddp_snoc (l : List Int) (c : Int) : ddp (l ++ [c]) = if c ∈ ddp l then ddp l else ddp l ++ [c] := by
  unfold ddp
  rw [List.foldl_append]
  rfl
theorem ddp_go (l : List Int) : ∀ xs : List Int, xs.Nodup → (l.foldl (fun xs i => if i ∈ xs then xs else xs ++ [i]) xs).Nodup ∧ (∀ i, i ∈ l.foldl (fun xs i => if i ∈ xs then xs else xs ++ [i]) xs ↔ i ∈ xs ∨ i ∈ l) ∧ (l.foldl (fun xs i => if i ∈ xs then xs else xs ++ [i]) xs).length ≤ xs.length + l.length := by
  induction l with
  | nil => exact fun xs h => ⟨h, fun i => by simp, by simp⟩
  | cons c l ih =>
    intro xs h
    rw [List.foldl_cons]
    by_cases hc : c ∈ xs
    · rw [if_pos hc]
      obtain ⟨a, b, d⟩ := ih xs h
      refine ⟨a, fun i => ?_, by simp; omega⟩
      rw [b i, List.mem_cons]
      constructor
      · rintro (z | z)
        · exact .inl z
        · exact .inr (.inr z)
      · rintro (z | z | z)
        · exact .inl z
        · exact .inl (z ▸ hc)
        · exact .inr z
    · rw [if_neg hc]
      obtain ⟨a, b, d⟩ := ih (xs ++ [c]) (by
        rw [List.nodup_append]
        exact ⟨h, by simp, fun x hx y hy e => hc (by simp at hy; rw [← hy, ← e]; exact hx)⟩)
      refine ⟨a, fun i => ?_, by simp at d ⊢; omega⟩
      rw [b i, List.mem_cons, List.mem_append, List.mem_singleton, or_assoc]
theorem ddp_nodup (l : List Int) : (ddp l).Nodup := (ddp_go l [] List.nodup_nil).1
theorem mem_ddp {l : List Int} {i : Int} : i ∈ ddp l ↔ i ∈ l := ((ddp_go l [] List.nodup_nil).2.1 i).trans (by simp)
theorem ddp_len (l : List Int) : (ddp l).length ≤ l.length := by
  have := (ddp_go l [] List.nodup_nil).2.2
  unfold ddp
  simpa using this
theorem ddp_mono (l : List Int) : ∀ r : List Int, (ddp l).length ≤ (ddp (l ++ r)).length := by
  have go : ∀ (r xs : List Int), xs.length ≤ (r.foldl (fun xs i => if i ∈ xs then xs else xs ++ [i]) xs).length := by
    intro r
    induction r with
    | nil => exact fun xs => Nat.le_refl _
    | cons c r ih =>
      intro xs
      rw [List.foldl_cons]
      refine Nat.le_trans ?_ (ih _)
      split
      · exact Nat.le_refl _
      · simp
  intro r
  unfold ddp
  rw [List.foldl_append]
  exact go r _
theorem intsOf_split : ∀ (acc : List Int) (ys : List D) (ns : List Int), intsOf (acc.map D.int ++ ys) = some ns → ∃ r, ns = acc ++ r
  | [], ys, ns, h => ⟨ns, rfl⟩
  | a :: acc, ys, ns, h => by
    rw [List.map_cons, List.cons_append, intsOf] at h
    cases q : intsOf (acc.map D.int ++ ys) with
    | none => rw [q] at h; cases h
    | some ms =>
      rw [q] at h
      obtain ⟨r, e⟩ := intsOf_split acc ys ms q
      cases h
      exact ⟨r, by rw [e]; rfl⟩
def eInt (me : ME) : ME := fun env S => (me env S).bind fun d S1 => match d with
  | .int i => .ok (.int i) S1
  | _ => .stuck
theorem eInt_int {me : ME} {env : Envr} {S S1 : Sto} {d : D} (h : eInt me env S = .ok d S1) : ∃ i, d = .int i := by
  unfold eInt at h
  cases q : me env S with
  | stuck => rw [q] at h; cases h
  | exc c p s => rw [q] at h; cases h
  | ok e s =>
    rw [q] at h
    cases e <;> first | (cases h; exact ⟨_, rfl⟩) | cases h
def finS (ys : List D) (S : Sto) : R D := match intsOf ys with
  | some ns => if decide ((ddp ns).length ≤ 4000) then .ok (.set (ddp ns)) S else .stuck
  | none => .stuck
def eSc (mi : MI) (g : MG) (tt : MT) (te : ME) (vs : List Nat) : ME := fun env S => (mi env S).bind fun ds S1 => (lcR g tt (eInt te) (wipeE env vs) ds S1).bind finS
section
variable {X : Cx} {Y : Gam} {W : WX} {e a b c tg iter elt : Expr} {es rest ifs : List Expr} {ta tb te : TE} {tt tu : TT} {ma mb me : ME} {mt mu : MT} {mf : MF} {t : TA} {m : MA} {pos : Pos} {wi : TI} {mi : MI} {scope : Scope} {own : List (Str × Nat)} {is : List Nat} {g : TG} {mg : MG}
theorem sim_int {g : Gam} (h : SimE g W te me) : SimE g W te (eInt me) := fun w0 H0 w H σ env S O Q st p => h w0 H0 w H σ env S O Q st ((PostX.bind p).imp fun d S1 w1 H1 st1 l1 p1 v r => by
  cases d <;> first | exact p1 w1 H1 st1 (.refl w1) v r | exact False.elim p1)
theorem nt_set {S : Int → Bool} {n : Nat} : ∀ ps, HO.set S n ≠ .tbl ps := fun _ z => by cases z
theorem ok_updS {g : Gam} {w : Wd} {H : Hp} {S : Sto} {p : Addr} {f : Int → Bool} {n : Nat} {o : HO} (k : Ok g w H S) (e : H p = some (.set f n)) (hg : w.G p = none) (hr : p ∉ w.rho) : Ok g w (upd H p o) S := by
  refine ⟨fun b u q => ?_, ⟨k.cells.nd, k.cells.len, fun m b q e9 e10 => ?_⟩, tabs_upd k.tabs (fun ps z => by rw [e] at z; cases z) (fun φ z => by rw [e] at z; cases z), k.notab⟩
  · rw [upd_ne (fun z => by rw [z, hg] at q; cases q)]
    exact k.ex b u q
  · obtain ⟨q1, q2⟩ := k.cells.at_ m b q e9 e10
    exact ⟨q1, q2.move (.refl w) (upd_ne fun z => hr (by rw [← z]; exact List.mem_of_getElem? e9))⟩
/-- any new thing becomes a value -/
theorem any_freeze {g : Gam} {w0 w : Wd} {H0 H : Hp} {σ : L2.St} {env : Envr} {S : Sto} {O : List (Option Addr)} {p : Addr} {o : HO} (st : StR g w0 H0 w H σ env S O) (ho : H p = some o) (nt : ∀ ps, o ≠ .tbl ps) (n0 : H0 p = none) (ng : w.G p = none) (nr : p ∉ w.rho) (no : ∀ i : Nat, O[i]? ≠ some (some p)) :
    StR g w0 H0 ⟨w.rho, upd w.G p o⟩ H σ env S O ∧ w.le ⟨w.rho, upd w.G p o⟩ := by
  have le : w.le ⟨w.rho, upd w.G p o⟩ := ⟨⟨[], by simp⟩, same_upd ng⟩
  refine ⟨⟨⟨fun b x e => ?_, ⟨st.ok.cells.nd, st.ok.cells.len, fun m b c e1 e2 => ?_⟩, st.ok.tabs, fun b ps e => ?_⟩, ⟨st.fr.le.trans le, st.fr.keep, fun b e => ?_, st.fr.rho, st.fr.dom⟩, st.l1, st.l2, fun i s x q e1 e2 e3 => ?_, st.inj, st.fresh⟩, le⟩
  · by_cases hb : b = p
    · have e2 : upd w.G p o b = some x := e
      rw [hb, upd_same] at e2
      rw [hb, ho, e2]
    · have e2 : upd w.G p o b = some x := e
      rw [upd_ne hb] at e2
      exact st.ok.ex b x e2
  · obtain ⟨q1, q2⟩ := st.ok.cells.at_ m b c e1 e2
    have ne : b ≠ p := fun z => nr (by rw [← z]; exact List.mem_of_getElem? e1)
    exact ⟨(upd_ne ne).trans q1, q2.move le rfl⟩
  · by_cases hb : b = p
    · have e2 : upd w.G p o b = some (.tbl ps) := e
      rw [hb, upd_same] at e2
      exact nt ps (Option.some.inj e2)
    · have e2 : upd w.G p o b = some (.tbl ps) := e
      rw [upd_ne hb] at e2
      exact st.ok.notab b ps e2
  · have ne : b ≠ p := fun z => e (by rw [z]; exact n0)
    exact (upd_ne ne).trans (st.fr.newG b e)
  · have q' := st.sl i s x q e1 e2 e3
    cases s with
    | no => exact q'
    | v d =>
      obtain ⟨z1, v, z2, z3⟩ := q'
      exact ⟨z1, v, z2, z3.mono le⟩
    | o c' =>
      obtain ⟨p', z1, z2, z3, z4⟩ := q'
      have ne : p' ≠ p := fun z => no i (by rw [e3, z1, z])
      exact ⟨p', z1, z2, (upd_ne ne).trans z3, z4.move le rfl⟩
theorem sim_sc {g : Gam} {is vs : List Nat} {tg : TG} {mg : MG} (hi : SimI g W wi mi) (hg : SimG g is tg mg) (hv : ∀ i ∈ is, i ∈ vs) (ht : SimT g W0 tt mt) (he0 : SimE g W0 te me) : SimE g W (tScI wi tg tt te vs) (eSc mi mg mt me vs) := fun w0 H0 w H σ env S O Q st p => by
  have he := sim_int he0
  unfold eSc at p
  generalize hme : eInt me = me' at p he
  have isI : ∀ {env : Envr} {S S1 : Sto} {d : D}, me' env S = .ok d S1 → ∃ i, d = .int i := fun h => by
    rw [← hme] at h
    exact eInt_int h
  refine hi w0 H0 w H σ env S O _ st ((PostX.bind p).imp fun ds S1 w1 H1 st1 l1 p1 J hJ Z hD => ?_)
  obtain ⟨o1, o2, o3, o4⟩ := st1.out hD
  refine ⟨fun i m H => m + i = ds.length ∧ ∃ w' S' acc f, Frame w1 H1 w' H ∧ Ok g w' H S' ∧ H Z = some (.set f (ddp acc).length) ∧ (∀ j, f j = decide (j ∈ ddp acc)) ∧ w'.G Z = none ∧ Z ∉ w'.rho ∧
    PostX g W w0 H0 w' σ env O ((lcR mg mt me' (wipeE env vs) (ds.drop i) S').bind fun ys S3 => finS (acc.map D.int ++ ys) S3) (fun d _ w' H' => ∀ v, Rep g w' d v → Q v H'), ?_, ?_⟩
  · obtain ⟨k2, f2⟩ := ok_lay (o := .set (fun _ => false) 0) st1.ok hD nt_set
    exact ⟨ds.length, by omega, w1, S1, [], (fun _ => false), f2, k2, upd_same, fun j => by simp [ddp], o2, o3, p1⟩
  · rintro i k H2 ⟨hk, w2, S2, acc, f, f2, k2, e2, hf, g2, r2, p2⟩
    obtain ⟨hgo, hstop⟩ := hJ w2 H2 f2.le k2.ex
    have st2 : StR g w0 H0 w2 H2 σ env S2 O := st1.after f2 k2
    have stb : StR g w2 H2 w2 H2 (wipe σ vs) (wipeE env vs) S2 (List.replicate σ.length none) := st2.hide vs
    by_cases hlt : i < ds.length
    · have ed : ds.drop i = ds[i] :: ds.drop (i + 1) := List.drop_eq_getElem_cons hlt
      obtain ⟨go, yld⟩ := hgo i ds[i] (List.getElem?_eq_getElem hlt)
      refine .inr ⟨go, fun H => ∃ w' S' acc f, Frame w1 H1 w' H ∧ Ok g w' H S' ∧ H Z = some (.set f (ddp acc).length) ∧ (∀ j, f j = decide (j ∈ ddp acc)) ∧ w'.G Z = none ∧ Z ∉ w'.rho ∧
        PostX g W w0 H0 w' σ env O ((lcR mg mt me' (wipeE env vs) (ds.drop (i + 1)) S').bind fun ys S3 => finS (acc.map D.int ++ ys) S3) (fun d _ w' H' => ∀ v, Rep g w' d v → Q v H'), fun H' h' => ⟨k - 1, by omega, by omega, h'⟩, fun x H' hy => ?_⟩
      obtain ⟨w3, gr, rx⟩ := yld x H' hy
      have st3 := stb.grow gr
      rw [ed] at p2
      unfold lcR at p2
      cases z : mg ds[i] (wipeE env vs) with
      | none => rw [z] at p2; exact False.elim p2
      | some e1 =>
        simp only [z] at p2
        refine hg w2 H2 w3 H' _ _ S2 _ ds[i] x _ e1 st3 rx z fun σ4 O4 st4 sl4 => ⟨?_, ?_⟩
        · rw [wipe_slots sl4 hv, wipe_wipe]
        · refine ht w2 H2 w3 H' σ4 e1 S2 O4 _ st4 ?_
          cases y : mt e1 S2 with
          | stuck => simp only [y] at p2; exact p2
          | exc c q s => simp only [y] at p2; exact False.elim p2
          | ok bb S5 =>
            intro w5 H5 st5 l5
            have keepD : ∀ {w6 : Wd} {H6 : Hp}, Frame w2 H2 w6 H6 → H6 Z = some (.set f (ddp acc).length) ∧ w6.G Z = none ∧ Z ∉ w6.rho := fun {w6 H6} f6 =>
              ⟨f6.keep Z _ e2 r2 nt_set, (f6.newG Z (by rw [e2]; exact fun z => nomatch z)).trans g2, fun q => by
                rcases f6.rho Z q with z | z
                · exact r2 z
                · rw [e2] at z; cases z⟩
            cases bb with
            | false =>
              simp only [y] at p2
              simp only [Bool.false_eq_true, if_false]
              obtain ⟨q1, q2, q3⟩ := keepD st5.fr
              exact ⟨w5, S5, acc, f, f2.trans st5.fr, st5.ok, q1, hf, q2, q3, PostX.mono p2 st5.fr.le⟩
            | true =>
              simp only [y] at p2
              simp only [if_true]
              refine he w2 H2 w5 H5 σ4 e1 S5 O4 _ st5 ?_
              cases u : me' e1 S5 with
              | stuck => simp only [u] at p2; exact p2
              | exc c q s => simp only [u] at p2; exact False.elim p2
              | ok yv S6 =>
                simp only [u] at p2
                obtain ⟨c, rfl⟩ := isI u
                intro w6 H6 st6 l6 v6 r6
                obtain ⟨q1, q2, q3⟩ := keepD st6.fr
                have p3 : PostX g W w0 H0 w2 σ env O (((lcR mg mt me' (wipeE env vs) (ds.drop (i + 1)) S6).bind fun ys S3 => R.ok (D.int c :: ys) S3).bind fun ys S3 => finS (acc.map D.int ++ ys) S3) (fun d _ w' H' => ∀ v, Rep g w' d v → Q v H') := p2
                have p4 : PostX g W w0 H0 w2 σ env O ((lcR mg mt me' (wipeE env vs) (ds.drop (i + 1)) S6).bind fun ys S3 => finS ((acc ++ [c]).map D.int ++ ys) S3) (fun d _ w' H' => ∀ v, Rep g w' d v → Q v H') := by
                  cases q : lcR mg mt me' (wipeE env vs) (ds.drop (i + 1)) S6 with
                  | stuck => rw [q] at p3; exact p3
                  | exc c a s => rw [q] at p3; exact p3
                  | ok ys s =>
                    rw [q] at p3
                    have p3 : PostX g W w0 H0 w2 σ env O (finS (acc.map D.int ++ (D.int c :: ys)) s) _ := p3
                    show PostX g W w0 H0 w2 σ env O (finS ((acc ++ [c]).map D.int ++ ys) s) _
                    rw [List.map_append, List.append_assoc]
                    exact p3
                have hsz : (ddp acc).length ≤ 4000 := by
                  cases q : lcR mg mt me' (wipeE env vs) (ds.drop (i + 1)) S6 with
                  | stuck => rw [q] at p4; exact False.elim p4
                  | exc c a s => exact absurd q (lcR_noexc _ _ _ _ _)
                  | ok ys s =>
                    rw [q] at p4
                    have p4 : PostX g W w0 H0 w2 σ env O (finS ((acc ++ [c]).map D.int ++ ys) s) _ := p4
                    unfold finS at p4
                    split at p4
                    · rename_i ns hns
                      split at p4
                      · rename_i hz
                        have hz2 : (ddp ns).length ≤ 4000 := of_decide_eq_true hz
                        obtain ⟨r, er⟩ := intsOf_split _ _ _ hns
                        rw [er, List.append_assoc] at hz2
                        exact Nat.le_trans (ddp_mono acc _) hz2
                      · exact False.elim p4
                    · exact False.elim p4
                refine ⟨c, f, _, rep_int r6, q1, Nat.lt_of_le_of_lt (by omega : (ddp acc).length + 1 ≤ 4001) (by decide), ?_⟩
                have en : (if f c = true then (ddp acc).length else (ddp acc).length + 1) = (ddp (acc ++ [c])).length := by
                  rw [ddp_snoc, hf c]
                  by_cases hc : c ∈ ddp acc
                  · simp [hc]
                  · simp [hc]
                have ef : ∀ j, (f j || decide (j = c)) = decide (j ∈ ddp (acc ++ [c])) := fun j => by
                  rw [hf j]
                  by_cases h1 : j ∈ acc <;> by_cases h2 : j = c <;> simp [mem_ddp, h1, h2]
                have f7 := (f2.trans st6.fr).upd_new (o := .set (fun j => f j || decide (j = c)) (if f c = true then (ddp acc).length else (ddp acc).length + 1)) hD
                have k7 := ok_updS (o := .set (fun j => f j || decide (j = c)) (if f c = true then (ddp acc).length else (ddp acc).length + 1)) st6.ok q1 q2 q3
                refine ⟨w6, S6, acc ++ [c], _, f7, k7, ?_, ef, q2, q3, PostX.mono p4 st6.fr.le⟩
                rw [upd_same, en]
    · have ei : i = ds.length := by omega
      refine .inl ⟨by rw [ei]; exact hstop, ?_⟩
      have ed : ds.drop i = [] := by rw [ei]; exact List.drop_length
      rw [ed] at p2
      have p2 : PostX g W w0 H0 w2 σ env O (finS (acc.map D.int ++ []) S2) _ := p2
      rw [List.append_nil] at p2
      unfold finS at p2
      rw [intsOf_map] at p2
      simp only [] at p2
      split at p2
      · obtain ⟨st3, l3⟩ := any_freeze st2 e2 nt_set o1 g2 r2 o4
        refine p2 _ H2 st3 l3 (.ref Z) ?_
        unfold Rep
        exact ⟨Z, f, rfl, upd_same, ddp_nodup acc, hf⟩
      · exact False.elim p2
theorem s_sc (hN : X.N.Nodup) (hi : SI X Y W tg iter wi mi) (ok : BlkOk X.N X.env.scope scope own) (hg : ∀ (s : Shared) (H : Hp) (C : Addr) (cl : List (Str × Addr)) (fp : List Addr), SG (X.blk s H scope (compEnvC scope cl C X.env) fp) Y is tg g mg)
    (ht : ∀ (s : Shared) (H : Hp) (C : Addr) (cl : List (Str × Addr)) (fp : List Addr), ST (X.blk s H scope (compEnvC scope cl C X.env) fp) Y W0 ifs tt mt)
    (he : ∀ (s : Shared) (H : Hp) (C : Addr) (cl : List (Str × Addr)) (fp : List Addr), SE (X.blk s H scope (compEnvC scope cl C X.env) fp) Y W0 elt te me) (hv : ∀ i ∈ is, i ∈ own.map (·.2) := by decide) (hc : X.calm = true := by rfl) (hs : ∀ x, foldedSetIterable iter X.env x = pure x := by intro _; rfl) :
    SE X Y W (.SetComp elt [⟨tg, iter, ifs, 0⟩] scope pos) (tScI wi g tt te (own.map (·.2))) (eSc mi mg mt me (own.map (·.2))) :=
  ⟨pe_scI hc hN hi.pi ok (fun s H C cl fp => (hg s H C cl fp).pg) (fun s H C cl fp => (ht s H C cl fp).pts) (fun s H C cl fp => (he s H C cl fp).pe) hs,
    sim_sc hi.sim (hg X.s_0 X.H_0 0 [] []).sim hv (ht X.s_0 X.H_0 0 [] []).sim (he X.s_0 X.H_0 0 [] []).sim⟩
/-- y = {..} -/
theorem t_setSc {i : Nat} {y : Str} {py spos : Pos} (hN : X.N.Nodup) (hy : X.N[i]? = some y) (hyl : X.env.scope.names.lookup y = some .local) (hsw : swapsWith (.SetComp elt [⟨tg, iter, ifs, 0⟩] scope pos) (some (.Name y py)) spos.line X.env = pure true)
    (hi : SI X Y W tg iter wi mi) (ok : BlkOk X.N X.env.scope scope own) (hg : ∀ (s : Shared) (H : Hp) (C : Addr) (cl : List (Str × Addr)) (fp : List Addr), SG (X.blk s H scope (compEnvC scope cl C X.env) fp) Y is tg g mg)
    (ht : ∀ (s : Shared) (H : Hp) (C : Addr) (cl : List (Str × Addr)) (fp : List Addr), ST (X.blk s H scope (compEnvC scope cl C X.env) fp) Y W0 ifs tt mt)
    (he : ∀ (s : Shared) (H : Hp) (C : Addr) (cl : List (Str × Addr)) (fp : List Addr), SE (X.blk s H scope (compEnvC scope cl C X.env) fp) Y W0 elt te me) (hv : ∀ i ∈ is, i ∈ own.map (·.2) := by decide) (hc : X.calm = true := by rfl) (hs : ∀ x, foldedSetIterable iter X.env x = pure x := by intro _; rfl) :
    SS X Y W (.Assign [.Name y py] (.SetComp elt [⟨tg, iter, ifs, 0⟩] scope pos) spos) (tAsg (tScI wi g tt te (own.map (·.2))) (gName i)) (sAsg (eSc mi mg mt me (own.map (·.2))) (gN i)) :=
  ⟨ps_setSc hc hN hy hyl hsw hi.pi ok (fun s H C cl fp => (hg s H C cl fp).pg) (fun s H C cl fp => (ht s H C cl fp).pts) (fun s H C cl fp => (he s H C cl fp).pe) hs, sim_asg (is := [i]) (sim_sc hi.sim (hg X.s_0 X.H_0 0 [] []).sim hv (ht X.s_0 X.H_0 0 [] []).sim (he X.s_0 X.H_0 0 [] []).sim) fun w0 H0 w H σ env S O d v Q e st r h q => by
    cases h
    exact q _ _ (st.set_v i r) (Slots.set σ (by simp))⟩
def fInS (neg : Bool) : Sto → D → D → Option D
  | _, .int i, .set ns => some (.bl (if neg then !decide (i ∈ ns) else decide (i ∈ ns)))
  | _, _, _ => none
theorem od_inS {g : Gam} {neg : Bool} : OpD g (rInS neg) (fInS neg) := fun w H S d1 d2 v1 v2 d Q k r1 r2 e q => by
  unfold fInS at e
  split at e
  · rename_i i ns
    cases e
    unfold Rep at r2
    obtain ⟨a, f, e1, e2, e3, e4⟩ := r2
    refine ⟨i, a, f, _, rep_int r1, e1, k.ex _ _ e2, q w H _ .refl ?_⟩
    rw [e4 i]
    exact rep_bl'
  · cases e
theorem s_inS {x : PySem.Str} {p : Pos} (ha : SE X Y W a ta ma) (hb : SE X Y W (.Name x p) tb mb) : SE X Y W (.Compare a [.In] [.Name x p] pos) (tOp (rInS false) ta tb) (eOp (fInS false) ma mb) := s_cmp od_inS or_inS ha hb rfl
theorem s_notinS {x : PySem.Str} {p : Pos} (ha : SE X Y W a ta ma) (hb : SE X Y W (.Name x p) tb mb) : SE X Y W (.Compare a [.NotIn] [.Name x p] pos) (tOp (rInS true) ta tb) (eOp (fInS true) ma mb) := s_cmp od_inS or_notinS ha hb rfl
end
end Mm
namespace Mm
open PySem L2
@[simp] theorem eSc_eq (mi : MI) (g : MG) (tt : MT) (te : ME) (vs : List Nat) (env : Envr) (S : Sto) : eSc mi g tt te vs env S = (mi env S).bind fun ds S1 => (lcR g tt (eInt te) (wipeE env vs) ds S1).bind finS := rfl
@[simp] theorem eInt_eq (me : ME) (env : Envr) (S : Sto) : eInt me env S = (me env S).bind fun d S1 => match d with
  | .int i => .ok (.int i) S1
  | _ => .stuck := rfl
@[simp] theorem fInS_eq (neg : Bool) (S : Sto) (i : Int) (ns : List Int) : fInS neg S (.int i) (.set ns) = some (.bl (if neg then !decide (i ∈ ns) else decide (i ∈ ns))) := rfl
theorem finS_of (ns : List Int) (S : Sto) (h : ns.length ≤ 4000) : finS (ns.map D.int) S = .ok (.set (ddp ns)) S := by
  unfold finS
  rw [intsOf_map]
  simp only []
  rw [if_pos (decide_eq_true (Nat.le_trans (ddp_len ns) h))]
end Mm
namespace Fb
open PySem L2 Mm Gf
noncomputable def m_lies : MFn := mFn 4 (sSeq (sExpr (eCall m_need_numbers [.int 12] (aCons (eOp dAdd (mFrz (fCB fListOf (aCons (eV 0) aNil))) (mFrz (fLst (aCons (eV 1) aNil)))) aNil)))
    (sSeq (sAsg (eCall m_trail_to [] (aCons (eV 0) (aCons (eV 1) aNil))) (gN 2))
    (sSeq (sIf (cB (eOp fIs (eV 2) (eC .non))) (sRet (eC .non)) sNil)
    (sRetF (fLc (itR1 (aCons (eCB fLen (aCons (eV 0) aNil)) aNil)) (gN 3) (cB (eOp fEq (eOp iAnd (eOp iShr (eV 2) (eV 3)) (eC (.int 1))) (eC (.int 1)))) (eV 3) [3])))))
noncomputable def m_probe : MFn := mFn 6 (sSeq (sExpr (eCall m_need_numbers [.int 12] (aCons (eOp dAdd (mFrz (fCB fListOf (aCons (eV 0) aNil))) (mFrz (fLst (aCons (eV 1) aNil)))) aNil)))
    (sSeq (sAsg (eCall m_basis_of [] (aCons (eV 0) aNil)) (gN 2))
    (sSeq (sAsg (eCall m_reduced [] (aCons (eV 1) (aCons (eV 2) aNil))) (gN 3))
    (sSeq (sIf (cB (eOp fEq (eV 3) (eC (.int 0)))) (sRet (eC .non)) sNil)
    (sSeq (sAsg (eCall m_top_of [] (aCons (eV 3) aNil)) (gN 4))
    (sRet (eOp dAdd (eV 4) (eCB fSum (aCons (mFrz (fLc (itL (eV 2)) (gN 5) (cB (eOp iGt (eOp iAnd (eV 5) (eV 4)) (eC (.int 0)))) (eCall m_top_of [] (aCons (eV 5) aNil)) [5])) aNil)))))))))
noncomputable def m_rest : MFn := mFn 5 (sSeq (sIf (cOr (cB (eOp iLt (eV 1) (eC (.int 0)))) (cB (eOp iGt (eV 1) (eC (.int 12))))) (sRaise "BadNumber") sNil)
    (sSeq (sExpr (eCall m_need_numbers [] (aCons (eV 0) (aCons (eV 1) aNil))))
    (sSeq (sAsg (eSc (itL (eCall m_basis_of [] (aCons (eV 0) aNil))) (gN 3) cYes (eCall m_top_of [] (aCons (eV 3) aNil)) [3]) (gN 2))
    (sRetF (fLc (itR1 (aCons (eV 1) aNil)) (gN 4) (cB (eOp (fInS true) (eOp iShl (eC (.int 1)) (eV 4)) (eV 2))) (eOp iShl (eC (.int 1)) (eV 4)) [4])))))
end Fb
namespace Gf
/-! ### the rest of a span -/
def tops (xs : List Nat) : List Nat := (bas xs).map Nat.log2
def restL (xs : List Nat) (k : Nat) : List Nat := ((List.range k).filter fun i => !decide (i ∈ tops xs)).map (2 ^ ·)
theorem mem_tops {xs : List Nat} {i : Nat} : i ∈ tops xs ↔ ∃ y, Sp xs y ∧ y ≠ 0 ∧ y.log2 = i := by
  unfold tops
  rw [List.mem_map]
  constructor
  · rintro ⟨b, hb, rfl⟩
    exact ⟨b, (bas_sp xs b).mp (.mem hb), (bas_rr xs).1 b hb, rfl⟩
  · rintro ⟨y, hy, h0, rfl⟩
    obtain ⟨b, hb, e⟩ := (bas_rr xs).spTop ((bas_sp xs y).mpr hy) h0
    exact ⟨b, hb, e.symm⟩
theorem mem_restL {xs : List Nat} {k y : Nat} : y ∈ restL xs k ↔ ∃ i, i < k ∧ i ∉ tops xs ∧ 2 ^ i = y := by
  unfold restL
  simp only [List.mem_map, List.mem_filter, List.mem_range, Bool.not_eq_true', decide_eq_false_iff_not, and_assoc]
theorem restL_lt {xs : List Nat} {k : Nat} : ∀ y ∈ restL xs k, y < 2 ^ k := fun y hy => by
  obtain ⟨i, hi, _, rfl⟩ := mem_restL.mp hy
  exact Nat.pow_lt_pow_right (by decide) hi
theorem restL_len (xs : List Nat) (k : Nat) : (restL xs k).length ≤ k := by
  unfold restL
  rw [List.length_map]
  exact Nat.le_trans (List.length_filter_le ..) (by simp)
theorem rest_full {xs : List Nat} {k : Nat} (h : ∀ x ∈ xs, x < 2 ^ k) : (bas (xs ++ restL xs k)).length = k := by
  have r := bas_rr (xs ++ restL xs k)
  have lt : ∀ b ∈ bas (xs ++ restL xs k), b < 2 ^ k := fun b hb => Sp.lt (B := xs ++ restL xs k) (fun c hc => by
    rcases List.mem_append.mp hc with z | z
    · exact h c z
    · exact restL_lt c z) ((bas_sp _ b).mp (.mem hb))
  refine Nat.le_antisymm (r.len_le lt) ?_
  have sub : ∀ i ∈ List.range k, i ∈ (bas (xs ++ restL xs k)).map Nat.log2 := fun i hi => by
    have hi := List.mem_range.mp hi
    refine mem_tops.mpr ?_
    by_cases ht : i ∈ tops xs
    · obtain ⟨y, hy, h0, e⟩ := mem_tops.mp ht
      exact ⟨y, hy.mono fun b hb => List.mem_append_left _ hb, h0, e⟩
    · refine ⟨2 ^ i, .mem (List.mem_append_right _ (mem_restL.mpr ⟨i, hi, ht, rfl⟩)), ?_, Nat.log2_two_pow⟩
      have := Nat.two_pow_pos i
      omega
  have pm := perm_of_mem (xs := List.range k) (ys := ((bas (xs ++ restL xs k)).map Nat.log2).filter fun i => decide (i < k)) List.nodup_range (r.tops.filter _) fun i => by
    rw [List.mem_filter]
    exact ⟨fun hi => ⟨sub i hi, decide_eq_true (List.mem_range.mp hi)⟩, fun hi => List.mem_range.mpr (of_decide_eq_true hi.2)⟩
  have l1 := pm.length_eq
  have l2 := List.length_filter_le (fun i => decide (i < k)) ((bas (xs ++ restL xs k)).map Nat.log2)
  rw [List.length_range] at l1
  rw [List.length_map] at l2
  omega
theorem tops_nil : tops [] = [] := rfl
theorem restL_nil (k : Nat) : restL [] k = plain k := by
  unfold restL plain
  rw [List.filter_eq_self.mpr (fun i _ => by simp [tops_nil])]
end Gf
namespace Fb
open PySem L2 Mm Gf
theorem two_pow_inj {i j : Nat} : ((2 : Int) ^ i = ((2 ^ j : Nat) : Int)) ↔ i = j := by
  constructor
  · intro h
    have h : ((2 ^ i : Nat) : Int) = ((2 ^ j : Nat) : Int) := by rw [← h]; simp
    have h : 2 ^ i = 2 ^ j := by exact_mod_cast h
    have := congrArg Nat.log2 h
    rwa [Nat.log2_two_pow, Nat.log2_two_pow] at this
  · rintro rfl
    simp
theorem mem_topset {xs : List Nat} {i : Nat} : (2 : Int) ^ i ∈ ddp (((nsrt (bas xs)).map fun b => 2 ^ b.log2).map Int.ofNat) ↔ i ∈ tops xs := by
  rw [mem_ddp, List.map_map, List.mem_map]
  unfold tops
  rw [List.mem_map]
  constructor
  · rintro ⟨b, hb, e⟩
    exact ⟨b, (nsrt_perm _).mem_iff.mp hb, (two_pow_inj.mp e.symm).symm⟩
  · rintro ⟨b, hb, e⟩
    exact ⟨b, (nsrt_perm _).mem_iff.mpr hb, (two_pow_inj.mpr e.symm).symm⟩
theorem rest_ok (S : Sto) {xs : List Nat} {k : Nat} (hk : k ≤ 12) (h : ∀ x ∈ xs, x < 2 ^ k) (a : D) (ha : a = .tup (nl xs) ∨ a = .lst (nl xs)) : m_rest [a, .int k] S = .ok (.own (.lst (nl (restL xs k)))) S := by
  have N := need_ok S h a ha
  have B := basis_of_ok S (w := k) xs (by omega) h a ha
  have bl : ∀ b ∈ nsrt (bas xs), b ≠ 0 ∧ b.log2 ≤ 1000 := fun b hb => by
    have hb := (nsrt_perm _).mem_iff.mp hb
    have n0 := (bas_rr xs).1 b hb
    have lt : b < 2 ^ k := ((bas_sp xs b).mp (.mem hb)).lt h
    refine ⟨n0, ?_⟩
    have := (Nat.log2_lt n0).mpr lt
    omega
  have ln := (bas_rr xs).len_le (w := k) fun b hb => ((bas_sp xs b).mp (.mem hb)).lt h
  have c1 : ¬ ((k : Int) < 0) := by omega
  have c2 : ¬ ((12 : Int) < k) := by omega
  have sc : (eSc (itL (eCall m_basis_of [] (aCons (eV 0) aNil))) (gN 3) cYes (eCall m_top_of [] (aCons (eV 3) aNil)) [3]) [.v a, .v (nd k), .no, .no, .no] S = .ok (.set (ddp (((nsrt (bas xs)).map fun b => 2 ^ b.log2).map Int.ofNat))) S := by
    have lc := lc_nl (te := eInt (eCall m_top_of [] (aCons (eV 3) aNil))) (k := 3) (env := [.v a, .v (nd k), .no, .no, .no]) (S := S) (fun b => 2 ^ b.log2) (nsrt (bas xs)) fun b hb => by
      obtain ⟨n0, l0⟩ := bl b hb
      have t := top_ok S n0 l0
      simp [t]
    have fs := finS_of (((nsrt (bas xs)).map fun b => 2 ^ b.log2).map Int.ofNat) S (by rw [List.length_map, List.length_map, (nsrt_perm _).length_eq]; omega)
    rw [← nl_eq] at fs
    generalize ((nsrt (bas xs)).map fun b => 2 ^ b.log2) = YY at *
    simp [B, lc, fs]
  have hm : ∀ i, decide ((2 : Int) ^ i ∈ ddp (((nsrt (bas xs)).map fun b => 2 ^ b.log2).map Int.ofNat)) = decide (i ∈ tops xs) := fun i => decide_eq_decide.mpr mem_topset
  generalize hT : ddp (((nsrt (bas xs)).map fun b => 2 ^ b.log2).map Int.ofNat) = T at *
  have it := itR1_nat (m := aCons (eV 1) aNil) (env := [.v a, .v (nd k), .v (.set T), .no, .no]) (S := S) (n := k) (by simp) (by omega)
  have lc2 := flc_nlp (mi := itR1 (aCons (eV 1) aNil)) (tt := cB (eOp (fInS true) (eOp iShl (eC (.int 1)) (eV 4)) (eV 2))) (te := eOp iShl (eC (.int 1)) (eV 4)) (k := 4) (vs := [4]) (env := [.v a, .v (nd k), .v (.set T), .no, .no]) (S := S) (fun i => !decide (i ∈ tops xs)) (2 ^ ·) (List.range k) it (by simp; omega) fun i hi => by
    have hi := List.mem_range.mp hi
    have pw := powB_nat (i := 1) (by decide) i (by omega)
    refine ⟨?_, fun _ => ?_⟩
    · simp [pw, hm i]
    · simp [pw]
  unfold m_rest
  simp [-fLc_eq, -eSc_eq, c1, c2, N, sc, lc2]
  rfl
theorem rest_bad1 (S : Sto) (a : D) {k : Int} (hk : k < 0 ∨ 12 < k) : m_rest [a, .int k] S = .exc "BadNumber" none S := by
  unfold m_rest
  by_cases h0 : k < 0
  · simp [h0]
  · have h1 : 12 < k := by omega
    simp [h0, h1]
theorem rest_bad2 (S : Sto) (xs : List Int) {x : Int} {k : Nat} (hk : k ≤ 12) (hx : x ∈ xs) (h : Far k x) (a : D) (ha : a = .tup (xs.map D.int) ∨ a = .lst (xs.map D.int)) : m_rest [a, .int k] S = .exc "BadNumber" none S := by
  have N := need_bad S xs k hx (farB_far h) a ha
  have c1 : ¬ ((k : Int) < 0) := by omega
  have c2 : ¬ ((12 : Int) < k) := by omega
  unfold m_rest
  simp [c1, c2, N]
end Fb
namespace Gf
open Mm
theorem app_append : ∀ (A B : List Nat) (x : Nat), app (A ++ B) x = app A x ^^^ app B (x / 2 ^ A.length)
  | [], B, x => by simp [app]
  | a :: A, B, x => by
    rw [List.cons_append, app_cons, app_cons, app_append A B, List.length_cons, Nat.pow_succ, Nat.mul_comm, ← Nat.div_div_eq_div_mul, Nat.xor_assoc]
/-- kernel and image -/
theorem idle_len (rs : List Nat) : (bas (tra rs).2).length = (tra rs).2.length := by
  have ok := tra_ok rs
  have h1 := bas_len (tra rs).2
  have l := tra_len rs
  have full : rs.length ≤ ((tra rs).1.map (·.2) ++ bas (tra rs).2).length := by
    have a : All rs.length (bas ((tra rs).1.map (·.2) ++ bas (tra rs).2)) := fun x hx => by
      rw [bas_sp]
      refine .sub (fun b hb => ?_) (ok.sp x hx)
      rcases List.mem_append.mp hb with hb | hb
      · exact .mem (List.mem_append_left _ hb)
      · exact ((bas_sp _ b).mpr (.mem hb)).mono fun c hc => List.mem_append_right _ hc
    have lt : ∀ b ∈ bas ((tra rs).1.map (·.2) ++ bas (tra rs).2), b < 2 ^ rs.length := fun b hb => by
      have := (bas_sp _ b).mp (.mem hb)
      refine this.lt fun c hc => ?_
      rcases List.mem_append.mp hc with hc | hc
      · obtain ⟨p, hp, rfl⟩ := List.mem_map.mp hc
        exact (ok.fs p hp).2
      · exact ((bas_sp _ c).mp (.mem hc)).lt (tra_lt rs)
    have := (bas_rr ((tra rs).1.map (·.2) ++ bas (tra rs).2)).full lt a
    have q := bas_len ((tra rs).1.map (·.2) ++ bas (tra rs).2)
    omega
  simp at full
  omega
/-! ### canonical bases -/
def can (xs : List Nat) : List Nat := nsrt (bas xs)
theorem can_rr (xs : List Nat) : RR (can xs) := (bas_rr xs).perm (nsrt_perm _).symm
theorem can_sp (xs : List Nat) (y : Nat) : Sp (can xs) y ↔ Sp xs y := by
  unfold can
  rw [Sp.perm (nsrt_perm _), bas_sp]
theorem can_sorted (xs : List Nat) : (can xs).Pairwise (· ≤ ·) := nsrt_sorted _
theorem can_len (xs : List Nat) : (can xs).length = (bas xs).length := (nsrt_perm _).length_eq
theorem can_lt {k : Nat} {xs : List Nat} (h : ∀ x ∈ xs, x < 2 ^ k) : ∀ x ∈ can xs, x < 2 ^ k := fun x hx => ((can_sp xs x).mp (.mem hx)).lt h
theorem canon {A B : List Nat} (ha : RR A) (hb : RR B) (sa : A.Pairwise (· ≤ ·)) (sb : B.Pairwise (· ≤ ·)) (h : ∀ y, Sp A y ↔ Sp B y) : A = B := List.Perm.eq_of_pairwise (fun a b _ _ h1 h2 => Nat.le_antisymm h1 h2) sa sb (ha.uniq hb h)
theorem can_eq {xs B : List Nat} (hb : RR B) (sb : B.Pairwise (· ≤ ·)) (h : ∀ y, Sp xs y ↔ Sp B y) : can xs = B := canon (can_rr xs) hb (can_sorted xs) sb fun y => (can_sp xs y).trans (h y)
theorem pow_inj {a b : Nat} (h : 2 ^ a = 2 ^ b) : a = b := by
  have := congrArg Nat.log2 h
  rwa [Nat.log2_two_pow, Nat.log2_two_pow] at this
/-- a sum and a meet together -/
theorem dim {A B C : List Nat} (hA : RR A) (hB : RR B) (hC : RR C) (h : ∀ y, Sp C y ↔ Sp A y ∧ Sp B y) : (bas (A ++ B)).length + C.length = A.length + B.length := by
  have lt := tra_lt (A ++ B)
  have k1 := idle_len (A ++ B)
  have k2 := tra_len (A ++ B)
  have k3 := tra_rank (A ++ B)
  have ker : ∀ m, m ∈ lsp (tra (A ++ B)).2 ↔ m < 2 ^ (A ++ B).length ∧ app (A ++ B) m = 0 := fun m => by
    rw [mem_lsp]
    constructor
    · intro hm
      have l := hm.lt lt
      exact ⟨l, (tra_ker _ l).mp hm⟩
    · exact fun hm => (tra_ker _ hm.1).mpr hm.2
  have two : ∀ m, m < 2 ^ (A ++ B).length → m / 2 ^ A.length < 2 ^ B.length := fun m hm => by
    rw [Nat.div_lt_iff_lt_mul (Nat.two_pow_pos _), ← Nat.pow_add, Nat.add_comm]
    rwa [List.length_append] at hm
  have split : ∀ m, app (A ++ B) m = 0 → app A m = app B (m / 2 ^ A.length) := fun m hm => by
    rw [app_append] at hm
    exact xor_eq_zero hm
  have inj : ∀ m m', m ∈ lsp (tra (A ++ B)).2 → m' ∈ lsp (tra (A ++ B)).2 → app A m = app A m' → m = m' := fun m m' hm hm' e => by
    obtain ⟨l1, e1⟩ := (ker m).mp hm
    obtain ⟨l2, e2⟩ := (ker m').mp hm'
    have z1 : m % 2 ^ A.length = m' % 2 ^ A.length := xor_eq_zero (hA.inj (Nat.xor_lt_two_pow (Nat.mod_lt _ (Nat.two_pow_pos _)) (Nat.mod_lt _ (Nat.two_pow_pos _))) (by rw [app_xor, app_mod, app_mod, e, Nat.xor_self]))
    have z2 : m / 2 ^ A.length = m' / 2 ^ A.length := xor_eq_zero (hB.inj (Nat.xor_lt_two_pow (two m l1) (two m' l2)) (by rw [app_xor, ← split m e1, ← split m' e2, e, Nat.xor_self]))
    rw [← Nat.div_add_mod m (2 ^ A.length), ← Nat.div_add_mod m' (2 ^ A.length), z1, z2]
  have nd : ((lsp (tra (A ++ B)).2).map (app A)).Nodup := by
    refine List.pairwise_map.mpr ((lsp_nodup (tra (A ++ B)).2).imp_of_mem fun {a b} ha hb hne e => hne (inj a b ha hb e))
  have mm : ∀ y, y ∈ (lsp (tra (A ++ B)).2).map (app A) ↔ Sp C y := fun y => by
    rw [h y, List.mem_map]
    constructor
    · rintro ⟨m, hm, rfl⟩
      obtain ⟨l1, e1⟩ := (ker m).mp hm
      exact ⟨⟨m, rfl⟩, ⟨m / 2 ^ A.length, (split m e1).symm⟩⟩
    · rintro ⟨⟨m1, e1⟩, ⟨m2, e2⟩⟩
      have p1 := Nat.mod_lt m1 (Nat.two_pow_pos A.length)
      have p2 := Nat.mod_lt m2 (Nat.two_pow_pos B.length)
      have q1 : (2 ^ A.length * (m2 % 2 ^ B.length) + m1 % 2 ^ A.length) % 2 ^ A.length = m1 % 2 ^ A.length := by
        rw [Nat.mul_add_mod, Nat.mod_mod]
      have q2 : (2 ^ A.length * (m2 % 2 ^ B.length) + m1 % 2 ^ A.length) / 2 ^ A.length = m2 % 2 ^ B.length := by
        rw [Nat.mul_add_div (Nat.two_pow_pos _), Nat.div_eq_of_lt p1, Nat.add_zero]
      have a1 : app A (2 ^ A.length * (m2 % 2 ^ B.length) + m1 % 2 ^ A.length) = y := by
        rw [← app_mod A, q1, app_mod, e1]
      refine ⟨2 ^ A.length * (m2 % 2 ^ B.length) + m1 % 2 ^ A.length, (ker _).mpr ⟨?_, ?_⟩, a1⟩
      · rw [List.length_append, Nat.pow_add]
        have : 2 ^ A.length * (m2 % 2 ^ B.length + 1) ≤ 2 ^ A.length * 2 ^ B.length := Nat.mul_le_mul_left _ p2
        rw [Nat.mul_add, Nat.mul_one] at this
        omega
      · rw [app_append, a1, q2, app_mod, e2, Nat.xor_self]
  have c1 := hC.span_len nd mm
  rw [List.length_map, lsp_len, k1] at c1
  have c2 := pow_inj c1
  rw [List.length_append] at k2
  omega
theorem restL_count {xs : List Nat} {k : Nat} (h : ∀ x ∈ xs, x < 2 ^ k) : (restL xs k).length + (bas xs).length = k := by
  have pm := perm_of_mem (xs := (List.range k).filter fun i => decide (i ∈ tops xs)) (ys := tops xs) (List.nodup_range.filter _) (bas_rr xs).tops fun i => by
    rw [List.mem_filter, decide_eq_true_eq]
    refine ⟨fun q => q.2, fun q => ⟨?_, q⟩⟩
    obtain ⟨y, hy, h0, rfl⟩ := mem_tops.mp q
    exact List.mem_range.mpr ((Nat.log2_lt h0).mpr (hy.lt h))
  have l1 := pm.length_eq
  have l2 : (tops xs).length = (bas xs).length := by unfold tops; rw [List.length_map]
  have l3 := List.length_eq_countP_add_countP (fun i => decide (i ∈ tops xs)) (l := List.range k)
  rw [List.countP_eq_length_filter, List.countP_eq_length_filter, List.length_range] at l3
  have l4 : (restL xs k).length = ((List.range k).filter fun i => !decide (i ∈ tops xs)).length := by unfold restL; rw [List.length_map]
  have l5 : ((List.range k).filter fun a => decide ¬(decide (a ∈ tops xs)) = true) = (List.range k).filter fun i => !decide (i ∈ tops xs) := by
    congr 1
    funext i
    by_cases hi : i ∈ tops xs <;> simp [hi]
  rw [l5] at l3
  omega
theorem rest_out {xs : List Nat} {k y : Nat} (hy : y ∈ restL xs k) : ¬ Sp xs y := fun s => by
  obtain ⟨i, _, hi, rfl⟩ := mem_restL.mp hy
  have := Nat.two_pow_pos i
  exact hi (mem_tops.mpr ⟨2 ^ i, s, by omega, Nat.log2_two_pow⟩)
theorem plain_sorted (k : Nat) : (plain k).Pairwise (· ≤ ·) := by
  unfold plain
  rw [List.pairwise_map]
  exact List.pairwise_lt_range.imp fun h => Nat.pow_le_pow_right (by decide) (Nat.le_of_lt h)
theorem can_rest {xs : List Nat} {k : Nat} (h : ∀ x ∈ xs, x < 2 ^ k) : can (restL xs k ++ can xs) = plain k := by
  refine can_eq (plain_rr k) (plain_sorted k) fun y => ?_
  have lt : ∀ b ∈ restL xs k ++ can xs, b < 2 ^ k := fun b hb => by
    rcases List.mem_append.mp hb with z | z
    · exact restL_lt b z
    · exact can_lt h b z
  refine ⟨fun s => plain_all k y (s.lt lt), fun s => ?_⟩
  have r := bas_rr (xs ++ restL xs k)
  have a := r.all (w := k) (fun b hb => Sp.lt (B := xs ++ restL xs k) (fun c hc => by
    rcases List.mem_append.mp hc with z | z
    · exact h c z
    · exact restL_lt c z) ((bas_sp _ b).mp (.mem hb))) (by rw [rest_full h]; exact Nat.le_refl k)
  have q := (bas_sp _ y).mp (a y (s.lt plain_lt))
  refine q.sub fun b hb => ?_
  rcases List.mem_append.mp hb with z | z
  · exact ((can_sp xs b).mpr (.mem z)).mono fun c hc => List.mem_append_right _ hc
  · exact .mem (List.mem_append_left _ z)
theorem rr_len {B : List Nat} (h : RR B) : (bas B).length = B.length := ((bas_rr B).uniq h fun y => bas_sp B y).length_eq
theorem step_len {B : List Nat} (h : RR B) (y : Nat) : (bas (B ++ [y])).length = B.length ↔ Sp B y := by
  have e : bas (B ++ [y]) = bst (bas B) y := by
    unfold bas
    rw [List.foldl_append]
    rfl
  have z := red_zero (bas_rr B) (x := y)
  rw [bas_sp] at z
  rw [e, ← z, ← rr_len h]
  unfold bst
  by_cases q : red y (bas B) = 0
  · rw [if_pos q]
    exact ⟨fun _ => q, fun _ => rfl⟩
  · rw [if_neg q]
    simp [q]
end Gf
namespace Fb
open PySem L2 Mm Gf
/-! ### lies, probe -/
theorem need_two (S : Sto) {xs : List Nat} {x : Nat} (h : ∀ r ∈ xs, r < 4096) (hx : x < 4096) : m_need_numbers [.lst (nl xs ++ [.int x]), .int 12] S = .ok (.val .non) S := by
  have := need12 S (rs := xs ++ [x]) (fun r hr => by
    rcases List.mem_append.mp hr with z | z
    · exact h r z
    · simp at z
      omega) (.lst (nl (xs ++ [x]))) (.inr rfl)
  have e : nl (xs ++ [x]) = nl xs ++ [.int x] := by simp [nl]
  rwa [e] at this
theorem lies_none (S : Sto) {xs : List Nat} {x : Nat} (h : ∀ r ∈ xs, r < 4096) (hx : x < 4096) (lx : xs.length ≤ 900) (ns : ¬ Sp xs x) : m_lies [.lst (nl xs), .int x] S = .ok (.val .non) S := by
  have N := need_two S h hx
  have T := trail_ok S (w := 12) (by omega) xs h lx (.lst (nl xs)) (.inr rfl) x
  rw [trail_none.mpr ns] at T
  have z1 := szB_of (n := 1) (by omega)
  have z2 := szB_of (n := xs.length + 1) (by omega)
  unfold m_lies
  simp [N, T, z1, z2]
theorem lies_some (S : Sto) {xs : List Nat} {x : Nat} (h : ∀ r ∈ xs, r < 4096) (hx : x < 4096) (lx : xs.length ≤ 900) (sp : Sp xs x) : ∃ m, trail xs x = some m ∧ m_lies [.lst (nl xs), .int x] S = .ok (.own (.lst (nl ((List.range xs.length).filter fun i => m.testBit i)))) S := by
  have N := need_two S h hx
  have T := trail_ok S (w := 12) (by omega) xs h lx (.lst (nl xs)) (.inr rfl) x
  cases e : trail xs x with
  | none => exact absurd sp (trail_none.mp e)
  | some m =>
    rw [e] at T
    refine ⟨m, rfl, ?_⟩
    have z1 := szB_of (n := 1) (by omega)
    have z2 := szB_of (n := xs.length + 1) (by omega)
    have it := itR1_nat (m := aCons (eCB fLen (aCons (eV 0) aNil)) aNil) (env := [.v (.lst (nl xs)), .v (nd x), .v (nd m), .no]) (S := S) (n := xs.length) (by simp) (by omega)
    have lc := flc_nlp (mi := itR1 (aCons (eCB fLen (aCons (eV 0) aNil)) aNil)) (tt := cB (eOp fEq (eOp iAnd (eOp iShr (eV 2) (eV 3)) (eC (.int 1))) (eC (.int 1)))) (te := eV 3) (k := 3) (vs := [3]) (env := [.v (.lst (nl xs)), .v (nd x), .v (nd m), .no]) (S := S) (fun i => m.testBit i) (fun i => i) (List.range xs.length) it (by simp; omega) fun i _ => by
      refine ⟨?_, fun _ => by simp⟩
      simp
    rw [List.map_id'] at lc
    unfold m_lies
    simp [-fLc_eq, N, T, z1, z2, lc]
end Fb
namespace Mm
open PySem PySem.Spec PyProof.Rows L2
/-! ### min(xs, default=d) of a list of numbers -/
section
variable {prog : Program} {w : World} {A : Around} {R : Result → Shared → Prop} {I : Addr} {fp wr : List Addr} {n : Nat} {P : Nat → Value → Prop} {St : Nat → Heap → Prop}
theorem min_loopD (d : Value) (W : Walks prog w A.in1 I fp wr n P St) (bt : Nat → Nat → Bool) (hcmp : CmpOf prog w A.in1 .Lt P bt) (S : Addr) (hSf : S ∉ fp) :
    ∀ (k j : Nat) (s : Shared) (vb : Value) (c : Nat), n - (j + 1) = k → j + 1 ≤ n → St (j + 1) s.heap → P (argBest bt j) vb →
    s.heap.get? S = some { cls := .type "list", dict := none, data := .seq #[vb, vb] c, slots := #[] } →
    (∀ v h' tk, P (argBest bt (n - 1)) v → (∀ b o, b ∉ wr → b ≠ S → s.heap.get? b = some o → h'.get? b = some o) → R (.ok (.ret v)) { s with heap := h', toks := tk }) →
    codeAny (model prog w) A (.builtin "min.loop" ⟨[.ref I, .none, .ref S], [("default", d)]⟩) R s := by
  have hSw : S ∉ wr := fun h => hSf (W.sub _ h)
  have hname : (toString "min" ++ toString ".loop" : String) = "min.loop" := by decide
  intro k
  induction k with
  | zero =>
    intro j s vb c hk hj hst hPb hS hR
    have hin : j + 1 = n := by omega
    refine codeAny_builtin F.entry_min_loop ?_
    rw [Around.under_plainId F.plain_min_loop _]
    show wpAny _ A.in1 (seqItems? (.ref S) >>= _) _ _ s
    refine wpAny_bind (wpAny_seqItems hS rfl ?_)
    show wpAny _ A.in1 (tryCatch (pyNext (.ref I)) _ >>= _) _ _ s
    refine wpAny_bind (wpAny_tryCatch (W.done s _ _ (hin ▸ hst) fun h' tk hk' => ?_))
    have hS' := hk' S _ hSw hS
    show wpAny _ A.in1 (updateSeq S (fun _ => #[]) >>= _) _ _ _
    refine wpAny_bind ?_
    refine wpAny_updateSeq hS' rfl (wpAny_bind (wpAny_letGo (wpAny_pure ?_)))
    refine hR vb _ tk (by rw [← hin]; exact hPb) fun b o hbw hbS e => (Heap.get?_update_other _ _ (Ne.symm hbS)).trans (hk' b o hbw e)
  | succ k ih =>
    intro j s vb c hk hj hst hPb hS hR
    have hlt : j + 1 < n := by omega
    refine codeAny_builtin F.entry_min_loop ?_
    rw [Around.under_plainId F.plain_min_loop _]
    show wpAny _ A.in1 (seqItems? (.ref S) >>= _) _ _ s
    refine wpAny_bind (wpAny_seqItems hS rfl ?_)
    show wpAny _ A.in1 (tryCatch (pyNext (.ref I)) _ >>= _) _ _ s
    refine wpAny_bind (wpAny_tryCatch (W.item (j + 1) s _ _ hlt hst fun v h' tk hP hst' hk' => ?_))
    have hS' := hk' S _ hSw hS
    show wpAny _ A.in1 (tryCatch (holding [v, v] (richCompare .Lt v vb >>= _)) _ >>= _) _ _ _
    refine wpAny_bind (wpAny_tryCatch (wpAny_holding (wpAny_bind (hcmp (j + 1) (argBest bt j) v vb _ _ _ hP hPb ?_))))
    refine wpAny_bind (wpAny_holding (wpAny_truthy_bool ?_))
    refine wpAny_bind (wpAny_letGo (wpAny_pure ?_))
    cases hb : bt (j + 1) (argBest bt j) with
    | true =>
      simp only [if_true]
      refine wpAny_bind ?_
      refine wpAny_updateSeq hS' rfl (wpAny_bind (wpAny_letGo ?_))
      rw [hname]
      refine wpAny_pure ⟨plainId_quiet F.plain_min_loop _, ih (j + 1) _ v _ (by omega) hlt (W.frame _ _ _ hst' fun b hbf o e => ?_) (by simp only [argBest, hb, if_true]; exact hP) (Heap.get?_update_self _ hS' rfl)
        fun v' h'' tk'' hP' hk'' => ?_⟩
      · exact (Heap.get?_update_other _ _ (fun h : S = b => hSf (by rw [h]; exact hbf))).trans e
      · exact hR v' h'' tk'' hP' fun b o hbw hbS e => hk'' b o hbw hbS ((Heap.get?_update_other _ _ (Ne.symm hbS)).trans (hk' b o hbw e))
    | false =>
      simp only [Bool.false_eq_true, if_false]
      refine wpAny_bind (wpAny_letGo ?_)
      rw [hname]
      refine wpAny_pure ⟨plainId_quiet F.plain_min_loop _, ih (j + 1) _ vb c (by omega) hlt hst' (by simp only [argBest, hb, Bool.false_eq_true, if_false]; exact hPb) hS' fun v' h'' tk'' hP' hk'' => ?_⟩
      exact hR v' h'' tk'' hP' fun b o hbw hbS e => hk'' b o hbw hbS (hk' b o hbw e)
theorem min_firstD (d : Value) (W : Walks prog w A.in1 I fp wr n P St) (bt : Nat → Nat → Bool) (hcmp : CmpOf prog w A.in1 .Lt P bt) (S : Addr) (hSf : S ∉ fp) {s : Shared} {c : Nat} (hst : St 0 s.heap)
    (hS : s.heap.get? S = some { cls := .type "list", dict := none, data := .seq #[] c, slots := #[] })
    (hR : ∀ v h' tk, (0 < n → P (argBest bt (n - 1)) v) → (n = 0 → v = d) → (∀ b o, b ∉ wr → b ≠ S → s.heap.get? b = some o → h'.get? b = some o) → R (.ok (.ret v)) { s with heap := h', toks := tk }) :
    codeAny (model prog w) A (.builtin "min.loop" ⟨[.ref I, .none, .ref S], [("default", d)]⟩) R s := by
  have hSw : S ∉ wr := fun h => hSf (W.sub _ h)
  have hname : (toString "min" ++ toString ".loop" : String) = "min.loop" := by decide
  refine codeAny_builtin F.entry_min_loop ?_
  rw [Around.under_plainId F.plain_min_loop _]
  show wpAny _ A.in1 (seqItems? (.ref S) >>= _) _ _ s
  refine wpAny_bind (wpAny_seqItems hS rfl ?_)
  show wpAny _ A.in1 (tryCatch (pyNext (.ref I)) _ >>= _) _ _ s
  by_cases hn : 0 < n
  · refine wpAny_bind (wpAny_tryCatch (W.item 0 s _ _ hn hst fun v h' tk hP hst' hk' => ?_))
    have hS' := hk' S _ hSw hS
    show wpAny _ A.in1 (updateSeq S (fun _ => #[v, v]) >>= _) _ _ _
    refine wpAny_bind ?_
    refine wpAny_updateSeq hS' rfl ?_
    rw [hname]
    refine wpAny_pure ⟨plainId_quiet F.plain_min_loop _, min_loopD d W bt hcmp S hSf _ 0 _ v _ rfl hn (W.frame _ _ _ hst' fun b hbf o e => ?_) hP (Heap.get?_update_self _ hS' rfl) fun v' h'' tk'' hP' hk'' => ?_⟩
    · exact (Heap.get?_update_other _ _ (fun h : S = b => hSf (by rw [h]; exact hbf))).trans e
    · exact hR v' h'' tk'' (fun _ => hP') (fun z => absurd hn (by omega)) fun b o hbw hbS e => hk'' b o hbw hbS ((Heap.get?_update_other _ _ (Ne.symm hbS)).trans (hk' b o hbw e))
  · have h0 : n = 0 := by omega
    refine wpAny_bind (wpAny_tryCatch (W.done s _ _ (h0 ▸ hst) fun h' tk hk' => ?_))
    refine wpAny_bind (wpAny_rule (wpAny_pure ?_))
    exact hR d h' tk (fun z => absurd z hn) (fun _ => rfl) fun b o hbw _ e => hk' b o hbw e
end
section
variable {prog : Program} {w : World} {A : Around} {E : Value → Shared → Prop} {s : Shared}
theorem args_minD (x d : Value) : argsOk "min" ⟨[x], [("default", d)]⟩ := by unfold argsOk; kernel_rfl
theorem call_minD {x d : Value} {Q : Value → Shared → Prop}
    (h : wpAny (model prog w) A.in1 (pyIter x) (fun it s₂ => ∃ I fp wr n P St bt, it = .ref I ∧ Walks prog w A.in1 I fp wr n P St ∧ St 0 s₂.heap ∧ (∀ b ∈ fp, b < s₂.heap.objs.size) ∧ CmpOf prog w A.in1 .Lt P bt ∧
      ∀ v h' tk, (0 < n → P (argBest bt (n - 1)) v) → (n = 0 → v = d) → (∀ b o, b ∉ wr → s₂.heap.get? b = some o → h'.get? b = some o) → Q v { s₂ with heap := h', toks := tk }) E s) :
    wpAny (model prog w) A (call (.builtin "min") [x] [("default", d)]) Q E s := by
  have hname : (toString "min" ++ toString ".loop" : String) = "min.loop" := by decide
  refine wpAny_call (codeAny_call_builtin F.plain_min F.entry_min ?_)
  simp only [checkBuiltinCall, F.kind_min]
  have body : wpAny (model prog w) A.in1 (Builtin.«min» ⟨[x], [("default", d)]⟩) (fun fin s' => match fin with
      | .done f => (match (Except.ok f : Result) with | .ok (.ret v) => Q v s' | .ok _ => False | .error e => E e s')
      | .again c' => c'.quiet = true ∧ codeAny (model prog w) A c' (fun r s' => match r with | .ok (.ret v) => Q v s' | .ok _ => False | .error e => E e s') s') E s := by
    show wpAny _ A.in1 (Builtin.Builtins.bindParams "min" ["key", "default"] 0 ⟨[], [("default", d)]⟩ >>= _) _ _ s
    refine wpAny_bind (wpAny_of_eq (show Builtin.Builtins.bindParams "min" ["key", "default"] 0 ⟨[], [("default", d)]⟩ = pure [none, some d] from by kernel_rfl) ?_)
    refine wpAny_bind (wpAny_pure ?_)
    refine wpAny_bind (wpAny_mono h (fun it s₂ h₂ => ?_) fun _ _ e => e)
    obtain ⟨I, fp, wr, n, P, St, bt, rfl, W, hst, hfp, hcmp, hQ⟩ := h₂
    refine wpAny_bind (wpAny_newObj_type ?_)
    have hSf : s₂.heap.objs.size ∉ fp := fun hm => Nat.lt_irrefl _ (hfp _ hm)
    rw [hname]
    refine wpAny_pure ⟨plainId_quiet F.plain_min_loop _, min_firstD d W bt hcmp s₂.heap.objs.size hSf (W.frame _ _ _ hst fun b _ o e => Heap.get?_push_of_some _ e) (Heap.get?_push_size _ rfl) fun v h' tk hP h0 hk => ?_⟩
    exact hQ v h' tk hP h0 fun b o hbw e => hk b o hbw (Nat.ne_of_lt (Heap.lt_size e)) (Heap.get?_push_of_some _ e)
  cases hsig : Manifest.signature? "min" with
  | none => exact wpAny_pure body
  | some sig =>
    have ha' : Bind.checkArgs "min" sig ⟨[x], [("default", d)]⟩ = pure () := by
      have ha := args_minD x d
      simpa only [argsOk, hsig] using ha
    simp only [ha']
    exact wpAny_pure body
end
section
variable {X : Cx}
def rMinD (K : PySem.W.Frag) : List V → List V → Hp → VK → Prop := fun vs zs H Q => ∃ (a : Addr) (ns : List Int) (d : V), vs = [V.ref a] ∧ zs = [d] ∧ SqL K H a (ns.map V.int) ∧ (ns = [] → Q d H) ∧ ∀ m, m ∈ ns → (∀ y, y ∈ ns → m ≤ y) → Q (.int m) H
theorem cr_minD (hc : X.calm = true) : CallRK X (.builtin "min") [Str.ofString "default"] (rMinD X.K) := by
  intro pins s σ H vs zs us ws Q I r rz h
  obtain ⟨a, ns, d, rfl, rfl, hs, q0, q⟩ := h
  obtain rfl := Vals.ref1 r
  obtain ⟨u, rfl, ru⟩ := vals1 rz
  obtain ⟨its, rv, hl, _⟩ := I.list hs
  have hi := rv.ints
  obtain ⟨xs, e⟩ := hi.allInts.items
  have hn : numsOf (intItems xs).toList = ns := by rw [← e]; exact hi.numsOf
  rw [nums_intItems] at hn
  subst hn
  have hl := hl.isList
  rw [e] at hl
  refine call_minD (iter_intList hl fun s₂ e2 st hfp hlI => ?_)
  subst e2
  refine ⟨_, _, _, _, _, _, _, rfl, Walks.list (A := X.A.in1) (I.ok.hd hc) _ a hlI (intItems xs), st, hfp, CmpOf.ints_lt (numAt xs) (fun _ _ => intItems_at), fun v h' tk hP h0 hk => ?_⟩
  have hk2 := old_kept hk
  have esz : (intItems xs).size = xs.size := by simp [intItems]
  rw [esz] at hP h0
  by_cases hz : 0 < xs.size
  · obtain ⟨t, rfl⟩ := intItems_at (hP hz)
    obtain ⟨h1, h2⟩ := argBest_lt (numAt xs) (xs.size - 1)
    refine ⟨.int _, H, I.kept hk2, ⟨_, rfl⟩, q _ ?_ fun y hy => ?_⟩
    · rw [numAt_eq]; exact PySem.getD_mem (by rw [List.length_map, Array.length_toList]; omega)
    · obtain ⟨j, hj, rfl⟩ := mem_getD hy
      rw [List.length_map, Array.length_toList] at hj
      rw [← numAt_eq]; exact h2 j (by omega)
  · obtain rfl := h0 (by omega)
    have e0 : xs = #[] := Array.eq_empty_of_size_eq_zero (by omega)
    exact ⟨d, H, I.kept hk2, ru, q0 (by subst e0; rfl)⟩
end
def fMinN : Sto → List D → Option D
  | _, [.lst ds] => (intsOf ds).map fun ns => match ns.min? with
    | some m => .int m
    | none => .non
  | _, _ => none
theorem cd_minN {g : Gam} : CallD g (fun vs H Q => rMinD g.K vs [.non] H Q) fMinN := fun w H S ds vs c Q k r e q => by
  unfold fMinN at e
  split at e
  · rename_i ds
    cases z : intsOf ds with
    | none => rw [z] at e; cases e
    | some ns =>
      rw [z] at e
      obtain ⟨v, r1, rfl, e1, e2⟩ := r
      obtain rfl : r1 = [] := e2
      obtain ⟨a, vs, rfl, g1, g2⟩ := rep_lst e1
      have ev := intsOf_rep z g2
      rw [ev] at g1
      refine ⟨a, ns, .non, rfl, rfl, .inl (.inl (k.ex _ _ g1)), fun h0 => ?_, fun m hm hmin => ?_⟩
      · subst h0
        cases e
        exact q w H _ .refl (by unfold Rep; rfl)
      · have hmn : ns.min? = some m := List.min?_eq_some_iff.mpr ⟨hm, fun y hy => hmin y hy⟩
        simp only [Option.map_some, hmn] at e
        cases e
        exact q w H _ .refl rep_int'
  · cases e
section
variable {X : Cx} {Y : Gam} {W : WX} {e : Expr} {p pos kp cp : Pos} {t : TA} {m : MA}
theorem s_minN (hc : X.calm = true) (hm : X.mg "min" = none) (hv : bootBuiltins "min" = some (.builtin "min")) (ha : SA X Y W [e] t m) (hK : X.K = Y.K) (hg : Gl X "min" := by rfl)
    (he : backTo pos (starEach [e] X.env) = (false, eval e X.env) :: backTo pos (starEach [] X.env) := by rfl) (hpl : (backTo pos (starEach [e] X.env)).any (·.1) = false := by rfl) {k : Expr} {tk : TE} {mk : ME} (hn : SE X Y W k tk mk) (htk : ∀ σ H Q, tk σ H Q = Q .non H) :
    SE X Y W (.Call (.Name "min" p) [e] [⟨some "default", k, kp⟩] pos) (tCKw (rMinD X.K) t (tCons tk tNil)) (eCB fMinN m) := by
  refine ⟨pe_callBK (cr_minD hc) hg hm hv ha.pa (pk_cons hn.pe pk_nil) (he := he) (hpl := hpl), ?_⟩
  have hd : CallD Y (fun vs H Q => rMinD Y.K vs [.non] H Q) fMinN := cd_minN
  have hs := sim_cb hd ha.sim
  intro w0 H0 w H σ env S O Q st p
  have := hs w0 H0 w H σ env S O Q st p
  rw [hK]
  show t σ H fun vs H1 => tk σ H1 fun v H2 => rMinD Y.K vs [v] H2 Q
  have e2 : (fun (vs : List V) (H1 : Hp) => tk σ H1 fun v H2 => rMinD Y.K vs [v] H2 Q) = fun vs H1 => rMinD Y.K vs [.non] H1 Q := by
    funext vs H1
    exact htk σ H1 _
  rw [e2]
  exact this
end
end Mm
namespace Mm
open PySem L2
/-! ### a list so many times -/
theorem repL_rep {g : Gam} {w : Wd} {ds : List D} {vs : List V} (r : RepL g w ds vs) : ∀ k : Nat, RepL g w (List.replicate k ds).flatten (List.replicate k vs).flatten
  | 0 => RepL.nil_
  | k + 1 => by
    rw [List.replicate_succ, List.replicate_succ, List.flatten_cons, List.flatten_cons]
    exact r.append_ (repL_rep r k)
theorem oo_rep {g : Gam} : OpO g rRep fRep := fun w H S d1 d2 v1 v2 c Q k r1 r2 e q => by
  unfold fRep at e
  split at e
  · rename_i xs i
    split at e
    · rename_i hc
      cases e
      rw [Bool.and_eq_true] at hc
      have h1 : i.natAbs ≤ 9223372036854775807 := bBnd_iff.mp hc.1
      obtain ⟨a, vs, e1, e2, e3⟩ := rep_lst r1
      exact ⟨a, i, vs, e1, rep_int r2, k.ex _ _ e2, by omega, by omega, by rw [← e3.len]; exact szB_le hc.2, fun p hp => q p _ hp nt_lst ⟨_, upd_same, repL_rep e3 _⟩⟩
    · cases e
  · cases e
end Mm
namespace Mm
open PySem L2
theorem fRep_of (S : Sto) (x : D) (k : Nat) (h : k ≤ 1000) : fRep S (.lst [x]) (.int k) = some (.lst (List.replicate k x)) := by
  have h1 : bBnd (k : Int) 9223372036854775807 = true := bBnd_iff.mpr (by omega)
  have h2 := szB_of (n := k) (by omega)
  have h3 : (List.replicate k [x]).flatten = List.replicate k x := by simp
  simp [fRep, h1, h2, h3]
theorem fMinN_of (S : Sto) (ns : List Int) : fMinN S [.lst (ns.map D.int)] = some (match ns.min? with
    | some m => .int m
    | none => .non) := by
  show (intsOf (ns.map D.int)).map _ = _
  rw [intsOf_map]
  rfl
end Mm
/-! What holds behind a statement (it goes on), behind a def's call. -/
namespace Mm
open PySem L2
def NX (o : Out) (Q : Envr → Sto → Prop) : Prop := match o with
  | .nx e S => Q e S
  | _ => False
@[simp] theorem NX_nx (e : Envr) (S : Sto) (Q : Envr → Sto → Prop) : NX (.nx e S) Q = Q e S := rfl
theorem NX_seq {a b : MS} {env : Envr} {S : Sto} {Q : Envr → Sto → Prop} (h : NX (a env S) fun e S1 => NX (b e S1) Q) : NX (sSeq a b env S) Q := by
  rw [sSeq_eq]
  cases q : a env S with
  | nx e S1 => rw [q] at h; exact h
  | _ => rw [q] at h; exact False.elim h
theorem NX_mono {o : Out} {Q Q' : Envr → Sto → Prop} (h : NX o Q) (f : ∀ e S, Q e S → Q' e S) : NX o Q' := by
  cases o with
  | nx e S => exact f e S h
  | _ => exact False.elim h
theorem NX_iff {o : Out} {Q : Envr → Sto → Prop} : NX o Q ↔ ∃ e S, o = .nx e S ∧ Q e S := by
  constructor
  · intro h
    cases o with
    | nx e S => exact ⟨e, S, rfl, h⟩
    | _ => exact False.elim h
  · rintro ⟨e, S, rfl, h⟩
    exact h
theorem NX_frz {i : Nat} {m : MS} {env : Envr} {S : Sto} {Q : Envr → Sto → Prop} (h : NX (m (frzAt i env) S) Q) : NX (sFrz i m env S) Q := h
/-- a walk: the invariant is carried -/
theorem NX_for {g : MG} {b : MS} {ds : List D} {env : Envr} {S : Sto} {Q : Envr → Sto → Prop} (I : List D → Envr → Sto → Prop) (h0 : I ds env S)
    (step : ∀ d ds env S, I (d :: ds) env S → ∃ e1, g d env = some e1 ∧ NX (b e1 S) fun e2 S2 => I ds e2 S2) (fin : ∀ e S, I [] e S → Q e S) : NX (forL g b ds env S) Q := by
  obtain ⟨e', S', h1, h2⟩ := forL_inv (I := I) (fun d ds env S h => by
    obtain ⟨e1, h1, h2⟩ := step d ds env S h
    obtain ⟨e2, S2, h3, h4⟩ := NX_iff.mp h2
    exact ⟨e1, h1, e2, S2, .inl h3, h4⟩) ds env S h0
  rw [h1]
  exact fin e' S' h2
/-- a def's call that ends with a value -/
def RX {α : Type} (o : R α) (Q : α → Sto → Prop) : Prop := match o with
  | .ok r S => Q r S
  | _ => False
@[simp] theorem RX_ok {α : Type} (e : α) (S : Sto) (Q : α → Sto → Prop) : RX (.ok e S) Q = Q e S := rfl
theorem RX_iff {α : Type} {o : R α} {Q : α → Sto → Prop} : RX o Q ↔ ∃ e S, o = .ok e S ∧ Q e S := by
  constructor
  · intro h
    cases o with
    | ok e S => exact ⟨e, S, rfl, h⟩
    | _ => exact False.elim h
  · rintro ⟨e, S, rfl, h⟩
    exact h
/-- a def whose body goes on to its end, or gives back -/
def EX (o : Out) (Q : Ret → Sto → Prop) : Prop := match o with
  | .nx _ S => Q (.val .non) S
  | .rt r S => Q r S
  | _ => False
@[simp] theorem EX_nx (e : Envr) (S : Sto) (Q : Ret → Sto → Prop) : EX (.nx e S) Q = Q (.val .non) S := rfl
@[simp] theorem EX_rt (r : Ret) (S : Sto) (Q : Ret → Sto → Prop) : EX (.rt r S) Q = Q r S := rfl
theorem EX_fn {n : Nat} {m : MS} {ds : List D} {S : Sto} {Q : Ret → Sto → Prop} (h : EX (m (startE n ds) S) Q) : RX (mFn n m ds S) Q := by
  unfold mFn
  cases q : m (startE n ds) S with
  | nx e S1 => rw [q] at h; exact h
  | rt r S1 => rw [q] at h; exact h
  | _ => rw [q] at h; exact False.elim h
theorem EX_seq {a b : MS} {env : Envr} {S : Sto} {Q : Ret → Sto → Prop} (h : NX (a env S) fun e S1 => EX (b e S1) Q) : EX (sSeq a b env S) Q := by
  rw [sSeq_eq]
  cases q : a env S with
  | nx e S1 => rw [q] at h; exact h
  | _ => rw [q] at h; exact False.elim h
end Mm
namespace Mm
open PySem L2
section
variable {X : Cx} {Y : Gam} {W : WX} {e : Expr} {te : TE} {me : ME}
/-! ### xs.index(k), of a number that is there -/
def eIdx (mo me : ME) : ME := fun env S => (mo env S).bind fun d S1 => match d with
  | .lst ds => (me env S1).bind fun k S2 => (match k with
    | .int k => (match intsOf ds with
      | some ns => if k ∈ ns then .ok (.int (ns.idxOf k : Nat)) S2 else .stuck
      | none => .stuck)
    | _ => .stuck)
  | _ => .stuck
theorem idx_at {ns : List Int} {k : Int} (h : k ∈ ns) : (ns.map V.int)[ns.idxOf k]? = some (V.int k) := by
  have hl := List.idxOf_lt_length_of_mem h
  rw [List.getElem?_map, List.getElem?_eq_getElem hl, List.getElem_idxOf hl]
  rfl
theorem idx_ne {k : Int} : ∀ (ns : List Int) (m : Nat), m < ns.idxOf k → ns[m]? ≠ some k
  | [], m, h => by simp at h
  | n :: ns, m, h => by
    rw [List.idxOf_cons] at h
    by_cases e : n = k
    · simp [e] at h
    · have eb : (n == k) = false := by simpa using e
      rw [eb] at h
      cases m with
      | zero =>
        simp
        exact e
      | succ m =>
        simp only [cond_false] at h
        rw [List.getElem?_cons_succ]
        exact idx_ne ns m (by omega)
theorem idx_first {ns : List Int} {k : Int} (m : Nat) (z : V) (hm : m < ns.idxOf k) (h : (ns.map V.int)[m]? = some z) : eqV z (.int k) = false := by
  rw [List.getElem?_map] at h
  cases q : ns[m]? with
  | none => rw [q] at h; cases h
  | some n =>
    rw [q] at h
    cases h
    have ne : n ≠ k := fun e => by
      subst e
      exact idx_ne ns m hm q
    show (n == k) = false
    simpa using ne
theorem s_idx {o : Expr} {to : TE} {mo : ME} {apos cpos : Pos} (ho : SE X Y W o to mo) (he : SE X Y W e te me) (hK : X.K = Y.K := by rfl) (hbase : attributeBase o "index" X.env (eval o X.env) = eval o X.env := by rfl)
    (hfew : ((backTo cpos (starEach [e] X.env)).all (fun x => !x.1) && (backToKw cpos (keywordEach [] X.env)).all (fun x => x.1.isSome) && decide ([e].length + ([] : List Keyword).length + (if ([] : List Keyword).isEmpty then 0 else 1) < 30)) = true := by rfl)
    (hline : (apos.endLine == cpos.line) = true := by rfl) (hs : starEach [e] X.env = (false, eval e X.env) :: starEach [] X.env := by rfl) (hplain : (backTo cpos (starEach [] X.env)).any (·.1) = false := by rfl) :
    SE X Y W (.Call (.Attribute o "index" apos) [e] [] cpos) (tBM Y.K "list" (rIndex Y.K) to (tCons te tNil)) (eIdx mo me) :=
  ⟨hK ▸ pe_bm PySem.F.plainAttrs_list PySem.F.slot_list_index PySem.F.type_list_index mt_index ho.pe (pa_cons he.pe pa_nil hs) hbase hfew hline hs hplain, fun w0 H0 w H σ env S O Q st p =>
  ho.sim w0 H0 w H σ env S O _ st ((PostX.bind p).imp fun d S1 w1 H1 st1 l1 p1 v r => by
    cases d with
    | lst ds =>
      obtain ⟨a, vs, e1, e2, e3⟩ := rep_lst r
      refine ⟨by rw [e1]; exact tyV_lst (st1.ok.ex _ _ e2), ?_⟩
      refine he.sim w0 H0 w1 H1 σ env S1 O _ st1 ((PostX.bind p1).imp fun k S2 w2 H2 st2 l2 p2 u ru => ?_)
      cases k with
      | int k =>
        simp only [] at p2
        cases y : intsOf ds with
        | none => rw [y] at p2; exact False.elim p2
        | some ns =>
          rw [y] at p2
          simp only [] at p2
          split at p2
          · rename_i hm
            have ev : vs = ns.map V.int := intsOf_rep (g := Y) (w := w1) y e3
            refine ⟨a, ns.map V.int, .int k, ns.idxOf k, .int k, e1, by rw [rep_int ru], .inl (.inl ?_), rfl, flat_ints ns, idx_at hm, ?_, idx_first, p2 w2 H2 st2 (.refl w2) _ rep_int'⟩
            · rw [← ev]
              exact st2.ok.ex _ _ (l2.ex _ _ e2)
            · show (k == k) = true
              simp
          · exact False.elim p2
      | _ => exact False.elim p2
    | _ => exact False.elim p1)⟩
end
end Mm
namespace Mm
open PySem PySem.Spec PyProof.Rows L2
/-! ### set(xs) of a list of numbers; sorted, len of it -/
section
variable {P : Program} {w : World} {A : Around} {E : Value → Shared → Prop} {s : Shared}
set_option maxRecDepth 100000 in
set_option maxHeartbeats 3200000 in
theorem call_set_lstI {l : Addr} {items : Array Value} (ns : List Int) {Q : Value → Shared → Prop} (hh : A.handled = none) (hl : s.heap.IsList l items) (hit : IntsAre items.toList ns) (hb : ns.length + 1 < scanBound)
    (h : ∀ (h' : Heap) (tk c : Nat), SetR w h' s.heap.objs.size (fun j => decide (j ∈ ns)) c → c ≤ ns.length → (∀ b o, s.heap.get? b = some o → h'.get? b = some o) → Q (.ref s.heap.objs.size) { s with heap := h', toks := tk }) :
    wpAny (model P w) A (call (.type "set") [.ref l]) Q E s := by
  have hisz : items.size = ns.length := by
    have q := IntsAre.length hit
    rw [Array.length_toList] at q
    exact q
  obtain ⟨c, tl, hmro⟩ := F.called_set.mro
  have hmade := F.called_set.made
  have hsub := F.called_set.sub
  refine wpAny_call (codeAny_of_tree ?_)
  show wpAny _ _ (callAny (.type "set") _) _ _ _
  refine wpAny_pure ⟨Code.quiet_builtin _ (by decide +kernel), codeAny_builtin F.entry_type_call ?_⟩
  rw [Around.under_plain (weight_type_call_type "set" [.ref l] []) rfl]
  have h1 := F.called_set.notType
  have h2 := F.called_set.canCreate
  have hct := F.typeCall_set_1 (.ref l)
  repeat (any_goals (first | assumption | wp_step))

  refine codeAny_mono (code_set_led1 (.ref l) (E := E) (Q₁ := fun obj s₁ => obj = .ref s.heap.objs.size ∧ s₁ = { s with heap := s.heap.push { cls := .type "set", dict := none, data := .set #[] 0 (.fresh 0 0 (!w.params.followText "set-order")) } }) ⟨rfl, rfl⟩) fun r s₁ hr => ?_
  cases r with
  | error e => exact hr
  | ok fl =>
    cases fl with
    | ret obj =>
      obtain ⟨rfl, rfl⟩ := hr
      have hS : (s.heap.push { cls := .type "set", dict := none, data := .set #[] 0 (.fresh 0 0 (!w.params.followText "set-order")) }).get? s.heap.objs.size = some { cls := .type "set", dict := none, data := .set #[] 0 (.fresh 0 0 (!w.params.followText "set-order")) } := Heap.get?_push_size _ rfl
      have hT : Shared.TypeIs { s with heap := s.heap.push { cls := .type "set", dict := none, data := .set #[] 0 (.fresh 0 0 (!w.params.followText "set-order")) } } (.ref s.heap.objs.size) "set" := ⟨_, hS, rfl⟩
      have hli := F.called_set.init.lookup
      have hbi := F.called_set.init.bind (.ref s.heap.objs.size)
      repeat (any_goals (first | assumption | wp_step))

      refine codeAny_mono (codeAny_call_builtin (R := wants (fun r s₂ => r = .none ∧ ∃ h' tk c, s₂ = { s with heap := h', toks := tk } ∧ SetR w h' s.heap.objs.size (fun j => decide (j ∈ ns)) c ∧ c ≤ ns.length ∧
          (∀ b o, s.heap.get? b = some o → h'.get? b = some o)) E) F.called_set.init.plain F.entry_set_init (check_set_init_1 hT ?_)) fun r₂ s₂ hr₂ => ?_
      · obtain ⟨ol, hol, hcl, nl, hdl⟩ := hl
        obtain ⟨ocls, odict, odata, oslots⟩ := ol
        simp only at hcl hdl
        subst hcl; subst hdl
        have hol' : (s.heap.push { cls := .type "set", dict := none, data := .set #[] 0 (.fresh 0 0 (!w.params.followText "set-order")) }).get? l = some { cls := .type "list", dict := odict, data := .seq items nl, slots := oslots } := Heap.get?_push_of_some _ hol
        have hsls := F.sub_list_set
        have hslf := F.sub_list_frozenset
        have hne : (Value.type "list" == Value.type "dict") = false := by decide
        have hl1 : (s.heap.push { cls := .type "set", dict := none, data := .set #[] 0 (.fresh 0 0 (!w.params.followText "set-order")) }).IsList l items := ⟨_, hol', rfl, nl, rfl⟩
        unfold Builtin.«set.__init__» noKeywords Builtin.Frozenset.updateFrom
        generalize hPI : pyIter = PI
        wp_walk
        subst hPI

        refine wpAny_pyIter_list hl1 ?_
        refine wpAny_bind (wpAny_runValue ?_)
        have hlS : l < s.heap.objs.size := Heap.lt_size hol
        have hh3 : A.in1.in1.in1.handled = none := by simp [hh]
        have hz1 : (s.heap.push { cls := .type "set", dict := none, data := .set #[] 0 (.fresh 0 0 (!w.params.followText "set-order")) }).objs.size = s.heap.objs.size + 1 := Heap.size_push ..
        have hneI : l ≠ (s.heap.push { cls := .type "set", dict := none, data := .set #[] 0 (.fresh 0 0 (!w.params.followText "set-order")) }).objs.size := by
          rw [Heap.size_push]; exact Nat.ne_of_lt (Nat.lt_succ_of_lt hlS)
        have hSf : s.heap.objs.size ∉ [(s.heap.push { cls := .type "set", dict := none, data := .set #[] 0 (.fresh 0 0 (!w.params.followText "set-order")) }).objs.size, l] := by
          rw [Heap.size_push]; simp only [List.mem_cons, List.mem_singleton, List.not_mem_nil, or_false, not_or]
          exact ⟨Nat.ne_of_lt (Nat.lt_succ_self _), Nat.ne_of_gt hlS⟩
        have hval : ∀ (i : Nat) (v : Value), items[i]? = some v → ∃ k t, ns[i]? = some k ∧ v = .int k t := fun i v hv => by
          have hi : i < ns.length := by rw [← hisz]; exact (Array.getElem?_eq_some_iff.mp hv).1
          obtain ⟨t, e⟩ := PyProof.Rows.IntsAre.int_at hit i v (by rw [Array.getElem?_toList]; exact hv)
          refine ⟨ns[i], t, List.getElem?_eq_getElem hi, ?_⟩
          rw [e, List.getD_eq_getElem?_getD, List.getElem?_eq_getElem hi] <;> rfl
        refine set_update_ints ((Walks.list hh3 _ l hneI items).toS) s.heap.objs.size
          hSf ns hisz hb hval (items.size - 0) 0 _ (by omega) (Nat.zero_le _)
          ⟨⟨_, Heap.get?_push_size _ rfl, rfl, rfl⟩, (hl1.push _)⟩ ?hS0 ?hR
        case hS0 =>
          have hget : ((s.heap.push { cls := .type "set", dict := none, data := .set #[] 0 (.fresh 0 0 (!w.params.followText "set-order")) }).push { cls := .type "list_iterator", data := .fields #[.ref l, .int 0 0] }).get? s.heap.objs.size
              = some { cls := .type "set", dict := none, data := .set #[] 0 (.fresh 0 0 (!w.params.followText "set-order")) } := Heap.get?_push_of_some _ hS
          exact ⟨0, Nat.le_refl 0, setR_new_at hget⟩
        case hR =>
          intro s' c' hm hc' hS'
          obtain ⟨h', g2, d', tk', os'⟩ := s'
          have eg : g2 = s.gens := hm.gens
          have ed : d' = s.drawn := hm.drawn
          have eo : os' = s.os := hm.os
          subst eg; subst ed; subst eo
          show wpAny _ _ _ _ _ _
          refine wpAny_pure ?_
          show wpAny _ _ (ret Value.none) _ _ _
          rw [hisz] at hc'
          refine wpAny_pure ⟨rfl, h', tk', c', rfl, hS', hc', fun b o e => ?_⟩
          have hb0 : b < s.heap.objs.size := Heap.lt_size e
          have hb1 : b ≠ s.heap.objs.size := Nat.ne_of_lt hb0
          have hb2 : b ≠ (s.heap.push { cls := .type "set", dict := none, data := .set #[] 0 (.fresh 0 0 (!w.params.followText "set-order")) }).objs.size := by
            rw [Heap.size_push]; exact Nat.ne_of_lt (Nat.lt_succ_of_lt hb0)
          exact hm.heap b o (by simp only [List.mem_cons, List.mem_singleton, List.not_mem_nil, or_false, not_or]; exact ⟨hb1, hb2⟩) (Heap.get?_push_of_some _ (Heap.get?_push_of_some _ e))

      · cases r₂ with
        | error e => exact hr₂
        | ok fl₂ =>
          cases fl₂ with
          | ret r =>
            obtain ⟨rfl, h', tk, c', rfl, hS', hc', hk'⟩ := hr₂
            repeat (any_goals (first | assumption | wp_step))
            exact h _ _ _ hS' hc' hk'
          | _ => exact hr₂.elim
    | _ => exact hr.elim

end
section
variable {P : Program} {w : World} {A : Around} {E : Value → Shared → Prop} {s : Shared}
theorem sorted_setN {a : Addr} {S : Int → Bool} {n : Nat} {Q : Value → Shared → Prop} (R : SetR w s.heap a S n) (hh : A.handled = none)
    (hQ : ∀ s' p (out : Array Value) (c : Nat) (ns : List Int), (∀ b o, s.heap.get? b = some o → s'.heap.get? b = some o) → s'.gens = s.gens → s'.os = s.os → s.heap.objs.size ≤ p →
      s'.heap.get? p = some (seqObj "list" out c) → IntsAre out.toList ns → ns.Pairwise (· < ·) → (∀ k, k ∈ ns ↔ S k = true) → ns.length = n → Q (.ref p) s') :
    wpAny (model P w) A (call (.builtin "sorted") [.ref a]) Q E s := by
  obtain ⟨o, es, ep, t, ho, hex, hd, g, nd, hm, hb, hf, hn, hr, hl⟩ := R
  refine Calls.call_function_entry kind_sorted plain_sorted entry_sorted (args_sorted1 _) ?_
  unfold Builtin.«sorted»
  refine wpAny_bind (m := checkCount "sorted" 1 1 _) (wpAny_pure ?_)
  refine wpAny_bind (collect_set (A := A.in1) hh ⟨o, ho, hex.1, hd⟩ hf hb hr hl fun s1 vs k1 hz g1 o1 pm => ?_)
  have hvl : vs.length = n := by rw [pm.length_eq, List.length_map, Array.length_toList]; exact hn
  have hvz : vs.length ≤ sizeLine := by rw [hvl, ← hn]; exact fits_of_scanBound hb
  have hI : IntsAre vs (vs.map Builtin.Re.reRawOf) := ints_of vs fun v hv => by
    obtain ⟨e, he, q⟩ := List.mem_map.mp (pm.mem_iff.mp hv)
    obtain ⟨k, tk, h1, _⟩ := g e he
    exact ⟨k, tk, by rw [← q]; exact h1⟩
  have pk : (vs.map Builtin.Re.reRawOf).Perm (es.toList.map keyOf) := by
    have q := pm.map Builtin.Re.reRawOf
    rw [List.map_map] at q
    exact q
  refine wpAny_bind (wpAny_newList ?_ hvz)
  have hoL : (s1.heap.push (seqObj "list" vs.toArray 0)).get? s1.heap.objs.size = some (seqObj "list" vs.toArray 0) := Heap.get?_push_size _ rfl
  refine wpAny_bind (wpAny_holding (wpAny_call_entry slot_list_sort ⟨_, hoL, rfl⟩ entry_list_sort (SrtO.list_sort_ord SrtO.swo_int hoL hvz (fun h2 => SrtO.ints_sortable hI h2) fun out hs hb => ⟨_, rfl, ?_⟩) (args_list_sort _)))
  obtain ⟨a1, a2, a3⟩ := SrtO.ints_out hI hs hb
  obtain ⟨c, hc⟩ := sortedHeap_at (vs := vs) (out := out.toArray) hoL
  have pn : (out.map SrtO.iv).Perm (es.toList.map keyOf) := a2.trans pk
  refine wpAny_pure ⟨_, rfl, hQ _ s1.heap.objs.size out.toArray c (out.map SrtO.iv) (fun b u e => ?_) g1 o1 hz hc a1 (lt_of_le_nodup _ a3 (pn.nodup_iff.mpr nd)) (fun k => by rw [pn.mem_iff, ← hm k]) ?_⟩
  · have q := k1 b u e
    have hlt := Heap.lt_size q
    show (sortedHeap (s1.heap.push (seqObj "list" vs.toArray 0)) s1.heap.objs.size vs out.toArray).get? b = some u
    rw [sortedHeap_old (Nat.ne_of_lt hlt) (by rw [size_push']; exact Nat.lt_succ_of_lt hlt)]
    exact Heap.get?_push_of_some _ q
  · rw [pn.length_eq, List.length_map, Array.length_toList]; exact hn
theorem setR_count {h : Heap} {a : Addr} {ns : List Int} {c : Nat} (R : SetR w h a (fun j => decide (j ∈ ns)) c) : c = (ddp ns).length := by
  obtain ⟨o, es, ep, t, ho, hex, hd, g, nd, hm, hb, hf, hn, hr, hl⟩ := R
  have p : (es.toList.map keyOf).Perm (ddp ns) := (List.perm_ext_iff_of_nodup nd (ddp_nodup ns)).mpr fun k => by
    rw [← hm k, mem_ddp]
    simp
  rw [← p.length_eq, List.length_map, Array.length_toList, hn]
end
section
variable {X : Cx}
/-- set(xs) -/
def rSetI (w : World) (K : PySem.W.Frag) : List V → Hp → VK → Prop := fun vs H Q => ∃ (a : Addr) (ns : List Int), vs = [V.ref a] ∧ SqL K H a (ns.map V.int) ∧ ns.length + 1 < scanBound ∧
  ∀ p, H p = none → Q (.ref p) (upd H p (SetO w p (fun j => decide (j ∈ ns)) (ddp ns).length))
theorem cr_setI (hc : X.calm = true) : CallR X (.type "set") (rSetI X.w X.K) := by
  intro pins s σ H vs us Q I r h
  obtain ⟨a, ns, rfl, hs, hb, q⟩ := h
  rw [Vals.ref1 r]
  obtain ⟨its, rv, hl, _⟩ := I.list hs
  refine call_set_lstI ns (I.ok.hd hc) hl.isList rv.ints hb fun h' tk c R hc2 hk => ?_
  have ec := setR_count R
  subst ec
  exact ⟨.ref _, _, I.laid (t' := tk) hk (Nat.le_refl _) (setO_new R), rfl, q _ (I.hok.fresh (Nat.le_refl _))⟩
/-- sorted(s) -/
def rSortedS (w : World) : List V → Hp → VK → Prop := fun vs H Q => ∃ (a : Addr) (S : Int → Bool) (n : Nat), vs = [V.ref a] ∧ H a = some (SetO w a S n) ∧ n ≤ 100000 ∧
  ∀ (ns : List Int) (p : Addr), ns.Pairwise (· < ·) → (∀ k : Int, k ∈ ns ↔ S k = true) → ns.length = n → H p = none → Q (.ref p) (upd H p (.lst (ns.map V.int)))
theorem cr_sortedS (hc : X.calm = true) : CallR X (.builtin "sorted") (rSortedS X.w) := by
  intro pins s σ H vs us Q I r h
  obtain ⟨a, S, n, rfl, ha, h64, q⟩ := h
  have R := setO_get I ha
  rw [Vals.ref1 r]
  refine sorted_setN R (I.ok.hd hc) fun s' p out c ns k g o hp hg hi hs hm hl => ?_
  have hlen : (ns.map V.int).length ≤ sizeLine := by rw [List.length_map, hl, sizeLine_eq]; omega
  have hn : H p = none := I.hok.fresh hp
  have J : Inv X pins σ (upd H p (.lst (ns.map V.int))) { s with heap := s'.heap, gens := s'.gens, drawn := s'.drawn, toks := s'.toks } :=
    I.call (ch := []) (Un.laid k hp hn) (I.hok.laid k hp ⟨hlen, out.toList, c, vals_of_ints hi, hg⟩) (by rw [g]; exact I.bare) (fun _ z => nomatch z)
  have e : s' = { s with heap := s'.heap, gens := s'.gens, drawn := s'.drawn, toks := s'.toks } := by
    cases s'
    cases s
    cases o
    rfl
  rw [e]
  exact ⟨.ref p, _, J, rfl, q ns p hs hm hl hn⟩
/-- len(s) -/
def rLenS (w : World) : List V → Hp → VK → Prop := fun vs H Q => ∃ (a : Addr) (S : Int → Bool) (n : Nat), vs = [V.ref a] ∧ H a = some (SetO w a S n) ∧ Q (.int n) H
theorem cr_lenS : CallR X (.builtin "len") (rLenS X.w) := by
  intro pins s σ H vs us Q I r h
  obtain ⟨a, S, n, rfl, ha, q⟩ := h
  obtain ⟨o, es, ep, t, ho, hex, hd, g, nd, hm, hb, hf, hn, hr, hl⟩ := setO_get I ha
  rw [Vals.ref1 r]
  subst hn
  have z := fits_of_scanBound hb
  rw [sizeLine_eq] at z
  exact call_len_set ho hex hd hf (by omega) ⟨.int es.size, H, I.tok _, ⟨_, rfl⟩, q⟩
end
end Mm
namespace Mm
open PySem L2
theorem nt_setO {w : World} {a : Addr} {S : Int → Bool} {n : Nat} : ∀ ps, SetO w a S n ≠ .tbl ps := fun _ z => by unfold SetO at z; cases z
def fSet (m : ME) : Envr → Sto → R (List Int) := fun env S => (m env S).bind fun d S1 => match d with
  | .lst ds => (match intsOf ds with
    | some ns => if decide (ns.length ≤ 4000) then .ok ns S1 else .stuck
    | none => .stuck)
  | _ => .stuck
theorem sim_set {g : Gam} {W : WX} {wo : World} {te : TE} {me : ME} (h : SimE g W te me) {w0 w : Wd} {H0 H : Hp} {σ : L2.St} {env : Envr} {S : Sto} {O : List (Option Addr)} {Q : VK} (st : StR g w0 H0 w H σ env S O)
    (p : PostX g W w0 H0 w σ env O (fSet me env S) (fun ns _ w' H' => ∀ p, H' p = some (SetO wo p (fun j => decide (j ∈ ns)) (ddp ns).length) → Q (.ref p) H')) : tCB (rSetI wo g.K) (tCons te tNil) σ H Q := by
  refine h w0 H0 w H σ env S O _ st ((PostX.bind p).imp fun d S1 w1 H1 st1 l1 p1 v r => ?_)
  show rSetI wo g.K [v] H1 Q
  cases d with
  | lst ds =>
    obtain ⟨a, vs, e1, e2, e3⟩ := rep_lst r
    simp only [] at p1
    cases y : intsOf ds with
    | none => rw [y] at p1; exact False.elim p1
    | some ns =>
      rw [y] at p1
      simp only [] at p1
      split at p1
      · rename_i hm
        have ev : vs = ns.map V.int := intsOf_rep (g := g) (w := w1) y e3
        have hz := of_decide_eq_true hm
        refine ⟨a, ns, by rw [e1], .inl (.inl ?_), ?_, fun q hq => ?_⟩
        · rw [← ev]
          exact st1.ok.ex _ _ e2
        · unfold scanBound; omega
        · exact p1 w1 _ (st1.lay hq nt_setO) (.refl w1) q upd_same
      · exact False.elim p1
  | _ => exact False.elim p1
def srtS (ns : List Int) : List Int := isrt (ddp ns)
def fSortedSet (m : ME) : MF := fun env S => (fSet m env S).bind fun ns S1 => .ok (.lst ((srtS ns).map D.int)) S1
def eLenSet (m : ME) : ME := fun env S => (fSet m env S).bind fun ns S1 => .ok (.int (ddp ns).length) S1
theorem srtS_of {ns ms : List Int} (h1 : ms.Pairwise (· < ·)) (h2 : ∀ k, k ∈ ms ↔ k ∈ ns) : ms = srtS ns := by
  have nd : ms.Nodup := h1.imp fun h => Int.ne_of_lt h
  have p : ms.Perm (ddp ns) := (List.perm_ext_iff_of_nodup nd (ddp_nodup ns)).mpr fun k => by rw [h2, mem_ddp]
  exact sorted_unique (p.trans (isrt_perm _).symm) (h1.imp Int.le_of_lt) (isrt_sorted _)
section
variable {X : Cx} {Y : Gam} {W : WX} {e : Expr} {te : TE} {me : ME} {p p2 pos pos2 : Pos}
theorem pe_set (hc : X.calm = true) (hm : X.mg "set" = none) (he : PE X e te) (hv : bootBuiltins "set" = some (.type "set")) (hg : Gl X "set") (h1 : starEach [e] X.env = (false, eval e X.env) :: starEach [] X.env) (h2 : (backTo pos (starEach [] X.env)).any (·.1) = false) :
    PE X (.Call (.Name "set" p) [e] [] pos) (tCB (rSetI X.w X.K) (tCons te tNil)) := pe_callTy (cr_setI hc) hg hm hv (pa_cons he pa_nil h1) (by decide) (by decide) h1 h2
theorem f_srtSet (hm : X.mg "set" = none) (hms : X.mg "sorted" = none) (he : SE X Y W e te me) (hv : bootBuiltins "set" = some (.type "set")) (hvs : bootBuiltins "sorted" = some (.builtin "sorted")) (hc : X.calm = true := by rfl) (hK : X.K = Y.K := by rfl) (hg : Gl X "set" := by rfl) (hgs : Gl X "sorted" := by rfl)
    (h1 : starEach [e] X.env = (false, eval e X.env) :: starEach [] X.env := by rfl) (h2 : (backTo pos2 (starEach [] X.env)).any (·.1) = false := by rfl)
    (h3 : starEach [.Call (.Name "set" p2) [e] [] pos2] X.env = (false, eval (.Call (.Name "set" p2) [e] [] pos2) X.env) :: starEach [] X.env := by rfl) (h4 : (backTo pos (starEach [] X.env)).any (·.1) = false := by rfl) :
    SF X Y W (.Call (.Name "sorted" p) [.Call (.Name "set" p2) [e] [] pos2] [] pos) (tCB (rSortedS X.w) (tCons (tCB (rSetI X.w Y.K) (tCons te tNil)) tNil)) (fSortedSet me) := by
  refine ⟨pe_callB (cr_sortedS hc) hgs hms hvs (pa_cons (hK ▸ pe_set hc hm he.pe hv hg h1 h2) pa_nil h3) (by decide) (by decide) h3 h4, fun w0 H0 w H σ env S O Q st pp => ?_⟩
  show tCB (rSetI X.w Y.K) (tCons te tNil) σ H (fun v H1 => rSortedS X.w [v] H1 Q)
  refine sim_set he.sim st ?_
  have pp2 := PostX.bind pp
  cases q : fSet me env S with
  | stuck => rw [q] at pp2; exact pp2
  | exc c x S1 => rw [q] at pp2; exact pp2
  | ok ns S1 =>
    rw [q] at pp2
    intro w1 H1 st1 l1 a ha
    have k := pp2 w1 H1 st1 l1
    have hz : ns.length ≤ 4000 := by
      unfold fSet at q
      cases z : me env S with
      | stuck => rw [z] at q; cases q
      | exc c x S1 => rw [z] at q; cases q
      | ok d S2 =>
        rw [z] at q
        simp only [R.bind] at q
        split at q
        · split at q
          · split at q
            · rename_i hd
              cases q
              exact of_decide_eq_true hd
            · cases q
          · cases q
        · cases q
    refine ⟨a, _, _, rfl, ha, Nat.le_trans (ddp_len ns) (by omega), fun ms b m1 m2 m3 hb => ?_⟩
    have e := srtS_of (ns := ns) m1 (fun k => by rw [m2 k]; simp)
    subst e
    exact k w1 _ (st1.lay hb nt_lst) (.refl w1) b (st1.own_new hb ⟨_, upd_same, RepL.ints _⟩)
theorem s_lenSet (hm : X.mg "set" = none) (hms : X.mg "len" = none) (he : SE X Y W e te me) (hv : bootBuiltins "set" = some (.type "set")) (hc : X.calm = true := by rfl) (hK : X.K = Y.K := by rfl) (hg : Gl X "set" := by rfl) (hgs : Gl X "len" := by rfl)
    (h1 : starEach [e] X.env = (false, eval e X.env) :: starEach [] X.env := by rfl) (h2 : (backTo pos2 (starEach [] X.env)).any (·.1) = false := by rfl)
    (h3 : starEach [.Call (.Name "set" p2) [e] [] pos2] X.env = (false, eval (.Call (.Name "set" p2) [e] [] pos2) X.env) :: starEach [] X.env := by rfl) (h4 : (backTo pos (starEach [] X.env)).any (·.1) = false := by rfl) :
    SE X Y W (.Call (.Name "len" p) [.Call (.Name "set" p2) [e] [] pos2] [] pos) (tCB (rLenS X.w) (tCons (tCB (rSetI X.w Y.K) (tCons te tNil)) tNil)) (eLenSet me) := by
  refine ⟨pe_callB cr_lenS hgs hms PySem.boot_len (pa_cons (hK ▸ pe_set hc hm he.pe hv hg h1 h2) pa_nil h3) (by decide) (by decide) h3 h4, fun w0 H0 w H σ env S O Q st pp => ?_⟩
  show tCB (rSetI X.w Y.K) (tCons te tNil) σ H (fun v H1 => rLenS X.w [v] H1 Q)
  refine sim_set he.sim st ((PostX.bind pp).imp fun ns S1 w1 H1 st1 l1 p1 a ha => ?_)
  exact ⟨a, _, _, rfl, ha, p1 w1 H1 st1 (.refl w1) _ rep_int'⟩
end
end Mm
namespace Mm
open PySem PySem.Spec PyProof.Rows L2
/-! ### f(e, .., k = v, ..) -/
section
variable {X : Cx} {CX : CXT} {k n : Nat} {f : Addr} {fd : FuncData} {ps ks : List Str} {sp : Sp} {E : L2.St → XK} {x : Str} {p pos : Pos} {e : Expr} {es : List Expr} {kws : List Keyword} {t tk : TA} {g : List Value → List Value → List Value} {gV : List V → List V → List V}
theorem run_fnNS {pins : List (Addr × Obj)} {σ : L2.St} {H : Hp} {s : Shared} {Q : VK} {us ws : List Value} {vs zs : List V} (F : FnOk X.prog X.w X.K X.mg X.base CX k f fd ps sp) (hr : Room k X.A) (hb : KBn X.K fd ps n ks g gV) (hx : PassesAt CX X σ (E σ))
    (I : Inv X pins σ H s) (r : Vals vs us) (rz : Vals zs ws) (l1 : vs.length = n) (l2 : zs.length = ks.length) (h : sp (gV vs zs) H Q (E σ)) : wpAny (model X.prog X.w) X.A (call (.ref f) us (ks.zip ws)) (EP X pins σ Q) X.xe s := by
  have r2 := hb.rel r rz
  refine wpAny_call (codeAny_mono (F.run X.A X.stack s H ⟨us, ks.zip ws⟩ (g us ws) (gV vs zs) Q (E σ) hr I.env0 (hb.to s us ws I.kIn (r.length.symm.trans l1) (rz.length.symm.trans l2)) r2 h) fun r s' hq => ?_)
  cases r with
  | error e => exact hx pins H s e s' I hq
  | ok fl =>
    cases fl with
    | ret u => exact I.after hq
    | next => exact False.elim hq
    | brk => exact False.elim hq
    | cont => exact False.elim hq
theorem pe_callNS (F : FnOk X.prog X.w X.K X.mg X.base CX k f fd ps sp) (hr : Room k X.A) (hg : Gl X x) (hm : X.mg x = some (.ref f)) (hk : PySem.W.keepIn X.K (.ref f) = true) (hb : KBn X.K fd ps n ks g gV) (hx : ∀ σ, PassesAt CX X σ (E σ))
    (ha : PA X (e :: es) t) (hkw : PK X kws tk) (hall : (backToKw pos (keywordEach kws X.env)).all (·.1.isSome) = true) (hks : (backToKw pos (keywordEach kws X.env)).filterMap (·.1) = ks)
    (hdb : (x == ("__debug__" : Str)) = false) (he : starEach (e :: es) X.env = (false, eval e X.env) :: starEach es X.env)
    (hpl : ((backTo pos (starEach (e :: es) X.env)).any (·.1) || (backToKw pos (keywordEach kws X.env)).any (·.1.isNone)) = false) :
    PE X (.Call (.Name x p) (e :: es) kws pos) (fun σ => tCallN n ks.length sp gV (E σ) t tk σ) := by
  refine ⟨fun pins s σ H Q I h => ?_⟩
  refine wpAny_Call_Name_kw (ld_glob I hg hm ?_ hdb)
  refine PySem.W.callWith_KW (h₀ := X.base) I.ok.mod.kin hk hall (thn (ha.run pos pins s σ H _ I h) fun us s1 ⟨vs, H1, I1, r, q⟩ => ?_) hpl he
  refine thn (hkw.run pos pins s1 σ H1 _ I1 q) fun ws s2 ⟨zs, H2, I2, rz, l1, l2, q2⟩ => ⟨I2.kIn, ?_⟩
  rw [hks]
  exact run_fnNS F hr hb (hx σ) I2 r rz l1 l2 q2
end
def aCat (m mk : MA) : MA := fun env S => (m env S).bind fun ds S1 => (mk env S1).bind fun es S2 => .ok (ds ++ es) S2
structure SK (X : Cx) (Y : Gam) (W : WX) (kws : List Keyword) (t : TA) (m : MA) : Prop where
  pk : PK X kws t
  sim : SimA Y W t m
  len : ∀ env S ds S1, m env S = .ok ds S1 → ds.length = kws.length
section
variable {X : Cx} {Y : Gam} {W : WX} {e : Expr} {es : List Expr} {te : TE} {me : ME} {p pos kpos : Pos} {kws : List Keyword} {t tk : TA} {m mk : MA} {nm : Str} {x : Str} {k n nk : Nat} {mf : MFn} {ks : List Str}
theorem k_nil : SK X Y W [] tNil aNil := ⟨pk_nil, fun w0 H0 w H σ env S O Q st p => p w H st (.refl w) [] RepL.nil_, fun env S ds S1 e => by cases e; rfl⟩
theorem k_cons (he : SE X Y W e te me) (hr : SK X Y W kws t m) : SK X Y W (⟨some nm, e, kpos⟩ :: kws) (tCons te t) (aCons me m) := ⟨pk_cons he.pe hr.pk, fun w0 H0 w H σ env S O Q st p =>
  he.sim w0 H0 w H σ env S O _ st ((PostX.bind p).imp fun d S1 w1 H1 st1 l1 p1 v r => hr.sim w0 H0 w1 H1 σ env S1 O _ st1 ((PostX.bind p1).imp fun ds S2 w2 H2 st2 l2 p2 vs rs => p2 w2 H2 st2 (.refl w2) (v :: vs) (RepL.cons_ (r.mono l2) rs))), fun env S ds S1 h => by
  unfold aCons at h
  cases e1 : me env S with
  | stuck => rw [e1] at h; cases h
  | exc c q s => rw [e1] at h; cases h
  | ok d s =>
    rw [e1] at h
    have h : ((m env s).bind fun ds S2 => R.ok (d :: ds) S2) = .ok ds S1 := h
    cases e2 : m env s with
    | stuck => rw [e2] at h; cases h
    | exc c q s => rw [e2] at h; cases h
    | ok d2 s2 =>
      rw [e2] at h
      have h : R.ok (d :: d2) s2 = .ok ds S1 := h
      cases h
      rw [List.length_cons, List.length_cons, hr.len _ _ _ _ e2]⟩
end
/-- a def called with n values and the keywords ks, in its parameters' order; dvs, dd fill up behind -/
def KnK (P : Program) (w : World) (K : PySem.W.Frag) (mg : Str → Option Value) (base : Heap) (Y : Gam) (k : Nat) (x : Str) (n : Nat) (ks : List Str) (mf : MFn) (dvs : List V) (dd : List D) : Prop :=
  ∃ (f : Addr) (fd : FuncData) (ps : List Str) (ds : List Value), FnOk P w K mg base (L2N.CX P w) k f fd ps (spOf Y (n + ks.length + dd.length) mf) ∧ mg x = some (.ref f) ∧ PySem.W.keepIn K (.ref f) = true ∧ KBn K fd ps n ks (fun us ws => us ++ ws ++ ds) (fun vs zs => vs ++ zs ++ dvs) ∧ ∀ w, RepL Y w dd dvs
section
variable {X : Cx} {Y : Gam} {W : WX} {e : Expr} {es : List Expr} {te : TE} {me : ME} {p pos kpos : Pos} {kws : List Keyword} {t tk : TA} {m mk : MA} {nm : Str} {x : Str} {k n nk : Nat} {mf : MFn} {ks : List Str} {dvs : List V} {dd : List D}
theorem cat_ok {env : Envr} {S S1 : Sto} {ds : List D} (h : aCat m mk env S = .ok ds S1) : ∃ as bs S2, m env S = .ok as S2 ∧ mk env S2 = .ok bs S1 ∧ ds = as ++ bs := by
  unfold aCat at h
  cases e1 : m env S with
  | stuck => rw [e1] at h; cases h
  | exc c q s => rw [e1] at h; cases h
  | ok d s =>
    rw [e1] at h
    have h : ((mk env s).bind fun ds S2 => R.ok (d ++ ds) S2) = .ok ds S1 := h
    cases e2 : mk env s with
    | stuck => rw [e2] at h; cases h
    | exc c q s => rw [e2] at h; cases h
    | ok d2 s2 =>
      rw [e2] at h
      have h : R.ok (d ++ d2) s2 = .ok ds S1 := h
      cases h
      exact ⟨d, d2, s, rfl, e2, rfl⟩
theorem sim_callK {g : Gam} (hdv : ∀ w, RepL g w dd dvs) (ha : SimA g W t m) (hk : SimA g W tk mk) (la : ∀ env S ds S1, m env S = .ok ds S1 → ds.length = n) (lk : ∀ env S ds S1, mk env S = .ok ds S1 → ds.length = nk)
    {w0 w : Wd} {H0 H : Hp} {σ : L2.St} {env : Envr} {S : Sto} {O : List (Option Addr)} {α : Type} {F : Ret → Sto → R α} {kk : α → Sto → Wd → Hp → Prop} {Q : VK}
    (st : StR g w0 H0 w H σ env S O) (p : PostX g W w0 H0 w σ env O ((aCat m mk env S).bind fun ds S1 => (mf (ds ++ dd) S1).bind F) kk)
    (fin : ∀ w1 H1 S1 r, StR g w0 H0 w1 H1 σ env S1 O → PostX g W w0 H0 w1 σ env O (r.bind F) kk → PostF g w1 H1 Q (WE W σ) r) : tCallN n nk (spOf g (n + nk + dd.length) mf) (fun vs zs => vs ++ zs ++ dvs) (WE W σ) t tk σ H Q := by
  have p : PostX g W w0 H0 w σ env O ((m env S).bind fun as S1 => (mk env S1).bind fun bs S2 => (mf (as ++ bs ++ dd) S2).bind F) kk := by
    unfold aCat at p
    cases e1 : m env S with
    | stuck => rw [e1] at p; exact p
    | exc c q s => rw [e1] at p; exact p
    | ok d s =>
      rw [e1] at p
      show PostX g W w0 H0 w σ env O ((mk env s).bind fun bs S2 => (mf (d ++ bs ++ dd) S2).bind F) kk
      have p : PostX g W w0 H0 w σ env O (((mk env s).bind fun es S2 => R.ok (d ++ es) S2).bind fun ds S1 => (mf (ds ++ dd) S1).bind F) kk := p
      cases e2 : mk env s with
      | stuck => rw [e2] at p; exact p
      | exc c q s => rw [e2] at p; exact p
      | ok d2 s2 => rw [e2] at p; exact p
  refine ha w0 H0 w H σ env S O _ st ?_
  have p2 := PostX.bind p
  cases e : m env S with
  | stuck => rw [e] at p2; exact p2
  | exc c q S2 => rw [e] at p2; exact p2
  | ok as S1 =>
    rw [e] at p2
    intro w1 H1 st1 l1 vs rs
    have p3 := p2 w1 H1 st1 l1
    refine hk w0 H0 w1 H1 σ env S1 O _ st1 ?_
    have p4 := PostX.bind p3
    cases e2 : mk env S1 with
    | stuck => rw [e2] at p4; exact p4
    | exc c q S2 => rw [e2] at p4; exact p4
    | ok bs S2 =>
      rw [e2] at p4
      intro w2 H2 st2 l2 zs rz
      have p5 := p4 w2 H2 st2 l2
      have l1' := la _ _ _ _ e
      have l2' := lk _ _ _ _ e2
      have r2 := ((rs.mono l2).append_ rz).append_ (hdv w2)
      refine ⟨by rw [← rs.len]; exact l1', by rw [← rz.len]; exact l2', ?_, w2, as ++ bs ++ dd, S2, st2.ok, r2, fin w2 H2 S2 _ st2 p5⟩
      rw [← r2.len, List.length_append, List.length_append, l1', l2']
theorem u_callK (h : KnK X.prog X.w X.K X.mg X.base Y k x n ks mf dvs dd) (hr : Room k X.A) (tk' : L2N.Takes X W) (ha : SA X Y W (e :: es) t m) (hk : SK X Y W kws tk mk) (hn : (e :: es).length = n := by rfl) (hnk : kws.length = ks.length := by rfl) (hg : Gl X x := by rfl)
    (hall : (backToKw pos (keywordEach kws X.env)).all (·.1.isSome) = true := by rfl) (hks : (backToKw pos (keywordEach kws X.env)).filterMap (·.1) = ks := by rfl)
    (hdb : (x == ("__debug__" : Str)) = false := by decide) (he : starEach (e :: es) X.env = (false, eval e X.env) :: starEach es X.env := by rfl)
    (hpl : ((backTo pos (starEach (e :: es) X.env)).any (·.1) || (backToKw pos (keywordEach kws X.env)).any (·.1.isNone)) = false := by rfl) :
    SE X Y W (.Call (.Name x p) (e :: es) kws pos) (fun σ => tCallN n ks.length (spOf Y (n + ks.length + dd.length) mf) (fun vs zs => vs ++ zs ++ dvs) (WE W σ) t tk σ) (eCall mf dd (aCat m mk)) := by
  obtain ⟨f, fd, ps, ds, F, hm, hkp, hb, hdv⟩ := h
  refine ⟨pe_callNS (E := WE W) F hr hg hm hkp hb (fun σ => L2N.passAt tk' σ) ha.pa hk.pk hall hks hdb he hpl, fun w0 H0 w H σ env S O Q st p => sim_callK hdv ha.sim hk.sim (fun env S ds S1 h => by rw [ha.len _ _ _ _ h]; exact hn) (fun env S ds S1 h => by rw [hk.len _ _ _ _ h]; exact hnk) st p fun w1 H1 S1 r st1 p1 => post_val st1 p1⟩
theorem v_callK (h : KnK X.prog X.w X.K X.mg X.base Y k x n ks mf dvs dd) (hr : Room k X.A) (tk' : L2N.Takes X W) (ha : SA X Y W (e :: es) t m) (hk : SK X Y W kws tk mk) (hn : (e :: es).length = n := by rfl) (hnk : kws.length = ks.length := by rfl) (hg : Gl X x := by rfl)
    (hall : (backToKw pos (keywordEach kws X.env)).all (·.1.isSome) = true := by rfl) (hks : (backToKw pos (keywordEach kws X.env)).filterMap (·.1) = ks := by rfl)
    (hdb : (x == ("__debug__" : Str)) = false := by decide) (he : starEach (e :: es) X.env = (false, eval e X.env) :: starEach es X.env := by rfl)
    (hpl : ((backTo pos (starEach (e :: es) X.env)).any (·.1) || (backToKw pos (keywordEach kws X.env)).any (·.1.isNone)) = false := by rfl) :
    SF X Y W (.Call (.Name x p) (e :: es) kws pos) (fun σ => tCallN n ks.length (spOf Y (n + ks.length + dd.length) mf) (fun vs zs => vs ++ zs ++ dvs) (WE W σ) t tk σ) (fCall mf dd (aCat m mk)) := by
  obtain ⟨f, fd, ps, ds, F, hm, hkp, hb, hdv⟩ := h
  refine ⟨pe_callNS (E := WE W) F hr hg hm hkp hb (fun σ => L2N.passAt tk' σ) ha.pa hk.pk hall hks hdb he hpl, fun w0 H0 w H σ env S O Q st p => sim_callK hdv ha.sim hk.sim (fun env S ds S1 h => by rw [ha.len _ _ _ _ h]; exact hn) (fun env S ds S1 h => by rw [hk.len _ _ _ _ h]; exact hnk) st p fun w1 H1 S1 r st1 p1 => post_own st1 p1⟩
end
/-- no defaults at all: the keywords' values stand behind the others -/
theorem kbn_of {K : PySem.W.Frag} {x qual : Str} {params : Arguments} {body : List Stmt} {scope : Scope} {kws : List (Str × V)} {f : Addr} {fd : FuncData} {ps : List Str} (F : FunD K x qual params body scope [] kws f fd) (n : Nat) (ks : List Str)
    (h : ∀ (kV doc pm : Value) (an : Option Addr) (cdv ct : Value) (us ws : List Value), us.length = n → ws.length = ks.length → bindArgs (PySem.W.fnOf x qual params body scope .none kV doc pm an cdv ct) ⟨us, ks.zip ws⟩ = pure (ps.zip (us ++ ws))) : KBn K fd ps n ks (fun us ws => us ++ ws ++ []) (fun vs zs => vs ++ zs ++ []) := by
  obtain ⟨oc, od, dV, kV, doc, pm, an, cdv, ct, osl, rfl, lk, hcd, hD, hK⟩ := F.ex
  rcases hD with ⟨_, rfl⟩ | ⟨e, _⟩
  · refine ⟨fun s us ws X l1 l2 => ?_, fun {vs us zs ws} r1 r2 => ?_⟩
    · rw [List.append_nil]
      exact .of_eq (h kV doc pm an cdv ct us ws l1 l2)
    · rw [List.append_nil, List.append_nil]
      exact r1.append r2
  · exact absurd rfl e
theorem knK_of {P : Program} {w : World} {K : PySem.W.Frag} {mg : Str → Option Value} {base : Heap} {Y : Gam} {k n m : Nat} {x : Str} {st : Stmt} {f : Addr} {fd : FuncData} {ps ks : List Str} {mf : MFn} (F : FnP K x x st [] f fd) (g : mg x = some (.ref f))
    (b : KBn K fd ps n ks (fun us ws => us ++ ws ++ []) (fun vs zs => vs ++ zs ++ [])) (h : FnOk P w K mg base (L2N.CX P w) k f fd ps (spOf Y m mf)) (hm : m = n + ks.length := by rfl) : KnK P w K mg base Y k x n ks mf [] [] :=
  ⟨f, fd, ps, [], by rw [hm] at h; exact h, g, F.kp, b, fun _ => RepL.nil_⟩
end Mm
namespace Mm
open PySem L2
/-! ### dicts whose keys are numbers and texts -/
def keyD : D → Option Key
  | .int i => some (.inl i)
  | .str x => some (.inr x)
  | _ => none
theorem rep_key {g : Gam} {w : Wd} {d : D} {v : V} {k : Key} (r : Rep g w d v) (h : keyD d = some k) : v = kV k := by
  cases d with
  | int i => cases h; exact rep_int r
  | str x => cases h; exact rep_str r
  | _ => cases h
def lookK (ks : List (Key × D)) (k : Key) : Option D := (ks.find? fun kv => decide (kv.1 = k)).map (·.2)
def putD (ks : List (Key × D)) (k : Key) (d : D) : List (Key × D) := if (ks.any fun kv => decide (kv.1 = k)) then ks.map fun kv => if kv.1 = k then (kv.1, d) else kv else ks ++ [(k, d)]
def dropD (ks : List (Key × D)) (k : Key) : List (Key × D) := ks.filter fun kv => decide (kv.1 ≠ k)
theorem RepK.nil_ {g : Gam} {w : Wd} : RepK g w [] [] := by unfold RepK; rfl
theorem RepK.cons_ {g : Gam} {w : Wd} {k : Key} {d : D} {ds : List (Key × D)} {v : V} {vs : List (Key × V)} (a : Rep g w d v) (b : RepK g w ds vs) : RepK g w ((k, d) :: ds) ((k, v) :: vs) := by
  unfold RepK
  exact ⟨v, vs, rfl, a, b⟩
theorem RepK.inv {g : Gam} {w : Wd} {k : Key} {d : D} {ds : List (Key × D)} {vs : List (Key × V)} (h : RepK g w ((k, d) :: ds) vs) : ∃ v r, vs = (k, v) :: r ∧ Rep g w d v ∧ RepK g w ds r := by
  unfold RepK at h
  exact h
theorem RepK.look {g : Gam} {w : Wd} (k : Key) : ∀ {ds : List (Key × D)} {vs : List (Key × V)}, RepK g w ds vs → (match lookK ds k with
    | some d => ∃ v, valV vs k = some v ∧ Rep g w d v
    | none => valV vs k = none)
  | [], vs, h => by
    unfold RepK at h
    subst h
    rfl
  | (k', d) :: ds, vs, h => by
    obtain ⟨v, r, rfl, a, b⟩ := h.inv
    have ih := RepK.look k b
    by_cases e : k' = k
    · have e1 : lookK ((k', d) :: ds) k = some d := by simp [lookK, e]
      rw [e1]
      exact ⟨v, valV_pos e, a⟩
    · have e1 : lookK ((k', d) :: ds) k = lookK ds k := by simp [lookK, e]
      rw [e1, valV_neg e]
      exact ih
theorem RepK.any_ {g : Gam} {w : Wd} (k : Key) : ∀ {ds : List (Key × D)} {vs : List (Key × V)}, RepK g w ds vs → (ds.any fun kv => decide (kv.1 = k)) = (vs.any fun kv => decide (kv.1 = k))
  | [], vs, h => by
    unfold RepK at h
    subst h
    rfl
  | (k', d) :: ds, vs, h => by
    obtain ⟨v, r, rfl, a, b⟩ := h.inv
    rw [List.any_cons, List.any_cons, RepK.any_ k b]
theorem RepK.app_ {g : Gam} {w : Wd} : ∀ {ds es : List (Key × D)} {vs us : List (Key × V)}, RepK g w ds vs → RepK g w es us → RepK g w (ds ++ es) (vs ++ us)
  | [], es, vs, us, h, k => by
    unfold RepK at h
    subst h
    exact k
  | (k', d) :: ds, es, vs, us, h, k => by
    obtain ⟨v, r, rfl, a, b⟩ := h.inv
    exact RepK.cons_ a (RepK.app_ b k)
theorem RepK.map_ {g : Gam} {w : Wd} {k : Key} {d : D} {v : V} (q : Rep g w d v) : ∀ {ds : List (Key × D)} {vs : List (Key × V)}, RepK g w ds vs → RepK g w (ds.map fun kv => if kv.1 = k then (kv.1, d) else kv) (vs.map fun kv => if kv.1 = k then (kv.1, v) else kv)
  | [], vs, h => by
    unfold RepK at h
    subst h
    exact RepK.nil_
  | (k', e) :: ds, vs, h => by
    obtain ⟨u, r, rfl, a, b⟩ := h.inv
    have ih := RepK.map_ (k := k) q b
    by_cases z : k' = k
    · simp only [List.map_cons, z, if_true]
      exact RepK.cons_ q ih
    · simp only [List.map_cons, z, if_false]
      exact RepK.cons_ a ih
theorem RepK.put_ {g : Gam} {w : Wd} {k : Key} {d : D} {v : V} (q : Rep g w d v) {ds : List (Key × D)} {vs : List (Key × V)} (h : RepK g w ds vs) : RepK g w (putD ds k d) (putK vs k v) := by
  unfold putD putK
  rw [h.any_ k]
  split
  · exact RepK.map_ q h
  · exact h.app_ (RepK.cons_ q RepK.nil_)
theorem RepK.drop_ {g : Gam} {w : Wd} (k : Key) : ∀ {ds : List (Key × D)} {vs : List (Key × V)}, RepK g w ds vs → RepK g w (dropD ds k) (dropK vs k)
  | [], vs, h => by
    unfold RepK at h
    subst h
    exact RepK.nil_
  | (k', e) :: ds, vs, h => by
    obtain ⟨u, r, rfl, a, b⟩ := h.inv
    have ih := RepK.drop_ k b
    unfold dropD dropK at ih ⊢
    by_cases z : k' = k
    · simpa [z] using ih
    · simp only [List.filter_cons, z, ne_eq, not_false_eq_true, decide_true, if_true]
      exact RepK.cons_ a ih
theorem RepK.len {g : Gam} {w : Wd} : ∀ {ds : List (Key × D)} {vs : List (Key × V)}, RepK g w ds vs → ds.length = vs.length
  | [], vs, h => by
    unfold RepK at h
    subst h
    rfl
  | (k', d) :: ds, vs, h => by
    obtain ⟨v, r, rfl, a, b⟩ := h.inv
    rw [List.length_cons, List.length_cons, RepK.len b]
theorem rep_dic {g : Gam} {w : Wd} {ks : List (Key × D)} {v : V} (h : Rep g w (.dic ks) v) : ∃ a vs, v = .ref a ∧ w.G a = some (.dK vs) ∧ RepK g w ks vs := by
  unfold Rep at h
  exact h
/-- the dict that a value is -/
def dicOf (S : Sto) : D → Option (List (Key × D))
  | .dic ks => some ks
  | .ref n => (match S[n]? with
    | some (.dic ks) => some ks
    | _ => none)
  | _ => none
theorem dicOf_rep {g : Gam} {w : Wd} {H : Hp} {S : Sto} {d : D} {v : V} {ks : List (Key × D)} (k : Ok g w H S) (r : Rep g w d v) (h : dicOf S d = some ks) : ∃ a vs, v = .ref a ∧ H a = some (.dK vs) ∧ RepK g w ks vs := by
  cases d with
  | dic ks' =>
    cases h
    obtain ⟨a, vs, e1, e2, e3⟩ := rep_dic r
    exact ⟨a, vs, e1, k.ex _ _ e2, e3⟩
  | ref n =>
    have h : (match S[n]? with
      | some (.dic ks) => some ks
      | _ => none) = some ks := h
    cases q : S[n]? with
    | none => rw [q] at h; cases h
    | some c =>
      rw [q] at h
      cases c with
      | dic ks' =>
        cases h
        obtain ⟨a, e1, e2⟩ := rep_ref r
        obtain ⟨_, vs, e3, e4⟩ := k.cells.at_ n a _ e1 q
        exact ⟨a, vs, e2, e3, e4⟩
      | _ => cases h
  | _ => cases h
/-- the dict in a slot, of one's own or not -/
def dicA (env : Envr) (S : Sto) (i : Nat) : Option (List (Key × D)) := match env[i]? with
  | some (.o (.dic ks)) => some ks
  | some (.v d) => dicOf S d
  | _ => none
def hasA (env : Envr) (i : Nat) : Bool := match env[i]? with
  | some (.o (.dic _)) => true
  | some (.v _) => true
  | _ => false
section
variable {g : Gam} {w0 w w1 : Wd} {H0 H H1 : Hp} {σ : L2.St} {env : Envr} {S S1 : Sto} {O : List (Option Addr)}
theorem hasA_at {i : Nat} (st : StR g w0 H0 w H σ env S O) (h : hasA env i = true) : ∃ v, σ[i]? = some (some v) := by
  unfold hasA at h
  split at h
  · rename_i ks e
    obtain ⟨q, e1, _⟩ := st.own_at e
    exact ⟨_, e1⟩
  · rename_i d e
    have hi : i < σ.length := by
      rw [← st.l1]
      exact (List.getElem?_eq_some_iff.mp e).1
    have hO : i < O.length := by
      rw [st.l2]
      exact hi
    obtain ⟨_, v, e1, r⟩ := st.sl i (.v d) σ[i] O[i] e (List.getElem?_eq_getElem hi) (List.getElem?_eq_getElem hO)
    exact ⟨v, by rw [List.getElem?_eq_getElem hi, e1]⟩
  · cases h
theorem dicA_at {i : Nat} {ks : List (Key × D)} {v : V} (st : StR g w0 H0 w H σ env S O) (hv : σ[i]? = some (some v)) (h : dicA env S i = some ks) : ∃ a vs, v = .ref a ∧ H a = some (.dK vs) ∧ RepK g w ks vs := by
  unfold dicA at h
  split at h
  · rename_i ks' e
    cases h
    obtain ⟨q, e1, e2, e3, ⟨vs, e4, e5⟩, _⟩ := st.own_at e
    rw [hv] at e1
    have e1 := Option.some.inj (Option.some.inj e1)
    exact ⟨q, vs, e1, e4, e5⟩
  · rename_i d e
    have hi : i < σ.length := by
      rw [← st.l1]
      exact (List.getElem?_eq_some_iff.mp e).1
    have hO : i < O.length := by
      rw [st.l2]
      exact hi
    obtain ⟨_, u, e1, r⟩ := st.sl i (.v d) σ[i] O[i] e (List.getElem?_eq_getElem hi) (List.getElem?_eq_getElem hO)
    rw [List.getElem?_eq_getElem hi, e1] at hv
    have hv := Option.some.inj (Option.some.inj hv)
    subst hv
    exact dicOf_rep st.ok r h
  · cases h
theorem dicA_has {i : Nat} {ks : List (Key × D)} (h : dicA env S i = some ks) : hasA env i = true := by
  unfold dicA at h
  unfold hasA
  cases q : env[i]? with
  | none => rw [q] at h; cases h
  | some s =>
    cases s with
    | no => rw [q] at h; cases h
    | v d => rfl
    | o c =>
      cases c with
      | dic ks => rfl
      | lst ds => rw [q] at h; cases h
      | ins c fs => rw [q] at h; cases h
end
def eDGetA (i : Nat) (mk : ME) : ME := fun env S => if hasA env i then (mk env S).bind fun k S1 => (match keyD k, dicA env S1 i with
  | some k, some ks => opt (lookK ks k) S1
  | _, _ => .stuck) else .stuck
def eDGet (md mk : ME) : ME := fun env S => (md env S).bind fun d S1 => (mk env S1).bind fun k S2 => match keyD k, dicOf S2 d with
  | some k, some ks => opt (lookK ks k) S2
  | _, _ => .stuck
def eDInA (neg : Bool) (mk : ME) (i : Nat) : ME := fun env S => (mk env S).bind fun k S1 => match keyD k, dicA env S1 i with
  | some k, some ks => .ok (.bl (if neg then !(lookK ks k).isSome else (lookK ks k).isSome)) S1
  | _, _ => .stuck
def eDIn (neg : Bool) (mk md : ME) : ME := fun env S => (mk env S).bind fun k S1 => (md env S1).bind fun d S2 => match keyD k, dicOf S2 d with
  | some k, some ks => .ok (.bl (if neg then !(lookK ks k).isSome else (lookK ks k).isSome)) S2
  | _, _ => .stuck
def eDGet2A (i : Nat) (mk mx : ME) : ME := fun env S => (match dicA env S i with
  | some _ => (mk env S).bind fun k S1 => (mx env S1).bind fun x S2 => (match keyD k, dicA env S2 i with
    | some k, some ks => .ok ((lookK ks k).getD x) S2
    | _, _ => .stuck)
  | none => .stuck)
def sDPutA (i : Nat) (mk me : ME) : MS := fun env S => (me env S).out env fun d S1 => if hasA env i then (mk env S1).out env fun k S2 => (match keyD k, env[i]? with
    | some k, some (.o (.dic ks)) => if szB (ks.length + 1) then .nx (env.set i (.o (.dic (putD ks k d)))) S2 else .stuck
    | some k, some (.v (.ref n)) => (match S2[n]? with
      | some (.dic ks) => if szB (ks.length + 1) then .nx env (S2.set n (.dic (putD ks k d))) else .stuck
      | _ => .stuck)
    | _, _ => .stuck) else .stuck
def sDPut (md mk me : ME) : MS := fun env S => (me env S).out env fun d S1 => (md env S1).out env fun o S2 => (mk env S2).out env fun k S3 => (match keyD k, o with
    | some k, .ref n => (match S3[n]? with
      | some (.dic ks) => if szB (ks.length + 1) then .nx env (S3.set n (.dic (putD ks k d))) else .stuck
      | _ => .stuck)
    | _, _ => .stuck)
def fDic0 : MF := fun _ S => .ok (.dic []) S
/-- a thing of one's own becomes a cell -/
def eCellOf (mf : MF) : ME := fun env S => (mf env S).bind fun c S1 => .ok (.ref S1.length) (S1 ++ [c])
section
variable {X : Cx} {Y : Gam} {W : WX} {e o k f : Expr} {te td tk tx : TE} {me md mk mx : ME} {mf : MF} {pos pos' p1 apos cpos : Pos}
theorem look_get {g : Gam} {w : Wd} {H : Hp} {a : Addr} {vs : List (Key × V)} {ks : List (Key × D)} {k : Key} {d : D} (e : H a = some (.dK vs)) (r : RepK g w ks vs) (h : lookK ks k = some d) : ∃ v, DGet H a (kV k) (some v) ∧ Rep g w d v := by
  have q := r.look k
  rw [h] at q
  obtain ⟨v, e1, e2⟩ := q
  exact ⟨v, e1 ▸ DGet.k e, e2⟩
theorem nt_dK {vs : List (Key × V)} : ∀ ps, HO.dK vs ≠ .tbl ps := fun _ z => by cases z
theorem s_dgetA (i : Nat) {x : Str} (hu : X.A.units + 64 < cLine) (hk : SE X Y W k tk mk) (hs : NoSl k) (hN : X.N[i]? = some x := by rfl) (hv : Vis X.env.scope x := by first | exact Or.inl rfl | exact Or.inr (Or.inl rfl) | exact Or.inr (Or.inr rfl)) (hd : (x == ("__debug__" : Str)) = false := by decide)
    (hcd : (x == ("__classdict__" : Str)) = false := by decide) : SE X Y W (.Subscript (.Name x p1) k pos) (tDGet (tVar i) tk) (eDGetA i mk) := ⟨pe_dget (by omega) (pv i hN hv hd hcd) hk.pe hs, fun w0 H0 w H σ env S O Q st p => by
  unfold eDGetA at p
  split at p
  · rename_i ha
    obtain ⟨v, e1⟩ := hasA_at st ha
    refine ⟨v, e1, hk.sim w0 H0 w H σ env S O _ st ((PostX.bind p).imp fun kd S1 w1 H1 st1 l1 p1 kv kr => ?_)⟩
    split at p1
    · rename_i kk ks h1 h2
      obtain ⟨a, vs, f1, f2, f3⟩ := dicA_at st1 e1 h2
      obtain ⟨d, f4, f5⟩ := PostX.opt_ p1 st1
      obtain ⟨u, f6, f7⟩ := look_get (k := kk) f2 f3 f4
      rw [rep_key kr h1]
      exact ⟨a, u, f1, f6, f5 w1 H1 st1 (.refl w1) u f7⟩
    · exact False.elim p1
  · exact False.elim p⟩
theorem s_dget (hu : X.A.units + 64 < cLine) (ho : SE X Y W o td md) (hk : SE X Y W k tk mk) (hs : NoSl k) : SE X Y W (.Subscript o k pos) (tDGet td tk) (eDGet md mk) := ⟨pe_dget (by omega) ho.pe hk.pe hs, fun w0 H0 w H σ env S O Q st p =>
  ho.sim w0 H0 w H σ env S O _ st ((PostX.bind p).imp fun dd S1 w1 H1 st1 l1 p1 v r => hk.sim w0 H0 w1 H1 σ env S1 O _ st1 ((PostX.bind p1).imp fun kd S2 w2 H2 st2 l2 p2 kv kr => by
    split at p2
    · rename_i kk ks h1 h2
      obtain ⟨a, vs, f1, f2, f3⟩ := dicOf_rep st2.ok (r.mono l2) h2
      obtain ⟨d, f4, f5⟩ := PostX.opt_ p2 st2
      obtain ⟨u, f6, f7⟩ := look_get (k := kk) f2 f3 f4
      rw [rep_key kr h1]
      exact ⟨a, u, f1, f6, f5 w2 H2 st2 (.refl w2) u f7⟩
    · exact False.elim p2))⟩
theorem look_in {g : Gam} {w : Wd} {H : Hp} {a : Addr} {vs : List (Key × V)} {ks : List (Key × D)} (k : Key) (e : H a = some (.dK vs)) (r : RepK g w ks vs) : ∃ o, DGet H a (kV k) o ∧ o.isSome = (lookK ks k).isSome := by
  have q := r.look k
  refine ⟨valV vs k, DGet.k e, ?_⟩
  cases z : lookK ks k with
  | none => rw [z] at q; rw [q]; rfl
  | some d =>
    rw [z] at q
    obtain ⟨v, e1, _⟩ := q
    rw [e1]
    rfl
theorem sim_dinA {neg : Bool} {i : Nat} (hk : SimE Y W tk mk) {w0 w : Wd} {H0 H : Hp} {σ : L2.St} {env : Envr} {S : Sto} {O : List (Option Addr)} {Q : VK} (st : StR Y w0 H0 w H σ env S O)
    (p : PostX Y W w0 H0 w σ env O (eDInA neg mk i env S) (fun d _ w' H' => ∀ v, Rep Y w' d v → Q v H')) : tk σ H fun y H1 => ∃ v, σ[i]? = some (some v) ∧ ∃ a o, v = .ref a ∧ DGet H1 a y o ∧ Q (.bl (if neg then !o.isSome else o.isSome)) H1 :=
  hk w0 H0 w H σ env S O _ st ((PostX.bind p).imp fun kd S1 w1 H1 st1 l1 p1 kv kr => by
    split at p1
    · rename_i kk ks h1 h2
      obtain ⟨v, e1⟩ := hasA_at st1 (dicA_has h2)
      obtain ⟨a, vs, f1, f2, f3⟩ := dicA_at st1 e1 h2
      obtain ⟨oo, f4, f5⟩ := look_in kk f2 f3
      rw [rep_key kr h1]
      refine ⟨v, e1, a, oo, f1, f4, ?_⟩
      rw [f5]
      exact p1 w1 H1 st1 (.refl w1) _ rep_bl'
    · exact False.elim p1)
theorem sim_din {neg : Bool} (hk : SimE Y W tk mk) (ho : SimE Y W td md) {w0 w : Wd} {H0 H : Hp} {σ : L2.St} {env : Envr} {S : Sto} {O : List (Option Addr)} {Q : VK} (st : StR Y w0 H0 w H σ env S O)
    (p : PostX Y W w0 H0 w σ env O (eDIn neg mk md env S) (fun d _ w' H' => ∀ v, Rep Y w' d v → Q v H')) : tk σ H fun y H1 => td σ H1 fun v H2 => ∃ a o, v = .ref a ∧ DGet H2 a y o ∧ Q (.bl (if neg then !o.isSome else o.isSome)) H2 :=
  hk w0 H0 w H σ env S O _ st ((PostX.bind p).imp fun kd S1 w1 H1 st1 l1 p1 kv kr => ho w0 H0 w1 H1 σ env S1 O _ st1 ((PostX.bind p1).imp fun dd S2 w2 H2 st2 l2 p2 v r => by
    split at p2
    · rename_i kk ks h1 h2
      obtain ⟨a, vs, f1, f2, f3⟩ := dicOf_rep st2.ok r h2
      obtain ⟨oo, f4, f5⟩ := look_in kk f2 f3
      rw [rep_key kr h1]
      refine ⟨a, oo, f1, f4, ?_⟩
      rw [f5]
      exact p2 w2 H2 st2 (.refl w2) _ rep_bl'
    · exact False.elim p2))
theorem c_dinA (i : Nat) {x : Str} (hu : X.A.units + 64 < cLine) (hk : SE X Y W k tk mk) (hN : X.N[i]? = some x := by rfl) (hv : Vis X.env.scope x := by first | exact Or.inl rfl | exact Or.inr (Or.inl rfl) | exact Or.inr (Or.inr rfl)) (hd : (x == ("__debug__" : Str)) = false := by decide)
    (hcd : (x == ("__classdict__" : Str)) = false := by decide) (hm : behindInMarks .In (.Name x p1) = false := by rfl) : SC X Y W (.Compare k [.In] [.Name x p1] pos) (tB (tDIn tk (tVar i))) (cB (eDInA false mk i)) :=
  ⟨pt_cmp (pc_din (by omega) hk.pe (pv i hN hv hd hcd)) hm, sim_test (te := tDIn tk (tVar i)) (fun w0 H0 w H σ env S O Q st p => sim_dinA (neg := false) hk.sim st p)⟩
theorem c_dninA (i : Nat) {x : Str} (hu : X.A.units + 64 < cLine) (hk : SE X Y W k tk mk) (hN : X.N[i]? = some x := by rfl) (hv : Vis X.env.scope x := by first | exact Or.inl rfl | exact Or.inr (Or.inl rfl) | exact Or.inr (Or.inr rfl)) (hd : (x == ("__debug__" : Str)) = false := by decide)
    (hcd : (x == ("__classdict__" : Str)) = false := by decide) (hm : behindInMarks .NotIn (.Name x p1) = false := by rfl) : SC X Y W (.Compare k [.NotIn] [.Name x p1] pos) (tB (tDNotIn tk (tVar i))) (cB (eDInA true mk i)) :=
  ⟨pt_cmp (pc_dnotin (by omega) hk.pe (pv i hN hv hd hcd)) hm, sim_test (te := tDNotIn tk (tVar i)) (fun w0 H0 w H σ env S O Q st p => sim_dinA (neg := true) hk.sim st p)⟩
theorem s_dinA (i : Nat) {x : Str} (hu : X.A.units + 64 < cLine) (hk : SE X Y W k tk mk) (hN : X.N[i]? = some x := by rfl) (hv : Vis X.env.scope x := by first | exact Or.inl rfl | exact Or.inr (Or.inl rfl) | exact Or.inr (Or.inr rfl)) (hd : (x == ("__debug__" : Str)) = false := by decide)
    (hcd : (x == ("__classdict__" : Str)) = false := by decide) (hm : behindInMarks .In (.Name x p1) = false := by rfl) : SE X Y W (.Compare k [.In] [.Name x p1] pos) (tDIn tk (tVar i)) (eDInA false mk i) :=
  ⟨pe_cmp (pc_din (by omega) hk.pe (pv i hN hv hd hcd)) hm, fun w0 H0 w H σ env S O Q st p => sim_dinA (neg := false) hk.sim st p⟩
theorem s_dninA (i : Nat) {x : Str} (hu : X.A.units + 64 < cLine) (hk : SE X Y W k tk mk) (hN : X.N[i]? = some x := by rfl) (hv : Vis X.env.scope x := by first | exact Or.inl rfl | exact Or.inr (Or.inl rfl) | exact Or.inr (Or.inr rfl)) (hd : (x == ("__debug__" : Str)) = false := by decide)
    (hcd : (x == ("__classdict__" : Str)) = false := by decide) (hm : behindInMarks .NotIn (.Name x p1) = false := by rfl) : SE X Y W (.Compare k [.NotIn] [.Name x p1] pos) (tDNotIn tk (tVar i)) (eDInA true mk i) :=
  ⟨pe_cmp (pc_dnotin (by omega) hk.pe (pv i hN hv hd hcd)) hm, fun w0 H0 w H σ env S O Q st p => sim_dinA (neg := true) hk.sim st p⟩
theorem s_din (hu : X.A.units + 64 < cLine) (hk : SE X Y W k tk mk) (ho : SE X Y W o td md) (hm : behindInMarks .In o = false := by rfl) : SE X Y W (.Compare k [.In] [o] pos) (tDIn tk td) (eDIn false mk md) :=
  ⟨pe_cmp (pc_din (by omega) hk.pe ho.pe) hm, fun w0 H0 w H σ env S O Q st p => sim_din (neg := false) hk.sim ho.sim st p⟩
theorem s_dnin (hu : X.A.units + 64 < cLine) (hk : SE X Y W k tk mk) (ho : SE X Y W o td md) (hm : behindInMarks .NotIn o = false := by rfl) : SE X Y W (.Compare k [.NotIn] [o] pos) (tDNotIn tk td) (eDIn true mk md) :=
  ⟨pe_cmp (pc_dnotin (by omega) hk.pe ho.pe) hm, fun w0 H0 w H σ env S O Q st p => sim_din (neg := true) hk.sim ho.sim st p⟩
theorem c_din (hu : X.A.units + 64 < cLine) (hk : SE X Y W k tk mk) (ho : SE X Y W o td md) (hm : behindInMarks .In o = false := by rfl) : SC X Y W (.Compare k [.In] [o] pos) (tB (tDIn tk td)) (cB (eDIn false mk md)) :=
  ⟨pt_cmp (pc_din (by omega) hk.pe ho.pe) hm, sim_test (te := tDIn tk td) (s_din (pos := pos) hu hk ho hm).sim⟩
theorem c_dnin (hu : X.A.units + 64 < cLine) (hk : SE X Y W k tk mk) (ho : SE X Y W o td md) (hm : behindInMarks .NotIn o = false := by rfl) : SC X Y W (.Compare k [.NotIn] [o] pos) (tB (tDNotIn tk td)) (cB (eDIn true mk md)) :=
  ⟨pt_cmp (pc_dnotin (by omega) hk.pe ho.pe) hm, sim_test (te := tDNotIn tk td) (s_dnin (pos := pos) hu hk ho hm).sim⟩
/-- d.get(k, x) of a slot's dict -/
theorem s_dget2A (i : Nat) {x : Str} (hu : X.A.units + 64 < cLine) (hk : SE X Y W k tk mk) (hx : SE X Y W f tx mx) (hN : X.N[i]? = some x := by rfl) (hv : Vis X.env.scope x := by first | exact Or.inl rfl | exact Or.inr (Or.inl rfl) | exact Or.inr (Or.inr rfl)) (hd : (x == ("__debug__" : Str)) = false := by decide)
    (hcd : (x == ("__classdict__" : Str)) = false := by decide) (m : M2 X (.Name x p1) "get" apos k f cpos := by exact ⟨rfl, rfl, rfl, rfl⟩) : SE X Y W (.Call (.Attribute (.Name x p1) "get" apos) [k, f] [] cpos) (tDGet2 (tVar i) tk tx) (eDGet2A i mk mx) :=
  ⟨pe_dget2 (by omega) (pv i hN hv hd hcd) hk.pe hx.pe m, fun w0 H0 w H σ env S O Q st p => by
  unfold eDGet2A at p
  split at p
  · rename_i ks0 h0
    obtain ⟨v, e1⟩ := hasA_at st (dicA_has h0)
    obtain ⟨a, vs, f1, f2, f3⟩ := dicA_at st e1 h0
    refine ⟨v, e1, a, f1, .inl ⟨vs, .inl f2⟩, hk.sim w0 H0 w H σ env S O _ st ((PostX.bind p).imp fun kd S1 w1 H1 st1 l1 p1 kv kr => hx.sim w0 H0 w1 H1 σ env S1 O _ st1 ((PostX.bind p1).imp fun xd S2 w2 H2 st2 l2 p2 xv xr => ?_))⟩
    split at p2
    · rename_i kk ks h1 h2
      obtain ⟨a', vs', g1, g2, g3⟩ := dicA_at st2 e1 h2
      rw [f1] at g1
      cases g1
      rw [rep_key kr h1]
      refine ⟨valV vs' kk, DGet.k g2, ?_⟩
      have q := g3.look kk
      refine p2 w2 H2 st2 (.refl w2) _ ?_
      cases z : lookK ks kk with
      | none => rw [z] at q; rw [q]; exact xr
      | some d =>
        rw [z] at q
        obtain ⟨u, e2, e3⟩ := q
        rw [e2]
        exact e3
    · exact False.elim p2
  · exact False.elim p⟩
theorem t_dputA (i : Nat) {x : Str} (hu : X.A.units + 64 < cLine) (hk : SE X Y W k tk mk) (he : SE X Y W e te me) (hN : X.N[i]? = some x := by rfl) (hv : Vis X.env.scope x := by first | exact Or.inl rfl | exact Or.inr (Or.inl rfl) | exact Or.inr (Or.inr rfl)) (hd : (x == ("__debug__" : Str)) = false := by decide)
    (hcd : (x == ("__classdict__" : Str)) = false := by decide) (hs : swapsWith e (some (.Subscript (.Name x p1) k pos')) pos.line X.env = pure false := by rfl) :
    SS X Y W (.Assign [.Subscript (.Name x p1) k pos'] e pos) (L2.sDPut (tVar i) tk te) (sDPutA i mk me) := ⟨ps_dput (by omega) (pv i hN hv hd hcd) hk.pe he.pe hs, fun w0 H0 w H σ env S O Dn st p => by
  refine he.sim w0 H0 w H σ env S O _ st ((PostS.out p).imp fun d S1 w1 H1 st1 l1 p1 v r => ?_)
  split at p1
  · rename_i ha
    obtain ⟨u, e1⟩ := hasA_at st1 ha
    refine ⟨u, e1, hk.sim w0 H0 w1 H1 σ env S1 O _ st1 ((PostS.out p1).imp fun kd S2 w2 H2 st2 l2 p2 kv kr => ?_)⟩
    split at p2
    · rename_i kk ks h1 h2
      split at p2
      · rename_i hz
        obtain ⟨q, f1, f2, f3, ⟨us, f4, f4'⟩, f5, f6, _⟩ := st2.own_at h2
        rw [e1] at f1
        have f1 := Option.some.inj (Option.some.inj f1)
        have hz2 : us.length < sizeLine := Nat.lt_of_lt_of_le (by rw [← f4'.len]; exact Nat.lt_succ_self _) (szB_le hz)
        rw [rep_key kr h1]
        refine ⟨q, _, f1, DPut.k f4 hz2, ?_⟩
        exact p2 w2 _ σ O (st2.mut h2 f2 ⟨_, upd_same, f4'.put_ (r.mono l2)⟩ nt_dK) (.refl w2)
      · exact False.elim p2
    · rename_i kk n h1 h2
      split at p2
      · rename_i ks hS
        split at p2
        · rename_i hz
          have hi : i < σ.length := by
            rw [← st2.l1]
            exact (List.getElem?_eq_some_iff.mp h2).1
          have hO : i < O.length := by
            rw [st2.l2]
            exact hi
          obtain ⟨_, y, ey, ry⟩ := st2.sl i (.v (.ref n)) σ[i] O[i] h2 (List.getElem?_eq_getElem hi) (List.getElem?_eq_getElem hO)
          rw [List.getElem?_eq_getElem hi, ey] at e1
          have e1 := Option.some.inj (Option.some.inj e1)
          obtain ⟨a, q1, q2⟩ := rep_ref ry
          obtain ⟨_, us, f4, f4'⟩ := st2.ok.cells.at_ n a _ q1 hS
          have hz2 : us.length < sizeLine := Nat.lt_of_lt_of_le (by rw [← f4'.len]; exact Nat.lt_succ_self _) (szB_le hz)
          rw [rep_key kr h1]
          refine ⟨a, _, by rw [← e1]; exact q2, DPut.k f4 hz2, ?_⟩
          obtain ⟨k3, f3⟩ := ok_cell (c' := .dic (putD ks kk d)) st2.ok q1 hS (o := .dK (putK us kk v)) ⟨_, upd_same, f4'.put_ (r.mono l2)⟩ nt_dK
          exact p2 w2 _ σ O (st2.after f3 k3) (.refl w2)
        · exact False.elim p2
      · exact False.elim p2
    · exact False.elim p2
  · exact False.elim p1⟩
theorem t_dput (hu : X.A.units + 64 < cLine) (ho : SE X Y W o td md) (hk : SE X Y W k tk mk) (he : SE X Y W e te me) (hs : swapsWith e (some (.Subscript o k pos')) pos.line X.env = pure false := by rfl) :
    SS X Y W (.Assign [.Subscript o k pos'] e pos) (L2.sDPut td tk te) (sDPut md mk me) := ⟨ps_dput (by omega) ho.pe hk.pe he.pe hs, fun w0 H0 w H σ env S O Dn st p => by
  refine he.sim w0 H0 w H σ env S O _ st ((PostS.out p).imp fun d S1 w1 H1 st1 l1 p1 v r => ?_)
  refine ho.sim w0 H0 w1 H1 σ env S1 O _ st1 ((PostS.out p1).imp fun od S2 w2 H2 st2 l2 p2 ov ro => ?_)
  refine hk.sim w0 H0 w2 H2 σ env S2 O _ st2 ((PostS.out p2).imp fun kd S3 w3 H3 st3 l3 p3 kv kr => ?_)
  split at p3
  · rename_i kk n h1
    split at p3
    · rename_i ks hS
      split at p3
      · rename_i hz
        obtain ⟨a, q1, q2⟩ := rep_ref (ro.mono l3)
        obtain ⟨_, us, f4, f4'⟩ := st3.ok.cells.at_ n a _ q1 hS
        have hz2 : us.length < sizeLine := Nat.lt_of_lt_of_le (by rw [← f4'.len]; exact Nat.lt_succ_self _) (szB_le hz)
        rw [rep_key kr h1]
        refine ⟨a, _, q2, DPut.k f4 hz2, ?_⟩
        obtain ⟨k3, f3⟩ := ok_cell (c' := .dic (putD ks kk d)) st3.ok q1 hS (o := .dK (putK us kk v)) ⟨_, upd_same, f4'.put_ ((r.mono l2).mono l3)⟩ nt_dK
        exact p3 w3 _ σ O (st3.after f3 k3) (.refl w3)
      · exact False.elim p3
    · exact False.elim p3
  · exact False.elim p3⟩
theorem f_dic0 : SF X Y W (.Dict [] [] pos) tDNewK fDic0 := ⟨pe_dnewK, fun w0 H0 w H σ env S O Q st p q hq => p w _ (st.lay hq nt_dK) (.refl w) q (st.own_new hq ⟨[], upd_same, RepK.nil_⟩)⟩
end
end Mm
namespace Mm
open PySem PySem.Spec PyProof.Rows L2 HT
/-! ### t[::-1] of a tuple -/
section
variable {prog : Program} {w : World} {A : Around} {E : Value → Shared → Prop} {s : Shared}
theorem sliceApplied_rev {sl : Addr} {vl vu vs : Value} {n : Nat} {Q : Int × Int × Nat → Shared → Prop} (hs : s.heap.IsSliceOf sl vl vu vs) (pl : IsPart vl none) (pu : IsPart vu none) (ps : IsPart vs (some (-1)))
    (h : Q ((n : Int) - 1, -1, n) s) : wpAny (model prog w) A (Builtin.Slice.sliceApplied (.ref sl) (pure (n : Int))) Q E s := by
  obtain ⟨os, hos, hcs, hds⟩ := id hs
  unfold Builtin.Slice.sliceApplied Builtin.Slice.sliceFields
  refine wpAny_bind (wpAny_bind (wpAny_field hos hds (x := vl) rfl (wpAny_bind (wpAny_field hos hds (x := vu) rfl (wpAny_bind (wpAny_field hos hds (x := vs) rfl (wpAny_pure ?_)))))))
  refine wpAny_bind (slicePart_ ps ?_)
  show wpAny _ _ (if ((-1 : Int) == 0) = true then _ else _) _ _ s
  rw [if_neg (by decide)]
  refine wpAny_bind (slicePart_ pl (wpAny_bind (slicePart_ pu (wpAny_bind (wpAny_pure ?_)))))
  show wpAny _ _ (pure ((n : Int) - 1, (-1 : Int), Builtin.Slice.slicePlaces ((n : Int) - 1) (-1) (-1))) _ _ s
  have e : Builtin.Slice.slicePlaces ((n : Int) - 1) (-1) (-1) = n := by
    unfold Builtin.Slice.slicePlaces
    have h1 : ¬ ((-1 : Int) > 0) := by decide
    rw [if_neg h1]
    by_cases h2 : (n : Int) - 1 > -1
    · rw [if_pos h2, show (- -1 : Int) = 1 by decide, Int.ediv_one]
      omega
    · rw [if_neg h2]
      omega
  rw [e]
  exact wpAny_pure h
theorem pick_rev (xs : Array Value) : ((List.range xs.size).filterMap fun (k : Nat) => xs[((xs.size : Int) - 1 + (k : Int) * -1).toNat]?).toArray = xs.toList.reverse.toArray := by
  have e : ((List.range xs.size).filterMap fun (k : Nat) => xs[((xs.size : Int) - 1 + (k : Int) * -1).toNat]?) = ((List.range xs.size).map fun k => xs.size - 1 - k).filterMap (xs[·]?) := by
    rw [List.filterMap_map]
    have z : (fun (k : Nat) => xs[((xs.size : Int) - 1 + (k : Int) * -1).toNat]?) = ((xs[·]?) ∘ fun k => xs.size - 1 - k) := by
      funext k
      show xs[((xs.size : Int) - 1 + (k : Int) * -1).toNat]? = xs[xs.size - 1 - k]?
      congr 1
      omega
    rw [z]
  rw [e, PySem.W.krv_range, List.filterMap_reverse, PySem.W.krv_all]
theorem getItem_tuple_rev {t sl : Addr} {items : Array Value} {vl vu vs : Value} {Q : Value → Shared → Prop} (ht : IsTup s.heap t items) (hs : s.heap.IsSliceOf sl vl vu vs) (pl : IsPart vl none) (pu : IsPart vu none) (ps : IsPart vs (some (-1)))
    (h : Q (.ref s.heap.objs.size) { s with heap := s.heap.push { cls := .type "tuple", data := .seq items.toList.reverse.toArray } })
    (hsz : items.size ≤ sizeLine) : wpAny (model prog w) A (getItem (.ref t) (.ref sl)) Q E s := by
  have htake : sizeOk (.seq items.toList.reverse.toArray) := by
    show items.toList.reverse.toArray.size ≤ sizeLine
    rw [List.size_toArray, List.length_reverse, Array.length_toList]
    exact hsz
  obtain ⟨os, hos, hcs, hds⟩ := id hs
  have hTs : s.TypeIs (.ref sl) "slice" := ⟨os, hos, hcs⟩
  unfold getItem
  try with_reducible refine wpAny_holding ?_
  first | refine wpAny_bind (wpAny_pure ?_) | skip
  refine wpAny_bind (wpAny_sequenceKey ht.typeIs (by decide) ?_)
  refine wpAny_bind (wpAny_callSpecial?_slot (name := Str.ofString "__getitem__") ht.typeIs PyProof.Rows.slot_tuple_getitem
    (wpAny_call_entry PyProof.Rows.slot_tuple_getitem ht.typeIs entry_tuple_getitem ?_ (args_tuple_getitem _ _)))
  show wpAny _ _ (Builtin.Tuple.tupleItemsOf (.ref t) >>= _) _ _ s
  refine wpAny_bind (tupleItemsOf_ ht ?_)
  refine wpAny_bind (wpAny_typeOf hTs ?_)
  rw [if_pos (by decide)]
  refine wpAny_bind (sliceApplied_rev hs pl pu ps ?_)
  have hno : ¬ (((items.size : Int) - 1 == 0 && (-1 : Int) == 1 && items.size == items.size) = true) := by
    intro q
    rw [Bool.and_eq_true, Bool.and_eq_true] at q
    exact absurd q.1.2 (by decide)
  show wpAny _ _ (if ((items.size : Int) - 1 == 0 && (-1 : Int) == 1 && items.size == items.size) = true then _ else _) _ _ s
  rw [if_neg hno, pick_rev]
  first
    | exact wpAny_bind (m := Builtin.Tuple.tupleExact _) (wpAny_newObj_type (wpAny_pure ⟨_, rfl, wpAny_pure h⟩) htake)
    | exact wpAny_bind (m := Builtin.Tuple.tupleExact _) (wpAny_newObj_type (wpAny_bind (wpAny_pure (wpAny_pure ⟨_, rfl, wpAny_pure h⟩))) htake)
    | exact wpAny_bind (wpAny_bind (m := Builtin.Tuple.tupleExact _) (wpAny_newObj_type (wpAny_pure (wpAny_pure ⟨_, rfl, wpAny_pure h⟩)) htake))
    | exact wpAny_bind (wpAny_bind (m := Builtin.Tuple.tupleExact _) (wpAny_newObj_type (wpAny_pure ⟨_, rfl, wpAny_pure h⟩) htake))
end
section
variable {X : Cx}
def tRevT (K : PySem.W.Frag) (te : TE) : TE := fun σ H Q => te σ H fun x H1 => ∃ a xs, x = .ref a ∧ SqT K H1 a xs ∧ ∀ p, H1 p = none → Q (.ref p) (upd H1 p (.tup xs.reverse))
theorem pe_revT {e : Expr} {te : TE} {k : Nat} {p1 p2 p3 pos : Pos} (he : PE X e te) : PE X (.Subscript e (.Slice none none (some (.UnaryOp .USub (.Constant (.int 1) k p1) p2)) p3) pos) (tRevT X.K te) := by
  refine ⟨fun pins s σ H Q I h => ?_⟩
  refine Subscript_ (thn (he.run pins s σ H _ I h) fun v s1 ⟨x, H1, I1, r1, q1⟩ => ?_)
  obtain ⟨a, xs, ex, hx, q⟩ := q1
  subst ex
  cases r1
  have hst : PO X (some (.UnaryOp .USub (.Constant (.int 1) k p1) p2)) (tPart (tUn (rU fun i => .int (-i)) (tC (.int 1)))) := po_some (pe_un un_neg pe_int)
  refine wpAny_Slice (thn (po_none.run pins s1 σ H1 (fun o H2 => o = none ∧ H2 = H1) I1 ⟨rfl, rfl⟩) fun vl s2 ⟨l, H2, I2, pl, el, e2⟩ => ?_)
  subst el e2
  refine thn (po_none.run pins s2 σ H2 (fun o H3 => o = none ∧ H3 = H2) I2 ⟨rfl, rfl⟩) fun vu s3 ⟨u, H3, I3, pu, eu, e3⟩ => ?_
  subst eu e3
  refine thn (hst.run pins s3 σ H3 (fun o H4 => o = some (-1) ∧ H4 = H3) I3 ⟨1, rfl, -1, rfl, rfl, rfl⟩) fun vs s4 ⟨o, H4, I4, ps, eo, e4⟩ => ?_
  subst eo e4
  have I5 : Inv X pins σ H4 { s4 with heap := s4.heap.push { cls := .type "slice", data := .fields #[vl, vu, vs] } } := I4.kept (t' := s4.toks) fun b ob q => Heap.get?_push_of_some _ q
  obtain ⟨its, r, ht, hz⟩ := I5.tuple hx
  have hlen := r.length
  show wpAny (model X.prog X.w) X.A (subscriptTail e (.Slice none none (some (.UnaryOp .USub (.Constant (.int 1) k p1) p2)) p3) (.ref a) (.ref s4.heap.objs.size)) (EP X pins σ Q) X.xe { s4 with heap := s4.heap.push { cls := .type "slice", data := .fields #[vl, vu, vs] } }
  refine tail_any (ops := [.ref a, .ref s4.heap.objs.size]) ht.typeIs (PyProof.Rows.slot_tuple_getitem.lookup) ?_ (by with_unfolding_all rfl)
  refine getItem_tuple_rev ht (Heap.IsSliceOf.new _ vl vu vs) pl pu ps ?_ (by rw [List.size_toArray]; omega)
  refine ⟨.ref _, _, I5.laid (t' := s4.toks) (o := .tup xs.reverse) (fun b ob q => Heap.get?_push_of_some _ q) (Nat.le_refl _) ?_, rfl, q _ (I5.hok.fresh (Nat.le_refl _))⟩
  exact ⟨by rw [List.length_reverse]; exact hz, _, r.reverse, ⟨_, Heap.get?_push_size _ rfl, rfl, 0, by simp⟩⟩
end
end Mm
namespace Mm
open PySem L2
theorem RepL.rev_ {g : Gam} {w : Wd} : ∀ {ds : List D} {vs : List V}, RepL g w ds vs → RepL g w ds.reverse vs.reverse
  | [], vs, h => by
    unfold RepL at h
    rw [h]
    exact RepL.nil_
  | d :: ds, vs, h => by
    unfold RepL at h
    obtain ⟨v, r, e, a, b⟩ := h
    rw [e, List.reverse_cons, List.reverse_cons]
    exact (RepL.rev_ b).append_ (RepL.cons_ a RepL.nil_)
def eRevT (m : ME) : ME := fun env S => (m env S).bind fun d S1 => match d with
  | .tup ds => .ok (.tup ds.reverse) S1
  | _ => .stuck
/-- xs.clear(), xs of one's own -/
def sClr (i : Nat) : MS := fun env S => match env[i]? with
  | some (.o (.lst _)) => .nx (env.set i (.o (.lst []))) S
  | _ => .stuck
section
variable {X : Cx} {Y : Gam} {W : WX} {e : Expr} {te : TE} {me : ME} {pos : Pos}
theorem s_revT {k : Nat} {p1 p2 p3 : Pos} (he : SE X Y W e te me) (hK : X.K = Y.K := by rfl) : SE X Y W (.Subscript e (.Slice none none (some (.UnaryOp .USub (.Constant (.int 1) k p1) p2)) p3) pos) (tRevT Y.K te) (eRevT me) :=
  ⟨hK ▸ pe_revT he.pe, fun w0 H0 w H σ env S O Q st p => he.sim w0 H0 w H σ env S O _ st ((PostX.bind p).imp fun d S1 w1 H1 st1 l1 p1 v r => by
    cases d with
    | tup ds =>
      obtain ⟨a, vs, e1, e2, e3⟩ := rep_tup r
      refine ⟨a, vs, e1, same_sqT st1.ok.ex e2, fun q hq => ?_⟩
      have G := Grow.one (w := w1) (o := .tup vs.reverse) hq nt_tup
      exact p1 _ _ (st1.grow G) (G.le st1.ok) _ (rep_tup_new st1.ok hq e3.rev_)
    | _ => exact False.elim p1)⟩
theorem t_clr (i : Nat) {x : Str} {p1 apos cpos : Pos} (hK : X.K = Y.K := by rfl) (hN : X.N[i]? = some x := by rfl) (hv : Vis X.env.scope x := by first | exact Or.inl rfl | exact Or.inr (Or.inl rfl) | exact Or.inr (Or.inr rfl)) (hd : (x == ("__debug__" : Str)) = false := by decide)
    (hcd : (x == ("__classdict__" : Str)) = false := by decide) (hbase : attributeBase (.Name x p1) "clear" X.env (eval (.Name x p1) X.env) = eval (.Name x p1) X.env := by rfl)
    (hline : (apos.endLine == cpos.line) = true := by rfl)
    (hsw : swapsWith (.Call (.Attribute (.Name x p1) "clear" apos) [] [] cpos) none pos.line X.env = pure false := by rfl) :
    SS X Y W (.Expr (.Call (.Attribute (.Name x p1) "clear" apos) [] [] cpos) pos) (tDrop (tBM0 Y.K "list" rClear (tVar i))) (sClr i) :=
  ⟨hK ▸ ps_expr (pe_bm0 PySem.F.plainAttrs_list PySem.F.slot_list_clear PySem.F.type_list_clear mt_clear (pv i hN hv hd hcd) hbase hline) hsw, fun w0 H0 w H σ env S O Dn st p => by
    unfold sClr at p
    split at p
    · rename_i ds hs
      obtain ⟨q, e1, e2, e3, ⟨vs, e4, e4'⟩, e5, e6, hi⟩ := st.own_at hs
      refine ⟨.ref q, e1, tyV_lst e4, q, vs, rfl, rfl, e4, ?_⟩
      exact p w _ σ O (st.mut hs e2 ⟨_, upd_same, RepL.nil_⟩ nt_lst) (.refl w)
    · exact p.elim⟩
end
end Mm
namespace Mm
open PySem L2
@[simp] theorem eIdx_eq (mo me : ME) (env : Envr) (S : Sto) : eIdx mo me env S = (mo env S).bind fun d S1 => match d with
  | .lst ds => (me env S1).bind fun k S2 => (match k with
    | .int k => (match intsOf ds with
      | some ns => if k ∈ ns then .ok (.int (ns.idxOf k : Nat)) S2 else .stuck
      | none => .stuck)
    | _ => .stuck)
  | _ => .stuck := rfl
theorem fSet_eq (m : ME) (env : Envr) (S : Sto) : fSet m env S = (m env S).bind fun d S1 => match d with
  | .lst ds => (match intsOf ds with
    | some ns => if decide (ns.length ≤ 4000) then .ok ns S1 else .stuck
    | none => .stuck)
  | _ => .stuck := rfl
@[simp] theorem fSortedSet_eq (m : ME) (env : Envr) (S : Sto) : fSortedSet m env S = (fSet m env S).bind fun ns S1 => .ok (.lst ((srtS ns).map D.int)) S1 := rfl
@[simp] theorem eLenSet_eq (m : ME) (env : Envr) (S : Sto) : eLenSet m env S = (fSet m env S).bind fun ns S1 => .ok (.int (ddp ns).length) S1 := rfl
@[simp] theorem aCat_eq (m mk : MA) (env : Envr) (S : Sto) : aCat m mk env S = (m env S).bind fun ds S1 => (mk env S1).bind fun es S2 => .ok (ds ++ es) S2 := rfl
@[simp] theorem eRevT_eq (m : ME) (env : Envr) (S : Sto) : eRevT m env S = (m env S).bind fun d S1 => match d with
  | .tup ds => .ok (.tup ds.reverse) S1
  | _ => .stuck := rfl
@[simp] theorem sClr_eq (i : Nat) (env : Envr) (S : Sto) : sClr i env S = (match env[i]? with
  | some (.o (.lst _)) => .nx (env.set i (.o (.lst []))) S
  | _ => .stuck) := rfl
@[simp] theorem fDic0_eq (env : Envr) (S : Sto) : fDic0 env S = .ok (.dic []) S := rfl
@[simp] theorem d_dic (ks : List (Key × D)) : (Cell.dic ks).d = .dic ks := rfl
@[simp] theorem keyD_int (i : Int) : keyD (.int i) = some (.inl i) := rfl
@[simp] theorem keyD_str (x : Str) : keyD (.str x) = some (.inr x) := rfl
@[simp] theorem dicOf_dic (S : Sto) (ks : List (Key × D)) : dicOf S (.dic ks) = some ks := rfl
@[simp] theorem eDGetA_eq (i : Nat) (mk : ME) (env : Envr) (S : Sto) : eDGetA i mk env S = if hasA env i then (mk env S).bind fun k S1 => (match keyD k, dicA env S1 i with
  | some k, some ks => opt (lookK ks k) S1
  | _, _ => .stuck) else .stuck := rfl
@[simp] theorem eDGet_eq (md mk : ME) (env : Envr) (S : Sto) : eDGet md mk env S = (md env S).bind fun d S1 => (mk env S1).bind fun k S2 => match keyD k, dicOf S2 d with
  | some k, some ks => opt (lookK ks k) S2
  | _, _ => .stuck := rfl
@[simp] theorem eDInA_eq (neg : Bool) (mk : ME) (i : Nat) (env : Envr) (S : Sto) : eDInA neg mk i env S = (mk env S).bind fun k S1 => match keyD k, dicA env S1 i with
  | some k, some ks => .ok (.bl (if neg then !(lookK ks k).isSome else (lookK ks k).isSome)) S1
  | _, _ => .stuck := rfl
@[simp] theorem eDIn_eq (neg : Bool) (mk md : ME) (env : Envr) (S : Sto) : eDIn neg mk md env S = (mk env S).bind fun k S1 => (md env S1).bind fun d S2 => match keyD k, dicOf S2 d with
  | some k, some ks => .ok (.bl (if neg then !(lookK ks k).isSome else (lookK ks k).isSome)) S2
  | _, _ => .stuck := rfl
@[simp] theorem eDGet2A_eq (i : Nat) (mk mx : ME) (env : Envr) (S : Sto) : eDGet2A i mk mx env S = (match dicA env S i with
  | some _ => (mk env S).bind fun k S1 => (mx env S1).bind fun x S2 => (match keyD k, dicA env S2 i with
    | some k, some ks => .ok ((lookK ks k).getD x) S2
    | _, _ => .stuck)
  | none => .stuck) := rfl
@[simp] theorem sDPutA_eq (i : Nat) (mk me : ME) (env : Envr) (S : Sto) : sDPutA i mk me env S = (me env S).out env fun d S1 => if hasA env i then (mk env S1).out env fun k S2 => (match keyD k, env[i]? with
    | some k, some (.o (.dic ks)) => if szB (ks.length + 1) then .nx (env.set i (.o (.dic (putD ks k d)))) S2 else .stuck
    | some k, some (.v (.ref n)) => (match S2[n]? with
      | some (.dic ks) => if szB (ks.length + 1) then .nx env (S2.set n (.dic (putD ks k d))) else .stuck
      | _ => .stuck)
    | _, _ => .stuck) else .stuck := rfl
@[simp] theorem dicA_eq (env : Envr) (S : Sto) (i : Nat) : dicA env S i = (match env[i]? with
  | some (.o (.dic ks)) => some ks
  | some (.v d) => dicOf S d
  | _ => none) := rfl
@[simp] theorem hasA_eq (env : Envr) (i : Nat) : hasA env i = (match env[i]? with
  | some (.o (.dic _)) => true
  | some (.v _) => true
  | _ => false) := rfl
end Mm
namespace Fb
open PySem L2 Mm Gf
end Fb
namespace Fb
open PySem L2 Mm Gf
theorem ddp_count {xs L : List Nat} (hn : L.Nodup) (h : ∀ y, y ∈ L ↔ y ∈ xs) : (ddp (xs.map Int.ofNat)).length = L.length := by
  have n2 : (L.map Int.ofNat).Nodup := by
    rw [List.Nodup, List.pairwise_map]
    exact hn.imp fun {a b} z e => z (Int.ofNat.inj e)
  have p : (ddp (xs.map Int.ofNat)).Perm (L.map Int.ofNat) := (List.perm_ext_iff_of_nodup (ddp_nodup _) n2).mpr fun k => by
    rw [mem_ddp, List.mem_map, List.mem_map]
    constructor
    · rintro ⟨a, ha, e⟩
      exact ⟨a, (h a).mpr ha, e⟩
    · rintro ⟨a, ha, e⟩
      exact ⟨a, (h a).mp ha, e⟩
  rw [p.length_eq, List.length_map]
theorem srtS_nat {xs L : List Nat} (hs : L.Pairwise (· < ·)) (h : ∀ y, y ∈ L ↔ y ∈ xs) : srtS (xs.map Int.ofNat) = L.map Int.ofNat := by
  refine (srtS_of ?_ fun k => ?_).symm
  · rw [List.pairwise_map]
    exact hs.imp fun {a b} z => Int.ofNat_lt.mpr z
  · rw [List.mem_map, List.mem_map]
    constructor
    · rintro ⟨a, ha, e⟩
      exact ⟨a, (h a).mp ha, e⟩
    · rintro ⟨a, ha, e⟩
      exact ⟨a, (h a).mpr ha, e⟩
theorem srtS_len (ns : List Int) : (srtS ns).length = (ddp ns).length := by
  unfold srtS
  exact (isrt_perm _).length_eq
theorem reached_len (A : List Nat) : (ddp ((spl A).map Int.ofNat)).length = 2 ^ (bas A).length := by
  rw [ddp_count (lsp_nodup A) (fun y => by rw [mem_lsp, mem_spl]), lsp_len]
theorem bk_top {rs : List Nat} {x : Nat} (h : Sp rs x) : ∀ b ∈ kerL rs, (bk rs x).testBit b.log2 = false := fun b hb => by
  unfold bk lst
  cases q : trail rs x with
  | none => exact absurd h (trail_none.mp q)
  | some t => exact red_top t (kerL_rr rs) b hb
theorem bk_uniq {rs : List Nat} {x y : Nat} (h : Sp rs x) (hy : y < 2 ^ rs.length) (e : app rs y = x) (ht : ∀ b ∈ kerL rs, y.testBit b.log2 = false) : y = bk rs x := by
  have b1 := bk_app h
  have z : Sp (kerL rs) (y ^^^ bk rs x) := (kerL_sp (Nat.xor_lt_two_pow hy b1.2)).mpr (by rw [app_xor, e, b1.1, Nat.xor_self])
  refine xor_eq_zero ((kerL_rr rs).indep z fun b hb => ?_)
  rw [Nat.testBit_xor, ht b hb, bk_top h b hb]
  rfl
/-- backwards: the least one -/
theorem back_bk {rs : List Nat} {w : Nat} (a : All w rs) {x : Nat} (hx : x < 2 ^ w) : app (backL rs w) x = bk rs x := by
  refine bk_uniq (a x hx) (app_lt x (backL_lt a)) (backL_app a hx) fun b hb => Sp.bit (B := backL rs w) (fun c hc => ?_) ⟨x, rfl⟩
  obtain ⟨i, hi, rfl⟩ := List.mem_map.mp hc
  exact bk_top (a _ (Nat.pow_lt_pow_right (by decide) (List.mem_range.mp hi))) b hb
theorem bk_least {rs : List Nat} {x : Nat} (h : Sp rs x) : ∀ y, y < 2 ^ rs.length → app rs y = x → bk rs x ≤ y := by
  obtain ⟨m, e⟩ := lst_of h
  have := (lst_some e).2.2
  intro y hy ey
  unfold bk
  rw [e]
  exact this y hy ey
theorem back_bad (S : Sto) {rs : List Nat} {w : Nat} (h : FOk rs w) (n : (bas rs).length ≠ w) : m_Fold_back [fold rs w] S = .exc "NotOnto" none S := by
  have O := onto_ok S h
  rw [decide_eq_false n] at O
  simp [m_Fold_back, O]
/-- the place of a number in a list of numbers -/
theorem idx_nat (k : Nat) (xs : List Nat) : (xs.map Int.ofNat).idxOf (k : Int) = xs.idxOf k := by
  induction xs with
  | nil => rfl
  | cons x xs ih =>
    rw [List.map_cons, List.idxOf_cons, List.idxOf_cons, ih]
    have e : (Int.ofNat x == (k : Int)) = (x == k) := by
      rw [Bool.eq_iff_iff, beq_iff_eq, beq_iff_eq]
      exact Int.ofNat_inj
    rw [e]
theorem idx_range {n k : Nat} (f : Nat → Nat) {m : Nat} (hm : m < n) (e : f m = k) (least : ∀ j, j < n → f j = k → m ≤ j) : ((List.range n).map f).idxOf k = m := by
  have hl : ((List.range n).map f).length = n := by simp
  have mem : k ∈ (List.range n).map f := List.mem_map.mpr ⟨m, List.mem_range.mpr hm, e⟩
  have lt := List.idxOf_lt_length_of_mem mem
  have at_ := List.getElem_idxOf lt
  rw [hl] at lt
  rw [List.getElem_map, List.getElem_range] at at_
  have f1 : f (((List.range n).map f).idxOf k) = k := at_
  have le1 := least _ lt f1
  refine Nat.le_antisymm (Nat.le_of_not_lt fun l => ?_) le1
  have q := idx_ne (k := (k : Int)) (((List.range n).map f).map Int.ofNat) m (by rw [idx_nat]; exact l)
  apply q
  rw [List.getElem?_map, List.getElem?_map, List.getElem?_range hm]
  simp [e]
theorem rg_pow {d : Nat} (h : d ≤ 16) : rgB ((2 : Int) ^ d) = true := by
  have e : (2 : Int) ^ d = ((2 ^ d : Nat) : Int) := by simp
  have l : 2 ^ d ≤ 2 ^ 16 := Nat.pow_le_pow_right (by decide) h
  rw [e]
  exact rgB_nat (by have : (2 : Nat) ^ 16 = 65536 := by decide
                    omega)
theorem rng_pow (d : Nat) : rngD 0 ((2 : Int) ^ d).toNat = nl (List.range (2 ^ d)) := by
  have e : (2 : Int) ^ d = ((2 ^ d : Nat) : Int) := by simp
  rw [e, Int.toNat_natCast, rng0]
theorem enum_range (n : Nat) (f : Nat → Nat) : enumD 0 (nl ((List.range n).map f)) = (List.range n).map fun x => .tup [nd x, nd (f x)] := by
  have go : ∀ (xs : List Nat) (k : Nat), enumN k (xs.map f) = (xs.zip (List.range' k xs.length)).map fun p => (p.2, f p.1) := by
    intro xs
    induction xs with
    | nil => intro k; rfl
    | cons x xs ih =>
      intro k
      rw [List.map_cons, List.length_cons, List.range'_succ, List.zip_cons_cons, List.map_cons, ← ih]
      rfl
  have e := enumN_eq ((List.range n).map f) 0
  have e2 : enumD 0 (nl ((List.range n).map f)) = (enumN 0 ((List.range n).map f)).map pd := e
  rw [e2, go, List.length_range, List.range_eq_range', List.map_map]
  apply List.ext_getElem
  · simp
  · intro i h1 h2
    simp [pd]
theorem enum_spl (A : List Nat) : enumD 0 (nl (spl A)) = (List.range (2 ^ A.length)).map fun x => .tup [nd x, nd (app A x)] := by rw [spl_app, enum_range]
theorem nl_map_of {α : Type} (xs : List α) (f : α → Nat) : xs.map (fun x => nd (f x)) = nl (xs.map f) := by simp [nl]
theorem filter_len {n : Nat} (p : Nat → Bool) : ((List.range n).filter p).length ≤ n := by
  have := List.length_filter_le p (List.range n)
  simpa using this
theorem pow_le {d n : Nat} (h : d ≤ n) : 2 ^ d ≤ 2 ^ n := Nat.pow_le_pow_right (by decide) h
end Fb
namespace Mm
open PySem L2 Fb
/-- a law that goes so many rounds: ss the names' slots, c those of comprehensions -/
abbrev LE (ns : List Int) (ss : List Sl) (c : Nat) : Envr := .v (.scr ns) :: .v (.ref 0) :: (ss ++ List.replicate c .no)
def LI (ns : List Int) (k c : Nat) (P : List Sl → Prop) (e : Envr) (S : Sto) : Prop := ∃ b ss, S = [b] ∧ Bx b ∧ e = LE ns ss c ∧ ss.length = k ∧ P ss
theorem LI.mk {ns : List Int} {k c : Nat} {P : List Sl → Prop} {b : Cell} (ss : List Sl) (hb : Bx b) (hl : ss.length = k) (p : P ss) : LI ns k c P (LE ns ss c) [b] := ⟨b, ss, rfl, hb, rfl, hl, p⟩
theorem law_run {N k c : Nat} {kR : MS} (ns : List Int) (hN : N = 2 + k + c) (h : ∀ b, Bx b → EX (kR (LE ns (List.replicate k .no) c) [b]) fun r _ => r = .val (.bl true)) :
    ∃ S, mFn N (sSeq (sCell 1 (fCall m__law_box [] (aCons (eV 0) aNil))) kR) [.scr ns] [] = .ok (.val (.bl true)) S := by
  obtain ⟨b, e1, hb0⟩ := box_ok ns []
  have st : startE N [D.scr ns] = .v (.scr ns) :: List.replicate (1 + k + c) .no := by
    have : N - 1 = 1 + k + c := by omega
    simp [this]
  have c0 : sCell 1 (fCall m__law_box [] (aCons (eV 0) aNil)) (.v (.scr ns) :: List.replicate (1 + k + c) .no) [] = .nx (LE ns (List.replicate k .no) c) [b] := by
    have e2 : List.replicate (1 + k + c) Sl.no = .no :: (List.replicate k .no ++ List.replicate c .no) := by
      rw [Nat.add_assoc, Nat.add_comm 1, List.replicate_succ, List.replicate_append_replicate]
    rw [e2]
    simp [e1]
  have q := RX_iff.mp (EX_fn (n := N) (m := sSeq (sCell 1 (fCall m__law_box [] (aCons (eV 0) aNil))) kR) (ds := [.scr ns]) (S := []) (Q := fun r _ => r = .val (.bl true)) (by
    refine EX_seq ?_
    rw [st, c0]
    exact h b hb0))
  obtain ⟨r, S, e, rfl⟩ := q
  exact ⟨S, e⟩
theorem EX_for {ns : List Int} {k c n : Nat} {kB kF : MS} {ss : List Sl} {b : Cell} {Q : Ret → Sto → Prop} (P0 P : List Sl → Prop) (hn : n ≤ 1000) (hk : 0 < k) (hb : Bx b) (hl : ss.length = k) (p0 : P0 ss)
    (body : ∀ b ss, Bx b → ss.length = k → P0 ss → NX (kB (LE ns ss c) [b]) (LI ns k c P)) (h1 : ∀ ss d, P ss → P0 (ss.set 0 (.v d))) (h0 : ∀ ss d, P0 ss → P0 (ss.set 0 (.v d)))
    (fin : ∀ b ss, Bx b → ss.length = k → (if n = 0 then P0 ss else P ss) → EX (kF (LE ns ss c) [b]) Q) : EX (sSeq (sFor (itR1 (aCons (eC (.int n)) aNil)) (gN 2) kB) kF (LE ns ss c) [b]) Q := by
  have set2 : ∀ (ss : List Sl) (d : D), (LE ns ss c).set 2 (.v d) = if 0 < ss.length then LE ns (ss.set 0 (.v d)) c else (LE ns ss c).set 2 (.v d) := fun ss d => by
    cases ss with
    | nil => rfl
    | cons s r => rfl
  refine EX_seq ?_
  have it := itR1_nat (m := aCons (eC (.int n)) aNil) (env := LE ns ss c) (S := [b]) (n := n) rfl (by omega)
  rw [sFor_eq, it]
  show NX (forL (gN 2) kB (nl (List.range n)) (LE ns ss c) [b]) _
  refine NX_for (fun ds e S => LI ns k c (if ds.length < n then P else P0) e S ∧ ds.length ≤ n) ⟨?_, by simp⟩ (fun d ds e S h => ?_) (fun e S h => ?_)
  · refine LI.mk ss hb hl ?_
    have : ¬ ((nl (List.range n)).length < n) := by simp
    rw [if_neg this]
    exact p0
  · obtain ⟨⟨b, ss, rfl, hb, rfl, hl, p⟩, hz⟩ := h
    refine ⟨_, rfl, ?_⟩
    have ep : P0 (ss.set 0 (.v d)) := by
      split at p
      · exact h1 ss d p
      · exact h0 ss d p
    show NX (kB ((LE ns ss c).set 2 (.v d)) [b]) _
    rw [set2, if_pos (by omega)]
    refine NX_mono (body b (ss.set 0 (.v d)) hb (by rw [List.length_set]; exact hl) ep) fun e S h => ?_
    rw [List.length_cons] at hz
    rw [if_pos (show ds.length < n by omega)]
    exact ⟨h, by omega⟩
  · obtain ⟨⟨b, ss, rfl, hb, rfl, hl, p⟩, hz⟩ := h
    refine fin b ss hb hl ?_
    by_cases n0 : n = 0
    · subst n0
      simpa using p
    · rw [if_neg n0]
      rw [if_pos (show ([] : List D).length < n from Nat.pos_of_ne_zero n0)] at p
      exact p
/-- the plain kind: nothing is carried -/
theorem law_for {N k c n : Nat} {kB : MS} (ns : List Int) (hN : N = 2 + k + c) (hk : 0 < k) (hn : n ≤ 1000) (body : ∀ b ss, Bx b → ss.length = k → NX (kB (LE ns ss c) [b]) (LI ns k c fun _ => True)) :
    ∃ S, mFn N (sSeq (sCell 1 (fCall m__law_box [] (aCons (eV 0) aNil))) (sSeq (sFor (itR1 (aCons (eC (.int n)) aNil)) (gN 2) kB) (sRet (eC (.bl true))))) [.scr ns] [] = .ok (.val (.bl true)) S :=
  law_run ns hN fun b hb => EX_for (fun _ => True) (fun _ => True) hn hk hb (by simp) trivial (fun b ss hb hl _ => body b ss hb hl) (fun _ _ _ => trivial) (fun _ _ _ => trivial) fun b ss hb hl _ => rfl
end Mm
/-! Ways from one spread to another, in plain numbers. -/
namespace Gf
open Fb Mm
theorem xor4 (a s q : Nat) : a ^^^ s ^^^ (q ^^^ s) = a ^^^ q := Nat.eq_of_testBit_eq fun i => by
  simp only [Nat.testBit_xor]
  cases a.testBit i <;> cases s.testBit i <;> cases q.testBit i <;> rfl
theorem xor_swap (a b c d : Nat) : a ^^^ b ^^^ (c ^^^ d) = a ^^^ c ^^^ (b ^^^ d) := Nat.eq_of_testBit_eq fun i => by
  simp only [Nat.testBit_xor]
  cases a.testBit i <;> cases b.testBit i <;> cases c.testBit i <;> cases d.testBit i <;> rfl
theorem red_xor {B : List Nat} (h : RR B) (x y : Nat) : red (x ^^^ y) B = red x B ^^^ red y B := by
  have e : red (x ^^^ y) B = red (red x B ^^^ red y B) B := red_eq h (by
    have := (red_sp B x).xor (red_sp B y)
    rwa [show x ^^^ red x B ^^^ (y ^^^ red y B) = x ^^^ y ^^^ (red x B ^^^ red y B) by
      rw [Nat.xor_assoc, Nat.xor_assoc]
      congr 1
      rw [← Nat.xor_assoc, Nat.xor_comm (red x B) y, Nat.xor_assoc]] at this)
  rw [e]
  exact red_of fun b hb => by rw [Nat.testBit_xor, red_top x h b hb, red_top y h b hb]; rfl
theorem shr_xor (m x y : Nat) : (x ^^^ y) >>> m = x >>> m ^^^ y >>> m := Nat.eq_of_testBit_eq fun i => by simp [Nat.testBit_shiftRight, Nat.testBit_xor]
theorem shr_lt {x m l : Nat} (h : x < 2 ^ (m + l)) : x >>> m < 2 ^ l := by
  rw [Nat.shiftRight_eq_div_pow, Nat.div_lt_iff_lt_mul (Nat.two_pow_pos m), ← Nat.pow_add, Nat.add_comm]
  exact h
theorem shr_zero {x m : Nat} : x >>> m = 0 ↔ x < 2 ^ m := by
  rw [Nat.shiftRight_eq_div_pow, Nat.div_eq_zero_iff]
  have := Nat.two_pow_pos m
  omega
theorem zero_shr (m : Nat) : 0 >>> m = 0 := by simp
/-- the fold to a berth of the first spread that holds the cell -/
def fstL (A B : List Nat) (v : Nat) : List Nat := B.map (app (backL A v))
def swL (A : List Nat) (m : Nat) : List Nat := (kerL A).map (· >>> m)
def frL (A : List Nat) (m : Nat) : List Nat := can (swL A m)
def sw (A B : List Nat) (v m x : Nat) : Nat := red ((x ^^^ app (fstL A B v) x) >>> m) (frL A m)
theorem app_fst {A B : List Nat} {v : Nat} (a : All v A) (hB : ∀ r ∈ B, r < 2 ^ v) (x : Nat) : app (fstL A B v) x = bk A (app B x) := by
  unfold fstL
  rw [app_app, back_bk a (app_lt x hB)]
theorem fst_lt {A B : List Nat} {v : Nat} (a : All v A) : ∀ r ∈ fstL A B v, r < 2 ^ A.length := fun r hr => by
  obtain ⟨q, _, rfl⟩ := List.mem_map.mp hr
  exact app_lt q (backL_lt a)
theorem fst_app {A B : List Nat} {v : Nat} (a : All v A) (hB : ∀ r ∈ B, r < 2 ^ v) (x : Nat) : app A (app (fstL A B v) x) = app B x := by
  rw [app_fst a hB]
  exact (bk_app (a _ (app_lt x hB))).1
theorem frL_rr (A : List Nat) (m : Nat) : RR (frL A m) := can_rr _
theorem swL_sp {A : List Nat} {m z : Nat} : Sp (swL A m) z ↔ ∃ k, k < 2 ^ A.length ∧ app A k = 0 ∧ z = k >>> m := by
  unfold swL
  rw [Sp.map (f := (· >>> m)) (zero_shr m) (shr_xor m)]
  constructor
  · rintro ⟨k, h, e⟩
    have lt := h.lt (kerL_lt A)
    exact ⟨k, lt, (kerL_sp lt).mp h, e⟩
  · rintro ⟨k, lt, h, e⟩
    exact ⟨k, (kerL_sp lt).mpr h, e⟩
theorem swL_lt {A : List Nat} {m l : Nat} (h : A.length = m + l) : ∀ r ∈ swL A m, r < 2 ^ l := fun r hr => by
  obtain ⟨q, hq, rfl⟩ := List.mem_map.mp hr
  exact shr_lt (by rw [← h]; exact kerL_lt A q hq)
theorem frL_lt {A : List Nat} {m l : Nat} (h : A.length = m + l) : ∀ r ∈ frL A m, r < 2 ^ l := can_lt (swL_lt h)
theorem sw_zero (A B : List Nat) (v m : Nat) : sw A B v m 0 = 0 := by
  unfold sw
  rw [app_zero, Nat.xor_self, zero_shr]
  exact (red_zero (frL_rr A m)).mpr (.zero _)
theorem sw_xor (A B : List Nat) (v m x y : Nat) : sw A B v m (x ^^^ y) = sw A B v m x ^^^ sw A B v m y := by
  unfold sw
  rw [← red_xor (frL_rr A m), ← shr_xor, app_xor]
  congr 2
  rw [Nat.xor_assoc, Nat.xor_assoc]
  congr 1
  rw [← Nat.xor_assoc, Nat.xor_comm y, Nat.xor_assoc]
section
variable {A B : List Nat} {v m l : Nat} (hA : Lin (m + l) v A) (hB : Lin (m + l) v B)
include hA hB
theorem fst_lt' {x : Nat} : app (fstL A B v) x < 2 ^ (m + l) := by
  have := app_lt x (fst_lt (B := B) hA.all)
  rwa [hA.len] at this
theorem sw_lt {x : Nat} (hx : x < 2 ^ (m + l)) : sw A B v m x < 2 ^ l := red_lt (frL_lt hA.len) (shr_lt (Nat.xor_lt_two_pow hx (fst_lt' hA hB)))
/-- t is a turning of x -/
def Tng (A B : List Nat) (m x t : Nat) : Prop := ∃ h, h < 2 ^ A.length ∧ app A h = app B x ∧ t = (x ^^^ h) >>> m
theorem tng_iff {x t : Nat} : Tng A B m x t ↔ Sp (frL A m) (t ^^^ sw A B v m x) := by
  have s1 : Sp (frL A m) ((x ^^^ app (fstL A B v) x) >>> m ^^^ sw A B v m x) := red_sp _ _
  have f1 := fst_app hA.all hB.lt x
  have f2 : app (fstL A B v) x < 2 ^ A.length := by rw [hA.len]; exact fst_lt' hA hB
  constructor
  · rintro ⟨h, lt, e, rfl⟩
    have s2 : Sp (frL A m) ((h ^^^ app (fstL A B v) x) >>> m) := (can_sp _ _).mpr (swL_sp.mpr ⟨_, Nat.xor_lt_two_pow lt f2, by rw [app_xor, e, f1, Nat.xor_self], rfl⟩)
    have := s1.xor s2
    rw [Nat.xor_assoc, Nat.xor_comm (sw A B v m x), ← Nat.xor_assoc, ← shr_xor] at this
    rw [show x ^^^ app (fstL A B v) x ^^^ (h ^^^ app (fstL A B v) x) = x ^^^ h by
      rw [Nat.xor_comm h, ← Nat.xor_assoc, xor_cancel_right]] at this
    exact this
  · intro s
    have s3 := s.xor s1
    rw [xor4] at s3
    obtain ⟨k, lt, e, ek⟩ := swL_sp.mp ((can_sp _ _).mp s3)
    refine ⟨app (fstL A B v) x ^^^ k, Nat.xor_lt_two_pow f2 lt, by rw [app_xor, f1, e, Nat.xor_zero], ?_⟩
    rw [← Nat.xor_assoc, shr_xor, ← ek, ← Nat.xor_assoc, Nat.xor_comm _ t, xor_cancel_right]
theorem tng_sw (x : Nat) : Tng A B m x (sw A B v m x) := (tng_iff hA hB).mpr (by rw [Nat.xor_self]; exact .zero _)
theorem sw_least {x t : Nat} (h : Tng A B m x t) : sw A B v m x ≤ t := by
  obtain ⟨g, lt, e, rfl⟩ := h
  refine red_least (frL_rr A m) ?_
  have f1 := fst_app hA.all hB.lt x
  have f2 : app (fstL A B v) x < 2 ^ A.length := by rw [hA.len]; exact fst_lt' hA hB
  rw [← shr_xor, show x ^^^ app (fstL A B v) x ^^^ (x ^^^ g) = app (fstL A B v) x ^^^ g by
    rw [Nat.xor_comm x (app (fstL A B v) x), Nat.xor_assoc, xor_self_left]]
  exact (can_sp _ _).mpr (swL_sp.mpr ⟨_, Nat.xor_lt_two_pow f2 lt, by rw [app_xor, e, f1, Nat.xor_self], rfl⟩)
end
/-! ### sources -/
def stL (A : List Nat) (m : Nat) : List Nat := (kerL A).filter fun b => decide (b < 2 ^ m)
def nee (A B : List Nat) (v m x : Nat) : Nat := (x ^^^ app (fstL A B v) x) >>> m ^^^ sw A B v m x
def mkk (A B : List Nat) (v m x : Nat) : Nat := (trail (swL A m) (nee A B v m x)).getD 0
def src (A B : List Nat) (v m x : Nat) : Nat := red (app (fstL A B v) x ^^^ app (kerL A) (mkk A B v m x)) (stL A m)
theorem stL_rr (A : List Nat) (m : Nat) : RR (stL A m) := (kerL_rr A).filter _
theorem stL_sp {A : List Nat} {m z : Nat} (hz : z < 2 ^ A.length) : Sp (stL A m) z ↔ app A z = 0 ∧ z < 2 ^ m := by
  unfold stL
  rw [(kerL_rr A).low, kerL_sp hz]
theorem stL_lt (A : List Nat) (m : Nat) : ∀ b ∈ stL A m, b < 2 ^ A.length := fun b hb => kerL_lt A b (List.mem_filter.mp hb).1
theorem nee_sp (A B : List Nat) (v m x : Nat) : Sp (swL A m) (nee A B v m x) := (can_sp _ _).mp (red_sp (frL A m) _)
theorem mkk_ok (A B : List Nat) (v m x : Nat) : trail (swL A m) (nee A B v m x) = some (mkk A B v m x) ∧ app (swL A m) (mkk A B v m x) = nee A B v m x := by
  unfold mkk
  cases q : trail (swL A m) (nee A B v m x) with
  | none => exact absurd (nee_sp A B v m x) (trail_none.mp q)
  | some k => exact ⟨rfl, (trail_some q).1⟩
theorem ker_app_lt (A : List Nat) (k : Nat) : app (kerL A) k < 2 ^ A.length := app_lt k (kerL_lt A)
theorem ker_app (A : List Nat) (k : Nat) : app A (app (kerL A) k) = 0 := (kerL_sp (ker_app_lt A k)).mp ⟨k, rfl⟩
theorem swL_app (A : List Nat) (m k : Nat) : app (swL A m) k = app (kerL A) k >>> m := app_map (· >>> m) (zero_shr m) (shr_xor m) _ _
section
variable {A B : List Nat} {v m l : Nat} (hA : Lin (m + l) v A) (hB : Lin (m + l) v B)
include hA hB
theorem src_ok (x : Nat) : app A (src A B v m x) = app B x ∧ (x ^^^ src A B v m x) >>> m = sw A B v m x ∧ src A B v m x < 2 ^ A.length := by
  have f2 : app (fstL A B v) x < 2 ^ A.length := by rw [hA.len]; exact fst_lt' hA hB
  have lt0 : app (fstL A B v) x ^^^ app (kerL A) (mkk A B v m x) < 2 ^ A.length := Nat.xor_lt_two_pow f2 (ker_app_lt A _)
  have lt : src A B v m x < 2 ^ A.length := red_lt (stL_lt A m) lt0
  have s := red_sp (stL A m) (app (fstL A B v) x ^^^ app (kerL A) (mkk A B v m x))
  obtain ⟨h1, h2⟩ := (stL_sp (Nat.xor_lt_two_pow lt0 lt)).mp s
  have e1 : app A (src A B v m x) = app A (app (fstL A B v) x ^^^ app (kerL A) (mkk A B v m x)) := by
    rw [app_xor] at h1
    exact (xor_eq_zero h1).symm
  have e2 : src A B v m x >>> m = (app (fstL A B v) x ^^^ app (kerL A) (mkk A B v m x)) >>> m := by
    have := shr_zero.mpr h2
    rw [shr_xor] at this
    exact (xor_eq_zero this).symm
  refine ⟨by rw [e1, app_xor, fst_app hA.all hB.lt, ker_app, Nat.xor_zero], ?_, lt⟩
  rw [shr_xor, e2, shr_xor, ← swL_app, (mkk_ok A B v m x).2]
  unfold nee
  rw [shr_xor]
  refine Nat.eq_of_testBit_eq fun i => ?_
  simp only [Nat.testBit_xor]
  cases (x >>> m).testBit i <;> cases ((app (fstL A B v) x) >>> m).testBit i <;> cases (sw A B v m x).testBit i <;> rfl
theorem src_top (x : Nat) : ∀ b ∈ stL A m, (src A B v m x).testBit b.log2 = false := fun b hb => red_top _ (stL_rr A m) b hb
theorem src_uniq {x y : Nat} (hy : y < 2 ^ A.length) (e1 : app A y = app B x) (e2 : (x ^^^ y) >>> m = sw A B v m x) (ht : ∀ b ∈ stL A m, y.testBit b.log2 = false) : y = src A B v m x := by
  obtain ⟨h1, h2, h3⟩ := src_ok hA hB x
  have lt := Nat.xor_lt_two_pow hy h3
  refine xor_eq_zero ((stL_rr A m).indep ((stL_sp lt).mpr ⟨by rw [app_xor, e1, h1, Nat.xor_self], shr_zero.mp ?_⟩) fun b hb => by rw [Nat.testBit_xor, ht b hb, src_top hA hB x b hb]; rfl)
  have := e2.trans h2.symm
  rw [shr_xor, shr_xor] at this
  have : y >>> m = src A B v m x >>> m := by
    have q := congrArg (x >>> m ^^^ ·) this
    simpa [xor_self_left] using q
  rw [shr_xor, this, Nat.xor_self]
theorem src_least {x y : Nat} (hy : y < 2 ^ A.length) (e1 : app A y = app B x) (e2 : (x ^^^ y) >>> m = sw A B v m x) : src A B v m x ≤ y := by
  obtain ⟨h1, h2, h3⟩ := src_ok hA hB x
  have r : red y (stL A m) = src A B v m x := by
    have lt : red y (stL A m) < 2 ^ A.length := red_lt (stL_lt A m) hy
    obtain ⟨q1, q2⟩ := (stL_sp (Nat.xor_lt_two_pow hy lt)).mp (red_sp (stL A m) y)
    refine src_uniq hA hB lt ?_ ?_ fun b hb => red_top _ (stL_rr A m) b hb
    · rw [app_xor] at q1
      rw [← xor_eq_zero q1, e1]
    · have := shr_zero.mpr q2
      rw [shr_xor] at this
      rw [shr_xor, ← xor_eq_zero this, ← shr_xor, e2]
  rw [← r]
  exact red_least (stL_rr A m) (by rw [Nat.xor_self]; exact .zero _)
theorem src_zero : src A B v m 0 = 0 := (src_uniq hA hB (Nat.two_pow_pos _) (by rw [app_zero, app_zero]) (by rw [Nat.xor_zero, zero_shr, sw_zero]) fun b _ => Nat.zero_testBit _).symm
theorem src_xor (x y : Nat) : src A B v m (x ^^^ y) = src A B v m x ^^^ src A B v m y := by
  obtain ⟨h1, h2, h3⟩ := src_ok hA hB x
  obtain ⟨g1, g2, g3⟩ := src_ok hA hB y
  refine (src_uniq hA hB (Nat.xor_lt_two_pow h3 g3) (by rw [app_xor, app_xor, h1, g1]) ?_ fun b hb => by rw [Nat.testBit_xor, src_top hA hB x b hb, src_top hA hB y b hb]; rfl).symm
  rw [xor_swap, shr_xor, h2, g2, sw_xor]
end
/-! ### linear ones by their rows -/
def rowsOf (f : Nat → Nat) (d : Nat) : List Nat := (List.range d).map fun i => f (2 ^ i)
theorem rows_len (f : Nat → Nat) (d : Nat) : (rowsOf f d).length = d := by simp [rowsOf]
theorem rows_app {f : Nat → Nat} (f0 : f 0 = 0) (fx : ∀ x y, f (x ^^^ y) = f x ^^^ f y) {d x : Nat} (hx : x < 2 ^ d) : app (rowsOf f d) x = f x := by
  have e : rowsOf f d = (plain d).map f := by
    unfold rowsOf plain
    rw [List.map_map]
    rfl
  rw [e, app_map f f0 fx, app_plain d x hx]
theorem rows_lt {f : Nat → Nat} {d w : Nat} (h : ∀ x, x < 2 ^ d → f x < 2 ^ w) : ∀ r ∈ rowsOf f d, r < 2 ^ w := fun r hr => by
  obtain ⟨i, hi, rfl⟩ := List.mem_map.mp hr
  exact h _ (Nat.pow_lt_pow_right (by decide) (List.mem_range.mp hi))
theorem rows_sp {f : Nat → Nat} (f0 : f 0 = 0) (fx : ∀ x y, f (x ^^^ y) = f x ^^^ f y) {d t : Nat} : Sp (rowsOf f d) t ↔ ∃ x, x < 2 ^ d ∧ f x = t := by
  constructor
  · rintro ⟨k, e⟩
    refine ⟨k % 2 ^ d, Nat.mod_lt _ (Nat.two_pow_pos d), ?_⟩
    rw [← rows_app f0 fx (Nat.mod_lt _ (Nat.two_pow_pos d)), ← e]
    have := app_mod (rowsOf f d) k
    rwa [rows_len] at this
  · rintro ⟨x, hx, e⟩
    exact ⟨x, by rw [rows_app f0 fx hx, e]⟩
def trnL (A B : List Nat) (v m d : Nat) : List Nat := rowsOf (sw A B v m) d
def srcL (A B : List Nat) (v m d : Nat) : List Nat := rowsOf (src A B v m) d
/-- a span, rising -/
def spn (B : List Nat) : List Nat := nsrt (spl B)
theorem spn_mem {B : List Nat} {x : Nat} : x ∈ spn B ↔ Sp B x := by
  unfold spn
  rw [(nsrt_perm _).mem_iff, mem_spl]
theorem spn_lt {B : List Nat} (h : RR B) : (spn B).Pairwise (· < ·) := by
  have nd : (spn B).Nodup := (nsrt_perm _).nodup_iff.mpr (spl_nodup h)
  exact (List.pairwise_and_iff.mpr ⟨nsrt_sorted (spl B), nd⟩).imp fun {a b} z => Nat.lt_of_le_of_ne z.1 z.2
theorem spn_len (B : List Nat) : (spn B).length = 2 ^ B.length := by
  unfold spn
  rw [(nsrt_perm _).length_eq, spl_len]
theorem spn_head {B : List Nat} (h : RR B) : spn B = 0 :: (spn B).drop 1 := by
  have m0 : 0 ∈ spn B := spn_mem.mpr (.zero B)
  have p := spn_lt h
  cases q : spn B with
  | nil => rw [q] at m0; cases m0
  | cons a r =>
    rw [q] at m0 p
    rcases List.mem_cons.mp m0 with e | e
    · rw [← e]; rfl
    · have := (List.pairwise_cons.mp p).1 0 e
      omega
def rndL (T : List Nat) : List Nat := (spn (can T)).drop 1
theorem rnd_lt (T : List Nat) : (rndL T).Pairwise (· < ·) := (spn_lt (can_rr T)).sublist (List.drop_sublist _ _)
theorem rnd_mem {T : List Nat} {t : Nat} : t ∈ rndL T ↔ t ≠ 0 ∧ Sp T t := by
  have h := spn_head (can_rr T)
  have p := spn_lt (can_rr T)
  rw [h] at p
  have p1 := (List.pairwise_cons.mp p).1
  have e : t ∈ spn (can T) ↔ t = 0 ∨ t ∈ rndL T := by
    rw [h]
    exact List.mem_cons
  rw [spn_mem, can_sp] at e
  constructor
  · intro q
    exact ⟨Nat.ne_of_gt (p1 t q), e.mpr (.inr q)⟩
  · rintro ⟨q1, q2⟩
    rcases e.mp q2 with z | z
    · exact absurd z q1
    · exact z
theorem rnd_len (T : List Nat) : (rndL T).length = 2 ^ (can T).length - 1 := by
  unfold rndL
  rw [List.length_drop, spn_len]
/-- two rising lists with the same members -/
theorem rising_eq {xs ys : List Nat} (h1 : xs.Pairwise (· < ·)) (h2 : ys.Pairwise (· < ·)) (h : ∀ x, x ∈ xs ↔ x ∈ ys) : xs = ys :=
  List.Perm.eq_of_pairwise (fun a b _ _ z1 z2 => absurd z1 (Nat.lt_asymm z2)) h1 h2 (perm_of_mem (h1.imp fun z => Nat.ne_of_lt z) (h2.imp fun z => Nat.ne_of_lt z) h)
end Gf
namespace Fb
open PySem L2 Mm Gf
noncomputable def m__law_two_spreads : MFn := mFn 8 (sSeq (sAsg (eCall m__law_of [] (aCons (eV 0) (aCons (mFrz (fLst (aCons (eC (.int 7)) (aCons (eC (.int 5)) (aCons (eC (.int 4)) (aCons (eC (.int 3)) (aCons (eC (.int 6)) (aCons (eC (.int 2)) (aCons (eC (.int 1)) (aCons (eC (.int 0)) aNil)))))))))) aNil))) (gN 1))
    (sSeq (sAsg (mFrz (fLst (aCons (eV 1) (aCons (eV 1) (aCons (eCB fMax2 (aCons (eC (.int 0)) (aCons (eOp iSub (eV 1) (eC (.int 1))) aNil))) (aCons (eCall m__law_take [] (aCons (eV 0) (aCons (eOp dAdd (eV 1) (eC (.int 1))) aNil))) aNil)))))) (gN 2))
    (sSeq (sAsg (eCall m__law_of [] (aCons (eV 0) (aCons (eV 2) aNil))) (gN 3))
    (sSeq (sAsg (eCall m__law_lines [] (aCons (eV 0) (aCons (eV 1) (aCons (eV 3) aNil)))) (gN 4))
    (sSeq (sAsg (eCall m__law_take [] (aCons (eV 0) (aCons (eC (.int 4)) aNil))) (gN 5))
    (sSeq (sAsg (eCall m__law_lines [] (aCons (eV 0) (aCons (eV 1) (aCons (eV 3) aNil)))) (gN 6))
    (sSeq (sIf (cB (eOp fEq (eV 5) (eC (.int 0)))) (sAsg (eCB fTupOf (aCons (eCall m__law_shuffled [] (aCons (eV 0) (aCons (mFrz (fCB fListOf (aCons (eV 4) aNil))) aNil))) aNil)) (gN 6)) sNil)
    (sSeq (sIf (cAnd (cB (eOp fEq (eV 5) (eC (.int 1)))) (cB (eOp iGt (eV 1) (eC (.int 1))))) (sSeq (sAsg (eCall m__law_take [] (aCons (eV 0) (aCons (eOp iSub (eV 1) (eC (.int 1))) aNil))) (gN 7))
    (sAsg (eOp fCatT (eOp fCatT (eSlT (eV 4) oNone (oSome (eV 7))) (eRevT (eSlT (eV 4) (oSome (eV 7)) (oSome (eOp dAdd (eV 7) (eC (.int 2))))))) (eSlT (eV 4) (oSome (eOp dAdd (eV 7) (eC (.int 2)))) oNone)) (gN 6))) sNil)
    (sRet (eTup (aCons (eV 1) (aCons (eV 3) (aCons (eCall m__law_take [] (aCons (eV 0) (aCons (eOp dAdd (eV 1) (eC (.int 1))) aNil))) (aCons (eV 4) (aCons (eV 6) aNil)))))))))))))))
noncomputable def m__law_homes : MFn := mFn 4 (sSeq (sOwn 1 fDic0)
    (sSeq (sFor (itES (aCons (eCall m__law_images [] (aCons (eV 0) aNil)) aNil)) (gT (gNC (gN 2) (gNC (gN 3) gN0))) (sDPutA 1 (eV 3) (eOp dAdd (eDGet2A 1 (eV 3) (mFrz (fLst aNil))) (mFrz (fLst (aCons (eV 2) aNil))))))
    (sRetO 1)))
noncomputable def m__law_choices : MFn := mFn 8 (sSeq (sAsg (eCall m__law_homes [] (aCons (eV 0) aNil)) (gN 3))
    (sSeq (sOwn 4 (fLst aNil))
    (sSeq (sFor (itES (aCons (eCall m__law_images [] (aCons (eV 1) aNil)) aNil)) (gT (gNC (gN 5) (gNC (gN 6) gN0))) (sApp 4 (mFrz (fSortedSet (mFrz (fLc (itL (eDGetA 3 (eV 6))) (gN 7) cYes (eOp iShr (eOp iXor (eV 5) (eV 7)) (eV 2)) [7]))))))
    (sRetO 4))))
noncomputable def m_need_lanes : MFn := mFn 2 (sIf (cOr (cB (eOp iLt (eV 1) (eC (.int 0)))) (cB (eOp iGt (eV 1) (eMeth "Fold" "many" m_Fold_many [] (eV 0) aNil)))) (sRaise "BadSize") sNil)
noncomputable def m_need_spreads : MFn := mFn 3 (sSeq (sExpr (eCall m_need_lanes [] (aCons (eV 0) (aCons (eV 2) aNil))))
    (sSeq (sIf (cOr (cB (eOp fNe (eMeth "Fold" "many" m_Fold_many [] (eV 0) aNil) (eMeth "Fold" "many" m_Fold_many [] (eV 1) aNil))) (cB (eOp fNe (eMeth "Fold" "size" m_Fold_size [] (eV 0) aNil) (eMeth "Fold" "size" m_Fold_size [] (eV 1) aNil)))) (sRaise "Unfit") sNil)
    (sIf (cOr (cNot (cB (eMeth "Fold" "onto" m_Fold_onto [] (eV 0) aNil))) (cNot (cB (eMeth "Fold" "onto" m_Fold_onto [] (eV 1) aNil)))) (sRaise "NotOnto") sNil)))
noncomputable def m_LeadU_initU : MFn := mFn 5 (sSeq (sFldC "Lead" "low" (eV 0) (eOp iSub (eMeth "Fold" "many" m_Fold_many [] (eV 1) aNil) (eV 3)))
    (sSeq (sFldC "Lead" "lanes" (eV 0) (eV 3))
    (sSeq (sFldC "Lead" "first" (eV 0) (eMeth "Fold" "then" m_Fold_then [] (eV 2) (aCons (eMeth "Fold" "back" m_Fold_back [] (eV 1) aNil) aNil)))
    (sSeq (sFldC "Lead" "idle" (eV 0) (eMeth "Fold" "kernel" m_Fold_kernel [] (eV 1) aNil))
    (sSeq (sFldC "Lead" "swings" (eV 0) (mFrz (fLc (itL (eFld "Lead" "idle" (eV 0))) (gN 4) cYes (eOp iShr (eV 4) (eFld "Lead" "low" (eV 0))) [4])))
    (sFldC "Lead" "free" (eV 0) (eCall m_basis_of [] (aCons (eFld "Lead" "swings" (eV 0)) aNil))))))))
noncomputable def m_Lead_swing : MFn := mFn 2 (sRet (eCall m_reduced [] (aCons (eOp iShr (eOp iXor (eV 1) (eMeth "Fold" "to" m_Fold_to [] (eFld "Lead" "first" (eV 0)) (aCons (eV 1) aNil))) (eFld "Lead" "low" (eV 0))) (aCons (eFld "Lead" "free" (eV 0)) aNil))))
noncomputable def m_choices : MFn := mFn 7 (sSeq (sExpr (eCall m_need_spreads [] (aCons (eV 0) (aCons (eV 1) (aCons (eV 3) aNil)))))
    (sSeq (sIf (cOr (cB (eOp iLt (eV 2) (eC (.int 0)))) (cB (eOp iGt (eOp iShr (eV 2) (eMeth "Fold" "many" m_Fold_many [] (eV 0) aNil)) (eC (.int 0))))) (sRaise "NoBerth") sNil)
    (sSeq (sAsg (eNew "Lead" m_LeadU_initU [] (aCons (eV 0) (aCons (eV 1) (aCons (eV 3) aNil)))) (gN 4))
    (sSeq (sAsg (eMeth "Lead" "swing" m_Lead_swing [] (eV 4) (aCons (eV 2) aNil)) (gN 5))
    (sRetF (fCB fSorted (aCons (mFrz (fLc (itL (eCall m_span_of [] (aCons (eFld "Lead" "free" (eV 4)) aNil))) (gN 6) cYes (eOp iXor (eV 5) (eV 6)) [6])) aNil)))))))
noncomputable def m_Lead_still : MFn := mFn 4 (sSeq (sOwn 1 (fLst aNil))
    (sSeq (sAsg (eOp iShl (eC (.int 1)) (eFld "Lead" "low" (eV 0))) (gN 2))
    (sSeq (sFor (itL (eCall m_basis_of [] (aCons (eFld "Lead" "idle" (eV 0)) aNil))) (gN 3) (sIf (cB (eOp iLt (eV 3) (eV 2))) (sApp 1 (eV 3)) sNil))
    (sRetO 1))))
noncomputable def m_Lead_source : MFn := mFn 7 (sSeq (sAsg (eMeth "Fold" "to" m_Fold_to [] (eFld "Lead" "first" (eV 0)) (aCons (eV 1) aNil)) (gN 2))
    (sSeq (sAsg (eOp iXor (eOp iShr (eOp iXor (eV 1) (eV 2)) (eFld "Lead" "low" (eV 0))) (eMeth "Lead" "swing" m_Lead_swing [] (eV 0) (aCons (eV 1) aNil))) (gN 3))
    (sSeq (sAsg (eCall m_trail_to [] (aCons (eFld "Lead" "swings" (eV 0)) (aCons (eV 3) aNil))) (gN 4))
    (sSeq (sFor (itES (aCons (eFld "Lead" "idle" (eV 0)) aNil)) (gT (gNC (gN 5) (gNC (gN 6) gN0))) (sIf (cB (eOp fEq (eOp iAnd (eOp iShr (eV 4) (eV 5)) (eC (.int 1))) (eC (.int 1)))) (sAsg (eOp iXor (eV 2) (eV 6)) (gN 2)) sNil))
    (sRet (eCall m_reduced [] (aCons (eV 2) (aCons (eMeth "Lead" "still" m_Lead_still [] (eV 0) aNil) aNil))))))))
noncomputable def m_Lead_all_sources : MFn := mFn 5 (sSeq (sAsg (eOp dAdd (eFld "Lead" "low" (eV 0)) (eFld "Lead" "lanes" (eV 0))) (gN 1))
    (sSeq (sAsg (eNew "Fold" m_FoldU_initU [] (aCons (mFrz (fLc (itR1 (aCons (eV 1) aNil)) (gN 3) cYes (eMeth "Lead" "source" m_Lead_source [] (eV 0) (aCons (eOp iShl (eC (.int 1)) (eV 3)) aNil)) [3])) (aCons (eV 1) aNil))) (gN 2))
    (sRetF (fLc (itR1 (aCons (eOp iShl (eC (.int 1)) (eV 1)) aNil)) (gN 4) cYes (eMeth "Fold" "to" m_Fold_to [] (eV 2) (aCons (eV 4) aNil)) [4]))))
noncomputable def m_sources : MFn := mFn 3 (sSeq (sExpr (eCall m_need_spreads [] (aCons (eV 0) (aCons (eV 1) (aCons (eV 2) aNil)))))
    (sRetF (fMeth "Lead" "all_sources" m_Lead_all_sources [] (eNew "Lead" m_LeadU_initU [] (aCons (eV 0) (aCons (eV 1) (aCons (eV 2) aNil)))) aNil)))
noncomputable def m_Lead_turnings : MFn := mFn 2 (sRet (eNew "Fold" m_FoldU_initU [] (aCons (mFrz (fLc (itR1 (aCons (eOp dAdd (eFld "Lead" "low" (eV 0)) (eFld "Lead" "lanes" (eV 0))) aNil)) (gN 1) cYes (eMeth "Lead" "swing" m_Lead_swing [] (eV 0) (aCons (eOp iShl (eC (.int 1)) (eV 1)) aNil)) [1])) (aCons (eFld "Lead" "lanes" (eV 0)) aNil))))
noncomputable def m_rounds : MFn := mFn 3 (sSeq (sExpr (eCall m_need_spreads [] (aCons (eV 0) (aCons (eV 1) (aCons (eV 2) aNil)))))
    (sRetF (fSl (eCall m_span_of [] (aCons (eCall m_basis_of [] (aCons (eMeth "Fold" "rows" m_Fold_rows [] (eMeth "Lead" "turnings" m_Lead_turnings [] (eNew "Lead" m_LeadU_initU [] (aCons (eV 0) (aCons (eV 1) (aCons (eV 2) aNil)))) aNil) aNil) aNil)) aNil)) (oSome (eC (.int 1))) oNone)))
noncomputable def m_bound : MFn := mFn 5 (sSeq (sExpr (eCall m_need_spreads [] (aCons (eV 0) (aCons (eV 1) (aCons (eV 2) aNil)))))
    (sSeq (sAsg (eMeth "Lead" "turnings" m_Lead_turnings [] (eNew "Lead" m_LeadU_initU [] (aCons (eV 0) (aCons (eV 1) (aCons (eV 2) aNil)))) aNil) (gN 3))
    (sRetF (fCB fSorted (aCons (mFrz (fLc (itL (mFrz (fSl (eCall m_span_of [] (aCons (eCall m_basis_of [] (aCons (eMeth "Fold" "rows" m_Fold_rows [] (eV 3) aNil) aNil)) aNil)) (oSome (eC (.int 1))) oNone))) (gN 4) cYes (eMeth "Fold" "least" m_Fold_least [] (eV 3) (aCons (eV 4) aNil)) [4])) aNil)))))
noncomputable def m_boxes_of : MFn := mFn 2 (sRet (eNew "Fold" m_FoldU_initU [] (aCons (eSlT (eMeth "Fold" "rows" m_Fold_rows [] (eV 0) aNil) oNone (oSome (eOp iSub (eMeth "Fold" "many" m_Fold_many [] (eV 0) aNil) (eV 1)))) (aCons (eMeth "Fold" "size" m_Fold_size [] (eV 0) aNil) aNil))))
noncomputable def m_run : MFn := mFn 4 (sSeq (sExpr (eCall m_need_lanes [] (aCons (eV 0) (aCons (eV 1) aNil))))
    (sSeq (sAsg (eMeth "Fold" "rows" m_Fold_rows [] (eCall m_boxes_of [] (aCons (eV 0) (aCons (eV 1) aNil))) aNil) (gN 2))
    (sSeq (sAsg (eC (.int 0)) (gN 3))
    (sSeq (whL (cAnd (cB (eOp iLt (eV 3) (eCB fLen (aCons (eV 2) aNil)))) (cB (eOp fEq (eOp fIx (eV 2) (eV 3)) (eOp iShl (eC (.int 1)) (eV 3))))) (sAug 3 (fun i j => i + j) (eC (.int 1))) 100)
    (sRet (eV 3))))))
noncomputable def m_widest : MFn := mFn 6 (sSeq (sExpr (eCall m_need_lanes [] (aCons (eV 0) (aCons (eV 1) aNil))))
    (sSeq (sAsg (eCall m_boxes_of [] (aCons (eV 0) (aCons (eV 1) aNil))) (gN 2))
    (sSeq (sOwn 3 (fLst aNil))
    (sSeq (sAsg (eC (.int 0)) (gN 4))
    (sSeq (whL (cB (eOp iLt (eV 4) (eMeth "Fold" "size" m_Fold_size [] (eV 0) aNil))) (sSeq (sAsg (eMeth "Fold" "least" m_Fold_least [] (eV 2) (aCons (eOp iShl (eC (.int 1)) (eV 4)) aNil)) (gN 5))
    (sIf (cB (eOp fIs (eV 5) (eC .non))) (sAsg (eMeth "Fold" "size" m_Fold_size [] (eV 0) aNil) (gN 4)) (sSeq (sApp 3 (eV 5))
    (sAug 4 (fun i j => i + j) (eC (.int 1)))))) 100)
    (sFrz 3 (sRet (eTup (aCons (eLenA 3) (aCons (eNew "Fold" m_FoldU_initU [] (aCons (eOp dAdd (eV 3) (eCall m_rest [] (aCons (eV 3) (aCons (eMeth "Fold" "many" m_Fold_many [] (eV 2) aNil) aNil)))) (aCons (eMeth "Fold" "many" m_Fold_many [] (eV 2) aNil) aNil))) aNil))))))))))
noncomputable def m_steps_along : MFn := mFn 14 (sSeq (sAsg (eOp iSub (eMeth "Fold" "many" m_Fold_many [] (eV 0) aNil) (eV 2)) (gN 3))
    (sSeq (sAsg (eMeth "Fold" "kernel" m_Fold_kernel [] (eV 0) aNil) (gN 4))
    (sSeq (sAsg (mFrz (fLc (itL (eV 4)) (gN 13) cYes (eOp iShr (eV 13) (eV 3)) [13])) (gN 5))
    (sSeq (sAsg (eCall m_basis_of [] (aCons (eV 5) aNil)) (gN 6))
    (sSeq (sAsg (eMeth "Fold" "back" m_Fold_back [] (eV 0) aNil) (gN 7))
    (sSeq (sOwn 8 (fLst aNil))
    (sSeq (sFor (itL (eV 1)) (gN 9) (sSeq (sAsg (eMeth "Fold" "to" m_Fold_to [] (eV 7) (aCons (eOp iShl (eC (.int 1)) (eV 9)) aNil)) (gN 10))
    (sSeq (sAsg (eCall m_trail_to [] (aCons (eV 5) (aCons (eOp iXor (eOp iShr (eV 10) (eV 3)) (eCall m_reduced [] (aCons (eOp iShr (eV 10) (eV 3)) (aCons (eV 6) aNil)))) aNil))) (gN 11))
    (sSeq (sFor (itES (aCons (eV 4) aNil)) (gT (gNC (gN 12) (gNC (gN 13) gN0))) (sAsg (eIf (cB (eOp fEq (eOp iAnd (eOp iShr (eV 11) (eV 12)) (eC (.int 1))) (eC (.int 1)))) (eOp iXor (eV 10) (eV 13)) (eV 10)) (gN 10)))
    (sApp 8 (eV 10))))))
    (sRetO 8))))))))
noncomputable def m_gather : MFn := mFn 5 (sSeq (sExpr (eCall m_need_lanes [] (aCons (eV 0) (aCons (eV 2) aNil))))
    (sSeq (sIf (cNot (cB (eMeth "Fold" "onto" m_Fold_onto [] (eV 0) aNil))) (sRaise "NotOnto") sNil)
    (sSeq (sIf (cOr (cB (eOp iLt (eLenSet (eV 1)) (eCB fLen (aCons (eV 1) aNil)))) (cB (eCB fAny (aCons (mFrz (fLc (itL (eV 1)) (gN 3) cYes (eOr (eOp iLt (eV 3) (eC (.int 0))) (eOp iGe (eV 3) (eMeth "Fold" "size" m_Fold_size [] (eV 0) aNil))) [3])) aNil)))) (sRaise "BadDigits") sNil)
    (sRetF (fCall m_basis_of [] (aCons (mFrz (fLc (itL (eCall m_steps_along [] (aCons (eV 0) (aCons (eV 1) (aCons (eV 2) aNil))))) (gN 4) cYes (eOp iShr (eV 4) (eOp iSub (eMeth "Fold" "many" m_Fold_many [] (eV 0) aNil) (eV 2))) [4])) aNil))))))
noncomputable def m__law_reached : MFn := mFn 8 (sSeq (sOwn 4 fDic0)
    (sSeq (sFor (itL (eV 2)) (gN 5) (sSeq (sAsg (eOp iShl (eOp iXor (eV 1) (eV 5)) (eV 3)) (gN 6))
    (sFor (itL (mFrz (fSl (eV 0) (oSome (eV 6)) (oSome (eOp dAdd (eV 6) (eOp iShl (eC (.int 1)) (eV 3))))))) (gN 7) (sDPutA 4 (eV 7) (eC (.bl true))))))
    (sRetO 4)))
end Fb
namespace K54
open PySem L2 Mm Fb
noncomputable def m_law : MFn := mFn 23 (sSeq (sCell 1 (fCall m__law_box [] (aCons (eV 0) aNil)))
    (sSeq (sFor (itR1 (aCons (eC (.int 2)) aNil)) (gN 2) (sSeq (sAsg (eCall m__law_two_spreads [] (aCons (eV 1) aNil)) (gT (gNC (gN 3) (gNC (gN 4) (gNC (gN 5) (gNC (gN 6) (gNC (gN 7) gN0)))))))
    (sSeq (sAsg (eOp iSub (eV 3) (eV 5)) (gN 8))
    (sSeq (sAsg (eTup (aCons (eNew "Fold" m_FoldU_initU [] (aCons (eV 6) (aCons (eV 4) aNil))) (aCons (eCall m__law_images [] (aCons (eV 6) aNil)) aNil))) (gT (gNC (gN 9) (gNC (gN 10) gN0))))
    (sSeq (sAsg (mFrz (fLc (itR1 (aCons (eV 4) aNil)) (gN 20) (cB (eOp fEq (eCall m__law_take [] (aCons (eV 1) (aCons (eC (.int 2)) aNil))) (eC (.int 0)))) (eV 20) [20])) (gN 11))
    (sSeq (sAsg (eCall m_gather [] (aCat (aCons (eV 9) (aCons (eV 11) aNil)) (aCons (eV 5) aNil))) (gN 12))
    (sSeq (sAsg (eCall m__law_span [] (aCons (mFrz (fLc (itL (eV 11)) (gN 20) cYes (eOp iShl (eC (.int 1)) (eV 20)) [20])) aNil)) (gN 13))
    (sSeq (sAsg (eCall m__law_span [] (aCons (eV 12) aNil)) (gN 14))
    (sSeq (sFor (itR1 (aCons (eOp iShl (eC (.int 1)) (eV 5)) aNil)) (gN 15) (sSeq (sAsg (eCall m__law_reached [] (aCons (eV 10) (aCons (eV 15) (aCons (eV 14) (aCons (eV 8) aNil))))) (gN 16))
    (sSeq (sAsg (eOp fIx (eV 10) (eOp iShl (eV 15) (eV 8))) (gN 17))
    (sSeq (sIf (cNot (cB (eCB fAll (aCons (mFrz (fLc (itL (eV 13)) (gN 21) cYes (eDInA false (eOp iXor (eV 17) (eV 21)) 16) [21])) aNil)))) (sRet (eC (.bl false))) sNil)
    (sFor (itL (mFrz (fLc (itR1 (aCons (eCB fLen (aCons (eV 12) aNil)) aNil)) (gN 22) cYes (eOp dAdd (mFrz (fSl (eV 12) oNone (oSome (eV 22)))) (mFrz (fSl (eV 12) (oSome (eOp dAdd (eV 22) (eC (.int 1)))) oNone))) [22]))) (gN 18) (sSeq (sAsg (eCall m__law_reached [] (aCons (eV 10) (aCons (eV 15) (aCons (eCall m__law_span [] (aCons (eV 18) aNil)) (aCons (eV 8) aNil))))) (gN 16))
    (sIf (cB (eCB fAll (aCons (mFrz (fLc (itL (eV 13)) (gN 21) cYes (eDInA false (eOp iXor (eV 17) (eV 21)) 16) [21])) aNil))) (sRet (eC (.bl false))) sNil)))))))
    (sSeq (sIf (cOr (cB (eOp iGt (eCB fLen (aCons (eV 12) aNil)) (eCB fLen (aCons (eV 11) aNil)))) (cB (eOp iGt (eCB fLen (aCons (eV 12) aNil)) (eV 5)))) (sRet (eC (.bl false))) sNil)
    (sSeq (sAsg (mFrz (fLc (itR1 (aCons (eOp dAdd (eCB fLen (aCons (eV 11) aNil)) (eC (.int 1))) aNil)) (gN 22) cYes (eCB fLen (aCons (eCall m_gather [] (aCat (aCons (eV 9) (aCons (mFrz (fSl (eV 11) oNone (oSome (eV 22)))) aNil)) (aCons (eV 5) aNil))) aNil)) [22])) (gN 19))
    (sIf (cOr (cB (eOp fNe (eV 19) (mFrz (fCB fSorted (aCons (eV 19) aNil))))) (cB (eCB fAny (aCons (mFrz (fLc (itR1 (aCons (eCB fLen (aCons (eV 11) aNil)) aNil)) (gN 22) cYes (eOp iGt (eOp iSub (eOp fIx (eV 19) (eOp dAdd (eV 22) (eC (.int 1)))) (eOp fIx (eV 19) (eV 22))) (eC (.int 1))) [22])) aNil)))) (sRet (eC (.bl false))) sNil))))))))))))
    (sRet (eC (.bl true)))))
end K54
namespace K54
open PySem L2 Mm Fb
def top (i : Nat) : Stmt := PySem.Challenge.pw_foldberth_k54_whole_gathers_reach_all.main.body.getD i (.Pass ⟨0, 0, 0, 0⟩)
section
variable {P : Program} {w : World} {K : PySem.W.Frag} {mg : Str → Option Value} {base : Heap} {ca : Str → Addr} {T : List (Addr × Str)}
abbrev s__law_box : Stmt := top 25
abbrev N__law_box : List Str := ["_law_script"]
theorem sc__law_box : FnScope N__law_box ["_law_script"] (defScope s__law_box) := ⟨rfl, rfl, rfl, by decide +kernel, rfl, by decide +kernel, by decide +kernel⟩
theorem ok__law_box {f : Addr} {fd : FuncData} (F : FnP K "_law_box" "_law_box" s__law_box [] f fd) (B : Bl mg) : FnOk P w K mg base (L2N.CX P w) 1 f fd ["_law_script"] (spOf (GY K ca T) 1 m__law_box) :=
  fn_sim (GY K ca T) F sc__law_box rfl fun cdv A outer s H E hr tk po => by
  have nd := sc__law_box.nd
  exact ⟨_, (b_one (t_retF (f_lst (a_cons (SF.val (f_ct co_list call_list_of B.list PyProof.Rows.boot_list (a_cons (SF.val (f_sl (sv 0) o_none (o_some s_int))) a_nil))) (a_cons s_int (a_cons s_int (a_cons s_int a_nil)))))))⟩
abbrev s__law_take : Stmt := top 26
abbrev N__law_take : List Str := ["_law_box_here", "_law_sides", "_law_tail", "_law_cell", "_law_seed"]
theorem sc__law_take : FnScope N__law_take ["_law_box_here", "_law_sides"] (defScope s__law_take) := ⟨rfl, rfl, rfl, by decide +kernel, rfl, by decide +kernel, by decide +kernel⟩
theorem ok__law_take {f : Addr} {fd : FuncData} (F : FnP K "_law_take" "_law_take" s__law_take [] f fd) (B : Bl mg) : FnOk P w K mg base (L2N.CX P w) 1 f fd ["_law_box_here", "_law_sides"] (spOf (GY K ca T) 2 m__law_take) :=
  fn_sim (GY K ca T) F sc__law_take rfl fun cdv A outer s H E hr tk po => by
  have nd := sc__law_take.nd
  exact ⟨_, (b_cons (t_if (c_cmp od_gt op_gt (s_ix od_ix ix_lt (sv 0) s_int (fun _ _ => rfl)) s_int (nomark _)) (b_cons (u_set 2 (s_ix od_ix ix_lt (sv 0) s_int (fun _ _ => rfl)) nd)
    (b_cons (t_put 0 s_int (s_op od_div op_fdivN (sv 2) (sv 1)))
    (b_one (t_ret (s_op od_mod op_modN (sv 2) (sv 1)))))) b_nil)
    (b_cons (u_set 3 s_int nd)
    (b_cons (t_if (c_cmp od_lt op_lt (s_ix od_ix ix_lt (sv 0) s_int (fun _ _ => rfl)) (s_cb cd_len cr_len B.len PySem.boot_len (a_cons (s_ix od_ix ix_lt (sv 0) s_int (fun _ _ => rfl)) a_nil)) (nomark _)) (b_cons (u_set 3 (s_ix od_ix ix_lt (s_ix od_ix ix_lt (sv 0) s_int (fun _ _ => rfl)) (s_ix od_ix ix_lt (sv 0) s_int (fun _ _ => rfl)) (fun _ _ => rfl)) nd)
    (b_one (t_augC ip_add (sv 0) s_int s_int))) b_nil)
    (b_cons (t_if (c_cmp od_ge op_ge (sv 3) (s_op od_pow op_pow s_int s_int) (nomark _)) (b_cons (t_put 0 s_int (s_op od_div op_fdivN (sv 3) (sv 1)))
    (b_one (t_ret (s_op od_mod op_modN (sv 3) (sv 1))))) b_nil)
    (b_cons (u_set 4 (s_ix od_ix ix_lt (sv 0) s_int (fun _ _ => rfl)) nd)
    (b_cons (t_put 0 s_int (s_op od_mod op_modN (s_op od_add op_addD (s_op od_add op_addD (s_op od_add op_addD (s_op od_pow op_pow (sv 4) s_int) (s_op od_mul op_mul s_int (sv 4))) (s_op od_mul op_mul s_int (s_op od_mod op_modN (sv 3) s_int))) s_int) s_int))
    (b_one (t_ret (s_op od_mod op_modN (s_op od_div op_fdivN (s_ix od_ix ix_lt (sv 0) s_int (fun _ _ => rfl)) s_int) (sv 1))))))))))⟩
abbrev s__law_of : Stmt := top 27
abbrev N__law_of : List Str := ["_law_box_here", "_law_some"]
theorem sc__law_of : FnScope N__law_of ["_law_box_here", "_law_some"] (defScope s__law_of) := ⟨rfl, rfl, rfl, by decide +kernel, rfl, by decide +kernel, by decide +kernel⟩
theorem ok__law_of {f : Addr} {fd : FuncData} (F : FnP K "_law_of" "_law_of" s__law_of [] f fd) (B : Bl mg) (h__law_take : Kn P w K mg base (GY K ca T) 1 "_law_take" 2 m__law_take [] []) : FnOk P w K mg base (L2N.CX P w) 2 f fd ["_law_box_here", "_law_some"] (spOf (GY K ca T) 2 m__law_of) :=
  fn_sim (GY K ca T) F sc__law_of rfl fun cdv A outer s H E hr tk po => by
  have nd := sc__law_of.nd
  exact ⟨_, (b_one (t_ret (s_ix od_ix ix_lt (sv 1) (u_call h__law_take (hr.mono (by decide)) tk (a_cons (sv 0) (a_cons (s_cb cd_len cr_len B.len PySem.boot_len (a_cons (sv 1) a_nil)) a_nil))) (fun _ _ => rfl))))⟩
abbrev s__law_shuffled : Stmt := top 28
abbrev N__law_shuffled : List Str := ["_law_box_here", "_law_some", "_law_found", "_law_one"]
theorem sc__law_shuffled : FnScope N__law_shuffled ["_law_box_here", "_law_some"] (defScope s__law_shuffled) := ⟨rfl, rfl, rfl, by decide +kernel, rfl, by decide +kernel, by decide +kernel⟩
theorem ok__law_shuffled {f : Addr} {fd : FuncData} (F : FnP K "_law_shuffled" "_law_shuffled" s__law_shuffled [] f fd) (B : Bl mg) (h__law_take : Kn P w K mg base (GY K ca T) 1 "_law_take" 2 m__law_take [] []) : FnOk P w K mg base (L2N.CX P w) 2 f fd ["_law_box_here", "_law_some"] (spOf (GY K ca T) 2 m__law_shuffled) :=
  fn_sim (GY K ca T) F sc__law_shuffled rfl fun cdv A outer s H E hr tk po => by
  have nd := sc__law_shuffled.nd
  exact ⟨_, (b_cons (u_own 2 (f_lst a_nil) nd)
    (b_cons (t_for po (i_seq (sv 1)) (u_g 3 nd) (b_one (t_ins 2 (u_call h__law_take (hr.mono (by decide)) tk (a_cons (sv 0) (a_cons (s_op od_add op_addD (u_lenA 2 B.len) s_int) a_nil))) (sv 3))))
    (b_one (t_retO 2))))⟩
abbrev s__law_numbers : Stmt := top 30
abbrev N__law_numbers : List Str := ["_law_box_here", "_law_count", "_law_many", "_law_at"]
theorem sc__law_numbers : FnScope N__law_numbers ["_law_box_here", "_law_count", "_law_many"] (defScope s__law_numbers) := ⟨rfl, rfl, rfl, by decide +kernel, rfl, by decide +kernel, by decide +kernel⟩
theorem ok__law_numbers {f : Addr} {fd : FuncData} (F : FnP K "_law_numbers" "_law_numbers" s__law_numbers [] f fd) (B : Bl mg) (h__law_take : Kn P w K mg base (GY K ca T) 1 "_law_take" 2 m__law_take [] []) : FnOk P w K mg base (L2N.CX P w) 2 f fd ["_law_box_here", "_law_count", "_law_many"] (spOf (GY K ca T) 3 m__law_numbers) :=
  fn_sim (GY K ca T) F sc__law_numbers rfl fun cdv A outer s H E hr tk po => by
  have nd := sc__law_numbers.nd
  exact ⟨_, (b_one (t_retF (f_lc (own := [("_law_at", 3)]) nd (i_range1 B.range (a_cons (sv 1) a_nil)) (blkOk_by (own := [("_law_at", 3)]) (N := N__law_numbers) (sc := defScope s__law_numbers) (by decide +kernel)) (fun _ _ _ _ _ => (u_g 3 nd)) (fun _ _ _ _ _ => ts_nil) (fun _ _ _ _ _ => (u_call h__law_take (hr.mono (by decide)) takesN (a_cons (sv 0) (a_cons (s_op od_shl op_shl s_int (sv 2)) a_nil)))))))⟩
abbrev s__law_lines : Stmt := top 32
abbrev N__law_lines : List Str := ["_law_box_here", "_law_deep", "_law_many", "_law_lines_here", "_law_turn", "_law_one", "_law_far", "_law_at", "_law_line"]
theorem sc__law_lines : FnScope N__law_lines ["_law_box_here", "_law_deep", "_law_many"] (defScope s__law_lines) := ⟨rfl, rfl, rfl, by decide +kernel, rfl, by decide +kernel, by decide +kernel⟩
theorem ok__law_lines {f : Addr} {fd : FuncData} (F : FnP K "_law_lines" "_law_lines" s__law_lines [] f fd) (B : Bl mg) (h__law_numbers : Kn P w K mg base (GY K ca T) 2 "_law_numbers" 3 m__law_numbers [] []) (h__law_shuffled : Kn P w K mg base (GY K ca T) 2 "_law_shuffled" 2 m__law_shuffled [] []) (h__law_take : Kn P w K mg base (GY K ca T) 1 "_law_take" 2 m__law_take [] []) : FnOk P w K mg base (L2N.CX P w) 3 f fd ["_law_box_here", "_law_deep", "_law_many"] (spOf (GY K ca T) 3 m__law_lines) :=
  fn_sim (GY K ca T) F sc__law_lines rfl fun cdv A outer s H E hr tk po => by
  have nd := sc__law_lines.nd
  exact ⟨_, (b_cons (t_ownLc (i := 3) (own := [("_law_at", 7)]) nd rfl rfl (sw_true rfl rfl rfl (by decide +kernel)) (i_range1 B.range (a_cons (sv 2) a_nil)) (blkOk_by (own := [("_law_at", 7)]) (N := N__law_lines) (sc := defScope s__law_lines) (by decide +kernel)) (fun _ _ _ _ _ => (u_g 7 nd)) (fun _ _ _ _ _ => ts_nil) (fun _ _ _ _ _ => (s_op od_shl op_shl s_int (sv 7))))
    (b_frz 3 (b_cons (u_own 3 (v_call h__law_shuffled (hr.mono (by decide)) tk (a_cons (sv 0) (a_cons (s_op od_add op_addD (sv 3) (u_call h__law_numbers (hr.mono (by decide)) tk (a_cons (sv 0) (a_cons (s_op od_sub op_sub (sv 1) (sv 2)) (a_cons (sv 2) a_nil))))) a_nil))) nd)
    (b_cons (t_for po (i_range1 B.range (a_cons (s_op od_mul op_mul (u_call h__law_take (hr.mono (by decide)) tk (a_cons (sv 0) (a_cons s_int a_nil))) (s_ct cd_int call_int1 B.int PyProof.Rows.boot_int (a_cons (s_cmp od_gt op_gt (sv 1) s_int (nomark _)) a_nil))) a_nil)) (u_g 4 nd) (b_cons (u_set 5 (u_call h__law_take (hr.mono (by decide)) tk (a_cons (sv 0) (a_cons (sv 1) a_nil))) nd)
    (b_cons (u_set 6 (s_op od_add op_addD (s_op od_add op_addD (sv 5) s_int) (u_call h__law_take (hr.mono (by decide)) tk (a_cons (sv 0) (a_cons (s_op od_sub op_sub (sv 1) s_int) a_nil)))) nd)
    (b_one (t_put 3 (sv 5) (s_op od_xor op_xor (u_ixA 3 (sv 5) (fun _ _ => rfl)) (u_ixA 3 (s_op od_mod op_modN (sv 6) (sv 1)) (fun _ _ => rfl))))))))
    (b_cons (t_for po (i_range1 B.range (a_cons (s_op od_mul op_mul (u_call h__law_take (hr.mono (by decide)) tk (a_cons (sv 0) (a_cons s_int a_nil))) (s_ct cd_int call_int1 B.int PyProof.Rows.boot_int (a_cons (s_cmp od_gt op_gt (sv 2) s_int (nomark _)) a_nil))) a_nil)) (u_g 4 nd) (b_cons (u_set 5 (u_call h__law_take (hr.mono (by decide)) tk (a_cons (sv 0) (a_cons (sv 2) a_nil))) nd)
    (b_cons (u_set 6 (s_op od_mod op_modN (s_op od_add op_addD (s_op od_add op_addD (sv 5) s_int) (u_call h__law_take (hr.mono (by decide)) tk (a_cons (sv 0) (a_cons (s_op od_sub op_sub (sv 2) s_int) a_nil)))) (sv 2)) nd)
    (b_frz 3 (b_one (t_ownLc (i := 3) (own := [("_law_line", 8)]) nd rfl rfl (sw_true rfl rfl rfl (by decide +kernel)) (i_seq (sv 3)) (blkOk_by (own := [("_law_line", 8)]) (N := N__law_lines) (sc := defScope s__law_lines) (by decide +kernel)) (fun _ _ _ _ _ => (u_g 8 nd)) (fun _ _ _ _ _ => ts_nil) (fun _ _ _ _ _ => (s_op od_xor op_xor (sv 8) (s_op od_shl op_shl (s_op od_and op_and (s_op od_shr op_shr (sv 8) (sv 5)) s_int) (sv 6))))))))))
    (b_frz 3 (b_one (t_ret (s_ct cd_tup call_tuple_of B.tuple PyProof.Rows.boot_tuple (a_cons (sv 3) a_nil))))))))))⟩
abbrev s__law_two_spreads : Stmt := top 33
abbrev N__law_two_spreads : List Str := ["_law_box_here", "_law_deep", "_law_some", "_law_many", "_law_one", "_law_way", "_law_two", "_law_at"]
theorem sc__law_two_spreads : FnScope N__law_two_spreads ["_law_box_here"] (defScope s__law_two_spreads) := ⟨rfl, rfl, rfl, by decide +kernel, rfl, by decide +kernel, by decide +kernel⟩
theorem ok__law_two_spreads {f : Addr} {fd : FuncData} (F : FnP K "_law_two_spreads" "_law_two_spreads" s__law_two_spreads [] f fd) (B : Bl mg) (h__law_of : Kn P w K mg base (GY K ca T) 2 "_law_of" 2 m__law_of [] []) (h__law_take : Kn P w K mg base (GY K ca T) 1 "_law_take" 2 m__law_take [] []) (h__law_lines : Kn P w K mg base (GY K ca T) 3 "_law_lines" 3 m__law_lines [] []) (h__law_shuffled : Kn P w K mg base (GY K ca T) 2 "_law_shuffled" 2 m__law_shuffled [] []) : FnOk P w K mg base (L2N.CX P w) 4 f fd ["_law_box_here"] (spOf (GY K ca T) 1 m__law_two_spreads) :=
  fn_sim (GY K ca T) F sc__law_two_spreads rfl fun cdv A outer s H E hr tk po => by
  have nd := sc__law_two_spreads.nd
  exact ⟨_, (b_cons (u_set 1 (u_call h__law_of (hr.mono (by decide)) tk (a_cons (sv 0) (a_cons (SF.val (f_lst (a_cons s_int (a_cons s_int (a_cons s_int (a_cons s_int (a_cons s_int (a_cons s_int (a_cons s_int (a_cons s_int a_nil)))))))))) a_nil))) nd)
    (b_cons (u_set 2 (SF.val (f_lst (a_cons (sv 1) (a_cons (sv 1) (a_cons (s_cb cd_max2 (call_max2 rfl) B.max (by decide +kernel : bootBuiltins "max" = some (.builtin "max")) (a_cons s_int (a_cons (s_op od_sub op_sub (sv 1) s_int) a_nil))) (a_cons (u_call h__law_take (hr.mono (by decide)) tk (a_cons (sv 0) (a_cons (s_op od_add op_addD (sv 1) s_int) a_nil))) a_nil)))))) nd)
    (b_cons (u_set 3 (u_call h__law_of (hr.mono (by decide)) tk (a_cons (sv 0) (a_cons (sv 2) a_nil))) nd)
    (b_cons (u_set 4 (u_call h__law_lines (hr.mono (by decide)) tk (a_cons (sv 0) (a_cons (sv 1) (a_cons (sv 3) a_nil)))) nd)
    (b_cons (u_set 5 (u_call h__law_take (hr.mono (by decide)) tk (a_cons (sv 0) (a_cons s_int a_nil))) nd)
    (b_cons (u_set 6 (u_call h__law_lines (hr.mono (by decide)) tk (a_cons (sv 0) (a_cons (sv 1) (a_cons (sv 3) a_nil)))) nd)
    (b_cons (t_if (c_cmp od_eq (op_eqD hr.units) (sv 5) s_int (nomark _)) (b_one (u_set 6 (s_ct cd_tup call_tuple_of B.tuple PyProof.Rows.boot_tuple (a_cons (u_call h__law_shuffled (hr.mono (by decide)) tk (a_cons (sv 0) (a_cons (SF.val (f_ct co_list call_list_of B.list PyProof.Rows.boot_list (a_cons (sv 4) a_nil))) a_nil))) a_nil)) nd)) b_nil)
    (b_cons (t_if (SW.sc (w_and (c_cmp od_eq (op_eqD hr.units) (sv 5) s_int (nomark _)) (w_and1 (c_cmp od_gt op_gt (sv 1) s_int (nomark _))))) (b_cons (u_set 7 (u_call h__law_take (hr.mono (by decide)) tk (a_cons (sv 0) (a_cons (s_op od_sub op_sub (sv 1) s_int) a_nil))) nd)
    (b_one (u_set 6 (s_op od_catT op_catA (s_op od_catT op_catA (s_slT (sv 4) o_none (o_some (sv 7))) (s_revT (s_slT (sv 4) (o_some (sv 7)) (o_some (s_op od_add op_addD (sv 7) s_int))))) (s_slT (sv 4) (o_some (s_op od_add op_addD (sv 7) s_int)) o_none)) nd))) b_nil)
    (b_one (t_ret (s_tup (a_cons (sv 1) (a_cons (sv 3) (a_cons (u_call h__law_take (hr.mono (by decide)) tk (a_cons (sv 0) (a_cons (s_op od_add op_addD (sv 1) s_int) a_nil))) (a_cons (sv 4) (a_cons (sv 6) a_nil))))))))))))))))⟩
abbrev s__law_images : Stmt := top 31
abbrev N__law_images : List Str := ["_law_lines_here", "_law_found", "_law_line", "_law_one"]
theorem sc__law_images : FnScope N__law_images ["_law_lines_here"] (defScope s__law_images) := ⟨rfl, rfl, rfl, by decide +kernel, rfl, by decide +kernel, by decide +kernel⟩
theorem ok__law_images {f : Addr} {fd : FuncData} (F : FnP K "_law_images" "_law_images" s__law_images [] f fd) : FnOk P w K mg base (L2N.CX P w) 1 f fd ["_law_lines_here"] (spOf (GY K ca T) 1 m__law_images) :=
  fn_sim (GY K ca T) F sc__law_images rfl fun cdv A outer s H E hr tk po => by
  have nd := sc__law_images.nd
  exact ⟨_, (b_cons (u_set 1 (SF.val (f_lst (a_cons s_int a_nil))) nd)
    (b_cons (t_for po (i_seq (sv 0)) (u_g 2 nd) (b_one (u_set 1 (s_op od_add op_addD (sv 1) (SF.val (f_lc (own := [("_law_one", 3)]) nd (i_seq (sv 1)) (blkOk_by (own := [("_law_one", 3)]) (N := N__law_images) (sc := defScope s__law_images) (by decide +kernel)) (fun _ _ _ _ _ => (u_g 3 nd)) (fun _ _ _ _ _ => ts_nil) (fun _ _ _ _ _ => (s_op od_xor op_xor (sv 3) (sv 2)))))) nd)))
    (b_one (t_ret (sv 1)))))⟩
abbrev s_FoldU_initU : Stmt := inClass (top 18) 0
abbrev N_FoldU_initU : List Str := ["self", "rows", "size", "row"]
theorem sc_FoldU_initU : FnScope N_FoldU_initU ["self", "rows", "size"] (defScope s_FoldU_initU) := ⟨rfl, rfl, rfl, by decide +kernel, rfl, by decide +kernel, by decide +kernel⟩
theorem ok_FoldU_initU {f : Addr} {fd : FuncData} (F : FnP K "__init__" "Fold.__init__" s_FoldU_initU [] f fd) (B : Bl mg) (c_MOST_DIGITS : ∃ u, mg "MOST_DIGITS" = some (.int 12 u)) (x_BadFold : KnX K mg (GY K ca T) "BadFold") (C_Fold : Cls K ((GY K ca T).ca "Fold")) (n_Fold_lines : NoAttr K ((GY K ca T).ca "Fold") "lines") (n_Fold_wide : NoAttr K ((GY K ca T).ca "Fold") "wide") : FnOk P w K mg base (L2N.CX P w) 1 f fd ["self", "rows", "size"] (spOf (GY K ca T) 3 m_FoldU_initU) :=
  fn_sim (GY K ca T) F sc_FoldU_initU rfl fun cdv A outer s H E hr tk po => by
  have nd := sc_FoldU_initU.nd
  exact ⟨_, (b_cons (t_if (SW.sc (w_or (c_cmp od_lt op_lt (sv 2) s_int (nomark _)) (w_or (c_cmp od_gt op_gt (sv 2) (u_int c_MOST_DIGITS) (nomark _)) (w_or1 (c_cmp od_gt op_gt (s_cb cd_len cr_len B.len PySem.boot_len (a_cons (sv 1) a_nil)) (u_int c_MOST_DIGITS) (nomark _)))))) (b_one (u_raise x_BadFold tk)) b_nil)
    (b_cons (t_for po (i_seq (sv 1)) (u_g 3 nd) (b_one (t_if (SW.sc (w_or (c_cmp od_lt op_lt (sv 3) s_int (nomark _)) (w_or1 (c_cmp od_gt op_gt (s_op od_shr op_shr (sv 3) (sv 2)) s_int (nomark _))))) (b_one (u_raise x_BadFold tk)) b_nil)))
    (b_cons (t_fld "Fold" C_Fold n_Fold_lines (sv 0) (s_ct cd_tup call_tuple_of B.tuple PyProof.Rows.boot_tuple (a_cons (sv 1) a_nil)))
    (b_one (t_fld "Fold" C_Fold n_Fold_wide (sv 0) (sv 2))))))⟩
abbrev s_Fold_many : Stmt := inClass (top 18) 5
abbrev N_Fold_many : List Str := ["self"]
theorem sc_Fold_many : FnScope N_Fold_many ["self"] (defScope s_Fold_many) := ⟨rfl, rfl, rfl, by decide +kernel, rfl, by decide +kernel, by decide +kernel⟩
theorem ok_Fold_many {f : Addr} {fd : FuncData} (F : FnP K "many" "Fold.many" s_Fold_many [] f fd) (B : Bl mg) (C_Fold : Cls K ((GY K ca T).ca "Fold")) (n_Fold_lines : NoAttr K ((GY K ca T).ca "Fold") "lines") : FnOk P w K mg base (L2N.CX P w) 1 f fd ["self"] (spOf (GY K ca T) 1 m_Fold_many) :=
  fn_sim (GY K ca T) F sc_Fold_many rfl fun cdv A outer s H E hr tk po => by
  have nd := sc_Fold_many.nd
  exact ⟨_, (b_one (t_ret (s_cb cd_len cr_len B.len PySem.boot_len (a_cons (s_fld "Fold" C_Fold n_Fold_lines (sv 0)) a_nil))))⟩
abbrev s_need_lanes : Stmt := top 20
abbrev N_need_lanes : List Str := ["spread", "lanes"]
theorem sc_need_lanes : FnScope N_need_lanes ["spread", "lanes"] (defScope s_need_lanes) := ⟨rfl, rfl, rfl, by decide +kernel, rfl, by decide +kernel, by decide +kernel⟩
theorem ok_need_lanes {f : Addr} {fd : FuncData} (F : FnP K "need_lanes" "need_lanes" s_need_lanes [] f fd) (h_Fold_many : KnM P w K mg base (GY K ca T) 1 "Fold" "many" 1 m_Fold_many [] []) (x_BadSize : KnX K mg (GY K ca T) "BadSize") : FnOk P w K mg base (L2N.CX P w) 2 f fd ["spread", "lanes"] (spOf (GY K ca T) 2 m_need_lanes) :=
  fn_sim (GY K ca T) F sc_need_lanes rfl fun cdv A outer s H E hr tk po => by
  have nd := sc_need_lanes.nd
  exact ⟨_, (b_one (t_if (SW.sc (w_or (c_cmp od_lt op_lt (sv 1) s_int (nomark _)) (w_or1 (c_cmp od_gt op_gt (sv 1) (u_meth0 "Fold" h_Fold_many (hr.mono (by decide)) tk (sv 0)) (nomark _))))) (b_one (u_raise x_BadSize tk)) b_nil))⟩
abbrev s_top_of : Stmt := top 10
abbrev N_top_of : List Str := ["one"]
theorem sc_top_of : FnScope N_top_of ["one"] (defScope s_top_of) := ⟨rfl, rfl, rfl, by decide +kernel, rfl, by decide +kernel, by decide +kernel⟩
theorem ok_top_of {f : Addr} {fd : FuncData} (F : FnP K "top_of" "top_of" s_top_of [] f fd) : FnOk P w K mg base (L2N.CX P w) 1 f fd ["one"] (spOf (GY K ca T) 1 m_top_of) :=
  fn_sim (GY K ca T) F sc_top_of rfl fun cdv A outer s H E hr tk po => by
  have nd := sc_top_of.nd
  exact ⟨_, (b_one (t_ret (s_op od_shl op_shl s_int (s_op od_sub op_sub (s_bits (sv 0)) s_int))))⟩
abbrev s_reduced : Stmt := top 13
abbrev N_reduced : List Str := ["one", "found", "left", "other"]
theorem sc_reduced : FnScope N_reduced ["one", "found"] (defScope s_reduced) := ⟨rfl, rfl, rfl, by decide +kernel, rfl, by decide +kernel, by decide +kernel⟩
theorem ok_reduced {f : Addr} {fd : FuncData} (F : FnP K "reduced" "reduced" s_reduced [] f fd) (h_top_of : Kn P w K mg base (GY K ca T) 1 "top_of" 1 m_top_of [] []) : FnOk P w K mg base (L2N.CX P w) 2 f fd ["one", "found"] (spOf (GY K ca T) 2 m_reduced) :=
  fn_sim (GY K ca T) F sc_reduced rfl fun cdv A outer s H E hr tk po => by
  have nd := sc_reduced.nd
  exact ⟨_, (b_cons (u_set 2 (sv 0) nd)
    (b_cons (t_for po (i_seq (sv 1)) (u_g 3 nd) (b_one (t_if (c_cmp od_gt op_gt (s_op od_and op_and (sv 2) (u_call h_top_of (hr.mono (by decide)) tk (a_cons (sv 3) a_nil))) s_int (nomark _)) (b_one (u_set 2 (s_op od_xor op_xor (sv 2) (sv 3)) nd)) b_nil)))
    (b_one (t_ret (sv 2)))))⟩
abbrev s_basis_of : Stmt := top 14
abbrev N_basis_of : List Str := ["numbers", "found", "one", "left", "top", "other"]
theorem sc_basis_of : FnScope N_basis_of ["numbers"] (defScope s_basis_of) := ⟨rfl, rfl, rfl, by decide +kernel, rfl, by decide +kernel, by decide +kernel⟩
theorem ok_basis_of {f : Addr} {fd : FuncData} (F : FnP K "basis_of" "basis_of" s_basis_of [] f fd) (B : Bl mg) (h_reduced : Kn P w K mg base (GY K ca T) 2 "reduced" 2 m_reduced [] []) (h_top_of : Kn P w K mg base (GY K ca T) 1 "top_of" 1 m_top_of [] []) : FnOk P w K mg base (L2N.CX P w) 3 f fd ["numbers"] (spOf (GY K ca T) 1 m_basis_of) :=
  fn_sim (GY K ca T) F sc_basis_of rfl fun cdv A outer s H E hr tk po => by
  have nd := sc_basis_of.nd
  exact ⟨_, (b_cons (u_set 1 (SF.val (f_lst a_nil)) nd)
    (b_cons (t_for po (i_seq (sv 0)) (u_g 2 nd) (b_cons (u_set 3 (u_call h_reduced (hr.mono (by decide)) tk (a_cons (sv 2) (a_cons (sv 1) a_nil))) nd)
    (b_one (t_if (c_cmp od_gt op_gt (sv 3) s_int (nomark _)) (b_cons (u_set 4 (u_call h_top_of (hr.mono (by decide)) tk (a_cons (sv 3) a_nil)) nd)
    (b_one (u_set 1 (s_op od_add op_addD (SF.val (f_lc (own := [("other", 5)]) nd (i_seq (sv 1)) (blkOk_by (own := [("other", 5)]) (N := N_basis_of) (sc := defScope s_basis_of) (by decide +kernel)) (fun _ _ _ _ _ => (u_g 5 nd)) (fun _ _ _ _ _ => ts_nil) (fun _ _ _ _ _ => (s_if (c_cmp od_gt op_gt (s_op od_and op_and (sv 5) (sv 4)) s_int (nomark _)) (s_op od_xor op_xor (sv 5) (sv 3)) (sv 5))))) (SF.val (f_lst (a_cons (sv 3) a_nil)))) nd))) b_nil))))
    (b_one (t_retF (f_cb co_sorted cr_sortedI B.sorted PyProof.Rows.boot_sorted (a_cons (sv 1) a_nil))))))⟩
abbrev s_Fold_onto : Stmt := inClass (top 18) 9
abbrev N_Fold_onto : List Str := ["self"]
theorem sc_Fold_onto : FnScope N_Fold_onto ["self"] (defScope s_Fold_onto) := ⟨rfl, rfl, rfl, by decide +kernel, rfl, by decide +kernel, by decide +kernel⟩
theorem ok_Fold_onto {f : Addr} {fd : FuncData} (F : FnP K "onto" "Fold.onto" s_Fold_onto [] f fd) (B : Bl mg) (C_Fold : Cls K ((GY K ca T).ca "Fold")) (n_Fold_lines : NoAttr K ((GY K ca T).ca "Fold") "lines") (h_basis_of : Kn P w K mg base (GY K ca T) 3 "basis_of" 1 m_basis_of [] []) (n_Fold_wide : NoAttr K ((GY K ca T).ca "Fold") "wide") : FnOk P w K mg base (L2N.CX P w) 4 f fd ["self"] (spOf (GY K ca T) 1 m_Fold_onto) :=
  fn_sim (GY K ca T) F sc_Fold_onto rfl fun cdv A outer s H E hr tk po => by
  have nd := sc_Fold_onto.nd
  exact ⟨_, (b_one (t_ret (s_cmp od_eq (op_eqD hr.units) (s_cb cd_len cr_len B.len PySem.boot_len (a_cons (u_call h_basis_of (hr.mono (by decide)) tk (a_cons (s_fld "Fold" C_Fold n_Fold_lines (sv 0)) a_nil)) a_nil)) (s_fld "Fold" C_Fold n_Fold_wide (sv 0)) (nomark _))))⟩
abbrev s_Fold_size : Stmt := inClass (top 18) 6
abbrev N_Fold_size : List Str := ["self"]
theorem sc_Fold_size : FnScope N_Fold_size ["self"] (defScope s_Fold_size) := ⟨rfl, rfl, rfl, by decide +kernel, rfl, by decide +kernel, by decide +kernel⟩
theorem ok_Fold_size {f : Addr} {fd : FuncData} (F : FnP K "size" "Fold.size" s_Fold_size [] f fd) (C_Fold : Cls K ((GY K ca T).ca "Fold")) (n_Fold_wide : NoAttr K ((GY K ca T).ca "Fold") "wide") : FnOk P w K mg base (L2N.CX P w) 1 f fd ["self"] (spOf (GY K ca T) 1 m_Fold_size) :=
  fn_sim (GY K ca T) F sc_Fold_size rfl fun cdv A outer s H E hr tk po => by
  have nd := sc_Fold_size.nd
  exact ⟨_, (b_one (t_ret (s_fld "Fold" C_Fold n_Fold_wide (sv 0))))⟩
abbrev s_traced : Stmt := top 15
abbrev N_traced : List Str := ["numbers", "found", "idle", "at", "one", "left", "mark", "other", "trail", "top", "wider"]
theorem sc_traced : FnScope N_traced ["numbers"] (defScope s_traced) := ⟨rfl, rfl, rfl, by decide +kernel, rfl, by decide +kernel, by decide +kernel⟩
theorem ok_traced {f : Addr} {fd : FuncData} (F : FnP K "traced" "traced" s_traced [] f fd) (B : Bl mg) (h_top_of : Kn P w K mg base (GY K ca T) 1 "top_of" 1 m_top_of [] []) : FnOk P w K mg base (L2N.CX P w) 2 f fd ["numbers"] (spOf (GY K ca T) 1 m_traced) :=
  fn_sim (GY K ca T) F sc_traced rfl fun cdv A outer s H E hr tk po => by
  have nd := sc_traced.nd
  exact ⟨_, (b_cons (u_set 1 (SF.val (f_lst a_nil)) nd)
    (b_cons (u_own 2 (f_lst a_nil) nd)
    (b_cons (t_for po (i_enumS B.enumerate (a_cons (sv 0) a_nil)) (g_tup (gs_cons (u_g 3 nd) (gs_cons (u_g 4 nd) gs_nil))) (b_cons (t_par (i := 5) (j := 6) nd rfl rfl (by decide) rfl rfl (a_cons (sv 4) (a_cons (s_op od_shl op_shl s_int (sv 3)) a_nil)) (by rfl))
    (b_cons (t_for po (i_seq (sv 1)) (g_tup (gs_cons (u_g 7 nd) (gs_cons (u_g 8 nd) gs_nil))) (b_one (t_if (c_cmp od_gt op_gt (s_op od_and op_and (sv 5) (u_call h_top_of (hr.mono (by decide)) tk (a_cons (sv 7) a_nil))) s_int (nomark _)) (b_one (t_par (i := 5) (j := 6) nd rfl rfl (by decide) rfl rfl (a_cons (s_op od_xor op_xor (sv 5) (sv 7)) (a_cons (s_op od_xor op_xor (sv 6) (sv 8)) a_nil)) (by rfl))) b_nil)))
    (b_one (t_if (c_cmp od_eq (op_eqD hr.units) (sv 5) s_int (nomark _)) (b_one (t_app 2 (sv 6))) (b_cons (u_set 9 (u_call h_top_of (hr.mono (by decide)) tk (a_cons (sv 5) a_nil)) nd)
    (b_cons (u_own 10 (f_lst (a_cons (s_tup (a_cons (sv 5) (a_cons (sv 6) a_nil))) a_nil)) nd)
    (b_cons (t_for po (i_seq (sv 1)) (g_tup (gs_cons (u_g 7 nd) (gs_cons (u_g 8 nd) gs_nil))) (b_one (t_app 10 (s_if (c_cmp od_gt op_gt (s_op od_and op_and (sv 7) (sv 9)) s_int (nomark _)) (s_tup (a_cons (s_op od_xor op_xor (sv 7) (sv 5)) (a_cons (s_op od_xor op_xor (sv 8) (sv 6)) a_nil))) (s_tup (a_cons (sv 7) (a_cons (sv 8) a_nil)))))))
    (b_frz 10 (b_one (u_set 1 (sv 10) nd)))))))))))
    (b_frz 2 (b_one (t_ret (s_tup (a_cons (sv 1) (a_cons (sv 2) a_nil)))))))))⟩
abbrev s_Fold_kernel : Stmt := inClass (top 18) 8
abbrev N_Fold_kernel : List Str := ["self"]
theorem sc_Fold_kernel : FnScope N_Fold_kernel ["self"] (defScope s_Fold_kernel) := ⟨rfl, rfl, rfl, by decide +kernel, rfl, by decide +kernel, by decide +kernel⟩
theorem ok_Fold_kernel {f : Addr} {fd : FuncData} (F : FnP K "kernel" "Fold.kernel" s_Fold_kernel [] f fd) (C_Fold : Cls K ((GY K ca T).ca "Fold")) (n_Fold_lines : NoAttr K ((GY K ca T).ca "Fold") "lines") (h_traced : Kn P w K mg base (GY K ca T) 2 "traced" 1 m_traced [] []) (h_basis_of : Kn P w K mg base (GY K ca T) 3 "basis_of" 1 m_basis_of [] []) : FnOk P w K mg base (L2N.CX P w) 4 f fd ["self"] (spOf (GY K ca T) 1 m_Fold_kernel) :=
  fn_sim (GY K ca T) F sc_Fold_kernel rfl fun cdv A outer s H E hr tk po => by
  have nd := sc_Fold_kernel.nd
  exact ⟨_, (b_one (t_retF (v_call h_basis_of (hr.mono (by decide)) tk (a_cons (s_ix od_ix ix_lt (u_call h_traced (hr.mono (by decide)) tk (a_cons (s_fld "Fold" C_Fold n_Fold_lines (sv 0)) a_nil)) s_int (fun _ _ => rfl)) a_nil))))⟩
abbrev s_trail_to : Stmt := top 16
abbrev N_trail_to : List Str := ["numbers", "one", "left", "mark", "other", "trail"]
theorem sc_trail_to : FnScope N_trail_to ["numbers", "one"] (defScope s_trail_to) := ⟨rfl, rfl, rfl, by decide +kernel, rfl, by decide +kernel, by decide +kernel⟩
theorem ok_trail_to {f : Addr} {fd : FuncData} (F : FnP K "trail_to" "trail_to" s_trail_to [] f fd) (h_traced : Kn P w K mg base (GY K ca T) 2 "traced" 1 m_traced [] []) (h_top_of : Kn P w K mg base (GY K ca T) 1 "top_of" 1 m_top_of [] []) : FnOk P w K mg base (L2N.CX P w) 3 f fd ["numbers", "one"] (spOf (GY K ca T) 2 m_trail_to) :=
  fn_sim (GY K ca T) F sc_trail_to rfl fun cdv A outer s H E hr tk po => by
  have nd := sc_trail_to.nd
  exact ⟨_, (b_cons (t_par (i := 2) (j := 3) nd rfl rfl (by decide) rfl rfl (a_cons (sv 1) (a_cons s_int a_nil)) (by rfl))
    (b_cons (t_for po (i_seq (s_ix od_ix ix_lt (u_call h_traced (hr.mono (by decide)) tk (a_cons (sv 0) a_nil)) s_int (fun _ _ => rfl))) (g_tup (gs_cons (u_g 4 nd) (gs_cons (u_g 5 nd) gs_nil))) (b_one (t_if (c_cmp od_gt op_gt (s_op od_and op_and (sv 2) (u_call h_top_of (hr.mono (by decide)) tk (a_cons (sv 4) a_nil))) s_int (nomark _)) (b_one (t_par (i := 2) (j := 3) nd rfl rfl (by decide) rfl rfl (a_cons (s_op od_xor op_xor (sv 2) (sv 4)) (a_cons (s_op od_xor op_xor (sv 3) (sv 5)) a_nil)) (by rfl))) b_nil)))
    (b_one (t_ret (s_if (c_cmp od_eq (op_eqD hr.units) (sv 2) s_int (nomark _)) (sv 3) s_non)))))⟩
abbrev s_Fold_least : Stmt := inClass (top 18) 14
abbrev N_Fold_least : List Str := ["self", "number", "mark"]
theorem sc_Fold_least : FnScope N_Fold_least ["self", "number"] (defScope s_Fold_least) := ⟨rfl, rfl, rfl, by decide +kernel, rfl, by decide +kernel, by decide +kernel⟩
theorem ok_Fold_least {f : Addr} {fd : FuncData} (F : FnP K "least" "Fold.least" s_Fold_least [] f fd) (C_Fold : Cls K ((GY K ca T).ca "Fold")) (n_Fold_lines : NoAttr K ((GY K ca T).ca "Fold") "lines") (h_trail_to : Kn P w K mg base (GY K ca T) 3 "trail_to" 2 m_trail_to [] []) (h_Fold_kernel : KnM P w K mg base (GY K ca T) 4 "Fold" "kernel" 1 m_Fold_kernel [] []) (h_reduced : Kn P w K mg base (GY K ca T) 2 "reduced" 2 m_reduced [] []) : FnOk P w K mg base (L2N.CX P w) 5 f fd ["self", "number"] (spOf (GY K ca T) 2 m_Fold_least) :=
  fn_sim (GY K ca T) F sc_Fold_least rfl fun cdv A outer s H E hr tk po => by
  have nd := sc_Fold_least.nd
  exact ⟨_, (b_cons (u_set 2 (u_call h_trail_to (hr.mono (by decide)) tk (a_cons (s_fld "Fold" C_Fold n_Fold_lines (sv 0)) (a_cons (sv 1) a_nil))) nd)
    (b_one (t_ret (s_if (c_cmp od_is op_isN (sv 2) s_non (nomark _)) s_non (u_call h_reduced (hr.mono (by decide)) tk (a_cons (sv 2) (a_cons (u_meth0 "Fold" h_Fold_kernel (hr.mono (by decide)) tk (sv 0)) a_nil)))))))⟩
abbrev s_Fold_back : Stmt := inClass (top 18) 15
abbrev N_Fold_back : List Str := ["self", "at"]
theorem sc_Fold_back : FnScope N_Fold_back ["self"] (defScope s_Fold_back) := ⟨rfl, rfl, rfl, by decide +kernel, rfl, by decide +kernel, by decide +kernel⟩
theorem ok_Fold_back {f : Addr} {fd : FuncData} (F : FnP K "back" "Fold.back" s_Fold_back [] f fd) (B : Bl mg) (h_Fold_onto : KnM P w K mg base (GY K ca T) 4 "Fold" "onto" 1 m_Fold_onto [] []) (x_NotOnto : KnX K mg (GY K ca T) "NotOnto") (k_Fold : KnC P w K mg base (GY K ca T) 1 "Fold" 3 m_FoldU_initU [] []) (C_Fold : Cls K ((GY K ca T).ca "Fold")) (n_Fold_lines : NoAttr K ((GY K ca T).ca "Fold") "lines") (n_Fold_wide : NoAttr K ((GY K ca T).ca "Fold") "wide") (h_Fold_least : KnM P w K mg base (GY K ca T) 5 "Fold" "least" 2 m_Fold_least [] []) : FnOk P w K mg base (L2N.CX P w) 6 f fd ["self"] (spOf (GY K ca T) 1 m_Fold_back) :=
  fn_sim (GY K ca T) F sc_Fold_back rfl fun cdv A outer s H E hr tk po => by
  have nd := sc_Fold_back.nd
  exact ⟨_, (b_cons (t_if (c_not (c_val (u_meth0 "Fold" h_Fold_onto (hr.mono (by decide)) tk (sv 0)))) (b_one (u_raise x_NotOnto tk)) b_nil)
    (b_one (t_ret (u_new k_Fold (hr.mono (by decide)) tk (a_cons (SF.val (f_lc (own := [("at", 1)]) nd (i_range1 B.range (a_cons (s_fld "Fold" C_Fold n_Fold_wide (sv 0)) a_nil)) (blkOk_by (own := [("at", 1)]) (N := N_Fold_back) (sc := defScope s_Fold_back) (by decide +kernel)) (fun _ _ _ _ _ => (u_g 1 nd)) (fun _ _ _ _ _ => ts_nil) (fun _ _ _ _ _ => (u_meth "Fold" h_Fold_least (hr.mono (by decide)) takesN (sv 0) (a_cons (s_op od_shl op_shl s_int (sv 1)) a_nil))))) (a_cons (s_cb cd_len cr_len B.len PySem.boot_len (a_cons (s_fld "Fold" C_Fold n_Fold_lines (sv 0)) a_nil)) a_nil))))))⟩
abbrev s_blended : Stmt := top 11
abbrev N_blended : List Str := ["numbers", "found", "one"]
theorem sc_blended : FnScope N_blended ["numbers"] (defScope s_blended) := ⟨rfl, rfl, rfl, by decide +kernel, rfl, by decide +kernel, by decide +kernel⟩
theorem ok_blended {f : Addr} {fd : FuncData} (F : FnP K "blended" "blended" s_blended [] f fd) : FnOk P w K mg base (L2N.CX P w) 1 f fd ["numbers"] (spOf (GY K ca T) 1 m_blended) :=
  fn_sim (GY K ca T) F sc_blended rfl fun cdv A outer s H E hr tk po => by
  have nd := sc_blended.nd
  exact ⟨_, (b_cons (u_set 1 s_int nd)
    (b_cons (t_for po (i_seq (sv 0)) (u_g 2 nd) (b_one (u_set 1 (s_op od_xor op_xor (sv 1) (sv 2)) nd)))
    (b_one (t_ret (sv 1)))))⟩
abbrev s_picked : Stmt := top 12
abbrev N_picked : List Str := ["rows", "number", "at", "row"]
theorem sc_picked : FnScope N_picked ["rows", "number"] (defScope s_picked) := ⟨rfl, rfl, rfl, by decide +kernel, rfl, by decide +kernel, by decide +kernel⟩
theorem ok_picked {f : Addr} {fd : FuncData} (F : FnP K "picked" "picked" s_picked [] f fd) (B : Bl mg) (h_blended : Kn P w K mg base (GY K ca T) 1 "blended" 1 m_blended [] []) : FnOk P w K mg base (L2N.CX P w) 2 f fd ["rows", "number"] (spOf (GY K ca T) 2 m_picked) :=
  fn_sim (GY K ca T) F sc_picked rfl fun cdv A outer s H E hr tk po => by
  have nd := sc_picked.nd
  exact ⟨_, (b_one (t_ret (u_call h_blended (hr.mono (by decide)) tk (a_cons (SF.val (f_lc (own := [("at", 2), ("row", 3)]) nd (i_enumS B.enumerate (a_cons (sv 0) a_nil)) (blkOk_by (own := [("at", 2), ("row", 3)]) (N := N_picked) (sc := defScope s_picked) (by decide +kernel)) (fun _ _ _ _ _ => (g_tup (gs_cons (u_g 2 nd) (gs_cons (u_g 3 nd) gs_nil)))) (fun _ _ _ _ _ => (ts_one (c_cmp od_eq (op_eqD hr.units) (s_op od_and op_and (s_op od_shr op_shr (sv 1) (sv 2)) s_int) s_int (nomark _)))) (fun _ _ _ _ _ => (sv 3)))) a_nil))))⟩
abbrev s_Fold_to : Stmt := inClass (top 18) 7
abbrev N_Fold_to : List Str := ["self", "number"]
theorem sc_Fold_to : FnScope N_Fold_to ["self", "number"] (defScope s_Fold_to) := ⟨rfl, rfl, rfl, by decide +kernel, rfl, by decide +kernel, by decide +kernel⟩
theorem ok_Fold_to {f : Addr} {fd : FuncData} (F : FnP K "to" "Fold.to" s_Fold_to [] f fd) (B : Bl mg) (C_Fold : Cls K ((GY K ca T).ca "Fold")) (n_Fold_lines : NoAttr K ((GY K ca T).ca "Fold") "lines") (x_BadNumber : KnX K mg (GY K ca T) "BadNumber") (h_picked : Kn P w K mg base (GY K ca T) 2 "picked" 2 m_picked [] []) : FnOk P w K mg base (L2N.CX P w) 3 f fd ["self", "number"] (spOf (GY K ca T) 2 m_Fold_to) :=
  fn_sim (GY K ca T) F sc_Fold_to rfl fun cdv A outer s H E hr tk po => by
  have nd := sc_Fold_to.nd
  exact ⟨_, (b_cons (t_if (SW.sc (w_or (c_cmp od_lt op_lt (sv 1) s_int (nomark _)) (w_or1 (c_cmp od_gt op_gt (s_op od_shr op_shr (sv 1) (s_cb cd_len cr_len B.len PySem.boot_len (a_cons (s_fld "Fold" C_Fold n_Fold_lines (sv 0)) a_nil))) s_int (nomark _))))) (b_one (u_raise x_BadNumber tk)) b_nil)
    (b_one (t_ret (u_call h_picked (hr.mono (by decide)) tk (a_cons (s_fld "Fold" C_Fold n_Fold_lines (sv 0)) (a_cons (sv 1) a_nil))))))⟩
abbrev s_steps_along : Stmt := top 22
abbrev N_steps_along : List Str := ["spread", "places", "lanes", "low", "idle", "swings", "free", "back", "found", "at", "step", "mark", "place", "number"]
theorem sc_steps_along : FnScope N_steps_along ["spread", "places", "lanes"] (defScope s_steps_along) := ⟨rfl, rfl, rfl, by decide +kernel, rfl, by decide +kernel, by decide +kernel⟩
theorem ok_steps_along {f : Addr} {fd : FuncData} (F : FnP K "steps_along" "steps_along" s_steps_along [] f fd) (B : Bl mg) (h_Fold_many : KnM P w K mg base (GY K ca T) 1 "Fold" "many" 1 m_Fold_many [] []) (h_Fold_kernel : KnM P w K mg base (GY K ca T) 4 "Fold" "kernel" 1 m_Fold_kernel [] []) (h_basis_of : Kn P w K mg base (GY K ca T) 3 "basis_of" 1 m_basis_of [] []) (h_Fold_back : KnM P w K mg base (GY K ca T) 6 "Fold" "back" 1 m_Fold_back [] []) (h_Fold_to : KnM P w K mg base (GY K ca T) 3 "Fold" "to" 2 m_Fold_to [] []) (h_reduced : Kn P w K mg base (GY K ca T) 2 "reduced" 2 m_reduced [] []) (h_trail_to : Kn P w K mg base (GY K ca T) 3 "trail_to" 2 m_trail_to [] []) : FnOk P w K mg base (L2N.CX P w) 7 f fd ["spread", "places", "lanes"] (spOf (GY K ca T) 3 m_steps_along) :=
  fn_sim (GY K ca T) F sc_steps_along rfl fun cdv A outer s H E hr tk po => by
  have nd := sc_steps_along.nd
  exact ⟨_, (b_cons (u_set 3 (s_op od_sub op_sub (u_meth0 "Fold" h_Fold_many (hr.mono (by decide)) tk (sv 0)) (sv 2)) nd)
    (b_cons (u_set 4 (u_meth0 "Fold" h_Fold_kernel (hr.mono (by decide)) tk (sv 0)) nd)
    (b_cons (t_setLc (i := 5) (own := [("number", 13)]) nd rfl rfl (sw_true rfl rfl rfl (by decide +kernel)) (i_seq (sv 4)) (blkOk_by (own := [("number", 13)]) (N := N_steps_along) (sc := defScope s_steps_along) (by decide +kernel)) (fun _ _ _ _ _ => (u_g 13 nd)) (fun _ _ _ _ _ => ts_nil) (fun _ _ _ _ _ => (s_op od_shr op_shr (sv 13) (sv 3))))
    (b_cons (u_set 6 (u_call h_basis_of (hr.mono (by decide)) tk (a_cons (sv 5) a_nil)) nd)
    (b_cons (u_set 7 (u_meth0 "Fold" h_Fold_back (hr.mono (by decide)) tk (sv 0)) nd)
    (b_cons (u_own 8 (f_lst a_nil) nd)
    (b_cons (t_for po (i_seq (sv 1)) (u_g 9 nd) (b_cons (u_set 10 (u_meth "Fold" h_Fold_to (hr.mono (by decide)) tk (sv 7) (a_cons (s_op od_shl op_shl s_int (sv 9)) a_nil)) nd)
    (b_cons (u_set 11 (u_call h_trail_to (hr.mono (by decide)) tk (a_cons (sv 5) (a_cons (s_op od_xor op_xor (s_op od_shr op_shr (sv 10) (sv 3)) (u_call h_reduced (hr.mono (by decide)) tk (a_cons (s_op od_shr op_shr (sv 10) (sv 3)) (a_cons (sv 6) a_nil)))) a_nil))) nd)
    (b_cons (t_for po (i_enumS B.enumerate (a_cons (sv 4) a_nil)) (g_tup (gs_cons (u_g 12 nd) (gs_cons (u_g 13 nd) gs_nil))) (b_one (u_set 10 (s_if (c_cmp od_eq (op_eqD hr.units) (s_op od_and op_and (s_op od_shr op_shr (sv 11) (sv 12)) s_int) s_int (nomark _)) (s_op od_xor op_xor (sv 10) (sv 13)) (sv 10)) nd)))
    (b_one (t_app 8 (sv 10)))))))
    (b_one (t_retO 8)))))))))⟩
abbrev s_gather : Stmt := top 23
abbrev N_gather : List Str := ["spread", "places", "lanes", "at", "step"]
theorem sc_gather : FnScope N_gather ["spread", "places", "lanes"] (defScope s_gather) := ⟨rfl, rfl, rfl, by decide +kernel, rfl, by decide +kernel, by decide +kernel⟩
theorem ok_gather {f : Addr} {fd : FuncData} (F : FnP K "gather" "gather" s_gather [] f fd) (B : Bl mg) (h_need_lanes : Kn P w K mg base (GY K ca T) 2 "need_lanes" 2 m_need_lanes [] []) (h_Fold_onto : KnM P w K mg base (GY K ca T) 4 "Fold" "onto" 1 m_Fold_onto [] []) (x_NotOnto : KnX K mg (GY K ca T) "NotOnto") (h_Fold_size : KnM P w K mg base (GY K ca T) 1 "Fold" "size" 1 m_Fold_size [] []) (x_BadDigits : KnX K mg (GY K ca T) "BadDigits") (h_steps_along : Kn P w K mg base (GY K ca T) 7 "steps_along" 3 m_steps_along [] []) (h_Fold_many : KnM P w K mg base (GY K ca T) 1 "Fold" "many" 1 m_Fold_many [] []) (h_basis_of : Kn P w K mg base (GY K ca T) 3 "basis_of" 1 m_basis_of [] []) : FnOk P w K mg base (L2N.CX P w) 8 f fd ["spread", "places", "lanes"] (spOf (GY K ca T) 3 m_gather) :=
  fn_sim (GY K ca T) F sc_gather rfl fun cdv A outer s H E hr tk po => by
  have nd := sc_gather.nd
  exact ⟨_, (b_cons (t_expr (u_call h_need_lanes (hr.mono (by decide)) tk (a_cons (sv 0) (a_cons (sv 2) a_nil))))
    (b_cons (t_if (c_not (c_val (u_meth0 "Fold" h_Fold_onto (hr.mono (by decide)) tk (sv 0)))) (b_one (u_raise x_NotOnto tk)) b_nil)
    (b_cons (t_if (SW.sc (w_or (c_cmp od_lt op_lt (s_lenSet B.set B.len (sv 1) (by decide +kernel : bootBuiltins "set" = some (.type "set"))) (s_cb cd_len cr_len B.len PySem.boot_len (a_cons (sv 1) a_nil)) (nomark _)) (w_or1 (c_val (s_cb cd_any (cr_any rfl) B.any (by decide +kernel : bootBuiltins "any" = some (.builtin "any")) (a_cons (SF.val (f_lc (own := [("at", 3)]) nd (i_seq (sv 1)) (blkOk_by (own := [("at", 3)]) (N := N_gather) (sc := defScope s_gather) (by decide +kernel)) (fun _ _ _ _ _ => (u_g 3 nd)) (fun _ _ _ _ _ => ts_nil) (fun _ _ _ _ _ => (s_or (s_cmp od_lt op_lt (sv 3) s_int (nomark _)) (s_one (s_cmp od_ge op_ge (sv 3) (u_meth0 "Fold" h_Fold_size (hr.mono (by decide)) takesN (sv 0)) (nomark _))))))) a_nil)))))) (b_one (u_raise x_BadDigits tk)) b_nil)
    (b_one (t_retF (v_call h_basis_of (hr.mono (by decide)) tk (a_cons (SF.val (f_lc (own := [("step", 4)]) nd (i_seq (u_call h_steps_along (hr.mono (by decide)) tk (a_cons (sv 0) (a_cons (sv 1) (a_cons (sv 2) a_nil))))) (blkOk_by (own := [("step", 4)]) (N := N_gather) (sc := defScope s_gather) (by decide +kernel)) (fun _ _ _ _ _ => (u_g 4 nd)) (fun _ _ _ _ _ => ts_nil) (fun _ _ _ _ _ => (s_op od_shr op_shr (sv 4) (s_op od_sub op_sub (u_meth0 "Fold" h_Fold_many (hr.mono (by decide)) takesN (sv 0)) (sv 2)))))) a_nil)))))))⟩
abbrev s__law_span : Stmt := top 29
abbrev N__law_span : List Str := ["_law_numbers_here", "_law_found", "_law_one", "_law_other"]
theorem sc__law_span : FnScope N__law_span ["_law_numbers_here"] (defScope s__law_span) := ⟨rfl, rfl, rfl, by decide +kernel, rfl, by decide +kernel, by decide +kernel⟩
theorem ok__law_span {f : Addr} {fd : FuncData} (F : FnP K "_law_span" "_law_span" s__law_span [] f fd) : FnOk P w K mg base (L2N.CX P w) 1 f fd ["_law_numbers_here"] (spOf (GY K ca T) 1 m__law_span) :=
  fn_sim (GY K ca T) F sc__law_span rfl fun cdv A outer s H E hr tk po => by
  have nd := sc__law_span.nd
  exact ⟨_, (b_cons (u_set 1 (SF.val (f_lst (a_cons s_int a_nil))) nd)
    (b_cons (t_for po (i_seq (sv 0)) (u_g 2 nd) (b_one (t_if (c_cmp od_in op_notIn_seq (sv 2) (sv 1) (by rfl)) (b_one (u_set 1 (s_op od_add op_addD (sv 1) (SF.val (f_lc (own := [("_law_other", 3)]) nd (i_seq (sv 1)) (blkOk_by (own := [("_law_other", 3)]) (N := N__law_span) (sc := defScope s__law_span) (by decide +kernel)) (fun _ _ _ _ _ => (u_g 3 nd)) (fun _ _ _ _ _ => ts_nil) (fun _ _ _ _ _ => (s_op od_xor op_xor (sv 3) (sv 2)))))) nd)) b_nil)))
    (b_one (t_ret (sv 1)))))⟩
abbrev s__law_reached : Stmt := top 34
abbrev N__law_reached : List Str := ["_law_images_here", "_law_lane", "_law_span_here", "_law_low", "_law_found", "_law_swing", "_law_start", "_law_cell"]
theorem sc__law_reached : FnScope N__law_reached ["_law_images_here", "_law_lane", "_law_span_here", "_law_low"] (defScope s__law_reached) := ⟨rfl, rfl, rfl, by decide +kernel, rfl, by decide +kernel, by decide +kernel⟩
theorem ok__law_reached {f : Addr} {fd : FuncData} (F : FnP K "_law_reached" "_law_reached" s__law_reached [] f fd) : FnOk P w K mg base (L2N.CX P w) 1 f fd ["_law_images_here", "_law_lane", "_law_span_here", "_law_low"] (spOf (GY K ca T) 4 m__law_reached) :=
  fn_sim (GY K ca T) F sc__law_reached rfl fun cdv A outer s H E hr tk po => by
  have nd := sc__law_reached.nd
  exact ⟨_, (b_cons (u_own 4 (f_dic0) nd)
    (b_cons (t_for po (i_seq (sv 2)) (u_g 5 nd) (b_cons (u_set 6 (s_op od_shl op_shl (s_op od_xor op_xor (sv 1) (sv 5)) (sv 3)) nd)
    (b_one (t_for po (i_seq (SF.val (f_sl (sv 0) (o_some (sv 6)) (o_some (s_op od_add op_addD (sv 6) (s_op od_shl op_shl s_int (sv 3))))))) (u_g 7 nd) (b_one (t_dputA 4 hr.units (sv 7) s_bl))))))
    (b_one (t_retO 4))))⟩
abbrev s_law : Stmt := top 35
abbrev N_law : List Str := ["_law_script", "_law_box_here", "_law_turn", "_law_deep", "_law_many", "_law_lanes_now", "_law_one", "_law_two", "_law_low", "_law_spread", "_law_images_here", "_law_places", "_law_found", "_law_wanted", "_law_span_here", "_law_lane", "_law_cells", "_law_start", "_law_fewer", "_law_counts", "_law_at", "_law_apart", "_law_k"]
theorem sc_law : FnScope N_law ["_law_script"] (defScope s_law) := ⟨rfl, rfl, rfl, by decide +kernel, rfl, by decide +kernel, by decide +kernel⟩
theorem ok_law {f : Addr} {fd : FuncData} (F : FnP K "law" "law" s_law [] f fd) (B : Bl mg) (h__law_box : Kn P w K mg base (GY K ca T) 1 "_law_box" 1 m__law_box [] []) (h__law_two_spreads : Kn P w K mg base (GY K ca T) 4 "_law_two_spreads" 1 m__law_two_spreads [] []) (h__law_images : Kn P w K mg base (GY K ca T) 1 "_law_images" 1 m__law_images [] []) (k_Fold : KnC P w K mg base (GY K ca T) 1 "Fold" 3 m_FoldU_initU [] []) (h__law_take : Kn P w K mg base (GY K ca T) 1 "_law_take" 2 m__law_take [] []) (h_gather_2_lanes : KnK P w K mg base (GY K ca T) 8 "gather" 2 ["lanes"] m_gather [] []) (h__law_span : Kn P w K mg base (GY K ca T) 1 "_law_span" 1 m__law_span [] []) (h__law_reached : Kn P w K mg base (GY K ca T) 1 "_law_reached" 4 m__law_reached [] []) : FnOk P w K mg base (L2N.CX P w) 9 f fd ["_law_script"] (spOf (GY K ca T) 1 m_law) :=
  fn_sim (GY K ca T) F sc_law rfl fun cdv A outer s H E hr tk po => by
  have nd := sc_law.nd
  exact ⟨_, (b_cons (u_cell 1 (v_call h__law_box (hr.mono (by decide)) tk (a_cons (sv 0) a_nil)) nd)
    (b_cons (t_for po (i_range1 B.range (a_cons s_int a_nil)) (u_g 2 nd) (b_cons (t_asg (u_call h__law_two_spreads (hr.mono (by decide)) tk (a_cons (sv 1) a_nil)) (g_tup (gs_cons (u_g 3 nd) (gs_cons (u_g 4 nd) (gs_cons (u_g 5 nd) (gs_cons (u_g 6 nd) (gs_cons (u_g 7 nd) gs_nil)))))))
    (b_cons (u_set 8 (s_op od_sub op_sub (sv 3) (sv 5)) nd)
    (b_cons (t_asg (s_tup (a_cons (u_new k_Fold (hr.mono (by decide)) tk (a_cons (sv 6) (a_cons (sv 4) a_nil))) (a_cons (u_call h__law_images (hr.mono (by decide)) tk (a_cons (sv 6) a_nil)) a_nil))) (g_tup (gs_cons (u_g 9 nd) (gs_cons (u_g 10 nd) gs_nil))))
    (b_cons (u_set 11 (SF.val (f_lc (own := [("_law_at", 20)]) nd (i_range1 B.range (a_cons (sv 4) a_nil)) (blkOk_by (own := [("_law_at", 20)]) (N := N_law) (sc := defScope s_law) (by decide +kernel)) (fun _ _ _ _ _ => (u_g 20 nd)) (fun _ _ _ _ _ => (ts_one (c_cmp od_eq (op_eqD hr.units) (u_call h__law_take (hr.mono (by decide)) takesN (a_cons (sv 1) (a_cons s_int a_nil))) s_int (nomark _)))) (fun _ _ _ _ _ => (sv 20)))) nd)
    (b_cons (u_set 12 (u_callK h_gather_2_lanes (hr.mono (by decide)) tk (a_cons (sv 9) (a_cons (sv 11) a_nil)) (k_cons (sv 5) k_nil)) nd)
    (b_cons (u_set 13 (u_call h__law_span (hr.mono (by decide)) tk (a_cons (SF.val (f_lc (own := [("_law_at", 20)]) nd (i_seq (sv 11)) (blkOk_by (own := [("_law_at", 20)]) (N := N_law) (sc := defScope s_law) (by decide +kernel)) (fun _ _ _ _ _ => (u_g 20 nd)) (fun _ _ _ _ _ => ts_nil) (fun _ _ _ _ _ => (s_op od_shl op_shl s_int (sv 20))))) a_nil)) nd)
    (b_cons (u_set 14 (u_call h__law_span (hr.mono (by decide)) tk (a_cons (sv 12) a_nil)) nd)
    (b_cons (t_for po (i_range1 B.range (a_cons (s_op od_shl op_shl s_int (sv 5)) a_nil)) (u_g 15 nd) (b_cons (u_set 16 (u_call h__law_reached (hr.mono (by decide)) tk (a_cons (sv 10) (a_cons (sv 15) (a_cons (sv 14) (a_cons (sv 8) a_nil))))) nd)
    (b_cons (u_set 17 (s_ix od_ix ix_lt (sv 10) (s_op od_shl op_shl (sv 15) (sv 8)) (fun _ _ => rfl)) nd)
    (b_cons (t_if (c_not (c_val (s_cb cd_all (cr_all rfl) B.all (by decide +kernel : bootBuiltins "all" = some (.builtin "all")) (a_cons (SF.val (f_lc (own := [("_law_apart", 21)]) nd (i_seq (sv 13)) (blkOk_by (own := [("_law_apart", 21)]) (N := N_law) (sc := defScope s_law) (by decide +kernel)) (fun _ _ _ _ _ => (u_g 21 nd)) (fun _ _ _ _ _ => ts_nil) (fun _ _ _ _ _ => (s_dinA 16 hr.units (s_op od_xor op_xor (sv 17) (sv 21)))))) a_nil)))) (b_one (t_ret s_bl)) b_nil)
    (b_one (t_for po (i_seq (SF.val (f_lc (own := [("_law_k", 22)]) nd (i_range1 B.range (a_cons (s_cb cd_len cr_len B.len PySem.boot_len (a_cons (sv 12) a_nil)) a_nil)) (blkOk_by (own := [("_law_k", 22)]) (N := N_law) (sc := defScope s_law) (by decide +kernel)) (fun _ _ _ _ _ => (u_g 22 nd)) (fun _ _ _ _ _ => ts_nil) (fun _ _ _ _ _ => (s_op od_add op_addD (SF.val (f_sl (sv 12) o_none (o_some (sv 22)))) (SF.val (f_sl (sv 12) (o_some (s_op od_add op_addD (sv 22) s_int)) o_none))))))) (u_g 18 nd) (b_cons (u_set 16 (u_call h__law_reached (hr.mono (by decide)) tk (a_cons (sv 10) (a_cons (sv 15) (a_cons (u_call h__law_span (hr.mono (by decide)) tk (a_cons (sv 18) a_nil)) (a_cons (sv 8) a_nil))))) nd)
    (b_one (t_if (c_val (s_cb cd_all (cr_all rfl) B.all (by decide +kernel : bootBuiltins "all" = some (.builtin "all")) (a_cons (SF.val (f_lc (own := [("_law_apart", 21)]) nd (i_seq (sv 13)) (blkOk_by (own := [("_law_apart", 21)]) (N := N_law) (sc := defScope s_law) (by decide +kernel)) (fun _ _ _ _ _ => (u_g 21 nd)) (fun _ _ _ _ _ => ts_nil) (fun _ _ _ _ _ => (s_dinA 16 hr.units (s_op od_xor op_xor (sv 17) (sv 21)))))) a_nil))) (b_one (t_ret s_bl)) b_nil)))))))))
    (b_cons (t_if (SW.sc (w_or (c_cmp od_gt op_gt (s_cb cd_len cr_len B.len PySem.boot_len (a_cons (sv 12) a_nil)) (s_cb cd_len cr_len B.len PySem.boot_len (a_cons (sv 11) a_nil)) (nomark _)) (w_or1 (c_cmp od_gt op_gt (s_cb cd_len cr_len B.len PySem.boot_len (a_cons (sv 12) a_nil)) (sv 5) (nomark _))))) (b_one (t_ret s_bl)) b_nil)
    (b_cons (u_set 19 (SF.val (f_lc (own := [("_law_k", 22)]) nd (i_range1 B.range (a_cons (s_op od_add op_addD (s_cb cd_len cr_len B.len PySem.boot_len (a_cons (sv 11) a_nil)) s_int) a_nil)) (blkOk_by (own := [("_law_k", 22)]) (N := N_law) (sc := defScope s_law) (by decide +kernel)) (fun _ _ _ _ _ => (u_g 22 nd)) (fun _ _ _ _ _ => ts_nil) (fun _ _ _ _ _ => (s_cb cd_len cr_len B.len PySem.boot_len (a_cons (u_callK h_gather_2_lanes (hr.mono (by decide)) takesN (a_cons (sv 9) (a_cons (SF.val (f_sl (sv 11) o_none (o_some (sv 22)))) a_nil)) (k_cons (sv 5) k_nil)) a_nil))))) nd)
    (b_one (t_if (SW.sc (w_or (c_cmp od_ne (op_neD hr.units) (sv 19) (SF.val (f_cb co_sorted cr_sortedI B.sorted PyProof.Rows.boot_sorted (a_cons (sv 19) a_nil))) (nomark _)) (w_or1 (c_val (s_cb cd_any (cr_any rfl) B.any (by decide +kernel : bootBuiltins "any" = some (.builtin "any")) (a_cons (SF.val (f_lc (own := [("_law_k", 22)]) nd (i_range1 B.range (a_cons (s_cb cd_len cr_len B.len PySem.boot_len (a_cons (sv 11) a_nil)) a_nil)) (blkOk_by (own := [("_law_k", 22)]) (N := N_law) (sc := defScope s_law) (by decide +kernel)) (fun _ _ _ _ _ => (u_g 22 nd)) (fun _ _ _ _ _ => ts_nil) (fun _ _ _ _ _ => (s_cmp od_gt op_gt (s_op od_sub op_sub (s_ix od_ix ix_lt (sv 19) (s_op od_add op_addD (sv 22) s_int) (fun _ _ => rfl)) (s_ix od_ix ix_lt (sv 19) (sv 22) (fun _ _ => rfl))) s_int (nomark _))))) a_nil)))))) (b_one (t_ret s_bl)) b_nil)))))))))))))
    (b_one (t_ret s_bl))))⟩
end
end K54
namespace K54
open PySem L2 Mm Fb
def d__law_box : He.DefD := ⟨("_law_box", none), "_law_box", "_law_box", defArgs s__law_box, defBody s__law_box, defScope s__law_box, [], []⟩
def d__law_take : He.DefD := ⟨("_law_take", none), "_law_take", "_law_take", defArgs s__law_take, defBody s__law_take, defScope s__law_take, [], []⟩
def d__law_of : He.DefD := ⟨("_law_of", none), "_law_of", "_law_of", defArgs s__law_of, defBody s__law_of, defScope s__law_of, [], []⟩
def d__law_shuffled : He.DefD := ⟨("_law_shuffled", none), "_law_shuffled", "_law_shuffled", defArgs s__law_shuffled, defBody s__law_shuffled, defScope s__law_shuffled, [], []⟩
def d__law_numbers : He.DefD := ⟨("_law_numbers", none), "_law_numbers", "_law_numbers", defArgs s__law_numbers, defBody s__law_numbers, defScope s__law_numbers, [], []⟩
def d__law_lines : He.DefD := ⟨("_law_lines", none), "_law_lines", "_law_lines", defArgs s__law_lines, defBody s__law_lines, defScope s__law_lines, [], []⟩
def d__law_two_spreads : He.DefD := ⟨("_law_two_spreads", none), "_law_two_spreads", "_law_two_spreads", defArgs s__law_two_spreads, defBody s__law_two_spreads, defScope s__law_two_spreads, [], []⟩
def d__law_images : He.DefD := ⟨("_law_images", none), "_law_images", "_law_images", defArgs s__law_images, defBody s__law_images, defScope s__law_images, [], []⟩
def d_FoldU_initU : He.DefD := ⟨("Fold", some "__init__"), "__init__", "Fold.__init__", defArgs s_FoldU_initU, defBody s_FoldU_initU, defScope s_FoldU_initU, [], []⟩
def d_Fold_many : He.DefD := ⟨("Fold", some "many"), "many", "Fold.many", defArgs s_Fold_many, defBody s_Fold_many, defScope s_Fold_many, [], []⟩
def d_need_lanes : He.DefD := ⟨("need_lanes", none), "need_lanes", "need_lanes", defArgs s_need_lanes, defBody s_need_lanes, defScope s_need_lanes, [], []⟩
def d_top_of : He.DefD := ⟨("top_of", none), "top_of", "top_of", defArgs s_top_of, defBody s_top_of, defScope s_top_of, [], []⟩
def d_reduced : He.DefD := ⟨("reduced", none), "reduced", "reduced", defArgs s_reduced, defBody s_reduced, defScope s_reduced, [], []⟩
def d_basis_of : He.DefD := ⟨("basis_of", none), "basis_of", "basis_of", defArgs s_basis_of, defBody s_basis_of, defScope s_basis_of, [], []⟩
def d_Fold_onto : He.DefD := ⟨("Fold", some "onto"), "onto", "Fold.onto", defArgs s_Fold_onto, defBody s_Fold_onto, defScope s_Fold_onto, [], []⟩
def d_Fold_size : He.DefD := ⟨("Fold", some "size"), "size", "Fold.size", defArgs s_Fold_size, defBody s_Fold_size, defScope s_Fold_size, [], []⟩
def d_traced : He.DefD := ⟨("traced", none), "traced", "traced", defArgs s_traced, defBody s_traced, defScope s_traced, [], []⟩
def d_Fold_kernel : He.DefD := ⟨("Fold", some "kernel"), "kernel", "Fold.kernel", defArgs s_Fold_kernel, defBody s_Fold_kernel, defScope s_Fold_kernel, [], []⟩
def d_trail_to : He.DefD := ⟨("trail_to", none), "trail_to", "trail_to", defArgs s_trail_to, defBody s_trail_to, defScope s_trail_to, [], []⟩
def d_Fold_least : He.DefD := ⟨("Fold", some "least"), "least", "Fold.least", defArgs s_Fold_least, defBody s_Fold_least, defScope s_Fold_least, [], []⟩
def d_Fold_back : He.DefD := ⟨("Fold", some "back"), "back", "Fold.back", defArgs s_Fold_back, defBody s_Fold_back, defScope s_Fold_back, [], []⟩
def d_blended : He.DefD := ⟨("blended", none), "blended", "blended", defArgs s_blended, defBody s_blended, defScope s_blended, [], []⟩
def d_picked : He.DefD := ⟨("picked", none), "picked", "picked", defArgs s_picked, defBody s_picked, defScope s_picked, [], []⟩
def d_Fold_to : He.DefD := ⟨("Fold", some "to"), "to", "Fold.to", defArgs s_Fold_to, defBody s_Fold_to, defScope s_Fold_to, [], []⟩
def d_steps_along : He.DefD := ⟨("steps_along", none), "steps_along", "steps_along", defArgs s_steps_along, defBody s_steps_along, defScope s_steps_along, [], []⟩
def d_gather : He.DefD := ⟨("gather", none), "gather", "gather", defArgs s_gather, defBody s_gather, defScope s_gather, [], []⟩
def d__law_span : He.DefD := ⟨("_law_span", none), "_law_span", "_law_span", defArgs s__law_span, defBody s__law_span, defScope s__law_span, [], []⟩
def d__law_reached : He.DefD := ⟨("_law_reached", none), "_law_reached", "_law_reached", defArgs s__law_reached, defBody s__law_reached, defScope s__law_reached, [], []⟩
def d_law : He.DefD := ⟨("law", none), "law", "law", defArgs s_law, defBody s_law, defScope s_law, [], []⟩
def fns : List He.DefD := [d__law_box, d__law_take, d__law_of, d__law_shuffled, d__law_numbers, d__law_lines, d__law_two_spreads, d__law_images, d_FoldU_initU, d_Fold_many, d_need_lanes, d_top_of, d_reduced, d_basis_of, d_Fold_onto, d_Fold_size, d_traced, d_Fold_kernel, d_trail_to, d_Fold_least, d_Fold_back, d_blended, d_picked, d_Fold_to, d_steps_along, d_gather, d__law_span, d__law_reached, d_law]
def tf : List (He.Defn × Str) := []
def tfd : List He.Defn := []
def facl : List He.Fa := blFa ++ [.glo "_law_box", .glo "_law_take", .glo "_law_of", .glo "_law_numbers", .glo "_law_shuffled", .glo "_law_lines", .glo "_law_two_spreads", .glo "_law_images", .int "MOST_DIGITS" 12, .glo "BadFold", .exc "BadFold", .cls "Fold", .noat "Fold" "lines", .noat "Fold" "wide", .mkr "Fold", .glo "Fold", .meth "Fold" "many", .glo "BadSize", .exc "BadSize", .glo "need_lanes", .glo "top_of", .glo "reduced", .glo "basis_of", .meth "Fold" "onto", .glo "NotOnto", .exc "NotOnto", .meth "Fold" "size", .glo "BadDigits", .exc "BadDigits", .glo "traced", .meth "Fold" "kernel", .glo "trail_to", .meth "Fold" "least", .meth "Fold" "back", .glo "BadNumber", .exc "BadNumber", .glo "blended", .glo "picked", .meth "Fold" "to", .glo "steps_along", .glo "gather", .glo "_law_span", .glo "_law_reached", .glo "law"]
def exs : List (PySem.W.Frag → Bool) := []
def ex (K : PySem.W.Frag) : Bool := exs.all fun f => f K
abbrev R : PySem.W.OpenRow := PySem.W.OpenLaw.row PySem.Challenge.rw_foldberth_k54_whole_gathers_reach_all
abbrev hk : PySem.W.Hook := He.hookX 6 facl fns [] tfd ex
def ob (s : PySem.W.SharedT) : He.AlX := He.obsX 6 facl fns [] tfd ex (HandSHeadRun.getT s)
theorem ob_eq (s : PySem.W.SharedT) : ob s = hk.obs s.abs := He.obsX_eq (HandSHeadRun.getT_eq s)
def loose0 : List Str := ["_wall", "FoldError", "BadNumber", "BadFold", "NotOnto", "BadSize", "BadDigits", "MOST_DIGITS", "top_of", "blended", "picked", "reduced", "basis_of", "traced", "trail_to", "Fold", "need_lanes", "steps_along", "gather", "_law_box", "_law_take", "_law_of", "_law_shuffled", "_law_span", "_law_numbers", "_law_images", "_law_lines", "_law_two_spreads", "_law_reached"]
def loose : List Str := loose0
set_option maxHeartbeats 0 in
theorem run (w : World) : HandSHeadRun.RunEq R (PySem.W.view R.prog [35]) hk ob 8000 loose w := by
  intro os
  kernel_rfl
theorem facts {P : Program} {w : World} {K : PySem.W.Frag} {h : Heap} {mg : Str → Option Value} {f : Addr} (X : K.In h) (G : h.Ns mainGlobals mg) (hfa : mg ("law" : Str) = some (.ref f)) (c : He.SaysX facl fns [] (tf.map (·.1)) ex w h K) :
    ∃ fd : FuncData, (∀ (s : Shared) (v : Value), BindsTo s fd ⟨[v], []⟩ [("_law_script", v)]) ∧ ∀ base : Heap, (∀ q ∈ tf, LamX.TabB base mg (He.cT K q.1).1 (He.cT K q.1).2) → FnOk P w K mg base (L2N.CX P w) 9 f fd ["_law_script"] (spOf (GY K (He.ga K) (Tof K tf)) 1 m_law) := by
  obtain ⟨fd__law_box, F'__law_box⟩ := c.t.d.def_ 0 (d := d__law_box) rfl
  have F__law_box : FnP K "_law_box" "_law_box" s__law_box [] (He.ga K "_law_box") fd__law_box := F'__law_box
  obtain ⟨fd__law_take, F'__law_take⟩ := c.t.d.def_ 1 (d := d__law_take) rfl
  have F__law_take : FnP K "_law_take" "_law_take" s__law_take [] (He.ga K "_law_take") fd__law_take := F'__law_take
  obtain ⟨fd__law_of, F'__law_of⟩ := c.t.d.def_ 2 (d := d__law_of) rfl
  have F__law_of : FnP K "_law_of" "_law_of" s__law_of [] (He.ga K "_law_of") fd__law_of := F'__law_of
  obtain ⟨fd__law_shuffled, F'__law_shuffled⟩ := c.t.d.def_ 3 (d := d__law_shuffled) rfl
  have F__law_shuffled : FnP K "_law_shuffled" "_law_shuffled" s__law_shuffled [] (He.ga K "_law_shuffled") fd__law_shuffled := F'__law_shuffled
  obtain ⟨fd__law_numbers, F'__law_numbers⟩ := c.t.d.def_ 4 (d := d__law_numbers) rfl
  have F__law_numbers : FnP K "_law_numbers" "_law_numbers" s__law_numbers [] (He.ga K "_law_numbers") fd__law_numbers := F'__law_numbers
  obtain ⟨fd__law_lines, F'__law_lines⟩ := c.t.d.def_ 5 (d := d__law_lines) rfl
  have F__law_lines : FnP K "_law_lines" "_law_lines" s__law_lines [] (He.ga K "_law_lines") fd__law_lines := F'__law_lines
  obtain ⟨fd__law_two_spreads, F'__law_two_spreads⟩ := c.t.d.def_ 6 (d := d__law_two_spreads) rfl
  have F__law_two_spreads : FnP K "_law_two_spreads" "_law_two_spreads" s__law_two_spreads [] (He.ga K "_law_two_spreads") fd__law_two_spreads := F'__law_two_spreads
  obtain ⟨fd__law_images, F'__law_images⟩ := c.t.d.def_ 7 (d := d__law_images) rfl
  have F__law_images : FnP K "_law_images" "_law_images" s__law_images [] (He.ga K "_law_images") fd__law_images := F'__law_images
  obtain ⟨fd_FoldU_initU, F'_FoldU_initU⟩ := c.t.d.def_ 8 (d := d_FoldU_initU) rfl
  have F_FoldU_initU : FnP K "__init__" "Fold.__init__" s_FoldU_initU [] (He.ma K (He.ga K "Fold") "__init__") fd_FoldU_initU := F'_FoldU_initU
  obtain ⟨fd_Fold_many, F'_Fold_many⟩ := c.t.d.def_ 9 (d := d_Fold_many) rfl
  have F_Fold_many : FnP K "many" "Fold.many" s_Fold_many [] (He.ma K (He.ga K "Fold") "many") fd_Fold_many := F'_Fold_many
  obtain ⟨fd_need_lanes, F'_need_lanes⟩ := c.t.d.def_ 10 (d := d_need_lanes) rfl
  have F_need_lanes : FnP K "need_lanes" "need_lanes" s_need_lanes [] (He.ga K "need_lanes") fd_need_lanes := F'_need_lanes
  obtain ⟨fd_top_of, F'_top_of⟩ := c.t.d.def_ 11 (d := d_top_of) rfl
  have F_top_of : FnP K "top_of" "top_of" s_top_of [] (He.ga K "top_of") fd_top_of := F'_top_of
  obtain ⟨fd_reduced, F'_reduced⟩ := c.t.d.def_ 12 (d := d_reduced) rfl
  have F_reduced : FnP K "reduced" "reduced" s_reduced [] (He.ga K "reduced") fd_reduced := F'_reduced
  obtain ⟨fd_basis_of, F'_basis_of⟩ := c.t.d.def_ 13 (d := d_basis_of) rfl
  have F_basis_of : FnP K "basis_of" "basis_of" s_basis_of [] (He.ga K "basis_of") fd_basis_of := F'_basis_of
  obtain ⟨fd_Fold_onto, F'_Fold_onto⟩ := c.t.d.def_ 14 (d := d_Fold_onto) rfl
  have F_Fold_onto : FnP K "onto" "Fold.onto" s_Fold_onto [] (He.ma K (He.ga K "Fold") "onto") fd_Fold_onto := F'_Fold_onto
  obtain ⟨fd_Fold_size, F'_Fold_size⟩ := c.t.d.def_ 15 (d := d_Fold_size) rfl
  have F_Fold_size : FnP K "size" "Fold.size" s_Fold_size [] (He.ma K (He.ga K "Fold") "size") fd_Fold_size := F'_Fold_size
  obtain ⟨fd_traced, F'_traced⟩ := c.t.d.def_ 16 (d := d_traced) rfl
  have F_traced : FnP K "traced" "traced" s_traced [] (He.ga K "traced") fd_traced := F'_traced
  obtain ⟨fd_Fold_kernel, F'_Fold_kernel⟩ := c.t.d.def_ 17 (d := d_Fold_kernel) rfl
  have F_Fold_kernel : FnP K "kernel" "Fold.kernel" s_Fold_kernel [] (He.ma K (He.ga K "Fold") "kernel") fd_Fold_kernel := F'_Fold_kernel
  obtain ⟨fd_trail_to, F'_trail_to⟩ := c.t.d.def_ 18 (d := d_trail_to) rfl
  have F_trail_to : FnP K "trail_to" "trail_to" s_trail_to [] (He.ga K "trail_to") fd_trail_to := F'_trail_to
  obtain ⟨fd_Fold_least, F'_Fold_least⟩ := c.t.d.def_ 19 (d := d_Fold_least) rfl
  have F_Fold_least : FnP K "least" "Fold.least" s_Fold_least [] (He.ma K (He.ga K "Fold") "least") fd_Fold_least := F'_Fold_least
  obtain ⟨fd_Fold_back, F'_Fold_back⟩ := c.t.d.def_ 20 (d := d_Fold_back) rfl
  have F_Fold_back : FnP K "back" "Fold.back" s_Fold_back [] (He.ma K (He.ga K "Fold") "back") fd_Fold_back := F'_Fold_back
  obtain ⟨fd_blended, F'_blended⟩ := c.t.d.def_ 21 (d := d_blended) rfl
  have F_blended : FnP K "blended" "blended" s_blended [] (He.ga K "blended") fd_blended := F'_blended
  obtain ⟨fd_picked, F'_picked⟩ := c.t.d.def_ 22 (d := d_picked) rfl
  have F_picked : FnP K "picked" "picked" s_picked [] (He.ga K "picked") fd_picked := F'_picked
  obtain ⟨fd_Fold_to, F'_Fold_to⟩ := c.t.d.def_ 23 (d := d_Fold_to) rfl
  have F_Fold_to : FnP K "to" "Fold.to" s_Fold_to [] (He.ma K (He.ga K "Fold") "to") fd_Fold_to := F'_Fold_to
  obtain ⟨fd_steps_along, F'_steps_along⟩ := c.t.d.def_ 24 (d := d_steps_along) rfl
  have F_steps_along : FnP K "steps_along" "steps_along" s_steps_along [] (He.ga K "steps_along") fd_steps_along := F'_steps_along
  obtain ⟨fd_gather, F'_gather⟩ := c.t.d.def_ 25 (d := d_gather) rfl
  have F_gather : FnP K "gather" "gather" s_gather [] (He.ga K "gather") fd_gather := F'_gather
  obtain ⟨fd__law_span, F'__law_span⟩ := c.t.d.def_ 26 (d := d__law_span) rfl
  have F__law_span : FnP K "_law_span" "_law_span" s__law_span [] (He.ga K "_law_span") fd__law_span := F'__law_span
  obtain ⟨fd__law_reached, F'__law_reached⟩ := c.t.d.def_ 27 (d := d__law_reached) rfl
  have F__law_reached : FnP K "_law_reached" "_law_reached" s__law_reached [] (He.ga K "_law_reached") fd__law_reached := F'__law_reached
  obtain ⟨fd_law, F'_law⟩ := c.t.d.def_ 28 (d := d_law) rfl
  have F_law : FnP K "law" "law" s_law [] (He.ga K "law") fd_law := F'_law
  have e := hfa.symm.trans (He.glo_ok X G (c.t.d.fact 63 (f := .glo "law") rfl))
  cases e
  have b := FunD.bindsA (ps := ["_law_script"]) F_law fun _ _ _ _ _ _ us hl => match us, hl with | [_], _ => rfl
  refine ⟨fd_law, fun s v => b s [v] rfl, fun base hTB => ?_⟩
  have B : Bl mg := bl_of X G fun f hf => c.t.d.facts (List.mem_append_left _ hf)
  have o__law_box := ok__law_box (P := P) (w := w) (mg := mg) (base := base) (ca := He.ga K) (T := Tof K tf) F__law_box B
  have h__law_box : Kn P w K mg base (GY K (He.ga K) (Tof K tf)) 1 "_law_box" 1 m__law_box [] [] := kn_of F__law_box (He.glo_ok X G (c.t.d.fact 20 (f := .glo "_law_box") rfl)) (F__law_box.bindsN (ps := ["_law_script"]) fun _ _ _ _ _ _ us hl => match us, hl with | [_], _ => rfl) o__law_box
  have o__law_take := ok__law_take (P := P) (w := w) (mg := mg) (base := base) (ca := He.ga K) (T := Tof K tf) F__law_take B
  have h__law_take : Kn P w K mg base (GY K (He.ga K) (Tof K tf)) 1 "_law_take" 2 m__law_take [] [] := kn_of F__law_take (He.glo_ok X G (c.t.d.fact 21 (f := .glo "_law_take") rfl)) (F__law_take.bindsN (ps := ["_law_box_here", "_law_sides"]) fun _ _ _ _ _ _ us hl => match us, hl with | [_, _], _ => rfl) o__law_take
  have o__law_of := ok__law_of (P := P) (w := w) (mg := mg) (base := base) (ca := He.ga K) (T := Tof K tf) F__law_of B h__law_take
  have h__law_of : Kn P w K mg base (GY K (He.ga K) (Tof K tf)) 2 "_law_of" 2 m__law_of [] [] := kn_of F__law_of (He.glo_ok X G (c.t.d.fact 22 (f := .glo "_law_of") rfl)) (F__law_of.bindsN (ps := ["_law_box_here", "_law_some"]) fun _ _ _ _ _ _ us hl => match us, hl with | [_, _], _ => rfl) o__law_of
  have o__law_numbers := ok__law_numbers (P := P) (w := w) (mg := mg) (base := base) (ca := He.ga K) (T := Tof K tf) F__law_numbers B h__law_take
  have h__law_numbers : Kn P w K mg base (GY K (He.ga K) (Tof K tf)) 2 "_law_numbers" 3 m__law_numbers [] [] := kn_of F__law_numbers (He.glo_ok X G (c.t.d.fact 23 (f := .glo "_law_numbers") rfl)) (F__law_numbers.bindsN (ps := ["_law_box_here", "_law_count", "_law_many"]) fun _ _ _ _ _ _ us hl => match us, hl with | [_, _, _], _ => rfl) o__law_numbers
  have o__law_shuffled := ok__law_shuffled (P := P) (w := w) (mg := mg) (base := base) (ca := He.ga K) (T := Tof K tf) F__law_shuffled B h__law_take
  have h__law_shuffled : Kn P w K mg base (GY K (He.ga K) (Tof K tf)) 2 "_law_shuffled" 2 m__law_shuffled [] [] := kn_of F__law_shuffled (He.glo_ok X G (c.t.d.fact 24 (f := .glo "_law_shuffled") rfl)) (F__law_shuffled.bindsN (ps := ["_law_box_here", "_law_some"]) fun _ _ _ _ _ _ us hl => match us, hl with | [_, _], _ => rfl) o__law_shuffled
  have o__law_lines := ok__law_lines (P := P) (w := w) (mg := mg) (base := base) (ca := He.ga K) (T := Tof K tf) F__law_lines B h__law_numbers h__law_shuffled h__law_take
  have h__law_lines : Kn P w K mg base (GY K (He.ga K) (Tof K tf)) 3 "_law_lines" 3 m__law_lines [] [] := kn_of F__law_lines (He.glo_ok X G (c.t.d.fact 25 (f := .glo "_law_lines") rfl)) (F__law_lines.bindsN (ps := ["_law_box_here", "_law_deep", "_law_many"]) fun _ _ _ _ _ _ us hl => match us, hl with | [_, _, _], _ => rfl) o__law_lines
  have o__law_two_spreads := ok__law_two_spreads (P := P) (w := w) (mg := mg) (base := base) (ca := He.ga K) (T := Tof K tf) F__law_two_spreads B h__law_of h__law_take h__law_lines h__law_shuffled
  have h__law_two_spreads : Kn P w K mg base (GY K (He.ga K) (Tof K tf)) 4 "_law_two_spreads" 1 m__law_two_spreads [] [] := kn_of F__law_two_spreads (He.glo_ok X G (c.t.d.fact 26 (f := .glo "_law_two_spreads") rfl)) (F__law_two_spreads.bindsN (ps := ["_law_box_here"]) fun _ _ _ _ _ _ us hl => match us, hl with | [_], _ => rfl) o__law_two_spreads
  have o__law_images := ok__law_images (P := P) (w := w) (mg := mg) (base := base) (ca := He.ga K) (T := Tof K tf) F__law_images
  have h__law_images : Kn P w K mg base (GY K (He.ga K) (Tof K tf)) 1 "_law_images" 1 m__law_images [] [] := kn_of F__law_images (He.glo_ok X G (c.t.d.fact 27 (f := .glo "_law_images") rfl)) (F__law_images.bindsN (ps := ["_law_lines_here"]) fun _ _ _ _ _ _ us hl => match us, hl with | [_], _ => rfl) o__law_images
  have c_MOST_DIGITS : ∃ u, mg "MOST_DIGITS" = some (.int 12 u) := He.int_ok X G (c.t.d.fact 28 (f := .int "MOST_DIGITS" 12) rfl)
  have x_BadFold : KnX K mg (GY K (He.ga K) (Tof K tf)) "BadFold" := knX_of X G (c.t.d.fact 29 (f := .glo "BadFold") rfl) (c.t.d.fact 30 (f := .exc "BadFold") rfl)
  have C_Fold : Cls K ((GY K (He.ga K) (Tof K tf)).ca "Fold") := He.cls_ok (c.t.d.fact 31 (f := .cls "Fold") rfl)
  have n_Fold_lines : NoAttr K ((GY K (He.ga K) (Tof K tf)).ca "Fold") "lines" := He.noat_ok (c.t.d.fact 32 (f := .noat "Fold" "lines") rfl)
  have n_Fold_wide : NoAttr K ((GY K (He.ga K) (Tof K tf)).ca "Fold") "wide" := He.noat_ok (c.t.d.fact 33 (f := .noat "Fold" "wide") rfl)
  have o_FoldU_initU := ok_FoldU_initU (P := P) (w := w) (mg := mg) (base := base) (ca := He.ga K) (T := Tof K tf) F_FoldU_initU B c_MOST_DIGITS x_BadFold C_Fold n_Fold_lines n_Fold_wide
  have k_Fold : KnC P w K mg base (GY K (He.ga K) (Tof K tf)) 1 "Fold" 3 m_FoldU_initU [] [] := knC_of F_FoldU_initU (He.mkr_ok (c.t.d.fact 34 (f := .mkr "Fold") rfl)) (He.glo_ok X G (c.t.d.fact 35 (f := .glo "Fold") rfl)) (F_FoldU_initU.bindsN (ps := ["self", "rows", "size"]) fun _ _ _ _ _ _ us hl => match us, hl with | [_, _, _], _ => rfl) o_FoldU_initU
  have o_Fold_many := ok_Fold_many (P := P) (w := w) (mg := mg) (base := base) (ca := He.ga K) (T := Tof K tf) F_Fold_many B C_Fold n_Fold_lines
  have h_Fold_many : KnM P w K mg base (GY K (He.ga K) (Tof K tf)) 1 "Fold" "many" 1 m_Fold_many [] [] := knM_of F_Fold_many (He.cls_ok (c.t.d.fact 31 (f := .cls "Fold") rfl)) (He.meth_ok (c.t.d.fact 36 (f := .meth "Fold" "many") rfl)) (F_Fold_many.bindsN (ps := ["self"]) fun _ _ _ _ _ _ us hl => match us, hl with | [_], _ => rfl) o_Fold_many
  have x_BadSize : KnX K mg (GY K (He.ga K) (Tof K tf)) "BadSize" := knX_of X G (c.t.d.fact 37 (f := .glo "BadSize") rfl) (c.t.d.fact 38 (f := .exc "BadSize") rfl)
  have o_need_lanes := ok_need_lanes (P := P) (w := w) (mg := mg) (base := base) (ca := He.ga K) (T := Tof K tf) F_need_lanes h_Fold_many x_BadSize
  have h_need_lanes : Kn P w K mg base (GY K (He.ga K) (Tof K tf)) 2 "need_lanes" 2 m_need_lanes [] [] := kn_of F_need_lanes (He.glo_ok X G (c.t.d.fact 39 (f := .glo "need_lanes") rfl)) (F_need_lanes.bindsN (ps := ["spread", "lanes"]) fun _ _ _ _ _ _ us hl => match us, hl with | [_, _], _ => rfl) o_need_lanes
  have o_top_of := ok_top_of (P := P) (w := w) (mg := mg) (base := base) (ca := He.ga K) (T := Tof K tf) F_top_of
  have h_top_of : Kn P w K mg base (GY K (He.ga K) (Tof K tf)) 1 "top_of" 1 m_top_of [] [] := kn_of F_top_of (He.glo_ok X G (c.t.d.fact 40 (f := .glo "top_of") rfl)) (F_top_of.bindsN (ps := ["one"]) fun _ _ _ _ _ _ us hl => match us, hl with | [_], _ => rfl) o_top_of
  have o_reduced := ok_reduced (P := P) (w := w) (mg := mg) (base := base) (ca := He.ga K) (T := Tof K tf) F_reduced h_top_of
  have h_reduced : Kn P w K mg base (GY K (He.ga K) (Tof K tf)) 2 "reduced" 2 m_reduced [] [] := kn_of F_reduced (He.glo_ok X G (c.t.d.fact 41 (f := .glo "reduced") rfl)) (F_reduced.bindsN (ps := ["one", "found"]) fun _ _ _ _ _ _ us hl => match us, hl with | [_, _], _ => rfl) o_reduced
  have o_basis_of := ok_basis_of (P := P) (w := w) (mg := mg) (base := base) (ca := He.ga K) (T := Tof K tf) F_basis_of B h_reduced h_top_of
  have h_basis_of : Kn P w K mg base (GY K (He.ga K) (Tof K tf)) 3 "basis_of" 1 m_basis_of [] [] := kn_of F_basis_of (He.glo_ok X G (c.t.d.fact 42 (f := .glo "basis_of") rfl)) (F_basis_of.bindsN (ps := ["numbers"]) fun _ _ _ _ _ _ us hl => match us, hl with | [_], _ => rfl) o_basis_of
  have o_Fold_onto := ok_Fold_onto (P := P) (w := w) (mg := mg) (base := base) (ca := He.ga K) (T := Tof K tf) F_Fold_onto B C_Fold n_Fold_lines h_basis_of n_Fold_wide
  have h_Fold_onto : KnM P w K mg base (GY K (He.ga K) (Tof K tf)) 4 "Fold" "onto" 1 m_Fold_onto [] [] := knM_of F_Fold_onto (He.cls_ok (c.t.d.fact 31 (f := .cls "Fold") rfl)) (He.meth_ok (c.t.d.fact 43 (f := .meth "Fold" "onto") rfl)) (F_Fold_onto.bindsN (ps := ["self"]) fun _ _ _ _ _ _ us hl => match us, hl with | [_], _ => rfl) o_Fold_onto
  have x_NotOnto : KnX K mg (GY K (He.ga K) (Tof K tf)) "NotOnto" := knX_of X G (c.t.d.fact 44 (f := .glo "NotOnto") rfl) (c.t.d.fact 45 (f := .exc "NotOnto") rfl)
  have o_Fold_size := ok_Fold_size (P := P) (w := w) (mg := mg) (base := base) (ca := He.ga K) (T := Tof K tf) F_Fold_size C_Fold n_Fold_wide
  have h_Fold_size : KnM P w K mg base (GY K (He.ga K) (Tof K tf)) 1 "Fold" "size" 1 m_Fold_size [] [] := knM_of F_Fold_size (He.cls_ok (c.t.d.fact 31 (f := .cls "Fold") rfl)) (He.meth_ok (c.t.d.fact 46 (f := .meth "Fold" "size") rfl)) (F_Fold_size.bindsN (ps := ["self"]) fun _ _ _ _ _ _ us hl => match us, hl with | [_], _ => rfl) o_Fold_size
  have x_BadDigits : KnX K mg (GY K (He.ga K) (Tof K tf)) "BadDigits" := knX_of X G (c.t.d.fact 47 (f := .glo "BadDigits") rfl) (c.t.d.fact 48 (f := .exc "BadDigits") rfl)
  have o_traced := ok_traced (P := P) (w := w) (mg := mg) (base := base) (ca := He.ga K) (T := Tof K tf) F_traced B h_top_of
  have h_traced : Kn P w K mg base (GY K (He.ga K) (Tof K tf)) 2 "traced" 1 m_traced [] [] := kn_of F_traced (He.glo_ok X G (c.t.d.fact 49 (f := .glo "traced") rfl)) (F_traced.bindsN (ps := ["numbers"]) fun _ _ _ _ _ _ us hl => match us, hl with | [_], _ => rfl) o_traced
  have o_Fold_kernel := ok_Fold_kernel (P := P) (w := w) (mg := mg) (base := base) (ca := He.ga K) (T := Tof K tf) F_Fold_kernel C_Fold n_Fold_lines h_traced h_basis_of
  have h_Fold_kernel : KnM P w K mg base (GY K (He.ga K) (Tof K tf)) 4 "Fold" "kernel" 1 m_Fold_kernel [] [] := knM_of F_Fold_kernel (He.cls_ok (c.t.d.fact 31 (f := .cls "Fold") rfl)) (He.meth_ok (c.t.d.fact 50 (f := .meth "Fold" "kernel") rfl)) (F_Fold_kernel.bindsN (ps := ["self"]) fun _ _ _ _ _ _ us hl => match us, hl with | [_], _ => rfl) o_Fold_kernel
  have o_trail_to := ok_trail_to (P := P) (w := w) (mg := mg) (base := base) (ca := He.ga K) (T := Tof K tf) F_trail_to h_traced h_top_of
  have h_trail_to : Kn P w K mg base (GY K (He.ga K) (Tof K tf)) 3 "trail_to" 2 m_trail_to [] [] := kn_of F_trail_to (He.glo_ok X G (c.t.d.fact 51 (f := .glo "trail_to") rfl)) (F_trail_to.bindsN (ps := ["numbers", "one"]) fun _ _ _ _ _ _ us hl => match us, hl with | [_, _], _ => rfl) o_trail_to
  have o_Fold_least := ok_Fold_least (P := P) (w := w) (mg := mg) (base := base) (ca := He.ga K) (T := Tof K tf) F_Fold_least C_Fold n_Fold_lines h_trail_to h_Fold_kernel h_reduced
  have h_Fold_least : KnM P w K mg base (GY K (He.ga K) (Tof K tf)) 5 "Fold" "least" 2 m_Fold_least [] [] := knM_of F_Fold_least (He.cls_ok (c.t.d.fact 31 (f := .cls "Fold") rfl)) (He.meth_ok (c.t.d.fact 52 (f := .meth "Fold" "least") rfl)) (F_Fold_least.bindsN (ps := ["self", "number"]) fun _ _ _ _ _ _ us hl => match us, hl with | [_, _], _ => rfl) o_Fold_least
  have o_Fold_back := ok_Fold_back (P := P) (w := w) (mg := mg) (base := base) (ca := He.ga K) (T := Tof K tf) F_Fold_back B h_Fold_onto x_NotOnto k_Fold C_Fold n_Fold_lines n_Fold_wide h_Fold_least
  have h_Fold_back : KnM P w K mg base (GY K (He.ga K) (Tof K tf)) 6 "Fold" "back" 1 m_Fold_back [] [] := knM_of F_Fold_back (He.cls_ok (c.t.d.fact 31 (f := .cls "Fold") rfl)) (He.meth_ok (c.t.d.fact 53 (f := .meth "Fold" "back") rfl)) (F_Fold_back.bindsN (ps := ["self"]) fun _ _ _ _ _ _ us hl => match us, hl with | [_], _ => rfl) o_Fold_back
  have x_BadNumber : KnX K mg (GY K (He.ga K) (Tof K tf)) "BadNumber" := knX_of X G (c.t.d.fact 54 (f := .glo "BadNumber") rfl) (c.t.d.fact 55 (f := .exc "BadNumber") rfl)
  have o_blended := ok_blended (P := P) (w := w) (mg := mg) (base := base) (ca := He.ga K) (T := Tof K tf) F_blended
  have h_blended : Kn P w K mg base (GY K (He.ga K) (Tof K tf)) 1 "blended" 1 m_blended [] [] := kn_of F_blended (He.glo_ok X G (c.t.d.fact 56 (f := .glo "blended") rfl)) (F_blended.bindsN (ps := ["numbers"]) fun _ _ _ _ _ _ us hl => match us, hl with | [_], _ => rfl) o_blended
  have o_picked := ok_picked (P := P) (w := w) (mg := mg) (base := base) (ca := He.ga K) (T := Tof K tf) F_picked B h_blended
  have h_picked : Kn P w K mg base (GY K (He.ga K) (Tof K tf)) 2 "picked" 2 m_picked [] [] := kn_of F_picked (He.glo_ok X G (c.t.d.fact 57 (f := .glo "picked") rfl)) (F_picked.bindsN (ps := ["rows", "number"]) fun _ _ _ _ _ _ us hl => match us, hl with | [_, _], _ => rfl) o_picked
  have o_Fold_to := ok_Fold_to (P := P) (w := w) (mg := mg) (base := base) (ca := He.ga K) (T := Tof K tf) F_Fold_to B C_Fold n_Fold_lines x_BadNumber h_picked
  have h_Fold_to : KnM P w K mg base (GY K (He.ga K) (Tof K tf)) 3 "Fold" "to" 2 m_Fold_to [] [] := knM_of F_Fold_to (He.cls_ok (c.t.d.fact 31 (f := .cls "Fold") rfl)) (He.meth_ok (c.t.d.fact 58 (f := .meth "Fold" "to") rfl)) (F_Fold_to.bindsN (ps := ["self", "number"]) fun _ _ _ _ _ _ us hl => match us, hl with | [_, _], _ => rfl) o_Fold_to
  have o_steps_along := ok_steps_along (P := P) (w := w) (mg := mg) (base := base) (ca := He.ga K) (T := Tof K tf) F_steps_along B h_Fold_many h_Fold_kernel h_basis_of h_Fold_back h_Fold_to h_reduced h_trail_to
  have h_steps_along : Kn P w K mg base (GY K (He.ga K) (Tof K tf)) 7 "steps_along" 3 m_steps_along [] [] := kn_of F_steps_along (He.glo_ok X G (c.t.d.fact 59 (f := .glo "steps_along") rfl)) (F_steps_along.bindsN (ps := ["spread", "places", "lanes"]) fun _ _ _ _ _ _ us hl => match us, hl with | [_, _, _], _ => rfl) o_steps_along
  have o_gather := ok_gather (P := P) (w := w) (mg := mg) (base := base) (ca := He.ga K) (T := Tof K tf) F_gather B h_need_lanes h_Fold_onto x_NotOnto h_Fold_size x_BadDigits h_steps_along h_Fold_many h_basis_of
  have h_gather_2_lanes : KnK P w K mg base (GY K (He.ga K) (Tof K tf)) 8 "gather" 2 ["lanes"] m_gather [] [] := knK_of F_gather (He.glo_ok X G (c.t.d.fact 60 (f := .glo "gather") rfl)) (kbn_of F_gather (ps := ["spread", "places", "lanes"]) 2 ["lanes"] fun _ _ _ _ _ _ us ws h1 h2 => match us, ws, h1, h2 with | [_, _], [_], _, _ => rfl) o_gather
  have o__law_span := ok__law_span (P := P) (w := w) (mg := mg) (base := base) (ca := He.ga K) (T := Tof K tf) F__law_span
  have h__law_span : Kn P w K mg base (GY K (He.ga K) (Tof K tf)) 1 "_law_span" 1 m__law_span [] [] := kn_of F__law_span (He.glo_ok X G (c.t.d.fact 61 (f := .glo "_law_span") rfl)) (F__law_span.bindsN (ps := ["_law_numbers_here"]) fun _ _ _ _ _ _ us hl => match us, hl with | [_], _ => rfl) o__law_span
  have o__law_reached := ok__law_reached (P := P) (w := w) (mg := mg) (base := base) (ca := He.ga K) (T := Tof K tf) F__law_reached
  have h__law_reached : Kn P w K mg base (GY K (He.ga K) (Tof K tf)) 1 "_law_reached" 4 m__law_reached [] [] := kn_of F__law_reached (He.glo_ok X G (c.t.d.fact 62 (f := .glo "_law_reached") rfl)) (F__law_reached.bindsN (ps := ["_law_images_here", "_law_lane", "_law_span_here", "_law_low"]) fun _ _ _ _ _ _ us hl => match us, hl with | [_, _, _, _], _ => rfl) o__law_reached
  have o_law := ok_law (P := P) (w := w) (mg := mg) (base := base) (ca := He.ga K) (T := Tof K tf) F_law B h__law_box h__law_two_spreads h__law_images k_Fold h__law_take h_gather_2_lanes h__law_span h__law_reached
  exact o_law
end K54
namespace Fb
open PySem L2 Mm Gf
theorem fneI (S : Sto) (i j : Int) : fNe S (.int i) (.int j) = some (.bl (!decide (i = j))) := by simp
theorem lanes_ok (S : Sto) {rs : List Nat} {w l : Nat} (h : l ≤ rs.length) : m_need_lanes [fold rs w, .int l] S = .ok (.val .non) S := by
  have n0 : ¬ ((l : Int) < 0) := by omega
  have n1 : ¬ ((rs.length : Int) < (l : Int)) := by omega
  simp [m_need_lanes, many_ok, n0, n1]
theorem lanes_bad (S : Sto) {rs : List Nat} {w : Nat} {l : Int} (h : l < 0 ∨ (rs.length : Int) < l) : m_need_lanes [fold rs w, .int l] S = .exc "BadSize" none S := by
  by_cases n0 : l < 0
  · simp [m_need_lanes, many_ok, n0]
  · have n1 : (rs.length : Int) < l := by omega
    simp [m_need_lanes, many_ok, n0, n1]
theorem spreads_ok (S : Sto) {A B : List Nat} {v l : Nat} (FA : FOk A v) (FB : FOk B v) (hl : l ≤ A.length) (he : A.length = B.length) (a : All v A) (b : All v B) : m_need_spreads [fold A v, fold B v, .int l] S = .ok (.val .non) S := by
  have L := lanes_ok S (rs := A) (w := v) hl
  have O1 := onto_yes S FA a
  have O2 := onto_yes S FB b
  simp [m_need_spreads, L, many_ok, size_ok, he, O1, O2]
theorem spreads_size (S : Sto) {A B : List Nat} {v w : Nat} {l : Int} (h : l < 0 ∨ (A.length : Int) < l) : m_need_spreads [fold A v, fold B w, .int l] S = .exc "BadSize" none S := by
  have L := lanes_bad S (rs := A) (w := v) h
  simp [m_need_spreads, L]
theorem spreads_unfit (S : Sto) {A B : List Nat} {v w l : Nat} (hl : l ≤ A.length) (h : A.length ≠ B.length ∨ v ≠ w) : m_need_spreads [fold A v, fold B w, .int l] S = .exc "Unfit" none S := by
  have L := lanes_ok S (rs := A) (w := v) hl
  by_cases h1 : A.length = B.length
  · have h2 : ¬ v = w := by
      rcases h with z | z
      · exact absurd h1 z
      · exact z
    have h2 : ¬ ((v : Int) = (w : Int)) := by omega
    simp [m_need_spreads, L, many_ok, size_ok, h1, h2]
  · have h1 : ¬ ((A.length : Int) = (B.length : Int)) := by omega
    simp [m_need_spreads, L, many_ok, size_ok, h1]
theorem spreads_notonto (S : Sto) {A B : List Nat} {v l : Nat} (FA : FOk A v) (FB : FOk B v) (hl : l ≤ A.length) (he : A.length = B.length) (h : (bas A).length ≠ v ∨ (bas B).length ≠ v) : m_need_spreads [fold A v, fold B v, .int l] S = .exc "NotOnto" none S := by
  have L := lanes_ok S (rs := A) (w := v) hl
  have O1 := onto_ok S FA
  have O2 := onto_ok S FB
  by_cases h1 : (bas A).length = v
  · have h2 : ¬ (bas B).length = v := by
      rcases h with z | z
      · exact absurd h1 z
      · exact z
    simp [m_need_spreads, L, many_ok, size_ok, he, O1, O2, h1, h2]
  · simp [m_need_spreads, L, many_ok, size_ok, he, O1, h1]
/-! ### class Lead -/
def lfs (A B : List Nat) (v m l : Nat) : List (Str × D) := [("low", nd m), ("lanes", nd l), ("first", fold (fstL A B v) (m + l)), ("idle", .lst (nl (kerL A))), ("swings", .lst (nl (swL A m))), ("free", .lst (nl (frL A m)))]
def lead (A B : List Nat) (v m l : Nat) : D := .ins "Lead" (lfs A B v m l)
@[simp] theorem lead_ins (S : Sto) (A B : List Nat) (v m l : Nat) : insOf "Lead" S (lead A B v m l) = some (lfs A B v m l) := by
  unfold lead
  simp
section
variable (A B : List Nat) (v m l : Nat)
@[simp] theorem lfs_low : (lfs A B v m l).lookup ("low" : Str) = some (nd m) := rfl
@[simp] theorem lfs_lanes : (lfs A B v m l).lookup ("lanes" : Str) = some (nd l) := rfl
@[simp] theorem lfs_first : (lfs A B v m l).lookup ("first" : Str) = some (fold (fstL A B v) (m + l)) := rfl
@[simp] theorem lfs_idle : (lfs A B v m l).lookup ("idle" : Str) = some (.lst (nl (kerL A))) := rfl
@[simp] theorem lfs_swings : (lfs A B v m l).lookup ("swings" : Str) = some (.lst (nl (swL A m))) := rfl
@[simp] theorem lfs_free : (lfs A B v m l).lookup ("free" : Str) = some (.lst (nl (frL A m))) := rfl
@[simp] theorem lfs_swing : (lfs A B v m l).lookup ("swing" : Str) = none := rfl
@[simp] theorem lfs_still : (lfs A B v m l).lookup ("still" : Str) = none := rfl
@[simp] theorem lfs_source : (lfs A B v m l).lookup ("source" : Str) = none := rfl
@[simp] theorem lfs_turnings : (lfs A B v m l).lookup ("turnings" : Str) = none := rfl
@[simp] theorem lfs_all : (lfs A B v m l).lookup ("all_sources" : Str) = none := rfl
end
theorem shr_nd (x m : Nat) : (x : Int) >>> m = ((x >>> m : Nat) : Int) := rfl
theorem under_fold (n : Nat) (rs : List Nat) (w : Nat) : (fold rs w).under n := by
  unfold fold D.under ffs
  refine ⟨?_, ?_, trivial⟩
  · unfold D.under
    exact under_nl _ _
  · unfold D.under
    trivial
theorem under_lst (n : Nat) (xs : List Nat) : (D.lst (nl xs)).under n := by
  unfold D.under
  exact under_nl n xs
theorem under_int (n : Nat) (i : Int) : (D.int i).under n := by
  unfold D.under
  trivial
theorem lp1 (a : D) : putFD "low" a ([] : List (Str × D)) = ([("low", a)] : List (Str × D)) := rfl
theorem lp2 (a b : D) : putFD "lanes" b ([("low", a)] : List (Str × D)) = ([("low", a), ("lanes", b)] : List (Str × D)) := rfl
theorem lp3 (a b c : D) : putFD "first" c ([("low", a), ("lanes", b)] : List (Str × D)) = ([("low", a), ("lanes", b), ("first", c)] : List (Str × D)) := rfl
theorem lp4 (a b c d : D) : putFD "idle" d ([("low", a), ("lanes", b), ("first", c)] : List (Str × D)) = ([("low", a), ("lanes", b), ("first", c), ("idle", d)] : List (Str × D)) := rfl
theorem lp5 (a b c d e : D) : putFD "swings" e ([("low", a), ("lanes", b), ("first", c), ("idle", d)] : List (Str × D)) = ([("low", a), ("lanes", b), ("first", c), ("idle", d), ("swings", e)] : List (Str × D)) := rfl
theorem lp6 (a b c d e f : D) : putFD "free" f ([("low", a), ("lanes", b), ("first", c), ("idle", d), ("swings", e)] : List (Str × D)) = ([("low", a), ("lanes", b), ("first", c), ("idle", d), ("swings", e), ("free", f)] : List (Str × D)) := rfl
theorem lk1 (a b c d : D) : List.lookup ("idle" : Str) ([("low", a), ("lanes", b), ("first", c), ("idle", d)] : List (Str × D)) = some d := rfl
theorem lk2 (a b c d : D) : List.lookup ("low" : Str) ([("low", a), ("lanes", b), ("first", c), ("idle", d)] : List (Str × D)) = some a := rfl
theorem lk3 (a b c d e : D) : List.lookup ("swings" : Str) ([("low", a), ("lanes", b), ("first", c), ("idle", d), ("swings", e)] : List (Str × D)) = some e := rfl
section
variable {A B : List Nat} {v m l : Nat} (hA : Lin (m + l) v A) (hB : Lin (m + l) v B) (hd : m + l ≤ 12)
include hA hB hd
theorem vw_le : v ≤ 12 := by
  have h := ((bas_rr A).len_le (w := v) fun b hb => ((bas_sp A b).mp (.mem hb)).lt hA.lt)
  have h2 := (onto_iff hA.lt).mpr hA.all
  have := bas_len A
  have := hA.len
  omega
theorem fokA : FOk A v := ⟨by rw [hA.len]; exact hd, vw_le hA hB hd, hA.lt⟩
theorem fokB : FOk B v := ⟨by rw [hB.len]; exact hd, vw_le hA hB hd, hB.lt⟩
theorem fokF : FOk (fstL A B v) (m + l) := ⟨by unfold fstL; rw [List.length_map, hB.len]; exact hd, hd, fun r hr => by rw [← hA.len]; exact fst_lt hA.all r hr⟩
theorem lead_ok (S : Sto) : popI "Lead" S (m_LeadU_initU [.ref S.length, fold A v, fold B v, .int l] (S ++ [.ins "Lead" []])) = .ok (lead A B v m l) S := by
  have FA := fokA hA hB hd
  have FB := fokB hA hB hd
  have e1 : ((A.length : Int) - (l : Int)) = (m : Int) := by
    have := hA.len
    omega
  have lA := hA.len
  have bk := fun S => back_ok S FA hA.all
  have FK : FOk (backL A v) A.length := ⟨by rw [backL_len]; exact FA.wide, by omega, backL_lt hA.all⟩
  have th := fun S => then_ok S FB FK (backL_len A v)
  have kr := fun S => kernel_ok S FA
  have kl := kerL_len A
  have zk := szB_of (n := (kerL A).length) (by omega)
  have lt : ∀ x ∈ swL A m, x < 2 ^ l := swL_lt hA.len
  have bo := fun S => basis_of_ok S (w := l) (swL A m) (by omega) lt (.lst (nl (swL A m))) (.inr rfl)
  have run : m_LeadU_initU [.ref S.length, fold A v, fold B v, .int l] (S ++ [.ins "Lead" []]) = .ok (.val .non) (S ++ [.ins "Lead" (lfs A B v m l)]) := by
    unfold m_LeadU_initU
    simp [many_ok, e1, set_last, lp1, lp2, lp3, lp4, bk, th, kr, lk1]
    rw [lc_nl (· >>> m) (kerL A) ?h]
    case h =>
      intro y hy
      simp [lk2]
    have es : (kerL A).map (fun x => x >>> m) = swL A m := rfl
    rw [es]
    have ls : (swL A m).length = (kerL A).length := by simp [swL]
    have ef : lfs A B v m l = ([("low", nd m), ("lanes", nd l), ("first", fold (B.map (app (backL A v))) A.length), ("idle", .lst (nl (kerL A))), ("swings", .lst (nl (swL A m))), ("free", .lst (nl (frL A m)))] : List (Str × D)) := by
      unfold lfs fstL
      rw [lA]
    have eb : nsrt (bas (swL A m)) = frL A m := rfl
    rw [eb] at bo
    rw [ef]
    generalize swL A m = SW at *
    generalize frL A m = FR at *
    simp [ls, zk, lp5, set_last, lk3, bo, lp6]
  rw [run]
  exact popI_ok ⟨under_int _ _, under_int _ _, under_fold _ _ _, under_lst _ _, under_lst _ _, under_lst _ _, trivial⟩
theorem swing_ok (S : Sto) {x : Nat} (hx : x < 2 ^ (m + l)) : m_Lead_swing [lead A B v m l, .int x] S = .ok (.val (nd (sw A B v m x))) S := by
  have FF := fokF hA hB hd
  have lF : (fstL A B v).length = m + l := by unfold fstL; rw [List.length_map, hB.len]
  have t := to_ok S FF (x := x) (by rw [lF]; exact hx)
  have lt := frL_lt (m := m) hA.len
  have r := reduced_ok S ((x ^^^ app (fstL A B v) x) >>> m) (frL A m) (fun b hb => ⟨(frL_rr A m).1 b hb, small_log (w := l) (by omega) ((frL_rr A m).1 b hb) (lt b hb)⟩)
  have e : red ((x ^^^ app (fstL A B v) x) >>> m) (frL A m) = sw A B v m x := rfl
  rw [e, ← shr_nd] at r
  unfold m_Lead_swing
  simp [t, r]
theorem still_ok (S : Sto) : m_Lead_still [lead A B v m l] S = .ok (.own (.lst (nl (stL A m)))) S := by
  have lA := hA.len
  have kl := kerL_len A
  have bo := basis_of_ok S (w := m + l) (kerL A) (by omega) (fun x hx => by rw [← lA]; exact kerL_lt A x hx) (.lst (nl (kerL A))) (.inr rfl)
  have ec : nsrt (bas (kerL A)) = kerL A := can_eq (kerL_rr A) (nsrt_sorted _) fun y => Iff.rfl
  rw [ec] at bo
  have pw := powB_nat (i := 1) (by decide) m (by omega)
  have go : ∀ (xs ys : List Nat) (s3 : Sl), ys.length + xs.length ≤ 100 → ∃ s3', forL (gN 3) (sIf (cB (eOp iLt (eV 3) (eV 2))) (sApp 1 (eV 3)) sNil) (nl xs) [.v (lead A B v m l), .o (.lst (nl ys)), .v (.int (2 ^ m)), s3] S = .nx [.v (lead A B v m l), .o (.lst (nl (ys ++ xs.filter fun b => decide (b < 2 ^ m)))), .v (.int (2 ^ m)), s3'] S := by
    intro xs
    induction xs with
    | nil => exact fun ys s3 _ => ⟨s3, by simp [forL]⟩
    | cons x xs ih =>
      intro ys s3 hz
      have hz' : ys.length + xs.length + 1 ≤ 100 := by simpa [Nat.add_assoc] using hz
      have zz := szB_of (n := ys.length + 1) (by omega)
      have e1 : ((x : Int) < 2 ^ m) ↔ x < 2 ^ m := by
        rw [show (2 : Int) ^ m = ((2 ^ m : Nat) : Int) by simp]
        omega
      by_cases h : x < 2 ^ m
      · obtain ⟨s, e⟩ := ih (ys ++ [x]) (.v (nd x)) (by simp; omega)
        refine ⟨s, ?_⟩
        rw [nl_cons]
        unfold forL
        have e2 : nl ys ++ [D.int x] = nl (ys ++ [x]) := by simp [nl]
        simp [e1, h, zz, e2, e]
      · obtain ⟨s, e⟩ := ih ys (.v (nd x)) (by omega)
        refine ⟨s, ?_⟩
        rw [nl_cons]
        unfold forL
        simp [e1, h, e]
  obtain ⟨s3, e⟩ := go (kerL A) [] .no (by simp; omega)
  rw [List.nil_append] at e
  have e0 : (kerL A).filter (fun b => decide (b < 2 ^ m)) = stL A m := rfl
  rw [e0] at e
  have z0 := szB_of (n := 0) (by omega)
  unfold m_Lead_still
  simp [z0, pw, bo]
  rw [show ([] : List D) = nl [] from rfl, e]
  rfl
theorem enumN_app : ∀ (xs : List Nat) (k mk st0 : Nat), (enumN k xs).foldl (fun a p => if mk.testBit p.1 then a ^^^ p.2 else a) st0 = st0 ^^^ app xs (mk >>> k)
  | [], k, mk, st0 => by
    show st0 = st0 ^^^ 0
    rw [Nat.xor_zero]
  | x :: xs, k, mk, st0 => by
    show (enumN (k + 1) xs).foldl _ (if mk.testBit k then st0 ^^^ x else st0) = _
    rw [enumN_app xs (k + 1) mk, app_cons]
    have e1 : (mk >>> k).testBit 0 = mk.testBit k := by simp
    have e2 : mk >>> k / 2 = mk >>> (k + 1) := by
      rw [Nat.shiftRight_add]
      rfl
    rw [e1, e2]
    cases mk.testBit k <;> simp [Nat.xor_assoc]
theorem source_ok (S : Sto) {x : Nat} (hx : x < 2 ^ (m + l)) : m_Lead_source [lead A B v m l, .int x] S = .ok (.val (nd (src A B v m x))) S := by
  have FF := fokF hA hB hd
  have lA := hA.len
  have kl := kerL_len A
  have lF : (fstL A B v).length = m + l := by unfold fstL; rw [List.length_map, hB.len]
  have t := to_ok S FF (x := x) (by rw [lF]; exact hx)
  have s1 := swing_ok hA hB hd S hx
  have tr := trail_ok S (w := l) (by omega) (swL A m) (swL_lt hA.len) (by unfold swL; rw [List.length_map]; omega) (.lst (nl (swL A m))) (.inr rfl) (nee A B v m x)
  rw [(mkk_ok A B v m x).1] at tr
  have tr : m_trail_to [.lst (nl (swL A m)), .int (Builtin.bitXor (((x ^^^ app (fstL A B v) x : Nat) : Int) >>> m) ((sw A B v m x : Nat) : Int))] S = .ok (.val (nd (mkk A B v m x))) S := by
    rw [shr_nd, bxor_nat]
    exact tr
  have st := still_ok hA hB hd S
  have lt := stL_lt A m
  have rd := reduced_ok S (app (fstL A B v) x ^^^ app (kerL A) (mkk A B v m x)) (stL A m) (fun b hb => ⟨(stL_rr A m).1 b hb, small_log (w := m + l) (by omega) ((stL_rr A m).1 b hb) (by rw [← lA]; exact lt b hb)⟩)
  have e : red (app (fstL A B v) x ^^^ app (kerL A) (mkk A B v m x)) (stL A m) = src A B v m x := rfl
  rw [e] at rd
  have en := enumN_eq (kerL A) 0
  have en : enumD 0 (nl (kerL A)) = (enumN 0 (kerL A)).map pd := en
  obtain ⟨q, ef, _⟩ := forM (S := S) (g := gT (gNC (gN 5) (gNC (gN 6) gN0))) (b := sIf (cB (eOp fEq (eOp iAnd (eOp iShr (eV 4) (eV 5)) (eC (.int 1))) (eC (.int 1)))) (sAsg (eOp iXor (eV 2) (eV 6)) (gN 2)) sNil)
    pd (fun (a : Nat) (q : Sl × Sl) => [.v (lead A B v m l), .v (nd x), .v (nd a), .v (.int (Builtin.bitXor (((x ^^^ app (fstL A B v) x : Nat) : Int) >>> m) ((sw A B v m x : Nat) : Int))), .v (nd (mkk A B v m x)), q.1, q.2])
    (fun a p => if (mkk A B v m x).testBit p.1 then a ^^^ p.2 else a) (fun _ => True) (enumN 0 (kerL A)) (fun a q p hp _ => by
      refine ⟨_, rfl, (.v (nd p.1), .v (nd p.2)), ?_, trivial⟩
      have b1 := band_one (mkk A B v m x) p.1
      cases hb : (mkk A B v m x).testBit p.1 <;> simp [b1, hb]) (app (fstL A B v) x) (.no, .no) trivial
  have f0 := enumN_app hA hB hd (kerL A) 0 (mkk A B v m x) (app (fstL A B v) x)
  rw [Nat.shiftRight_zero] at f0
  rw [f0] at ef
  unfold m_Lead_source
  simp [t, s1, tr, en]
  simp at ef
  rw [ef]
  simp [st, rd]
end
end Fb
namespace Fb
open PySem L2 Mm Gf
theorem fSorted_nls (S : Sto) (xs : List Nat) : fSorted S [.lst (nl xs)] = some (.lst (nl (nsrt xs))) := by
  rw [fSorted_lst, intsOf_nl]
  simp only [Option.map_some]
  rw [isrt_nat, nl_eq]
section
variable {A B : List Nat} {v m l : Nat} (hA : Lin (m + l) v A) (hB : Lin (m + l) v B) (hd : m + l ≤ 12)
include hA hB hd
theorem trn_fok : FOk (trnL A B v m (m + l)) l := ⟨by unfold trnL; rw [rows_len]; exact hd, by omega, rows_lt fun x hx => sw_lt hA hB hx⟩
theorem trn_app {x : Nat} (hx : x < 2 ^ (m + l)) : app (trnL A B v m (m + l)) x = sw A B v m x := rows_app (sw_zero A B v m) (sw_xor A B v m) hx
theorem trn_sp {t : Nat} : Sp (trnL A B v m (m + l)) t ↔ ∃ x, x < 2 ^ (m + l) ∧ sw A B v m x = t := rows_sp (sw_zero A B v m) (sw_xor A B v m)
theorem srcL_fok : FOk (srcL A B v m (m + l)) (m + l) := ⟨by unfold srcL; rw [rows_len]; exact hd, hd, rows_lt fun x hx => by
  have := (src_ok hA hB x).2.2
  rwa [hA.len] at this⟩
theorem srcL_app {x : Nat} (hx : x < 2 ^ (m + l)) : app (srcL A B v m (m + l)) x = src A B v m x := rows_app (src_zero hA hB) (src_xor hA hB) hx
theorem turnings_ok (S : Sto) : m_Lead_turnings [lead A B v m l] S = .ok (.val (fold (trnL A B v m (m + l)) l)) S := by
  have F := trn_fok hA hB hd
  have N := new_ok S F (.lst (nl (trnL A B v m (m + l)))) (.inr rfl)
  have rg := rgB_nat (n := m + l) (by omega)
  have rg : rgB ((m : Int) + (l : Int)) = true := rg
  have rn : rngD 0 ((m : Int) + (l : Int)).toNat = nl (List.range (m + l)) := by
    rw [show ((m : Int) + (l : Int)).toNat = m + l by omega, rng0]
  unfold m_Lead_turnings
  simp [rg, rn]
  rw [lc_nl (fun i => sw A B v m (2 ^ i)) (List.range (m + l)) ?h]
  case h =>
    intro y hy
    have hy := List.mem_range.mp hy
    have pw := powB_nat (i := 1) (by decide) y (by omega)
    have s := swing_ok hA hB hd S (x := 2 ^ y) (Nat.pow_lt_pow_right (by decide) hy)
    have e : ((2 ^ y : Nat) : Int) = 2 ^ y := by simp
    rw [e] at s
    simp [pw, s]
  have zz := szB_of (n := m + l) (by omega)
  have e : (List.range (m + l)).map (fun i => sw A B v m (2 ^ i)) = trnL A B v m (m + l) := rfl
  rw [e]
  have lt : (trnL A B v m (m + l)).length = m + l := rows_len _ _
  generalize trnL A B v m (m + l) = TT at *
  simp [lt, zz, N]
theorem all_ok (S : Sto) : m_Lead_all_sources [lead A B v m l] S = .ok (.own (.lst (nl ((List.range (2 ^ (m + l))).map (src A B v m))))) S := by
  have F := srcL_fok hA hB hd
  have N := new_ok S F (.lst (nl (srcL A B v m (m + l)))) (.inr rfl)
  have rg := rgB_nat (n := m + l) (by omega)
  have rg : rgB ((m : Int) + (l : Int)) = true := rg
  have rn : rngD 0 ((m : Int) + (l : Int)).toNat = nl (List.range (m + l)) := by
    rw [show ((m : Int) + (l : Int)).toNat = m + l by omega, rng0]
  unfold m_Lead_all_sources
  simp [rg, rn]
  rw [lc_nl (fun i => src A B v m (2 ^ i)) (List.range (m + l)) ?h]
  case h =>
    intro y hy
    have hy := List.mem_range.mp hy
    have pw := powB_nat (i := 1) (by decide) y (by omega)
    have s := source_ok hA hB hd S (x := 2 ^ y) (Nat.pow_lt_pow_right (by decide) hy)
    have e : ((2 ^ y : Nat) : Int) = 2 ^ y := by simp
    rw [e] at s
    simp [pw, s]
  have zz := szB_of (n := m + l) (by omega)
  have e : (List.range (m + l)).map (fun i => src A B v m (2 ^ i)) = srcL A B v m (m + l) := rfl
  rw [e]
  have lt : (srcL A B v m (m + l)).length = m + l := rows_len _ _
  have ap : ∀ x, x < 2 ^ (m + l) → app (srcL A B v m (m + l)) x = src A B v m x := fun x hx => srcL_app hA hB hd hx
  have pw := powB_nat (i := 1) (by decide) (m + l) (by omega)
  have pw : powB 1 ((m : Int) + (l : Int)) = true := pw
  have tn : ((m : Int) + (l : Int)).toNat = m + l := by omega
  have rg2 := rg_pow (d := m + l) (by omega)
  have rn2 := rng_pow (m + l)
  have N : popI "Fold" S (m_FoldU_initU [.ref S.length, .lst (nl (srcL A B v m (m + l))), .int ((m : Int) + (l : Int))] (S ++ [.ins "Fold" []])) = .ok (fold (srcL A B v m (m + l)) (m + l)) S := N
  generalize srcL A B v m (m + l) = TT at *
  simp [lt, zz, N, pw, tn, rg2, rn2]
  rw [lc_nl (src A B v m) (List.range (2 ^ (m + l))) ?h2]
  case h2 =>
    intro y hy
    have hy := List.mem_range.mp hy
    have t := to_ok S F (x := y) (by rw [lt]; exact hy)
    rw [ap y hy] at t
    simp [t]
  have z2 : szB (2 ^ (m + l)) = true := szB_of (Nat.le_trans (pow_le hd) (by decide))
  simp [z2]
theorem need_ok2 (S : Sto) : m_need_spreads [fold A v, fold B v, .int l] S = .ok (.val .non) S := spreads_ok S (fokA hA hB hd) (fokB hA hB hd) (by rw [hA.len]; omega) (by rw [hA.len, hB.len]) hA.all hB.all
theorem sources_ok (S : Sto) : m_sources [fold A v, fold B v, .int l] S = .ok (.own (.lst (nl ((List.range (2 ^ (m + l))).map (src A B v m))))) S := by
  have n := need_ok2 hA hB hd S
  have L := lead_ok hA hB hd S
  have a := all_ok hA hB hd S
  unfold m_sources
  generalize (List.range (2 ^ (m + l))).map (src A B v m) = TT at *
  simp [n, L, a]
theorem rounds_ok (S : Sto) : m_rounds [fold A v, fold B v, .int l] S = .ok (.own (.lst (nl (rndL (trnL A B v m (m + l)))))) S := by
  have n := need_ok2 hA hB hd S
  have L := lead_ok hA hB hd S
  have a := turnings_ok hA hB hd S
  have F := trn_fok hA hB hd
  have bo := basis_of_ok S (w := l) (trnL A B v m (m + l)) (by omega) F.lt (.tup (nl (trnL A B v m (m + l)))) (.inl rfl)
  have cl : (can (trnL A B v m (m + l))).length ≤ 12 := by
    have := bas_len (trnL A B v m (m + l))
    have := F.len
    rw [can_len]
    omega
  have sp := span_of_ok S (can (trnL A B v m (m + l))) (by omega)
  have cu := cut_hiA (nl (spn (can (trnL A B v m (m + l))))) 1
  have e1 : nsrt (bas (trnL A B v m (m + l))) = can (trnL A B v m (m + l)) := rfl
  have e2 : nsrt (spl (can (trnL A B v m (m + l)))) = spn (can (trnL A B v m (m + l))) := rfl
  have e3 : (nl (spn (can (trnL A B v m (m + l))))).drop 1 = nl (rndL (trnL A B v m (m + l))) := by rw [nl_drop]; rfl
  rw [e1] at bo
  rw [e2] at sp
  rw [e3] at cu
  have cu : cutD (nl (spn (can (trnL A B v m (m + l))))) (some 1) none = _ := cu
  unfold m_rounds
  generalize rndL (trnL A B v m (m + l)) = RR at *
  generalize trnL A B v m (m + l) = TT at *
  simp [n, L, a, rows_ok, bo, sp, cu]
def bndL (T : List Nat) : List Nat := nsrt ((rndL T).map (bk T))
theorem bound_ok (S : Sto) : m_bound [fold A v, fold B v, .int l] S = .ok (.own (.lst (nl (bndL (trnL A B v m (m + l)))))) S := by
  have n := need_ok2 hA hB hd S
  have L := lead_ok hA hB hd S
  have a := turnings_ok hA hB hd S
  have F := trn_fok hA hB hd
  have bo := basis_of_ok S (w := l) (trnL A B v m (m + l)) (by omega) F.lt (.tup (nl (trnL A B v m (m + l)))) (.inl rfl)
  have cl : (can (trnL A B v m (m + l))).length ≤ 12 := by
    have := bas_len (trnL A B v m (m + l))
    have := F.len
    rw [can_len]
    omega
  have sp := span_of_ok S (can (trnL A B v m (m + l))) (by omega)
  have cu := cut_hiA (nl (spn (can (trnL A B v m (m + l))))) 1
  have e1 : nsrt (bas (trnL A B v m (m + l))) = can (trnL A B v m (m + l)) := rfl
  have e2 : nsrt (spl (can (trnL A B v m (m + l)))) = spn (can (trnL A B v m (m + l))) := rfl
  have e3 : (nl (spn (can (trnL A B v m (m + l))))).drop 1 = nl (rndL (trnL A B v m (m + l))) := by rw [nl_drop]; rfl
  rw [e1] at bo
  rw [e2] at sp
  rw [e3] at cu
  have cu : cutD (nl (spn (can (trnL A B v m (m + l))))) (some 1) none = _ := cu
  have rl := rnd_len (trnL A B v m (m + l))
  have p12 := pow_le (n := 12) cl
  have rm : ∀ t, t ∈ rndL (trnL A B v m (m + l)) → Sp (trnL A B v m (m + l)) t := fun t ht => (rnd_mem.mp ht).2
  have eb : bndL (trnL A B v m (m + l)) = nsrt ((rndL (trnL A B v m (m + l))).map (bk (trnL A B v m (m + l)))) := rfl
  unfold m_bound
  rw [eb]
  generalize rndL (trnL A B v m (m + l)) = RR at *
  generalize trnL A B v m (m + l) = TT at *
  simp [n, L, a, rows_ok, bo, sp, cu]
  rw [lc_nl (bk TT) RR ?h]
  case h =>
    intro y hy
    have le := least_ok S F y
    obtain ⟨q, hq⟩ := lst_of (rm y hy)
    have eq : bk TT y = q := by unfold bk; rw [hq]; rfl
    rw [hq, ← eq] at le
    have le : m_Fold_least [fold TT l, .int y] S = .ok (.val (nd (bk TT y))) S := le
    simp [le]
  have z2 : szB RR.length = true := szB_of (by
    have : (2 : Nat) ^ 12 = 4096 := by decide
    omega)
  simp [z2, fSorted_nls]
end
end Fb
namespace Mm
open PySem L2
theorem lookK_any (k : Key) : ∀ ks : List (Key × D), (ks.any fun kv => decide (kv.1 = k)) = (lookK ks k).isSome
  | [] => rfl
  | kv :: ks => by
    rw [List.any_cons, lookK_any k ks]
    by_cases e : kv.1 = k <;> simp [lookK, e]
theorem lookK_map (k j : Key) (d : D) : ∀ ks : List (Key × D), lookK (ks.map fun kv => if kv.1 = k then (kv.1, d) else kv) j = (lookK ks j).map fun x => if j = k then d else x
  | [] => rfl
  | kv :: ks => by
    have ih := lookK_map k j d ks
    unfold lookK at ih ⊢
    rw [List.map_cons, List.find?_cons, List.find?_cons]
    by_cases e : kv.1 = k
    · simp only [e, if_true]
      by_cases z : k = j
      · simp [z]
      · simp only [z, decide_false]
        exact ih
    · simp only [e, if_false]
      by_cases z : kv.1 = j
      · have : ¬ j = k := fun q => e (z.trans q)
        simp [z, this]
      · simp only [z, decide_false]
        exact ih
theorem lookK_snoc (k j : Key) (d : D) : ∀ ks : List (Key × D), lookK ks k = none → lookK (ks ++ [(k, d)]) j = if j = k then some d else lookK ks j
  | [], _ => by
    by_cases e : j = k
    · simp [lookK, e]
    · have : ¬ k = j := fun z => e z.symm
      simp [lookK, e, this]
  | kv :: ks, h => by
    have h1 : ¬ kv.1 = k := fun e => by simp [lookK, e] at h
    have h2 : lookK ks k = none := by simpa [lookK, h1] using h
    have ih := lookK_snoc k j d ks h2
    unfold lookK at ih ⊢
    rw [List.cons_append, List.find?_cons, List.find?_cons]
    by_cases z : kv.1 = j
    · have : ¬ j = k := fun q => h1 (z.trans q)
      simp [z, this]
    · simp only [z, decide_false]
      exact ih
theorem lookK_put (ks : List (Key × D)) (k j : Key) (d : D) : lookK (putD ks k d) j = if j = k then some d else lookK ks j := by
  unfold putD
  rw [lookK_any]
  cases q : lookK ks k with
  | none =>
    simp only [Option.isSome_none, Bool.false_eq_true, if_false]
    exact lookK_snoc k j d ks q
  | some x =>
    simp only [Option.isSome_some, if_true]
    rw [lookK_map]
    by_cases e : j = k
    · rw [e, q]
      simp
    · simp only [e, if_false]
      cases lookK ks j <;> rfl
theorem putD_len (ks : List (Key × D)) (k : Key) (d : D) : (putD ks k d).length ≤ ks.length + 1 := by
  unfold putD
  split
  · rw [List.length_map]
    omega
  · simp
theorem cut_two (xs : List D) (i j : Nat) (h : i ≤ j) : cutD xs (some (i : Int)) (some (j : Int)) = (xs.drop i).take (j - i) := by
  unfold cutD
  rw [HT.sIx_nat, HT.sIx_nat]
  by_cases h1 : i ≤ xs.length
  · rw [Nat.min_eq_left h1]
    by_cases h2 : j ≤ xs.length
    · rw [Nat.min_eq_left h2]
    · rw [Nat.min_eq_right (by omega), List.take_of_length_le (by simp), List.take_of_length_le (by simp; omega)]
  · rw [Nat.min_eq_right (by omega), List.drop_of_length_le (by omega), List.drop_of_length_le (by omega)]
    simp
end Mm
namespace Fb
open PySem L2 Mm Gf
theorem ofL {b : Cell} (hb : Bx b) (xs : List D) (h0 : xs ≠ []) (hl : xs.length ≤ 1000) : ∃ b' z, m__law_of [.ref 0, .lst xs] [b] = .ok (.val z) [b'] ∧ Bx b' ∧ z ∈ xs := by
  have hp := List.length_pos_iff.mpr h0
  obtain ⟨b1, r, t, hb1, hr⟩ := takeK hb (xs.length : Int) xs.length rfl hp (by omega)
  refine ⟨b1, xs[r], ?_, hb1, List.getElem_mem hr⟩
  have e := atI_nat xs r
  rw [List.getElem?_eq_getElem hr] at e
  simp [m__law_of, t, e]
theorem swap_perm {α : Type} (xs : List α) (i : Nat) : (xs.take i ++ ((xs.drop i).take 2).reverse ++ xs.drop (i + 2)).Perm xs := by
  have e : xs.drop (i + 2) = (xs.drop i).drop 2 := by rw [List.drop_drop]
  rw [e]
  have p1 : (((xs.drop i).take 2).reverse ++ (xs.drop i).drop 2).Perm (xs.drop i) := by
    have := (List.reverse_perm ((xs.drop i).take 2)).append_right ((xs.drop i).drop 2)
    rwa [List.take_append_drop] at this
  have p2 := p1.append_left (xs.take i)
  rwa [List.take_append_drop, ← List.append_assoc] at p2
theorem two_spreads_ok {b : Cell} (hb : Bx b) : ∃ b' m l v A B, m__law_two_spreads [.ref 0] [b] = .ok (.val (.tup [nd (m + l), nd v, nd l, .tup (nl A), .tup (nl B)])) [b'] ∧ Bx b' ∧ m + l ≤ 7 ∧ v ≤ m + l ∧ Lin (m + l) v A ∧ Lin (m + l) v B := by
  obtain ⟨b1, z1, t1, hb1, h1⟩ := ofL hb [.int 7, .int 5, .int 4, .int 3, .int 6, .int 2, .int 1, .int 0] (by simp) (by simp)
  obtain ⟨d, rfl, hd⟩ : ∃ d : Nat, z1 = nd d ∧ d ≤ 7 := by
    simp only [List.mem_cons, List.not_mem_nil, or_false] at h1
    rcases h1 with rfl | rfl | rfl | rfl | rfl | rfl | rfl | rfl
    · exact ⟨7, rfl, by omega⟩
    · exact ⟨5, rfl, by omega⟩
    · exact ⟨4, rfl, by omega⟩
    · exact ⟨3, rfl, by omega⟩
    · exact ⟨6, rfl, by omega⟩
    · exact ⟨2, rfl, by omega⟩
    · exact ⟨1, rfl, by omega⟩
    · exact ⟨0, rfl, by omega⟩
  obtain ⟨b2, r2, t2, hb2, l2⟩ := takeK hb1 ((d : Int) + 1) (d + 1) (by omega) (by omega) (by omega)
  have mx : (if (d : Int) - 1 > 0 then (d : Int) - 1 else 0) = ((d - 1 : Nat) : Int) := by
    by_cases h : (d : Int) - 1 > 0
    · rw [if_pos h]; omega
    · rw [if_neg h]; omega
  have mx2 : (if 1 < (d : Int) then (d : Int) - 1 else 0) = ((d - 1 : Nat) : Int) := by
    by_cases h : 1 < (d : Int)
    · rw [if_pos h]; omega
    · rw [if_neg h]; omega
  obtain ⟨b3, z3, t3, hb3, h3⟩ := ofL hb2 [nd d, nd d, nd (d - 1), nd r2] (by simp) (by simp)
  obtain ⟨v, rfl, hv⟩ : ∃ v : Nat, z3 = nd v ∧ v ≤ d := by
    simp only [List.mem_cons, List.not_mem_nil, or_false] at h3
    rcases h3 with rfl | rfl | rfl | rfl
    · exact ⟨d, rfl, by omega⟩
    · exact ⟨d, rfl, by omega⟩
    · exact ⟨d - 1, rfl, by omega⟩
    · exact ⟨r2, rfl, by omega⟩
  obtain ⟨b4, A, t4, hb4, LA⟩ := lines_ok hb3 (n := d) (w := v) (by omega) hv
  obtain ⟨b5, way, t5, hb5, l5⟩ := takeK hb4 4 4 rfl (by decide) (by decide)
  obtain ⟨b6, C, t6, hb6, LC⟩ := lines_ok hb5 (n := d) (w := v) (by omega) hv
  have z8 := szB_of (n := 8) (by omega)
  have z4 := szB_of (n := 4) (by omega)
  have z5 := szB_of (n := 5) (by omega)
  by_cases w0 : way = 0
  · obtain ⟨b7, ys, t7, hb7, p7⟩ := shuffled_ok hb6 A (by rw [LA.len]; omega)
    obtain ⟨b8, l, t8, hb8, l8⟩ := takeK hb7 ((d : Int) + 1) (d + 1) (by omega) (by omega) (by omega)
    refine ⟨b8, d - l, l, v, A, ys, ?_, hb8, by omega, by omega, ?_, ?_⟩
    · rw [show d - l + l = d by omega]
      simp [m__law_two_spreads, z8, t1, t2, mx, mx2, z4, t3, t4, t5, t6, w0, t7, t8, z5]
    · rw [show d - l + l = d by omega]; exact LA
    · rw [show d - l + l = d by omega]; exact LA.perm p7
  · have w0' : ¬ ((way : Int) = 0) := by omega
    by_cases w1 : way = 1 ∧ 1 < d
    · obtain ⟨b7, q, t7, hb7, l7⟩ := takeK hb6 ((d : Int) - 1) (d - 1) (by omega) (by omega) (by omega)
      obtain ⟨b8, l, t8, hb8, l8⟩ := takeK hb7 ((d : Int) + 1) (d + 1) (by omega) (by omega) (by omega)
      have c1 := cut_loA (nl A) q
      have c2 := cut_two (nl A) q (q + 2) (by omega)
      have c3 := cut_hiA (nl A) (q + 2)
      rw [show q + 2 - q = 2 by omega] at c2
      have c2 : cutD (nl A) (some (q : Int)) (some ((q : Int) + 2)) = _ := c2
      have c3 : cutD (nl A) (some ((q : Int) + 2)) none = _ := c3
      have lA := LA.len
      have s1 := szB_of (n := (nl A).length) (by rw [nl_len]; omega)
      have hd1 : (1 : Int) < (d : Int) := by omega
      have en : (nl A).take q ++ (((nl A).drop q).take 2).reverse ++ (nl A).drop (q + 2) = nl (A.take q ++ ((A.drop q).take 2).reverse ++ A.drop (q + 2)) := by
        simp [nl]
      have p := swap_perm A q
      have pl := p.length_eq
      refine ⟨b8, d - l, l, v, A, A.take q ++ ((A.drop q).take 2).reverse ++ A.drop (q + 2), ?_, hb8, by omega, by omega, ?_, ?_⟩
      · rw [show d - l + l = d by omega, ← en]
        have q1 : (nl A).length = d := by rw [nl_len]; exact lA
        have zz1 : szB (((nl A).take q).length + (((nl A).drop q).take 2).length) = true := szB_of (by simp [q1]; omega)
        have zz2 : szB (((nl A).take q).length + (((nl A).drop q).take 2).length + ((nl A).drop (q + 2)).length) = true := szB_of (by simp [q1]; omega)
        generalize (nl A).take q = X1 at *
        generalize ((nl A).drop q).take 2 = X2 at *
        generalize (nl A).drop (q + 2) = X3 at *
        have t3' : m__law_of [.ref 0, .lst [nd d, nd d, .int ((d : Int) - 1), nd r2]] [b2] = .ok (.val (nd v)) [b3] := by
          have e : ((d - 1 : Nat) : Int) = (d : Int) - 1 := by omega
          rw [← e]
          exact t3
        simp [m__law_two_spreads, z8, t1, t2, z4, t3', t4, t5, t6, w1.1, hd1, t7, c1, c2, c3, zz1, zz2, t8, z5]
      · rw [show d - l + l = d by omega]; exact LA
      · rw [show d - l + l = d by omega]; exact LA.perm p
    · obtain ⟨b8, l, t8, hb8, l8⟩ := takeK hb6 ((d : Int) + 1) (d + 1) (by omega) (by omega) (by omega)
      refine ⟨b8, d - l, l, v, A, C, ?_, hb8, by omega, by omega, ?_, ?_⟩
      · rw [show d - l + l = d by omega]
        by_cases w2 : way = 1
        · have hd1 : ¬ ((1 : Int) < (d : Int)) := fun z => w1 ⟨w2, by omega⟩
          have t3' : m__law_of [.ref 0, .lst [nd d, nd d, .int 0, nd r2]] [b2] = .ok (.val (nd v)) [b3] := by
            have e : d - 1 = 0 := by omega
            rw [e] at t3
            exact t3
          simp [m__law_two_spreads, z8, t1, t2, t3', z4, t3, t4, t5, t6, w2, hd1, t8, z5]
        · have w2' : ¬ ((way : Int) = 1) := by omega
          simp [m__law_two_spreads, z8, t1, t2, mx, mx2, z4, t3, t4, t5, t6, w0, w0', w2', t8, z5]
      · rw [show d - l + l = d by omega]; exact LA
      · rw [show d - l + l = d by omega]; exact LC
end Fb
namespace Fb
open PySem L2 Mm Gf
/-! ### the law's homes and choices -/
def hmL (A : List Nat) (xs : List Nat) (c : Nat) : List Nat := xs.filter fun y => decide (app A y = c)
def HInv (A : List Nat) (ys : List Nat) (ks : List (Key × D)) : Prop := ks.length ≤ ys.length ∧ ∀ c : Nat, lookK ks (.inl (c : Int)) = if hmL A ys c = [] then none else some (.lst (nl (hmL A ys c)))
theorem hm_snoc (A ys : List Nat) (x c : Nat) : hmL A (ys ++ [x]) c = if app A x = c then hmL A ys c ++ [x] else hmL A ys c := by
  unfold hmL
  rw [List.filter_append]
  by_cases h : app A x = c <;> simp [h]
theorem hm_len (A ys : List Nat) (c : Nat) : (hmL A ys c).length ≤ ys.length := List.length_filter_le _ _
theorem homes_go (A : List Nat) (S : Sto) (s0 : Sl) : ∀ (xs ys : List Nat) (ks : List (Key × D)) (s2 s3 : Sl), HInv A ys ks → ys.length + xs.length ≤ 5000 → ∃ ks' s2' s3',
    forL (gT (gNC (gN 2) (gNC (gN 3) gN0))) (sDPutA 1 (eV 3) (eOp dAdd (eDGet2A 1 (eV 3) (mFrz (fLst aNil))) (mFrz (fLst (aCons (eV 2) aNil))))) (xs.map fun x => .tup [nd x, nd (app A x)]) [s0, .o (.dic ks), s2, s3] S = .nx [s0, .o (.dic ks'), s2', s3'] S ∧ HInv A (ys ++ xs) ks'
  | [], ys, ks, s2, s3, h, _ => ⟨ks, s2, s3, rfl, by rwa [List.append_nil]⟩
  | x :: xs, ys, ks, s2, s3, h, hz => by
    have hz1 : ys.length + xs.length + 1 ≤ 5000 := by simpa [Nat.add_assoc] using hz
    have h2 : HInv A (ys ++ [x]) (putD ks (.inl (app A x : Int)) (.lst (nl (hmL A ys (app A x) ++ [x])))) := by
      refine ⟨?_, fun c => ?_⟩
      · have := putD_len ks (.inl (app A x : Int)) (.lst (nl (hmL A ys (app A x) ++ [x])))
        have := h.1
        rw [List.length_append, List.length_singleton]
        omega
      · rw [lookK_put, h.2 c, hm_snoc]
        by_cases e : app A x = c
        · subst e
          simp
        · have e2 : ¬ ((Sum.inl (c : Int) : Key) = .inl ((app A x : Nat) : Int)) := fun z => e (by have := Sum.inl.inj z; omega)
          rw [if_neg e2, if_neg e]
    obtain ⟨ks', s2', s3', e, i⟩ := homes_go A S s0 xs (ys ++ [x]) _ (.v (nd x)) (.v (nd (app A x))) h2 (by simp; omega)
    refine ⟨ks', s2', s3', ?_, by rw [List.append_assoc] at i; exact i⟩
    rw [List.map_cons]
    unfold forL
    have z0 := szB_of (n := 0) (by omega)
    have z1 := szB_of (n := 1) (by omega)
    have zk := szB_of (n := ks.length + 1) (by have := h.1; omega)
    have zl := szB_of (n := (hmL A ys (app A x)).length + 1) (by have := hm_len A ys (app A x); omega)
    have g : (lookK ks (.inl ((app A x : Nat) : Int))).getD (.lst []) = .lst (nl (hmL A ys (app A x))) := by
      rw [h.2]
      by_cases q : hmL A ys (app A x) = []
      · rw [if_pos q, q]; rfl
      · rw [if_neg q]; rfl
    have ec : nl (hmL A ys (app A x)) ++ [D.int x] = nl (hmL A ys (app A x) ++ [x]) := by simp [nl]
    have e' : forL (gT (gNC (gN 2) (gNC (gN 3) gN0))) (sDPutA 1 (eV 3) (eOp dAdd (eDGet2A 1 (eV 3) (mFrz (fLst aNil))) (mFrz (fLst (aCons (eV 2) aNil))))) (xs.map fun x => .tup [nd x, nd (app A x)]) [s0, .o (.dic (putD ks (.inl (app A x : Int)) (.lst (nl (hmL A ys (app A x)) ++ [.int x])))), .v (nd x), .v (nd (app A x))] S = .nx [s0, .o (.dic ks'), s2', s3'] S := by
      rw [ec]
      exact e
    generalize hmL A ys (app A x) = HH at *
    simp [z0, z1, zk, g, zl, e']
theorem homes_ok (S : Sto) {A : List Nat} (hA : A.length ≤ 12) : ∃ ks, m__law_homes [.tup (nl A)] S = .ok (.own (.dic ks)) S ∧ ∀ c, Sp A c → lookK ks (.inl (c : Int)) = some (.lst (nl (hmL A (List.range (2 ^ A.length)) c))) := by
  have p12 := pow_le (n := 12) hA
  have e12 : (2 : Nat) ^ 12 = 4096 := by decide
  obtain ⟨ks, s2, s3, e, i⟩ := homes_go A S (.v (.tup (nl A))) (List.range (2 ^ A.length)) [] [] .no .no ⟨Nat.le_refl _, fun c => rfl⟩ (by simp; omega)
  have im := images_ok S A (by omega) (.tup (nl A)) (.inl rfl)
  have es := enum_spl A
  refine ⟨ks, ?_, fun c hc => ?_⟩
  · unfold m__law_homes
    simp [im, es, e]
  · rw [List.nil_append] at i
    rw [i.2 c, if_neg]
    intro z
    have : c ∈ spl A := mem_spl.mpr hc
    rw [spl_app] at this
    obtain ⟨y, hy, ey⟩ := List.mem_map.mp this
    have : y ∈ hmL A (List.range (2 ^ A.length)) c := List.mem_filter.mpr ⟨hy, by simpa using ey⟩
    rw [z] at this
    cases this
def chs (A B : List Nat) (v m x : Nat) : List Nat := nsrt ((spn (frL A m)).map (sw A B v m x ^^^ ·))
theorem chs_mem {A B : List Nat} {v m x y : Nat} : y ∈ chs A B v m x ↔ Sp (frL A m) (y ^^^ sw A B v m x) := by
  unfold chs
  rw [(nsrt_perm _).mem_iff, List.mem_map]
  constructor
  · rintro ⟨f, hf, rfl⟩
    rw [Nat.xor_comm _ f, xor_cancel_right]
    exact spn_mem.mp hf
  · intro h
    exact ⟨_, spn_mem.mpr h, by rw [Nat.xor_comm y, xor_self_left]⟩
theorem chs_lt (A B : List Nat) (v m x : Nat) : (chs A B v m x).Pairwise (· < ·) := by
  have nd : (chs A B v m x).Nodup := (nsrt_perm _).nodup_iff.mpr (by
    rw [List.Nodup, List.pairwise_map]
    refine (spn_lt (frL_rr A m)).imp ?_
    intro a b z e
    have := congrArg (sw A B v m x ^^^ ·) e
    simp only [xor_self_left] at this
    exact Nat.ne_of_lt z this)
  exact (List.pairwise_and_iff.mpr ⟨nsrt_sorted _, nd⟩).imp fun {a b} z => Nat.lt_of_le_of_ne z.1 z.2
section
variable {A B : List Nat} {v m l : Nat} (hA : Lin (m + l) v A) (hB : Lin (m + l) v B) (hd : m + l ≤ 12)
include hA hB hd
theorem chs_head (x : Nat) : ∃ r, chs A B v m x = sw A B v m x :: r := by
  have p := chs_lt A B v m x
  have mm : sw A B v m x ∈ chs A B v m x := chs_mem.mpr (by rw [Nat.xor_self]; exact .zero _)
  cases q : chs A B v m x with
  | nil => rw [q] at mm; cases mm
  | cons a r =>
    rw [q] at p mm
    rcases List.mem_cons.mp mm with e | e
    · exact ⟨r, by rw [e]⟩
    · have l1 := (List.pairwise_cons.mp p).1 _ e
      have ta : Tng A B m x a := (tng_iff hA hB).mpr (chs_mem.mp (by rw [q]; exact List.mem_cons_self))
      have := sw_least hA hB ta
      omega
theorem law_chs (x : Nat) : srtS (((hmL A (List.range (2 ^ A.length)) (app B x)).map fun h => (x ^^^ h) >>> m).map Int.ofNat) = (chs A B v m x).map Int.ofNat := srtS_nat (chs_lt A B v m x) fun y => by
  rw [chs_mem, ← tng_iff hA hB, List.mem_map]
  constructor
  · rintro ⟨h, lt, e, rfl⟩
    exact ⟨h, List.mem_filter.mpr ⟨List.mem_range.mpr lt, by simpa using e⟩, rfl⟩
  · rintro ⟨h, hh, rfl⟩
    obtain ⟨h1, h2⟩ := List.mem_filter.mp hh
    exact ⟨h, List.mem_range.mp h1, by simpa using h2, rfl⟩
theorem choices_ok (S : Sto) {x : Nat} (hx : x < 2 ^ (m + l)) : m_choices [fold A v, fold B v, .int x, .int l] S = .ok (.own (.lst (nl (chs A B v m x)))) S := by
  have n := need_ok2 hA hB hd S
  have L := lead_ok hA hB hd S
  have s1 := swing_ok hA hB hd S hx
  have fl : (frL A m).length ≤ 12 := by
    have := (frL_rr A m).len_le (frL_lt hA.len)
    omega
  have sp := span_of_ok S (frL A m) (by omega)
  have e2 : nsrt (spl (frL A m)) = spn (frL A m) := rfl
  rw [e2] at sp
  have n0 : ¬ ((x : Int) < 0) := by omega
  have n1 : ¬ (0 < (x : Int) >>> A.length) := by
    rw [shr_nd, hA.len, shr_zero.mpr hx]
    simp
  have sl := spn_len (frL A m)
  have p12 := pow_le (n := 12) fl
  have e12 : (2 : Nat) ^ 12 = 4096 := by decide
  have zz : szB (spn (frL A m)).length = true := szB_of (by omega)
  unfold m_choices chs
  generalize spn (frL A m) = SS at *
  simp [n, n0, n1, many_ok, L, s1, sp]
  rw [lc_nl (sw A B v m x ^^^ ·) SS ?h]
  case h =>
    intro y hy
    simp
  simp [zz]
theorem lchoices_ok (h7 : m + l ≤ 7) (S : Sto) : m__law_choices [.tup (nl A), .tup (nl B), .int m] S = .ok (.own (.lst ((List.range (2 ^ (m + l))).map fun x => .lst (nl (chs A B v m x))))) S := by
  obtain ⟨ks, hk, hl⟩ := homes_ok S (A := A) (by rw [hA.len]; exact hd)
  have im := images_ok S B (by rw [hB.len]; omega) (.tup (nl B)) (.inl rfl)
  have es := enum_spl B
  rw [hB.len] at es
  have z0 := szB_of (n := 0) (by omega)
  have p12 := pow_le (n := 12) hd
  have e12 : (2 : Nat) ^ 12 = 4096 := by decide
  have go : ∀ (xs : List Nat) (ys : List D) (s5 s6 : Sl), ys.length + xs.length ≤ 5000 → ∃ s5' s6', forL (gT (gNC (gN 5) (gNC (gN 6) gN0))) (sApp 4 (mFrz (fSortedSet (mFrz (fLc (itL (eDGetA 3 (eV 6))) (gN 7) cYes (eOp iShr (eOp iXor (eV 5) (eV 7)) (eV 2)) [7]))))) (xs.map fun x => .tup [nd x, nd (app B x)]) [.v (.tup (nl A)), .v (.tup (nl B)), .v (nd m), .v (.dic ks), .o (.lst ys), s5, s6, .no] S
      = .nx [.v (.tup (nl A)), .v (.tup (nl B)), .v (nd m), .v (.dic ks), .o (.lst (ys ++ xs.map fun x => .lst (nl (chs A B v m x)))), s5', s6', .no] S := by
    intro xs
    induction xs with
    | nil => exact fun ys s5 s6 _ => ⟨s5, s6, by simp [forL]⟩
    | cons x xs ih =>
      intro ys s5 s6 hz
      have hz1 : ys.length + xs.length + 1 ≤ 5000 := by simpa [Nat.add_assoc] using hz
      obtain ⟨s5', s6', e⟩ := ih (ys ++ [.lst (nl (chs A B v m x))]) (.v (nd x)) (.v (nd (app B x))) (by simp; omega)
      refine ⟨s5', s6', ?_⟩
      rw [List.map_cons]
      unfold forL
      have hc := hl (app B x) (hA.all _ (app_lt x hB.lt))
      have zy := szB_of (n := ys.length + 1) (by omega)
      have p7 := pow_le (n := 7) h7
      have e7 : (2 : Nat) ^ 7 = 128 := by decide
      have hm2 : (hmL A (List.range (2 ^ A.length)) (app B x)).length ≤ 128 := by
        have := hm_len A (List.range (2 ^ A.length)) (app B x)
        rw [List.length_range, hA.len] at this
        rw [hA.len]
        omega
      have lc := law_chs hA hB hd x
      generalize hmL A (List.range (2 ^ A.length)) (app B x) = HH at *
      have zh := szB_of (n := HH.length) (by omega)
      simp [hc, fSet_eq]
      rw [lc_nl (fun h => (x ^^^ h) >>> m) HH ?h]
      case h =>
        intro y hy
        simp
      have i1 := intsOf_nl (HH.map fun h => (x ^^^ h) >>> m)
      have l1 : (((HH.map fun h => (x ^^^ h) >>> m)).map Int.ofNat).length ≤ 4000 := by simp; omega
      have n2 : ((chs A B v m x).map Int.ofNat).map D.int = nl (chs A B v m x) := (nl_eq _).symm
      have lg : (HH.map fun h => (x ^^^ h) >>> m).length = HH.length := by simp
      generalize HH.map (fun h => (x ^^^ h) >>> m) = GG at *
      generalize GG.map Int.ofNat = JJ at *
      simp [zh, lg, i1, l1, lc, n2, zy, e]
  obtain ⟨s5, s6, e⟩ := go (List.range (2 ^ (m + l))) [] .no .no (by simp; omega)
  unfold m__law_choices
  simp [hk, z0, im, es, e]
end
end Fb
namespace Fb
open PySem L2 Mm Gf
theorem zer_nl (d : Nat) : List.replicate d (D.int 0) = nl (List.replicate d 0) := by simp [nl]
theorem zer_fok {d w : Nat} (hd : d ≤ 12) (hw : w ≤ 12) : FOk (List.replicate d 0) w := ⟨by simpa using hd, hw, fun r hr => by rw [List.eq_of_mem_replicate hr]; exact Nat.two_pow_pos w⟩
theorem zer_bas (d : Nat) : bas (List.replicate d 0) = [] := by
  have p := (bas_rr (List.replicate d 0)).uniq RR.nil fun y => by
    rw [bas_sp, Sp.nil]
    refine ⟨fun s => Sp.nil.mp (s.sub fun b hb => ?_), fun e => by rw [e]; exact .zero _⟩
    rw [List.eq_of_mem_replicate hb]
    exact .zero _
  exact List.perm_nil.mp p
theorem choices_exc (S : Sto) {a b x l : D} {c : Str} (h : m_need_spreads [a, b, l] S = .exc c none S) : m_choices [a, b, x, l] S = .exc c none S := by simp [m_choices, h]
theorem sources_exc (S : Sto) {a b l : D} {c : Str} (h : m_need_spreads [a, b, l] S = .exc c none S) : m_sources [a, b, l] S = .exc c none S := by simp [m_sources, h]
theorem rounds_exc (S : Sto) {a b l : D} {c : Str} (h : m_need_spreads [a, b, l] S = .exc c none S) : m_rounds [a, b, l] S = .exc c none S := by simp [m_rounds, h]
theorem bound_exc (S : Sto) {a b l : D} {c : Str} (h : m_need_spreads [a, b, l] S = .exc c none S) : m_bound [a, b, l] S = .exc c none S := by simp [m_bound, h]
theorem choices_berth (S : Sto) {A B : List Nat} {v m l : Nat} (hA : Lin (m + l) v A) (hB : Lin (m + l) v B) (hd : m + l ≤ 12) {x : Int} (hx : x < 0 ∨ ((2 ^ (m + l) : Nat) : Int) ≤ x) : m_choices [fold A v, fold B v, .int x, .int l] S = .exc "NoBerth" none S := by
  have n := need_ok2 hA hB hd S
  by_cases n0 : x < 0
  · simp [m_choices, n, n0]
  · have h2 : ((2 ^ (m + l) : Nat) : Int) ≤ x := by omega
    have n1 := far_shr n0 h2
    rw [← hA.len] at n1
    have n1 : 0 < x / 2 ^ A.length := n1
    simp [m_choices, n, n0, many_ok, n1]
end Fb
namespace Fb
open PySem L2 Mm Gf
theorem take_lc {i k K : Nat} (h0 : 0 < K) (h1 : K < 1073741824) {env : Envr} (he : env[i]? = some (.v (.ref 0))) (hk : k ≠ i) : ∀ (ds : List D) {b : Cell}, Bx b → ∃ b' ys, lcR (gN k) cYes (eCall m__law_take [] (aCons (eV i) (aCons (eC (.int (K : Int))) aNil))) env ds [b] = .ok (nl ys) [b'] ∧ Bx b' ∧ ys.length = ds.length ∧ ∀ y ∈ ys, y < K
  | [], b, hb => ⟨b, [], rfl, hb, rfl, fun _ h => by cases h⟩
  | d :: ds, b, hb => by
    obtain ⟨b1, r, t, hb1, l1⟩ := takeK hb (K : Int) K rfl h0 h1
    obtain ⟨b2, ys, e, hb2, l2, lt⟩ := take_lc h0 h1 he hk ds hb1
    refine ⟨b2, r :: ys, ?_, hb2, by simp [l2], fun y hy => ?_⟩
    · unfold lcR
      have e1 : (env.set k (.v d))[i]? = some (.v (.ref 0)) := by rw [List.getElem?_set_ne hk]; exact he
      simp [e1, t, e]
    · rcases List.mem_cons.mp hy with rfl | hy
      · exact l1
      · exact lt y hy
theorem set_range {α : Type} {n x : Nat} (f : Nat → α) (d : α) : ((List.range n).map f).set x d = (List.range n).map fun y => if y = x then d else f y := by
  apply List.ext_getElem
  · simp
  · intro i h1 h2
    rw [List.getElem_set]
    by_cases e : x = i
    · simp [e]
    · have e2 : ¬ i = x := fun z => e z.symm
      simp [e, e2]
theorem range_at {α : Type} {n x : Nat} (f : Nat → α) (hx : x < n) : atI ((List.range n).map f) (x : Int) = some (f x) := by
  rw [Mm.atI_nat, List.getElem?_map, List.getElem?_range hx]
  rfl
theorem sw_src {A B : List Nat} {v m l : Nat} (hA : Lin (m + l) v A) (hB : Lin (m + l) v B) (x : Nat) : ((src A B v m x ^^^ x : Nat) : Int) >>> m = ((sw A B v m x : Nat) : Int) := by
  rw [shr_nd, Nat.xor_comm, (src_ok hA hB x).2.1]
theorem bk_inj {T : List Nat} {s t : Nat} (hs : Sp T s) (ht : Sp T t) (e : bk T s = bk T t) : s = t := by
  rw [← (bk_app hs).1, ← (bk_app ht).1, e]
end Fb
/-! Runs, in plain numbers. -/
namespace Gf
open Fb Mm
def runL : List Nat → Nat → Nat
  | [], _ => 0
  | r :: rs, k => if r = 2 ^ k then 1 + runL rs (k + 1) else 0
theorem run_cons (r : Nat) (rs : List Nat) (k : Nat) : runL (r :: rs) k = if r = 2 ^ k then 1 + runL rs (k + 1) else 0 := rfl
theorem run_le : ∀ (R : List Nat) (k : Nat), runL R k ≤ R.length
  | [], _ => Nat.le_refl _
  | r :: rs, k => by
    unfold runL
    have := run_le rs (k + 1)
    split
    · rw [List.length_cons]; omega
    · omega
/-- 2 ** k, 2 ** (k + 1) .. -/
def plainF (k n : Nat) : List Nat := (List.range n).map fun i => 2 ^ (k + i)
theorem plainF_succ (k n : Nat) : plainF k (n + 1) = 2 ^ k :: plainF (k + 1) n := by
  unfold plainF
  rw [List.range_succ_eq_map, List.map_cons, List.map_map]
  congr 1
  apply List.map_congr_left
  intro i _
  show 2 ^ (k + (i + 1)) = 2 ^ (k + 1 + i)
  congr 1
  omega
theorem plainF_zero (n : Nat) : plainF 0 n = plain n := by
  unfold plainF plain
  apply List.map_congr_left
  intro i _
  simp
theorem run_take : ∀ (R : List Nat) (k n : Nat), n ≤ R.length → (R.take n = plainF k n ↔ n ≤ runL R k)
  | R, k, 0, _ => by simp [plainF]
  | [], k, n + 1, h => by simp at h
  | r :: rs, k, n + 1, h => by
    have ih := run_take rs (k + 1) n (by simpa using h)
    rw [List.take_succ_cons, plainF_succ, List.cons.injEq, ih, run_cons]
    by_cases e : r = 2 ^ k
    · rw [if_pos e]
      constructor
      · rintro ⟨_, q⟩; omega
      · intro q; exact ⟨e, by omega⟩
    · rw [if_neg e]
      constructor
      · rintro ⟨q, _⟩; exact absurd q e
      · intro q; omega
theorem run_filter {R : List Nat} : ((List.range (R.length + 1)).filter fun n => decide (R.take n = plain n)) = List.range (runL R 0 + 1) := by
  have h := run_le R 0
  refine rising_eq ((List.pairwise_lt_range).filter _) List.pairwise_lt_range fun x => ?_
  rw [List.mem_filter, List.mem_range, List.mem_range, decide_eq_true_eq]
  constructor
  · rintro ⟨h1, h2⟩
    rw [← plainF_zero] at h2
    have := (run_take R 0 x (by omega)).mp h2
    omega
  · intro h1
    refine ⟨by omega, ?_⟩
    rw [← plainF_zero]
    exact (run_take R 0 x (by omega)).mpr (by omega)
theorem run_app : ∀ (n : Nat) (X : List Nat) (k : Nat), runL (plainF k n ++ X) k = n + runL X (k + n)
  | 0, X, k => by simp [plainF]
  | n + 1, X, k => by
    rw [plainF_succ, List.cons_append, run_cons, if_pos rfl, run_app n X (k + 1)]
    rw [show k + 1 + n = k + (n + 1) by omega]
    omega
/-! ### the widest run -/
def wfL (R : List Nat) : Nat → Nat → List Nat
  | _, 0 => []
  | k, n + 1 => match lst R (2 ^ k) with
    | none => []
    | some x => x :: wfL R (k + 1) n
theorem wf_len (R : List Nat) : ∀ (n k : Nat), (wfL R k n).length ≤ n
  | 0, _ => Nat.le_refl _
  | n + 1, k => by
    unfold wfL
    cases lst R (2 ^ k) with
    | none => simp
    | some x =>
      have := wf_len R n (k + 1)
      rw [List.length_cons]
      omega
theorem wf_lt (R : List Nat) : ∀ (n k : Nat), ∀ y ∈ wfL R k n, y < 2 ^ R.length
  | 0, _, y, h => by cases h
  | n + 1, k, y, h => by
    unfold wfL at h
    cases q : lst R (2 ^ k) with
    | none => rw [q] at h; cases h
    | some x =>
      rw [q] at h
      rcases List.mem_cons.mp h with rfl | h
      · exact (lst_some q).2.1
      · exact wf_lt R n (k + 1) y h
theorem wf_map (R : List Nat) : ∀ (n k : Nat), (wfL R k n).map (app R) = plainF k (wfL R k n).length
  | 0, _ => rfl
  | n + 1, k => by
    unfold wfL
    cases q : lst R (2 ^ k) with
    | none => rfl
    | some x =>
      show app R x :: (wfL R (k + 1) n).map (app R) = plainF k ((wfL R (k + 1) n).length + 1)
      rw [(lst_some q).1, wf_map R n (k + 1), plainF_succ]
/-- where it stops -/
theorem wf_stop (R : List Nat) : ∀ (n k : Nat), (wfL R k n).length = n ∨ ¬ Sp R (2 ^ (k + (wfL R k n).length))
  | 0, _ => .inl rfl
  | n + 1, k => by
    unfold wfL
    cases q : lst R (2 ^ k) with
    | none =>
      refine .inr fun s => ?_
      obtain ⟨x, e⟩ := lst_of (show Sp R (2 ^ k) from s)
      rw [q] at e
      cases e
    | some x =>
      show (wfL R (k + 1) n).length + 1 = n + 1 ∨ ¬ Sp R (2 ^ (k + ((wfL R (k + 1) n).length + 1)))
      rcases wf_stop R n (k + 1) with h | h
      · exact .inl (by omega)
      · refine .inr ?_
        rwa [show k + ((wfL R (k + 1) n).length + 1) = k + 1 + (wfL R (k + 1) n).length by omega]
theorem bas_map_le (R : List Nat) (X : List Nat) : (bas (X.map (app R))).length ≤ (bas X).length := by
  have h : ∀ y, Sp (X.map (app R)) y ↔ Sp ((bas X).map (app R)) y := fun y => by
    rw [Sp.map (app_zero R) (app_xor R), Sp.map (app_zero R) (app_xor R)]
    constructor
    · rintro ⟨x, s, e⟩; exact ⟨x, (bas_sp X x).mpr s, e⟩
    · rintro ⟨x, s, e⟩; exact ⟨x, (bas_sp X x).mp s, e⟩
  have e := ((bas_rr (X.map (app R))).uniq (bas_rr ((bas X).map (app R))) fun y => by rw [bas_sp, bas_sp, h]).length_eq
  rw [e]
  have := bas_len ((bas X).map (app R))
  rwa [List.length_map] at this
theorem plain_bas (n : Nat) : (bas (plain n)).length = n := by
  rw [rr_len (plain_rr n), plain_len]
theorem wf_rank (R : List Nat) (v : Nat) : (bas (wfL R 0 v)).length = (wfL R 0 v).length := by
  refine Nat.le_antisymm (bas_len _) ?_
  have h := bas_map_le R (wfL R 0 v)
  rw [wf_map, plainF_zero, plain_bas] at h
  exact h
def wdL (R : List Nat) (v : Nat) : List Nat := wfL R 0 v ++ restL (wfL R 0 v) R.length
theorem wd_len (R : List Nat) (v : Nat) : (wdL R v).length = R.length := by
  have := restL_count (xs := wfL R 0 v) (wf_lt R v 0)
  rw [wf_rank] at this
  unfold wdL
  rw [List.length_append]
  omega
theorem wd_lt (R : List Nat) (v : Nat) : ∀ y ∈ wdL R v, y < 2 ^ R.length := fun y hy => by
  rcases List.mem_append.mp hy with h | h
  · exact wf_lt R v 0 y h
  · exact restL_lt y h
theorem wd_single (R : List Nat) (v : Nat) : (tra (wdL R v)).2 = [] := by
  have h1 := tra_len (wdL R v)
  have h2 := tra_rank (wdL R v)
  have h3 : (bas (wdL R v)).length = R.length := rest_full (wf_lt R v 0)
  have h4 := wd_len R v
  exact List.length_eq_zero_iff.mp (by omega)
theorem wd_run {R : List Nat} {v : Nat} (hR : ∀ r ∈ R, r < 2 ^ v) : runL ((wdL R v).map (app R)) 0 = (wfL R 0 v).length := by
  unfold wdL
  rw [List.map_append, wf_map, run_app]
  cases q : restL (wfL R 0 v) R.length with
  | nil => rfl
  | cons x xs =>
    rw [List.map_cons, run_cons, if_neg, Nat.add_zero]
    intro e
    rw [Nat.zero_add] at e
    rcases wf_stop R v 0 with h | h
    · have := app_lt x hR
      rw [e, h] at this
      exact Nat.lt_irrefl _ this
    · rw [Nat.zero_add] at h
      exact h ⟨x, e⟩
theorem app_take {A : List Nat} {m x : Nat} (hm : m ≤ A.length) (hx : x < 2 ^ m) : app (A.take m) x = app A x := by
  have e := app_append (A.take m) (A.drop m) x
  rw [List.take_append_drop, List.length_take, Nat.min_eq_left hm, Nat.div_eq_of_lt hx, app_zero, Nat.xor_zero] at e
  exact e.symm
end Gf
namespace Fb
open PySem L2 Mm Gf
theorem take_fok {A : List Nat} {v : Nat} (m : Nat) (h : FOk A v) : FOk (A.take m) v := ⟨by rw [List.length_take]; have := h.len; omega, h.wide, fun r hr => h.lt r (List.mem_of_mem_take hr)⟩
theorem boxes_ok (S : Sto) {A : List Nat} {v m l : Nat} (h : FOk A v) (hl : A.length = m + l) : m_boxes_of [fold A v, .int l] S = .ok (.val (fold (A.take m) v)) S := by
  have e1 : ((A.length : Int) - (l : Int)) = (m : Int) := by omega
  have c := cut_loA (nl A) m
  have N := new_ok S (take_fok m h) (.tup (nl (A.take m))) (.inl rfl)
  rw [nl_take] at c
  generalize A.take m = R at *
  simp [m_boxes_of, rows_ok, many_ok, e1, c, size_ok, N]
theorem pow_cast (k : Nat) : (2 : Int) ^ k = ((2 ^ k : Nat) : Int) := by simp
theorem run_go (a b : D) (S : Sto) : ∀ (n k : Nat) (R Q : List Nat), Q.length = k → R.length < n → k + R.length ≤ 50 → whL (cAnd (cB (eOp iLt (eV 3) (eCB fLen (aCons (eV 2) aNil)))) (cB (eOp fEq (eOp fIx (eV 2) (eV 3)) (eOp iShl (eC (.int 1)) (eV 3))))) (sAug 3 (fun i j => i + j) (eC (.int 1))) n [.v a, .v b, .v (.tup (nl (Q ++ R))), .v (nd k)] S = .nx [.v a, .v b, .v (.tup (nl (Q ++ R))), .v (nd (k + runL R k))] S
  | 0, k, R, Q, _, h, _ => by omega
  | n + 1, k, [], Q, hq, h, _ => by
    have e : ¬ ((k : Int) < ((Q ++ []).length : Int)) := by
      rw [List.append_nil, hq]
      omega
    have t : (cAnd (cB (eOp iLt (eV 3) (eCB fLen (aCons (eV 2) aNil)))) (cB (eOp fEq (eOp fIx (eV 2) (eV 3)) (eOp iShl (eC (.int 1)) (eV 3))))) [.v a, .v b, .v (.tup (nl (Q ++ []))), .v (nd k)] S = .ok false S := by
      simp [hq]
    rw [whL, t]
    rfl
  | n + 1, k, r :: R, Q, hq, h, hz => by
    have hz1 : k + R.length + 1 ≤ 50 := by simpa [Nat.add_assoc] using hz
    have e : ((k : Int) < ((Q ++ r :: R).length : Int)) := by
      rw [List.length_append, List.length_cons, hq]
      omega
    have g : atI (nl (Q ++ r :: R)) (k : Int) = some (nd r) := by
      rw [nl_get (by rw [List.length_append, List.length_cons]; omega), List.getD_eq_getElem?_getD, List.getElem?_append_right (by omega), hq, Nat.sub_self]
      rfl
    have pw := powB_nat (i := 1) (by decide) k (by omega)
    by_cases z : r = 2 ^ k
    · have t : (cAnd (cB (eOp iLt (eV 3) (eCB fLen (aCons (eV 2) aNil)))) (cB (eOp fEq (eOp fIx (eV 2) (eV 3)) (eOp iShl (eC (.int 1)) (eV 3))))) [.v a, .v b, .v (.tup (nl (Q ++ r :: R))), .v (nd k)] S = .ok true S := by
        generalize Q ++ r :: R = QQ at *
        simp [e, g, pw, z]
      have ih := run_go a b S n (k + 1) R (Q ++ [r]) (by simp [hq]) (by simp at h; omega) (by omega)
      rw [List.append_assoc, List.singleton_append] at ih
      rw [run_cons, if_pos z, whL, t, show k + (1 + runL R (k + 1)) = k + 1 + runL R (k + 1) by omega]
      simp
      exact ih
    · have z' : ¬ ((r : Int) = 2 ^ k) := by
        rw [pow_cast]
        omega
      have t : (cAnd (cB (eOp iLt (eV 3) (eCB fLen (aCons (eV 2) aNil)))) (cB (eOp fEq (eOp fIx (eV 2) (eV 3)) (eOp iShl (eC (.int 1)) (eV 3))))) [.v a, .v b, .v (.tup (nl (Q ++ r :: R))), .v (nd k)] S = .ok false S := by
        generalize Q ++ r :: R = QQ at *
        simp [e, g, pw, z']
      rw [run_cons, if_neg z, whL, t]
      rfl
theorem run_ok (S : Sto) {A : List Nat} {v m l : Nat} (h : FOk A v) (hl : A.length = m + l) : m_run [fold A v, .int l] S = .ok (.val (nd (runL (A.take m) 0))) S := by
  have L := lanes_ok S (rs := A) (w := v) (l := l) (by omega)
  have bo := boxes_ok S h hl
  have hA := h.len
  have lt : (A.take m).length ≤ 12 := by rw [List.length_take]; omega
  have g := run_go (fold A v) (.int l) S 100 0 (A.take m) [] rfl (by omega) (by omega)
  rw [List.nil_append, Nat.zero_add] at g
  have g : whL _ _ 100 [.v (fold A v), .v (.int l), .v (.tup (nl (A.take m))), .v (.int 0)] S = _ := g
  generalize A.take m = R at *
  simp [m_run, L, bo, rows_ok, g]
theorem run_bad (S : Sto) {A : List Nat} {v : Nat} {l : Int} (h : l < 0 ∨ (A.length : Int) < l) : m_run [fold A v, .int l] S = .exc "BadSize" none S := by
  have L := lanes_bad S (rs := A) (w := v) h
  simp [m_run, L]
theorem widest_bad (S : Sto) {A : List Nat} {v : Nat} {l : Int} (h : l < 0 ∨ (A.length : Int) < l) : m_widest [fold A v, .int l] S = .exc "BadSize" none S := by
  have L := lanes_bad S (rs := A) (w := v) h
  simp [m_widest, L]
noncomputable def wBody : MS := sSeq (sAsg (eMeth "Fold" "least" m_Fold_least [] (eV 2) (aCons (eOp iShl (eC (.int 1)) (eV 4)) aNil)) (gN 5)) (sIf (cB (eOp fIs (eV 5) (eC .non))) (sAsg (eMeth "Fold" "size" m_Fold_size [] (eV 0) aNil) (gN 4)) (sSeq (sApp 3 (eV 5)) (sAug 4 (fun i j => i + j) (eC (.int 1)))))
noncomputable def wTest : MT := cB (eOp iLt (eV 4) (eMeth "Fold" "size" m_Fold_size [] (eV 0) aNil))
theorem wide_go {R A : List Nat} {v : Nat} (hR : FOk R v) (b : D) (S : Sto) : ∀ (n j k : Nat) (F : List Nat) (s5 : Sl), k + j = v → j < n → F.length + j ≤ 50 → ∃ s4 s5', whL wTest wBody n [.v (fold A v), .v b, .v (fold R v), .o (.lst (nl F)), .v (nd k), s5] S = .nx [.v (fold A v), .v b, .v (fold R v), .o (.lst (nl (F ++ wfL R k j))), s4, s5'] S
  | 0, j, k, F, s5, _, h, _ => by omega
  | n + 1, 0, k, F, s5, hk, h, _ => by
    refine ⟨.v (nd k), s5, ?_⟩
    have hk : k = v := by omega
    have t : wTest [.v (fold A v), .v b, .v (fold R v), .o (.lst (nl F)), .v (nd k), s5] S = .ok false S := by
      unfold wTest
      simp [size_ok, hk]
    rw [whL, t]
    simp [wfL]
  | n + 1, j + 1, k, F, s5, hk, h, hz => by
    have t : wTest [.v (fold A v), .v b, .v (fold R v), .o (.lst (nl F)), .v (nd k), s5] S = .ok true S := by
      have : (k : Int) < (v : Int) := by omega
      unfold wTest
      simp [size_ok, this]
    have v12 := hR.wide
    have pw := powB_nat (i := 1) (by decide) k (by omega)
    have le := least_ok S hR (2 ^ k)
    have le : m_Fold_least [fold R v, .int (2 ^ k)] S = .ok (.val (od (lst R (2 ^ k)))) S := by
      rw [pow_cast]
      exact le
    cases q : lst R (2 ^ k) with
    | none =>
      rw [q] at le
      have le : m_Fold_least [fold R v, .int (2 ^ k)] S = .ok (.val .non) S := le
      have bo : wBody [.v (fold A v), .v b, .v (fold R v), .o (.lst (nl F)), .v (nd k), s5] S = .nx [.v (fold A v), .v b, .v (fold R v), .o (.lst (nl F)), .v (nd v), .v .non] S := by
        unfold wBody
        simp [pw, le, size_ok]
      have t2 : wTest [.v (fold A v), .v b, .v (fold R v), .o (.lst (nl F)), .v (nd v), .v .non] S = .ok false S := by
        unfold wTest
        simp [size_ok]
      refine ⟨.v (nd v), .v .non, ?_⟩
      have ew : wfL R k (j + 1) = [] := by unfold wfL; rw [q]
      rw [ew, List.append_nil, whL, t]
      simp only [out_ok', if_true, bo]
      cases n with
      | zero => omega
      | succ n =>
        rw [whL, t2]
        rfl
    | some x =>
      rw [q] at le
      have le : m_Fold_least [fold R v, .int (2 ^ k)] S = .ok (.val (nd x)) S := le
      have zz := szB_of (n := F.length + 1) (by omega)
      have en : nl F ++ [D.int x] = nl (F ++ [x]) := by simp [nl]
      have bo : wBody [.v (fold A v), .v b, .v (fold R v), .o (.lst (nl F)), .v (nd k), s5] S = .nx [.v (fold A v), .v b, .v (fold R v), .o (.lst (nl (F ++ [x]))), .v (nd (k + 1)), .v (nd x)] S := by
        unfold wBody
        simp [pw, le, zz, en]
      obtain ⟨s4, s5', ih⟩ := wide_go hR b S n j (k + 1) (F ++ [x]) (.v (nd x)) (by omega) (by omega) (by simp; omega)
      refine ⟨s4, s5', ?_⟩
      have ew : wfL R k (j + 1) = x :: wfL R (k + 1) j := by rw [wfL]; simp only [q]
      rw [List.append_assoc, List.singleton_append, ← ew] at ih
      rw [whL, t]
      simp only [out_ok', if_true, bo]
      exact ih
theorem wd_fok {R : List Nat} {v : Nat} (h : R.length ≤ 12) : FOk (wdL R v) R.length := ⟨by rw [wd_len]; exact h, h, wd_lt R v⟩
theorem widest_ok (S : Sto) {A : List Nat} {v m l : Nat} (h : FOk A v) (hl : A.length = m + l) : m_widest [fold A v, .int l] S = .ok (.val (.tup [nd (wfL (A.take m) 0 v).length, fold (wdL (A.take m) v) m])) S := by
  have L := lanes_ok S (rs := A) (w := v) (l := l) (by omega)
  have bo := boxes_ok S h hl
  have hA := h.len
  have hv := h.wide
  have hR := take_fok m h
  have lR : (A.take m).length = m := by rw [List.length_take]; omega
  obtain ⟨s4, s5, g⟩ := wide_go (A := A) hR (.int l) S 100 v 0 [] .no (by omega) (by omega) (by simp; omega)
  rw [List.nil_append] at g
  have fl := wf_len (A.take m) v 0
  have re := rest_ok S (xs := wfL (A.take m) 0 v) (k := m) (by omega) (by have := wf_lt (A.take m) v 0; rwa [lR] at this) (.lst (nl (wfL (A.take m) 0 v))) (.inr rfl)
  have F := wd_fok (R := A.take m) (v := v) (by omega)
  have wl := wd_len (A.take m) v
  rw [lR] at F wl
  have N := new_ok S F (.lst (nl (wdL (A.take m) v))) (.inr rfl)
  have rl := restL_len (wfL (A.take m) 0 v) m
  have en : nl (wfL (A.take m) 0 v) ++ nl (restL (wfL (A.take m) 0 v) m) = nl (wdL (A.take m) v) := by
    unfold wdL
    rw [lR]
    simp [nl]
  have zz := szB_of (n := (wfL (A.take m) 0 v).length + (restL (wfL (A.take m) 0 v) m).length) (by omega)
  have z2 := szB_of (n := 2) (by omega)
  have z0 := szB_of (n := 0) (by omega)
  have wT : wTest = cB (eOp iLt (eV 4) (eMeth "Fold" "size" m_Fold_size [] (eV 0) aNil)) := rfl
  have g : whL (cB (eOp iLt (eV 4) (eMeth "Fold" "size" m_Fold_size [] (eV 0) aNil))) wBody 100 [.v (fold A v), .v (.int l), .v (fold (A.take m) v), .o (.lst []), .v (.int 0), .no] S = _ := g
  generalize wdL (A.take m) v = WD at *
  generalize restL (wfL (A.take m) 0 v) m = RS at *
  generalize wfL (A.take m) 0 v = WF at *
  generalize A.take m = R at *
  unfold wBody at g
  unfold m_widest
  simp [-nl_append, L, bo, z0, g, re, many_ok, lR, zz, en, N, z2]
end Fb
namespace Gf
open Fb Mm
def gsw (A : List Nat) (m s : Nat) : Nat := red (s >>> m) (frL A m)
def gmk (A : List Nat) (m s : Nat) : Nat := (trail (swL A m) (s >>> m ^^^ gsw A m s)).getD 0
def gst (A : List Nat) (m s : Nat) : Nat := s ^^^ app (kerL A) (gmk A m s)
theorem gmk_ok (A : List Nat) (m s : Nat) : trail (swL A m) (s >>> m ^^^ gsw A m s) = some (gmk A m s) ∧ app (swL A m) (gmk A m s) = s >>> m ^^^ gsw A m s := by
  have h : Sp (swL A m) (s >>> m ^^^ gsw A m s) := (can_sp _ _).mp (red_sp (frL A m) _)
  unfold gmk
  cases q : trail (swL A m) (s >>> m ^^^ gsw A m s) with
  | none => exact absurd h (trail_none.mp q)
  | some k => exact ⟨rfl, (trail_some q).1⟩
theorem gst_app (A : List Nat) (m s : Nat) : app A (gst A m s) = app A s := by
  unfold gst
  rw [app_xor, ker_app, Nat.xor_zero]
theorem gst_shr (A : List Nat) (m s : Nat) : gst A m s >>> m = gsw A m s := by
  unfold gst
  rw [shr_xor, ← swL_app, (gmk_ok A m s).2, xor_self_left]
theorem gst_lt {A : List Nat} {m s : Nat} (h : s < 2 ^ A.length) : gst A m s < 2 ^ A.length := Nat.xor_lt_two_pow h (ker_app_lt A _)
/-- the turning of a digit -/
def gdg (A : List Nat) (m p : Nat) : Nat := gsw A m (bk A (2 ^ p))
def gthL (A : List Nat) (m : Nat) (ps : List Nat) : List Nat := can (ps.map (gdg A m))
theorem gdg_lt {A : List Nat} {m l v p : Nat} (hA : Lin (m + l) v A) (hp : p < v) : gdg A m p < 2 ^ l := by
  have b := (bk_app (hA.all (2 ^ p) (Nat.pow_lt_pow_right (by decide) hp))).2
  rw [hA.len] at b
  exact red_lt (frL_lt hA.len) (shr_lt b)
/-- whatever is led to a digit has its turning, but for what is free -/
theorem gdg_of {A : List Nat} {m l v p y : Nat} (hA : Lin (m + l) v A) (hp : p < v) (hy : y < 2 ^ A.length) (e : app A y = 2 ^ p) : gdg A m p = red (y >>> m) (frL A m) := by
  have b := bk_app (hA.all (2 ^ p) (Nat.pow_lt_pow_right (by decide) hp))
  unfold gdg gsw
  refine red_eq (frL_rr A m) ?_
  rw [← shr_xor]
  exact (can_sp _ _).mpr (swL_sp.mpr ⟨_, Nat.xor_lt_two_pow b.2 hy, by rw [app_xor, b.1, e, Nat.xor_self], rfl⟩)
end Gf
namespace Fb
open PySem L2 Mm Gf
theorem lc_nlD {te : ME} {k : Nat} {env : Envr} {S : Sto} (φ : Nat → D) (xs : List Nat) (h : ∀ y ∈ xs, te (env.set k (.v (nd y))) S = .ok (φ y) S) : lcR (gN k) cYes te env (nl xs) S = .ok (xs.map φ) S :=
  lc_all nd φ xs fun y hy => ⟨_, rfl, h y hy⟩
section
variable {A : List Nat} {v m l : Nat} (hA : Lin (m + l) v A) (hd : m + l ≤ 12)
include hA hd
theorem fokA1 : FOk A v := fokA hA hA hd
noncomputable def sIn : MS := sAsg (eIf (cB (eOp fEq (eOp iAnd (eOp iShr (eV 11) (eV 12)) (eC (.int 1))) (eC (.int 1)))) (eOp iXor (eV 10) (eV 13)) (eV 10)) (gN 10)
theorem steps_ok (S : Sto) (ps : List Nat) (hp : ∀ p ∈ ps, p < v) (hl : ps.length ≤ 1000) (a : D) (ha : a = .lst (nl ps) ∨ a = .tup (nl ps)) : m_steps_along [fold A v, a, .int l] S = .ok (.own (.lst (nl (ps.map fun p => gst A m (bk A (2 ^ p)))))) S := by
  have FA := fokA1 hA hd
  have lA := hA.len
  have e1 : ((A.length : Int) - (l : Int)) = (m : Int) := by omega
  have kr := kernel_ok S FA
  have kl := kerL_len A
  have zk := szB_of (n := (kerL A).length) (by omega)
  have lt : ∀ x ∈ swL A m, x < 2 ^ l := swL_lt hA.len
  have bo := basis_of_ok S (w := l) (swL A m) (by omega) lt (.lst (nl (swL A m))) (.inr rfl)
  have bk' := back_ok S FA hA.all
  have FK : FOk (backL A v) A.length := ⟨by rw [backL_len]; exact FA.wide, by omega, backL_lt hA.all⟩
  have en : enumD 0 (nl (kerL A)) = (enumN 0 (kerL A)).map pd := enumN_eq (kerL A) 0
  have v12 := FA.wide
  have inn : ∀ (s mk : Nat) (s0 s1 s2 s3 s5 s6 s7 s8 s9 s12 s13 : Sl), ∃ s12' s13', forL (gT (gNC (gN 12) (gNC (gN 13) gN0))) (sAsg (eIf (cB (eOp fEq (eOp iAnd (eOp iShr (eV 11) (eV 12)) (eC (.int 1))) (eC (.int 1)))) (eOp iXor (eV 10) (eV 13)) (eV 10)) (gN 10)) ((enumN 0 (kerL A)).map pd) [s0, s1, s2, s3, .v (.lst (nl (kerL A))), s5, s6, s7, s8, s9, .v (nd s), .v (nd mk), s12, s13] S
      = .nx [s0, s1, s2, s3, .v (.lst (nl (kerL A))), s5, s6, s7, s8, s9, .v (nd (s ^^^ app (kerL A) mk)), .v (nd mk), s12', s13'] S := by
    intro s mk s0 s1 s2 s3 s5 s6 s7 s8 s9 s12 s13
    obtain ⟨q, ef, _⟩ := forM (S := S) (g := gT (gNC (gN 12) (gNC (gN 13) gN0))) (b := sAsg (eIf (cB (eOp fEq (eOp iAnd (eOp iShr (eV 11) (eV 12)) (eC (.int 1))) (eC (.int 1)))) (eOp iXor (eV 10) (eV 13)) (eV 10)) (gN 10))
      pd (fun (a : Nat) (q : Sl × Sl) => [s0, s1, s2, s3, .v (.lst (nl (kerL A))), s5, s6, s7, s8, s9, .v (nd a), .v (nd mk), q.1, q.2])
      (fun a p => if mk.testBit p.1 then a ^^^ p.2 else a) (fun _ => True) (enumN 0 (kerL A)) (fun a q p hp _ => by
        refine ⟨_, rfl, (.v (nd p.1), .v (nd p.2)), ?_, trivial⟩
        have b1 := band_one mk p.1
        cases hb : mk.testBit p.1 <;> simp [b1, hb]) s (s12, s13) trivial
    have f0 := enumN_app hA hA hd (kerL A) 0 mk s
    rw [Nat.shiftRight_zero] at f0
    rw [f0] at ef
    exact ⟨q.1, q.2, ef⟩
  have go : ∀ (xs ys : List Nat) (s9 s10 s11 s12 s13 : Sl), (∀ p ∈ xs, p < v) → ys.length + xs.length ≤ 1000 → ∃ s9' s10' s11' s12' s13', forL (gN 9) (sSeq (sAsg (eMeth "Fold" "to" m_Fold_to [] (eV 7) (aCons (eOp iShl (eC (.int 1)) (eV 9)) aNil)) (gN 10))
    (sSeq (sAsg (eCall m_trail_to [] (aCons (eV 5) (aCons (eOp iXor (eOp iShr (eV 10) (eV 3)) (eCall m_reduced [] (aCons (eOp iShr (eV 10) (eV 3)) (aCons (eV 6) aNil)))) aNil))) (gN 11))
    (sSeq (sFor (itES (aCons (eV 4) aNil)) (gT (gNC (gN 12) (gNC (gN 13) gN0))) (sAsg (eIf (cB (eOp fEq (eOp iAnd (eOp iShr (eV 11) (eV 12)) (eC (.int 1))) (eC (.int 1)))) (eOp iXor (eV 10) (eV 13)) (eV 10)) (gN 10)))
    (sApp 8 (eV 10))))) (nl xs) [.v (fold A v), .v a, .v (.int l), .v (nd m), .v (.lst (nl (kerL A))), .v (.lst (nl (swL A m))), .v (.lst (nl (frL A m))), .v (fold (backL A v) A.length), .o (.lst (nl ys)), s9, s10, s11, s12, s13] S
      = .nx [.v (fold A v), .v a, .v (.int l), .v (nd m), .v (.lst (nl (kerL A))), .v (.lst (nl (swL A m))), .v (.lst (nl (frL A m))), .v (fold (backL A v) A.length), .o (.lst (nl (ys ++ xs.map fun p => gst A m (bk A (2 ^ p))))), s9', s10', s11', s12', s13'] S := by
    intro xs
    induction xs with
    | nil => exact fun ys s9 s10 s11 s12 s13 _ _ => ⟨s9, s10, s11, s12, s13, by simp [forL]⟩
    | cons x xs ih =>
      intro ys s9 s10 s11 s12 s13 hx hz
      have hz1 : ys.length + xs.length + 1 ≤ 1000 := by simpa [Nat.add_assoc] using hz
      have xv := hx x List.mem_cons_self
      have p2 : 2 ^ x < 2 ^ v := Nat.pow_lt_pow_right (by decide) xv
      have pw := powB_nat (i := 1) (by decide) x (by omega)
      have t := to_ok S FK (x := 2 ^ x) (by rw [backL_len]; exact p2)
      rw [back_bk hA.all p2] at t
      have t : m_Fold_to [fold (backL A v) A.length, .int (2 ^ x)] S = .ok (.val (nd (bk A (2 ^ x)))) S := by
        rw [pow_cast]
        exact t
      have rd := reduced_ok S (bk A (2 ^ x) >>> m) (frL A m) (fun b hb => ⟨(frL_rr A m).1 b hb, small_log (w := l) (by omega) ((frL_rr A m).1 b hb) (frL_lt hA.len b hb)⟩)
      have er : red (bk A (2 ^ x) >>> m) (frL A m) = gsw A m (bk A (2 ^ x)) := rfl
      rw [er, ← shr_nd] at rd
      have tr := trail_ok S (w := l) (by omega) (swL A m) (swL_lt hA.len) (by unfold swL; rw [List.length_map]; omega) (.lst (nl (swL A m))) (.inr rfl) (bk A (2 ^ x) >>> m ^^^ gsw A m (bk A (2 ^ x)))
      rw [(gmk_ok A m (bk A (2 ^ x))).1] at tr
      have tr : m_trail_to [.lst (nl (swL A m)), .int (Builtin.bitXor (((bk A (2 ^ x) : Nat) : Int) >>> m) ((gsw A m (bk A (2 ^ x)) : Nat) : Int))] S = .ok (.val (nd (gmk A m (bk A (2 ^ x))))) S := by
        rw [shr_nd, bxor_nat]
        exact tr
      obtain ⟨q12, q13, ei⟩ := inn (bk A (2 ^ x)) (gmk A m (bk A (2 ^ x))) (.v (fold A v)) (.v a) (.v (.int l)) (.v (nd m)) (.v (.lst (nl (swL A m)))) (.v (.lst (nl (frL A m)))) (.v (fold (backL A v) A.length)) (.o (.lst (nl ys))) (.v (nd x)) s12 s13
      have eg : bk A (2 ^ x) ^^^ app (kerL A) (gmk A m (bk A (2 ^ x))) = gst A m (bk A (2 ^ x)) := rfl
      rw [eg] at ei
      obtain ⟨r9, r10, r11, r12, r13, e⟩ := ih (ys ++ [gst A m (bk A (2 ^ x))]) (.v (nd x)) (.v (nd (gst A m (bk A (2 ^ x))))) (.v (nd (gmk A m (bk A (2 ^ x))))) q12 q13 (fun p hp => hx p (List.mem_cons_of_mem _ hp)) (by simp; omega)
      refine ⟨r9, r10, r11, r12, r13, ?_⟩
      rw [nl_cons]
      unfold forL
      have zy := szB_of (n := ys.length + 1) (by omega)
      have ey : nl ys ++ [D.int (gst A m (bk A (2 ^ x)))] = nl (ys ++ [gst A m (bk A (2 ^ x))]) := by simp [nl]
      simp only [List.append_assoc, List.singleton_append] at e
      rw [List.map_cons]
      generalize gst A m (bk A (2 ^ x)) = GG at *
      generalize gmk A m (bk A (2 ^ x)) = MM at *
      generalize gsw A m (bk A (2 ^ x)) = HH at *
      generalize bk A (2 ^ x) = BB at *
      simp [pw, t, rd, tr, en, ei, zy, ey, e]
  obtain ⟨r9, r10, r11, r12, r13, e⟩ := go ps [] .no .no .no .no .no hp (by simpa using hl)
  rw [List.nil_append] at e
  have z0 := szB_of (n := 0) (by omega)
  have es : (kerL A).map (fun x => x >>> m) = swL A m := rfl
  have ls : (swL A m).length = (kerL A).length := by simp [swL]
  have eb : nsrt (bas (swL A m)) = frL A m := rfl
  rw [eb] at bo
  unfold m_steps_along
  simp [many_ok, e1, kr]
  rw [lc_nl (· >>> m) (kerL A) ?h]
  case h =>
    intro y hy
    simp
  rw [es]
  generalize ps.map (fun p => gst A m (bk A (2 ^ p))) = GG at *
  generalize swL A m = SW at *
  generalize frL A m = FR at *
  have e : forL _ _ (nl ps) [.v (fold A v), .v a, .v (.int l), .v (.int m), .v (.lst (nl (kerL A))), .v (.lst (nl SW)), .v (.lst (nl FR)), .v (fold (backL A v) A.length), .o (.lst []), .no, .no, .no, .no, .no] S = _ := e
  rcases ha with rfl | rfl <;> simp [ls, zk, bo, bk', z0, e]
theorem gather_ok (S : Sto) (ps : List Nat) (hp : ∀ p ∈ ps, p < v) (hn : ps.Nodup) (pl : ps.length ≤ 1000) (a : D) (ha : a = .lst (nl ps)) : m_gather [fold A v, a, .int l] S = .ok (.own (.lst (nl (gthL A m ps)))) S := by
  subst ha
  have FA := fokA1 hA hd
  have lA := hA.len
  have v12 := FA.wide
  have L := lanes_ok S (rs := A) (w := v) (l := l) (by omega)
  have O := onto_yes S FA hA.all
  have iN := intsOf_nl ps
  have dl : (ddp (ps.map Int.ofNat)).length = ps.length := ddp_count hn fun y => Iff.rfl
  have l4 : ps.length ≤ 4000 := by omega
  have st := steps_ok hA hd S ps hp (by omega) (.lst (nl ps)) (.inl rfl)
  have e1 : ((A.length : Int) - (l : Int)) = (m : Int) := by omega
  have zp := szB_of (n := ps.length) (by omega)
  have lt : ∀ x ∈ ps.map (gdg A m), x < 2 ^ l := fun x hx => by
    obtain ⟨p, h, rfl⟩ := List.mem_map.mp hx
    exact gdg_lt hA (hp p h)
  have bo := basis_of_ok S (w := l) (ps.map (gdg A m)) (by omega) lt (.lst (nl (ps.map (gdg A m)))) (.inr rfl)
  have eb : nsrt (bas (ps.map (gdg A m))) = gthL A m ps := rfl
  rw [eb] at bo
  have an := fAny_eq S (ps.map fun _ => false)
  unfold m_gather
  have em : (ps.map fun p => gst A m (bk A (2 ^ p))).map (· >>> m) = ps.map (gdg A m) := by
    rw [List.map_map]
    apply List.map_congr_left
    intro p _
    exact gst_shr A m _
  have lg : (ps.map fun p => gst A m (bk A (2 ^ p))).length = ps.length := by simp
  simp [L, O, fSet_eq, iN, l4, dl]
  rw [lc_nlD (fun _ => .bl false) ps ?h]
  case h =>
    intro y hy
    have hy := hp y hy
    have n1 : ¬ ((v : Int) ≤ (y : Int)) := by omega
    have n2 : ¬ ((y : Int) < 0) := by omega
    simp [size_ok, n1, n2]
  rw [List.map_map] at an
  have ef : (D.bl ∘ fun _ : Nat => false) = fun _ => D.bl false := rfl
  rw [ef] at an
  have af : (ps.map fun _ => false).any id = false := by
    rw [List.any_eq_false]
    intro x hx
    obtain ⟨_, _, rfl⟩ := List.mem_map.mp hx
    simp
  rw [af] at an
  have lf : (ps.map fun _ => D.bl false).length = ps.length := by simp
  generalize ps.map (fun _ => D.bl false) = FF at *
  generalize ps.map (fun p => gst A m (bk A (2 ^ p))) = GG at *
  generalize ps.map (gdg A m) = DD at *
  simp [lf, zp, an, st, many_ok, e1]
  rw [lc_nl (· >>> m) GG ?h2]
  case h2 =>
    intro y hy
    simp [many_ok, e1]
  rw [em]
  have ld : DD.length = ps.length := by rw [← em, List.length_map, lg]
  simp [ld, zp, bo]
end
end Fb
namespace Fb
open PySem L2 Mm Gf
/-! ### what is reached, as the law looks at it -/
theorem reach_in (S : Sto) (s0 s1 s2 s3 s5 s6 : Sl) : ∀ (xs : List Nat) (ks : List (Key × D)) (s7 : Sl), ks.length + xs.length ≤ 90000 → ∃ ks' s7', forL (gN 7) (sDPutA 4 (eV 7) (eC (.bl true))) (nl xs) [s0, s1, s2, s3, .o (.dic ks), s5, s6, s7] S = .nx [s0, s1, s2, s3, .o (.dic ks'), s5, s6, s7'] S ∧ ks'.length ≤ ks.length + xs.length ∧ ∀ c : Nat, (lookK ks' (.inl (c : Int))).isSome = ((lookK ks (.inl (c : Int))).isSome || decide (c ∈ xs))
  | [], ks, s7, _ => ⟨ks, s7, rfl, Nat.le_refl _, fun c => by simp⟩
  | x :: xs, ks, s7, hz => by
    have hz1 : ks.length + xs.length + 1 ≤ 90000 := by simpa [Nat.add_assoc] using hz
    have pl := putD_len ks (.inl (x : Int)) (.bl true)
    obtain ⟨ks', s7', e, l, h⟩ := reach_in S s0 s1 s2 s3 s5 s6 xs (putD ks (.inl (x : Int)) (.bl true)) (.v (nd x)) (by omega)
    refine ⟨ks', s7', ?_, by rw [List.length_cons]; omega, fun c => ?_⟩
    · rw [nl_cons]
      unfold forL
      have zz := szB_of (n := ks.length + 1) (by omega)
      simp [zz, e]
    · rw [h c, lookK_put]
      by_cases z : c = x
      · subst z
        simp
      · have z2 : ¬ ((Sum.inl (c : Int) : Key) = .inl (x : Int)) := fun q => z (by have := Sum.inl.inj q; omega)
        simp [z2, z]
theorem slice_spl {A : List Nat} {m l t : Nat} (hA : A.length = m + l) (ht : t < 2 ^ l) : cutD (nl (spl A)) (some ((t * 2 ^ m : Nat) : Int)) (some ((t * 2 ^ m + 2 ^ m : Nat) : Int)) = nl ((List.range (2 ^ m)).map fun j => app A (t * 2 ^ m + j)) := by
  rw [cut_two _ _ _ (Nat.le_add_right _ _), spl_app, Nat.add_sub_cancel_left]
  have e : t * 2 ^ m + 2 ^ m ≤ 2 ^ A.length := by
    rw [hA, Nat.pow_add, Nat.mul_comm (2 ^ m), ← Nat.succ_mul]
    exact Nat.mul_le_mul_right _ ht
  unfold nl
  apply List.ext_getElem
  · simp
    omega
  · intro i h1 h2
    simp
theorem block_mem {A : List Nat} {m l t c : Nat} (hA : A.length = m + l) (ht : t < 2 ^ l) : c ∈ (List.range (2 ^ m)).map (fun j => app A (t * 2 ^ m + j)) ↔ ∃ y, y < 2 ^ (m + l) ∧ y >>> m = t ∧ app A y = c := by
  rw [List.mem_map]
  constructor
  · rintro ⟨j, hj, e⟩
    have hj := List.mem_range.mp hj
    refine ⟨t * 2 ^ m + j, ?_, ?_, e⟩
    · rw [Nat.pow_add, Nat.mul_comm (2 ^ m)]
      have : (t + 1) * 2 ^ m ≤ 2 ^ l * 2 ^ m := Nat.mul_le_mul_right _ ht
      rw [Nat.succ_mul] at this
      omega
    · rw [Nat.shiftRight_eq_div_pow, Nat.mul_comm, Nat.mul_add_div (Nat.two_pow_pos m), Nat.div_eq_of_lt hj, Nat.add_zero]
  · rintro ⟨y, _, e1, e2⟩
    refine ⟨y % 2 ^ m, List.mem_range.mpr (Nat.mod_lt _ (Nat.two_pow_pos m)), ?_⟩
    rw [← e1, Nat.shiftRight_eq_div_pow, Nat.mul_comm, Nat.div_add_mod]
    exact e2
noncomputable def rBody : MS := sSeq (sAsg (eOp iShl (eOp iXor (eV 1) (eV 5)) (eV 3)) (gN 6)) (sFor (itL (mFrz (fSl (eV 0) (oSome (eV 6)) (oSome (eOp dAdd (eV 6) (eOp iShl (eC (.int 1)) (eV 3))))))) (gN 7) (sDPutA 4 (eV 7) (eC (.bl true))))
theorem reached_ok (S : Sto) {A : List Nat} {m l lane : Nat} (hA : A.length = m + l) (hd : m + l ≤ 7) (hl : lane < 2 ^ l) (SP : List Nat) (hs : ∀ s ∈ SP, s < 2 ^ l) (hn : SP.length ≤ 128) : ∃ ks, m__law_reached [.lst (nl (spl A)), .int lane, .lst (nl SP), .int m] S = .ok (.own (.dic ks)) S ∧ ∀ c : Nat, (lookK ks (.inl (c : Int))).isSome = true ↔ ∃ y, y < 2 ^ (m + l) ∧ lane ^^^ (y >>> m) ∈ SP ∧ app A y = c := by
  have p7 := pow_le (d := m) (n := 7) (by omega)
  have e7 : (2 : Nat) ^ 7 = 128 := by decide
  have go : ∀ (xs : List Nat) (ks : List (Key × D)) (s5 s6 s7 : Sl), (∀ s ∈ xs, s < 2 ^ l) → ks.length + 128 * xs.length ≤ 80000 → ∃ ks' s5' s6' s7', forL (gN 5) rBody (nl xs) [.v (.lst (nl (spl A))), .v (.int lane), .v (.lst (nl SP)), .v (.int m), .o (.dic ks), s5, s6, s7] S = .nx [.v (.lst (nl (spl A))), .v (.int lane), .v (.lst (nl SP)), .v (.int m), .o (.dic ks'), s5', s6', s7'] S ∧ ∀ c : Nat, (lookK ks' (.inl (c : Int))).isSome = true ↔ (lookK ks (.inl (c : Int))).isSome = true ∨ ∃ y, y < 2 ^ (m + l) ∧ lane ^^^ (y >>> m) ∈ xs ∧ app A y = c := by
    intro xs
    induction xs with
    | nil => exact fun ks s5 s6 s7 _ _ => ⟨ks, s5, s6, s7, rfl, fun c => by simp⟩
    | cons x xs ih =>
      intro ks s5 s6 s7 hx hz
      have hz1 : ks.length + 128 * xs.length + 128 ≤ 80000 := by
        rw [List.length_cons] at hz
        omega
      have xl := hx x List.mem_cons_self
      have tl : lane ^^^ x < 2 ^ l := Nat.xor_lt_two_pow hl xl
      have sl := slice_spl (A := A) hA tl
      obtain ⟨ks1, q7, e1, l1, h1⟩ := reach_in S (.v (.lst (nl (spl A)))) (.v (.int lane)) (.v (.lst (nl SP))) (.v (.int m)) (.v (nd x)) (.v (nd ((lane ^^^ x) * 2 ^ m))) ((List.range (2 ^ m)).map fun j => app A ((lane ^^^ x) * 2 ^ m + j)) ks s7 (by simp; omega)
      rw [List.length_map, List.length_range] at l1
      obtain ⟨ks2, r5, r6, r7, e2, h2⟩ := ih ks1 (.v (nd x)) (.v (nd ((lane ^^^ x) * 2 ^ m))) q7 (fun s hs => hx s (List.mem_cons_of_mem _ hs)) (by omega)
      refine ⟨ks2, r5, r6, r7, ?_, fun c => ?_⟩
      · rw [nl_cons]
        unfold forL
        have pw := powB_nat (i := 1) (by decide) m (by omega)
        have pw2 := powB_nat (i := ((lane ^^^ x : Nat) : Int)) (by
          have := pow_le (d := l) (n := 7) (by omega)
          omega) m (by omega)
        have ec : (((lane ^^^ x : Nat) : Int) * 2 ^ m) = (((lane ^^^ x) * 2 ^ m : Nat) : Int) := by
          rw [pow_cast]
          simp
        have sl : cutD (nl (spl A)) (some (((lane ^^^ x) * 2 ^ m : Nat) : Int)) (some ((((lane ^^^ x) * 2 ^ m : Nat) : Int) + 2 ^ m)) = nl ((List.range (2 ^ m)).map fun j => app A ((lane ^^^ x) * 2 ^ m + j)) := by
          rw [pow_cast]
          exact sl
        have bo : rBody [.v (.lst (nl (spl A))), .v (.int lane), .v (.lst (nl SP)), .v (.int m), .o (.dic ks), .v (nd x), s6, s7] S = .nx [.v (.lst (nl (spl A))), .v (.int lane), .v (.lst (nl SP)), .v (.int m), .o (.dic ks1), .v (nd x), .v (nd ((lane ^^^ x) * 2 ^ m)), q7] S := by
          unfold rBody
          generalize (List.range (2 ^ m)).map (fun j => app A ((lane ^^^ x) * 2 ^ m + j)) = BL at *
          generalize hT : (lane ^^^ x) * 2 ^ m = TT at *
          have e1 : forL (gN 7) (sDPutA 4 (eV 7) (eC (.bl true))) (nl BL) [.v (.lst (nl (spl A))), .v (.int lane), .v (.lst (nl SP)), .v (.int m), .o (.dic ks), .v (nd x), .v (nd TT), s7] S = _ := e1
          simp [pw2, ec, pw, sl, e1]
        simp only [gN_eq, List.set, bo]
        exact e2
      · rw [h2 c, h1 c, Bool.or_eq_true, decide_eq_true_eq, block_mem hA tl]
        constructor
        · rintro ((h | ⟨y, y1, y2, y3⟩) | ⟨y, y1, y2, y3⟩)
          · exact .inl h
          · exact .inr ⟨y, y1, by rw [y2, xor_self_left]; exact List.mem_cons_self, y3⟩
          · exact .inr ⟨y, y1, List.mem_cons_of_mem _ y2, y3⟩
        · rintro (h | ⟨y, y1, y2, y3⟩)
          · exact .inl (.inl h)
          · rcases List.mem_cons.mp y2 with z | z
            · exact .inl (.inr ⟨y, y1, by rw [← z, xor_self_left], y3⟩)
            · exact .inr ⟨y, y1, z, y3⟩
  obtain ⟨ks, s5, s6, s7, e, h⟩ := go SP [] .no .no .no hs (by simp; omega)
  refine ⟨ks, ?_, fun c => by rw [h c]; simp [lookK]⟩
  unfold rBody at e
  unfold m__law_reached
  simp [e]
end Fb
namespace Gf
open Fb Mm
theorem span_map_pow {ps : List Nat} {w : Nat} : Sp (ps.map (2 ^ ·)) w ↔ ∃ k, app (ps.map (2 ^ ·)) k = w := Iff.rfl
/-- what differs along the digits is reached by the gather -/
theorem gth_reach {A : List Nat} {m l v : Nat} (hA : Lin (m + l) v A) {ps : List Nat} (hp : ∀ p ∈ ps, p < v) {w : Nat} (h : Sp (ps.map (2 ^ ·)) w) : ∃ y, y < 2 ^ (m + l) ∧ app A y = w ∧ Sp (gthL A m ps) (y >>> m) := by
  obtain ⟨k, rfl⟩ := h
  refine ⟨app (ps.map fun p => gst A m (bk A (2 ^ p))) k, ?_, ?_, ?_⟩
  · refine app_lt k fun r hr => ?_
    obtain ⟨p, hp', rfl⟩ := List.mem_map.mp hr
    rw [← hA.len]
    exact gst_lt (bk_app (hA.all (2 ^ p) (Nat.pow_lt_pow_right (by decide) (hp p hp')))).2
  · rw [← app_app, List.map_map]
    congr 1
    apply List.map_congr_left
    intro p hp'
    show app A (gst A m (bk A (2 ^ p))) = 2 ^ p
    rw [gst_app]
    exact (bk_app (hA.all (2 ^ p) (Nat.pow_lt_pow_right (by decide) (hp p hp')))).1
  · rw [← app_map (· >>> m) (zero_shr m) (shr_xor m), List.map_map]
    have e : ps.map ((fun x => x >>> m) ∘ fun p => gst A m (bk A (2 ^ p))) = ps.map (gdg A m) := by
      apply List.map_congr_left
      intro p _
      exact gst_shr A m _
    rw [e]
    exact (can_sp _ _).mpr ⟨k, rfl⟩
theorem nodup_le {xs ys : List Nat} (hx : xs.Nodup) (hy : ys.Nodup) (h : ∀ x ∈ xs, x ∈ ys) : xs.length ≤ ys.length := by
  have p : (ys.filter fun y => decide (y ∈ xs)).Perm xs := perm_of_mem (hy.filter _) hx fun z => by
    rw [List.mem_filter, decide_eq_true_eq]
    exact ⟨fun q => q.2, fun q => ⟨h z q, q⟩⟩
  rw [← p.length_eq]
  exact List.length_filter_le _ _
theorem rank_le {Y Z : List Nat} (h : ∀ y ∈ Y, Sp Z y) : (bas Y).length ≤ (bas Z).length := by
  have q := nodup_le (lsp_nodup Y) (lsp_nodup Z) fun x hx => mem_lsp.mpr ((mem_lsp.mp hx).sub h)
  rw [lsp_len, lsp_len] at q
  exact (Nat.pow_le_pow_iff_right (by decide)).mp q
theorem red_map_rank {F X : List Nat} (hF : RR F) {Y : List Nat} (h : ∀ y ∈ Y, ∃ x, Sp X x ∧ y = red x F) : (bas Y).length ≤ X.length := by
  have f0 : red 0 F = 0 := (red_zero hF).mpr (.zero _)
  have le := rank_le (Y := Y) (Z := X.map fun x => red x F) fun y hy => by
    obtain ⟨x, sx, rfl⟩ := h y hy
    exact sx.image (fun x => red x F) f0 (red_xor hF)
  have := bas_len (X.map fun x => red x F)
  rw [List.length_map] at this
  omega
/-- fewer turnings do not do -/
theorem gth_fewer {A : List Nat} {m l v : Nat} (hA : Lin (m + l) v A) {ps X : List Nat} (hp : ∀ p ∈ ps, p < v) (hX : X.length < (gthL A m ps).length) : ∃ p ∈ ps, ∀ y, y < 2 ^ (m + l) → app A y = 2 ^ p → ¬ Sp X (y >>> m) := by
  refine Classical.byContradiction fun no => ?_
  have h : ∀ y ∈ ps.map (gdg A m), ∃ x, Sp X x ∧ y = red x (frL A m) := fun z hz => by
    obtain ⟨p, hp', rfl⟩ := List.mem_map.mp hz
    refine Classical.byContradiction fun nn => no ⟨p, hp', fun y y1 y2 y3 => nn ⟨y >>> m, y3, gdg_of hA (hp p hp') (by rw [hA.len]; exact y1) y2⟩⟩
  have r := red_map_rank (frL_rr A m) h
  unfold gthL at hX
  rw [can_len] at hX
  omega
theorem bst_two (F : List Nat) (x : Nat) : (bst F x).length = F.length ∨ (bst F x).length = F.length + 1 := by
  unfold bst
  by_cases z : red x F = 0
  · rw [if_pos z]; exact .inl rfl
  · rw [if_neg z, List.length_append, List.length_map]; exact .inr rfl
theorem bas_snoc (xs : List Nat) (x : Nat) : (bas (xs ++ [x])).length = (bas xs).length ∨ (bas (xs ++ [x])).length = (bas xs).length + 1 := by
  have e : bas (xs ++ [x]) = bst (bas xs) x := by
    unfold bas
    rw [List.foldl_append]
    rfl
  rw [e]
  exact bst_two _ _
end Gf
namespace K54
open PySem L2 Mm Fb Gf
noncomputable def xk0 : MS := sCell 1 (fCall m__law_box [] (aCons (eV 0) aNil))
noncomputable def xk1 : MS := sAsg (eCall m__law_two_spreads [] (aCons (eV 1) aNil)) (gT (gNC (gN 3) (gNC (gN 4) (gNC (gN 5) (gNC (gN 6) (gNC (gN 7) gN0))))))
noncomputable def xk2 : MS := sAsg (eOp iSub (eV 3) (eV 5)) (gN 8)
noncomputable def xk3 : MS := sAsg (eTup (aCons (eNew "Fold" m_FoldU_initU [] (aCons (eV 6) (aCons (eV 4) aNil))) (aCons (eCall m__law_images [] (aCons (eV 6) aNil)) aNil))) (gT (gNC (gN 9) (gNC (gN 10) gN0)))
noncomputable def xk4 : MS := sAsg (mFrz (fLc (itR1 (aCons (eV 4) aNil)) (gN 20) (cB (eOp fEq (eCall m__law_take [] (aCons (eV 1) (aCons (eC (.int 2)) aNil))) (eC (.int 0)))) (eV 20) [20])) (gN 11)
noncomputable def xk5 : MS := sAsg (eCall m_gather [] (aCat (aCons (eV 9) (aCons (eV 11) aNil)) (aCons (eV 5) aNil))) (gN 12)
noncomputable def xk6 : MS := sAsg (eCall m__law_span [] (aCons (mFrz (fLc (itL (eV 11)) (gN 20) cYes (eOp iShl (eC (.int 1)) (eV 20)) [20])) aNil)) (gN 13)
noncomputable def xk7 : MS := sAsg (eCall m__law_span [] (aCons (eV 12) aNil)) (gN 14)
noncomputable def xk8 : MS := sAsg (eCall m__law_reached [] (aCons (eV 10) (aCons (eV 15) (aCons (eV 14) (aCons (eV 8) aNil))))) (gN 16)
noncomputable def xk9 : MS := sAsg (eOp fIx (eV 10) (eOp iShl (eV 15) (eV 8))) (gN 17)
noncomputable def xk10 : MS := sIf (cNot (cB (eCB fAll (aCons (mFrz (fLc (itL (eV 13)) (gN 21) cYes (eDInA false (eOp iXor (eV 17) (eV 21)) 16) [21])) aNil)))) (sRet (eC (.bl false))) sNil
noncomputable def xk11 : MS := sAsg (eCall m__law_reached [] (aCons (eV 10) (aCons (eV 15) (aCons (eCall m__law_span [] (aCons (eV 18) aNil)) (aCons (eV 8) aNil))))) (gN 16)
noncomputable def xk12 : MS := sIf (cB (eCB fAll (aCons (mFrz (fLc (itL (eV 13)) (gN 21) cYes (eDInA false (eOp iXor (eV 17) (eV 21)) 16) [21])) aNil))) (sRet (eC (.bl false))) sNil
noncomputable def xr13 : MS := sSeq xk11 xk12
noncomputable def xk14 : MS := sFor (itL (mFrz (fLc (itR1 (aCons (eCB fLen (aCons (eV 12) aNil)) aNil)) (gN 22) cYes (eOp dAdd (mFrz (fSl (eV 12) oNone (oSome (eV 22)))) (mFrz (fSl (eV 12) (oSome (eOp dAdd (eV 22) (eC (.int 1)))) oNone))) [22]))) (gN 18) xr13
noncomputable def xr15 : MS := sSeq xk10 xk14
noncomputable def xr16 : MS := sSeq xk9 xr15
noncomputable def xr17 : MS := sSeq xk8 xr16
noncomputable def xk18 : MS := sFor (itR1 (aCons (eOp iShl (eC (.int 1)) (eV 5)) aNil)) (gN 15) xr17
noncomputable def xk19 : MS := sIf (cOr (cB (eOp iGt (eCB fLen (aCons (eV 12) aNil)) (eCB fLen (aCons (eV 11) aNil)))) (cB (eOp iGt (eCB fLen (aCons (eV 12) aNil)) (eV 5)))) (sRet (eC (.bl false))) sNil
noncomputable def xk20 : MS := sAsg (mFrz (fLc (itR1 (aCons (eOp dAdd (eCB fLen (aCons (eV 11) aNil)) (eC (.int 1))) aNil)) (gN 22) cYes (eCB fLen (aCons (eCall m_gather [] (aCat (aCons (eV 9) (aCons (mFrz (fSl (eV 11) oNone (oSome (eV 22)))) aNil)) (aCons (eV 5) aNil))) aNil)) [22])) (gN 19)
noncomputable def xk21 : MS := sIf (cOr (cB (eOp fNe (eV 19) (mFrz (fCB fSorted (aCons (eV 19) aNil))))) (cB (eCB fAny (aCons (mFrz (fLc (itR1 (aCons (eCB fLen (aCons (eV 11) aNil)) aNil)) (gN 22) cYes (eOp iGt (eOp iSub (eOp fIx (eV 19) (eOp dAdd (eV 22) (eC (.int 1)))) (eOp fIx (eV 19) (eV 22))) (eC (.int 1))) [22])) aNil)))) (sRet (eC (.bl false))) sNil
noncomputable def xr22 : MS := sSeq xk20 xk21
noncomputable def xr23 : MS := sSeq xk19 xr22
noncomputable def xr24 : MS := sSeq xk18 xr23
noncomputable def xr25 : MS := sSeq xk7 xr24
noncomputable def xr26 : MS := sSeq xk6 xr25
noncomputable def xr27 : MS := sSeq xk5 xr26
noncomputable def xr28 : MS := sSeq xk4 xr27
noncomputable def xr29 : MS := sSeq xk3 xr28
noncomputable def xr30 : MS := sSeq xk2 xr29
noncomputable def xr31 : MS := sSeq xk1 xr30
noncomputable def xk32 : MS := sFor (itR1 (aCons (eC (.int 2)) aNil)) (gN 2) xr31
noncomputable def xk33 : MS := sRet (eC (.bl true))
noncomputable def xr34 : MS := sSeq xk32 xk33
noncomputable def xr35 : MS := sSeq xk0 xr34
theorem m_law_eq : m_law = mFn 23 xr35 := rfl
abbrev E (ns : List Int) (s2 s3 s4 s5 s6 s7 s8 s9 s10 s11 s12 s13 s14 s15 s16 s17 s18 s19 : Sl) : Envr := [.v (.scr ns), .v (.ref 0), s2, s3, s4, s5, s6, s7, s8, s9, s10, s11, s12, s13, s14, s15, s16, s17, s18, s19, .no, .no, .no]
theorem all_of {xs : List Nat} (f : Nat → Bool) (S : Sto) : fAll S [.lst (xs.map fun x => D.bl (f x))] = some (.bl (xs.all f)) := by
  have := fAll_eq S (xs.map f)
  rw [List.map_map] at this
  have e : (D.bl ∘ f) = fun x => D.bl (f x) := rfl
  rw [e] at this
  rw [this, List.all_map]
  rfl
theorem any_of {xs : List Nat} (f : Nat → Bool) (S : Sto) : fAny S [.lst (xs.map fun x => D.bl (f x))] = some (.bl (xs.any f)) := by
  have := fAny_eq S (xs.map f)
  rw [List.map_map] at this
  have e : (D.bl ∘ f) = fun x => D.bl (f x) := rfl
  rw [e] at this
  rw [this, List.any_map]
  rfl
def fewer (G : List Nat) (k : Nat) : List Nat := G.take k ++ G.drop (k + 1)
theorem body_ok (ns : List Int) (b : Cell) (ss : List Sl) (hb : Bx b) (hl : ss.length = 18) : NX (xr31 (LE ns ss 3) [b]) (LI ns 18 3 fun _ => True) := by
  match ss, hl with
  | [s2, s3, s4, s5, s6, s7, s8, s9, s10, s11, s12, s13, s14, s15, s16, s17, s18, s19], _ => ?_
  show NX (xr31 [.v (.scr ns), .v (.ref 0), s2, s3, s4, s5, s6, s7, s8, s9, s10, s11, s12, s13, s14, s15, s16, s17, s18, s19, .no, .no, .no] [b]) _
  unfold xr31
  refine NX_seq ?_
  obtain ⟨b1, m, l, v, A, B, t1, hb1, hd, hv, hA, hB⟩ := two_spreads_ok hb
  obtain ⟨d, hdd⟩ : ∃ d, d = m + l := ⟨_, rfl⟩
  rw [← hdd] at t1
  have lA := hA.len
  have FA : FOk A v := fokA1 hA (by omega)
  simp [xk1, t1]
  unfold xr30
  refine NX_seq ?_
  have e1 : ((d : Int) - (l : Int)) = (m : Int) := by omega
  simp [xk2, e1]
  unfold xr29
  refine NX_seq ?_
  have N1 := newK b1 (v : Int) rfl FA (.tup (nl A)) (.inl rfl)
  have im := images_ok [b1] A (by omega) (.tup (nl A)) (.inl rfl)
  have z2 := szB_of (n := 2) (by omega)
  simp [xk3, N1, im, z2]
  unfold xr28
  refine NX_seq ?_
  have rgv := rgB_nat (n := v) (by omega)
  have rnv := rng0 v
  obtain ⟨b2, ps, dr, hb2, sub⟩ := draw_lc (k := 20) (env := [.v (.scr ns), .v (.ref 0), hideS s2, .v (nd d), .v (nd v), .v (nd l), .v (.tup (nl A)), .v (.tup (nl B)), .v (nd m), .v (fold A v), .v (.lst (nl (spl A))), hideS s11, hideS s12, hideS s13, hideS s14, hideS s15, hideS s16, hideS s17, hideS s18, hideS s19, .no, .no, .no]) rfl (by decide) (by simp) (List.range v) hb1
  have pn : ps.Nodup := List.Nodup.sublist sub List.nodup_range
  have plt : ∀ p ∈ ps, p < v := fun p hp => List.mem_range.mp (sub.subset hp)
  have pl : ps.length ≤ v := by have := sub.length_le; simpa using this
  have zp := szB_of (n := ps.length) (by omega)
  simp [xk4, rgv, rnv, dr, zp]
  unfold xr27
  refine NX_seq ?_
  have ga := gather_ok hA (by omega) [b2] ps plt pn (by omega) (.lst (nl ps)) rfl
  simp [xk5, ga]
  unfold xr26
  refine NX_seq ?_
  have plt2 : ∀ x ∈ ps.map (2 ^ ·), x < 2 ^ v := fun x hx => by
    obtain ⟨p, hp, rfl⟩ := List.mem_map.mp hx
    exact Nat.pow_lt_pow_right (by decide) (plt p hp)
  have sp1 := span_ok [b2] (w := v) (by omega) (ps.map (2 ^ ·)) plt2 (.lst (nl (ps.map (2 ^ ·)))) (.inr rfl)
  simp [xk6]
  rw [lc_nl (2 ^ ·) ps ?h]
  case h =>
    intro y hy
    have := plt y hy
    have pw := powB_nat (i := 1) (by decide) y (by omega)
    simp [pw]
  have lw : (lsp (ps.map (2 ^ ·))).length ≤ 128 := by
    rw [lsp_len]
    have := bas_len (ps.map (2 ^ ·))
    rw [List.length_map] at this
    exact Nat.le_trans (pow_le (n := 7) (by omega)) (by decide)
  have wm : ∀ w, w ∈ lsp (ps.map (2 ^ ·)) ↔ Sp (ps.map (2 ^ ·)) w := fun w => mem_lsp
  have glt : ∀ x ∈ gthL A m ps, x < 2 ^ l := can_lt fun x hx => by
    obtain ⟨p, hp, rfl⟩ := List.mem_map.mp hx
    exact gdg_lt hA (plt p hp)
  have gl1 : (gthL A m ps).length ≤ ps.length := by
    unfold gthL
    rw [can_len]
    have := bas_len (ps.map (gdg A m))
    rwa [List.length_map] at this
  have gl2 : (gthL A m ps).length ≤ l := (can_rr _).len_le glt
  have reach := fun w => gth_reach hA plt (w := w)
  have few := fun X => gth_fewer hA plt (X := X)
  have pw2 : ∀ p ∈ ps, Sp (ps.map (2 ^ ·)) (2 ^ p) := fun p hp => .mem (List.mem_map.mpr ⟨p, hp, rfl⟩)
  have lpm : (ps.map fun x => 2 ^ x).length = ps.length := by simp
  generalize hPW : ps.map (fun x => 2 ^ x) = PW at *
  generalize hWN : lsp PW = WN at *
  simp [lpm, zp, sp1]
  unfold xr25
  refine NX_seq ?_
  have cnt : ∀ k, (gthL A m (ps.take k)).length = (bas ((ps.map (gdg A m)).take k)).length := fun k => by
    unfold gthL
    rw [can_len, List.map_take]
  have gak : ∀ k, m_gather [fold A v, .lst (nl (ps.take k)), .int l] [b2] = .ok (.own (.lst (nl (gthL A m (ps.take k))))) [b2] := fun k => gather_ok hA (by omega) [b2] (ps.take k) (fun p hp => plt p (List.mem_of_mem_take hp)) (List.Nodup.sublist (List.take_sublist _ _) pn) (by rw [List.length_take]; omega) _ rfl
  generalize hG : gthL A m ps = G at *
  have sp2 := span_ok [b2] (w := l) (by omega) G glt (.lst (nl G)) (.inr rfl)
  have sl2 : (lsp G).length ≤ 128 := by
    rw [lsp_len]
    have := bas_len G
    exact Nat.le_trans (pow_le (n := 7) (by omega)) (by decide)
  have slt2 : ∀ s ∈ lsp G, s < 2 ^ l := fun s hs => (mem_lsp.mp hs).lt glt
  simp [xk7, sp2]
  unfold xr24
  refine NX_seq ?_
  have pwl := powB_nat (i := 1) (by decide) l (by omega)
  have rgl := rg_pow (d := l) (by omega)
  have rnl := rng_pow l
  simp [xk18, pwl, rgl, rnl]
  refine NX_for (fun ds e S => S = [b2] ∧ (∃ xs, ds = nl xs ∧ ∀ x ∈ xs, x < 2 ^ l) ∧ ∃ s15 s16 s17 s18, e = E ns s2 (.v (nd d)) (.v (nd v)) (.v (nd l)) (.v (.tup (nl A))) (.v (.tup (nl B))) (.v (nd m)) (.v (fold A v)) (.v (.lst (nl (spl A)))) (.v (.lst (nl ps))) (.v (.lst (nl G))) (.v (.lst (nl WN))) (.v (.lst (nl (lsp G)))) s15 s16 s17 s18 s19) ⟨rfl, ⟨_, rfl, fun x hx => List.mem_range.mp hx⟩, s15, s16, s17, s18, rfl⟩ (fun x ds e S h => ?_) (fun e S h => ?_)
  · obtain ⟨rfl, ⟨xs, hxs, hlt⟩, s15, s16, s17, s18, rfl⟩ := h
    cases xs with
    | nil => cases hxs
    | cons lane xs =>
      rw [nl_cons] at hxs
      obtain ⟨rfl, rfl⟩ := List.cons.inj hxs
      have ll := hlt lane List.mem_cons_self
      refine ⟨_, rfl, NX_mono (Q := fun e S => S = [b2] ∧ ∃ s15 s16 s17 s18, e = E ns s2 (.v (nd d)) (.v (nd v)) (.v (nd l)) (.v (.tup (nl A))) (.v (.tup (nl B))) (.v (nd m)) (.v (fold A v)) (.v (.lst (nl (spl A)))) (.v (.lst (nl ps))) (.v (.lst (nl G))) (.v (.lst (nl WN))) (.v (.lst (nl (lsp G)))) s15 s16 s17 s18 s19) ?_ fun e S h => ⟨h.1, ⟨xs, rfl, fun x hx => hlt x (List.mem_cons_of_mem _ hx)⟩, h.2⟩⟩
      unfold xr17
      refine NX_seq ?_
      obtain ⟨ks, rk, hk⟩ := reached_ok [b2] lA hd ll (lsp G) slt2 sl2
      simp [xk8, rk]
      unfold xr16
      refine NX_seq ?_
      have pwm := powB_nat (i := (lane : Int)) (by have := pow_le (d := l) (n := 7) (by omega); omega) m (by omega)
      have blt : lane * 2 ^ m < 2 ^ (m + l) := by
        rw [Nat.pow_add, Nat.mul_comm (2 ^ m)]
        exact Nat.mul_lt_mul_of_pos_right ll (Nat.two_pow_pos m)
      have at1 : atI (nl (spl A)) ((lane : Int) * 2 ^ m) = some (nd (app A (lane * 2 ^ m))) := by
        have e : ((lane : Int) * 2 ^ m) = ((lane * 2 ^ m : Nat) : Int) := by
          rw [pow_cast]
          simp
        rw [e, spl_app, ← nl_map_of, range_at _ (by rw [lA]; exact blt)]
      have shb : (lane * 2 ^ m) >>> m = lane := by rw [Nat.shiftRight_eq_div_pow, Nat.mul_div_cancel _ (Nat.two_pow_pos m)]
      generalize hBB : lane * 2 ^ m = BB at *
      simp [xk9, pwm, at1]
      unfold xr15
      refine NX_seq ?_
      simp [xk10]
      rw [lc_nlD (fun w => .bl (lookK ks (.inl ((app A BB ^^^ w : Nat) : Int))).isSome) WN ?h]
      case h =>
        intro y hy
        simp
      have zw := szB_of (n := WN.length) (by omega)
      have al : WN.all (fun w => (lookK ks (.inl ((app A BB ^^^ w : Nat) : Int))).isSome) = true := by
        rw [List.all_eq_true]
        intro w hw
        rw [hk]
        obtain ⟨y, y1, y2, y3⟩ := reach w ((wm w).mp hw)
        refine ⟨BB ^^^ y, Nat.xor_lt_two_pow blt y1, ?_, by rw [app_xor, y2]⟩
        rw [shr_xor, shb, xor_self_left]
        exact mem_lsp.mpr y3
      have ao := all_of (xs := WN) (fun w => (lookK ks (.inl ((app A BB ^^^ w : Nat) : Int))).isSome) [b2]
      rw [al] at ao
      have lml : (WN.map fun w => D.bl (lookK ks (.inl ((app A BB ^^^ w : Nat) : Int))).isSome).length = WN.length := by simp
      generalize WN.map (fun w => D.bl (lookK ks (.inl ((app A BB ^^^ w : Nat) : Int))).isSome) = AL at *
      simp [lml, zw, ao]
      have rgg := rgB_nat (n := G.length) (by omega)
      have rng := rng0 G.length
      simp [xk14, rgg, rng]
      rw [lc_nlD (fun k => .lst (nl (fewer G k))) (List.range G.length) ?h]
      case h =>
        intro k hk
        have hk := List.mem_range.mp hk
        have c1 := cut_loA (nl G) k
        have c2 := cut_hiA (nl G) (k + 1)
        rw [nl_take] at c1
        rw [nl_drop] at c2
        have c2 : cutD (nl G) (some ((k : Int) + 1)) none = _ := c2
        have zz := szB_of (n := (G.take k).length + (G.drop (k + 1)).length) (by simp; omega)
        have en : nl (G.take k) ++ nl (G.drop (k + 1)) = nl (fewer G k) := by unfold fewer; simp [nl]
        generalize G.take k = G1 at *
        generalize G.drop (k + 1) = G2 at *
        simp [-nl_append, c1, c2, zz, en]
      have zg := szB_of (n := G.length) (by omega)
      simp [zg]
      refine NX_for (fun ds e S => S = [b2] ∧ (∃ ks, ds = ks.map (fun k => D.lst (nl (fewer G k))) ∧ ∀ k ∈ ks, k < G.length) ∧ ∃ s16 s18, e = E ns s2 (.v (nd d)) (.v (nd v)) (.v (nd l)) (.v (.tup (nl A))) (.v (.tup (nl B))) (.v (nd m)) (.v (fold A v)) (.v (.lst (nl (spl A)))) (.v (.lst (nl ps))) (.v (.lst (nl G))) (.v (.lst (nl WN))) (.v (.lst (nl (lsp G)))) (.v (nd lane)) s16 (.v (nd (app A BB))) s18 s19) ⟨rfl, ⟨_, rfl, fun x hx => List.mem_range.mp hx⟩, _, s18, rfl⟩ (fun x ds e S h => ?_) (fun e S h => ?_)
      · obtain ⟨rfl, ⟨kk, hkk, hlk⟩, s16, s18, rfl⟩ := h
        cases kk with
        | nil => cases hkk
        | cons k kk =>
          rw [List.map_cons] at hkk
          obtain ⟨rfl, rfl⟩ := List.cons.inj hkk
          have kl := hlk k List.mem_cons_self
          refine ⟨_, rfl, NX_mono (Q := fun e S => S = [b2] ∧ ∃ s16 s18, e = E ns s2 (.v (nd d)) (.v (nd v)) (.v (nd l)) (.v (.tup (nl A))) (.v (.tup (nl B))) (.v (nd m)) (.v (fold A v)) (.v (.lst (nl (spl A)))) (.v (.lst (nl ps))) (.v (.lst (nl G))) (.v (.lst (nl WN))) (.v (.lst (nl (lsp G)))) (.v (nd lane)) s16 (.v (nd (app A BB))) s18 s19) ?_ fun e S h => ⟨h.1, ⟨kk, rfl, fun x hx => hlk x (List.mem_cons_of_mem _ hx)⟩, h.2⟩⟩
          have fl : (fewer G k).length < G.length := by unfold fewer; simp; omega
          have flt : ∀ x ∈ fewer G k, x < 2 ^ l := fun x hx => by
            unfold fewer at hx
            rcases List.mem_append.mp hx with h | h
            · exact glt x (List.mem_of_mem_take h)
            · exact glt x (List.mem_of_mem_drop h)
          obtain ⟨p, hp, np⟩ := few (fewer G k) fl
          have sp3 := span_ok [b2] (w := l) (by omega) (fewer G k) flt (.lst (nl (fewer G k))) (.inr rfl)
          have sl3 : (lsp (fewer G k)).length ≤ 128 := by
            rw [lsp_len]
            have := bas_len (fewer G k)
            exact Nat.le_trans (pow_le (n := 7) (by omega)) (by decide)
          have slt3 : ∀ s ∈ lsp (fewer G k), s < 2 ^ l := fun s hs => (mem_lsp.mp hs).lt flt
          obtain ⟨ks3, rk3, hk3⟩ := reached_ok [b2] lA hd ll (lsp (fewer G k)) slt3 sl3
          unfold xr13
          refine NX_seq ?_
          simp [xk11, sp3, rk3]
          simp [xk12]
          rw [lc_nlD (fun w => .bl (lookK ks3 (.inl ((app A BB ^^^ w : Nat) : Int))).isSome) WN ?h]
          case h =>
            intro y hy
            simp
          have al3 : WN.all (fun w => (lookK ks3 (.inl ((app A BB ^^^ w : Nat) : Int))).isSome) = false := by
            rw [List.all_eq_false]
            refine ⟨2 ^ p, (wm _).mpr (pw2 p hp), fun z => ?_⟩
            obtain ⟨y, y1, y2, y3⟩ := (hk3 _).mp z
            refine np (y ^^^ BB) (Nat.xor_lt_two_pow y1 blt) (by rw [app_xor, y3, Nat.xor_comm, xor_self_left]) ?_
            have := mem_lsp.mp y2
            rwa [shr_xor, shb, Nat.xor_comm]
          have ao3 := all_of (xs := WN) (fun w => (lookK ks3 (.inl ((app A BB ^^^ w : Nat) : Int))).isSome) [b2]
          rw [al3] at ao3
          have lml3 : (WN.map fun w => D.bl (lookK ks3 (.inl ((app A BB ^^^ w : Nat) : Int))).isSome).length = WN.length := by simp
          generalize WN.map (fun w => D.bl (lookK ks3 (.inl ((app A BB ^^^ w : Nat) : Int))).isSome) = AL3 at *
          simp [lml3, zw, ao3]
      · obtain ⟨rfl, _, s16, s18, rfl⟩ := h
        exact ⟨rfl, _, _, _, _, rfl⟩
  · obtain ⟨rfl, _, s15, s16, s17, s18, rfl⟩ := h
    unfold xr23
    refine NX_seq ?_
    have n1 : ¬ ((ps.length : Int) < (G.length : Int)) := by omega
    have n2 : ¬ ((l : Int) < (G.length : Int)) := by omega
    simp [xk19, n1, n2]
    unfold xr22
    refine NX_seq ?_
    have rgp : rgB ((ps.length : Int) + 1) = true := rgB_nat (n := ps.length + 1) (by omega)
    have rnp := rng0 (ps.length + 1)
    simp [xk20, rgp, rnp]
    rw [lc_nl (fun k => (gthL A m (ps.take k)).length) (List.range (ps.length + 1)) ?h]
    case h =>
      intro k hk
      have c1 := cut_loA (nl ps) k
      rw [nl_take] at c1
      have gk := gak k
      generalize gthL A m (ps.take k) = GK at *
      generalize ps.take k = PK at *
      simp [c1, gk]
    have zq := szB_of (n := ps.length + 1) (by omega)
    have mono : ∀ k, (gthL A m (ps.take (k + 1))).length = (gthL A m (ps.take k)).length ∨ (gthL A m (ps.take (k + 1))).length = (gthL A m (ps.take k)).length + 1 := fun k => by
      rw [cnt, cnt]
      by_cases kl : k < (ps.map (gdg A m)).length
      · rw [List.take_add_one, List.getElem?_eq_getElem kl]
        exact bas_snoc _ _
      · rw [List.take_of_length_le (by omega), List.take_of_length_le (by omega)]
        exact .inl rfl
    have srt : ((List.range (ps.length + 1)).map fun k => (gthL A m (ps.take k)).length).Pairwise (· ≤ ·) := by
      rw [List.pairwise_map]
      refine List.pairwise_lt_range.imp ?_
      intro a c z
      have mm : ∀ j, (gthL A m (ps.take a)).length ≤ (gthL A m (ps.take (a + j))).length := fun j => by
        induction j with
        | zero => exact Nat.le_refl _
        | succ j ih =>
          have := mono (a + j)
          rw [show a + (j + 1) = a + j + 1 by omega]
          omega
      have := mm (c - a)
      rwa [show a + (c - a) = c by omega] at this
    have sid := nsrt_id srt
    have atk : ∀ k, k < ps.length + 1 → atI (nl ((List.range (ps.length + 1)).map fun k => (gthL A m (ps.take k)).length)) (k : Int) = some (nd (gthL A m (ps.take k)).length) := fun k hk => by
      rw [← nl_map_of, range_at _ hk]
    have lcn : ((List.range (ps.length + 1)).map fun k => (gthL A m (ps.take k)).length).length = ps.length + 1 := by simp
    generalize hCN : (List.range (ps.length + 1)).map (fun k => (gthL A m (ps.take k)).length) = CN at *
    simp [lcn, zq]
    have rgq := rgB_nat (n := ps.length) (by omega)
    have rnq := rng0 ps.length
    simp [xk21, sid, rgq, rnq]
    rw [lc_nlD (fun _ => .bl false) (List.range ps.length) ?h2]
    case h2 =>
      intro k hk
      have hk := List.mem_range.mp hk
      have a1 := atk (k + 1) (by omega)
      have a2 := atk k (by omega)
      have a1 : atI (nl CN) ((k : Int) + 1) = _ := a1
      have mk := mono k
      have n3 : ¬ ((1 : Int) < ((gthL A m (ps.take (k + 1))).length : Int) - ((gthL A m (ps.take k)).length : Int)) := by omega
      simp [a1, a2, n3]
    have ao := any_of (xs := List.range ps.length) (fun _ => false) [b2]
    have af : (List.range ps.length).any (fun _ => false) = false := by simp
    rw [af] at ao
    have lml : ((List.range ps.length).map fun _ => D.bl false).length = ps.length := by simp
    generalize (List.range ps.length).map (fun _ => D.bl false) = AL at *
    simp [lml, zp, ao]
    exact ⟨_, [_, _, _, _, _, _, _, _, _, _, _, _, _, _, _, _, _, _], rfl, hb2, rfl, rfl, trivial⟩
theorem pure_law (ns : List Int) (hl : ns.length ≤ 63) (hb : ∀ z ∈ ns, Builtin.Int.intBits z ≤ 1048576) : ∃ S, m_law [.scr ns] [] = .ok (.val (.bl true)) S := by
  rw [m_law_eq]
  exact law_for (k := 18) (c := 3) (n := 2) ns rfl (by decide) (by decide) (body_ok ns)
end K54
open PySem PySem.W PySem.Calls PyProof.Rows in
set_option maxHeartbeats 0 in
theorem PySem.Challenge.cw_foldberth_k54_whole_gathers_reach_all_holds : PySem.Challenge.rw_foldberth_k54_whole_gathers_reach_all.Holds := by
  w_on; o_law
  refine HandSHeadRun.head_any (r := OpenLaw.row PySem.Challenge.rw_foldberth_k54_whole_gathers_reach_all) (q := view (OpenLaw.row PySem.Challenge.rw_foldberth_k54_whole_gathers_reach_all).prog [35]) (H := K54.hk) (ob := K54.ob) (M := 8000) (loose := K54.loose) (d := HandSHeadRun.topDef (OpenLaw.row PySem.Challenge.rw_foldberth_k54_whole_gathers_reach_all).prog 35) (kwd := []) K54.ob_eq
    (by kernel_rfl) (fun s => by kernel_rfl) K54.run (by kernel_rfl) (by kernel_rfl) (by kernel_rfl) (by rfl) (by first | assumption | decide +kernel) (by decide +kernel) ⟨rfl, rfl, rfl, rfl, rfl, by decide +kernel⟩ ?hw ?hc
  case hw => w_witness2
  case hc =>
    refine LamX.walk_ofTsE (l := PySem.Challenge.rw_foldberth_k54_whole_gathers_reach_all) (n := 63) (k := 9) (x := "_law_script") (CX := fun w => L2N.CX (PySem.Challenge.rw_foldberth_k54_whole_gathers_reach_all).prog w) rfl (by decide) (by kernel_rfl) ⟨rfl, by decide, by decide⟩ ?F (fun w H s e s' z => Mm.cx_none _ w H s e s' z)
    intro w mg fa h Y G hmg0
    obtain ⟨K, KX, c⟩ := Y
    have hmg : mg ("law" : PySem.Str) = some (.ref fa) := by
      have e : (HandSHeadRun.topDef (OpenLaw.row PySem.Challenge.rw_foldberth_k54_whole_gathers_reach_all).prog 35).name = ("law" : PySem.Str) := by kernel_rfl
      rw [← e]
      exact hmg0
    obtain ⟨fd, hb, hF⟩ := K54.facts (P := (PySem.Challenge.rw_foldberth_k54_whole_gathers_reach_all).prog) (w := w) KX G hmg c
    exact ⟨K, KX, Mm.law_atT K54.tf c KX hb K54.pure_law hF⟩
