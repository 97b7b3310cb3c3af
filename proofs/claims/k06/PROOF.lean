import PyProof.Rows.All
import Wide.All
import OpenK.AllK
import Wide.FinOn
import HandS.ForMost
import HandS.Exc
import HandS.ExcCtx
import HandS.WordsExc
import HandS.Lambda
import HandS.Defaults
import HandS.CallSlots
import HandS.ExcOwn
import HandS.SortInts
import HandS.Zip
import HandS.WideBits
import HandS.More
import HandS.SetFor
import HandS.Conv
import HandS.OwnEq
import HandS.NoneIn
import KE.GoesMore
import HandS.Codes
import HandS.Head0
import HandS.Head1
import HandS.Head2
import HandS.HeadEnd
import HandS.HeadHook1
import HandS.HeadHook2
import HandS.HeadHook3
import HandS.HeadHook4
import HandS.HeadWalk
import HandS.EndTab
import HandS.TupAny
import HandS.HotCalls
import HandS.ExcIs
import HandS.ExcField
import HandS.IsInst
import HandS.SetBool
import HandS.SortKw
import PyProof.MinMaxWalk
import HandS.Strs
import HandS.Dict
import HandS.Style
import PyProof.WalksMore
import HandS.MakeKwOnly
import HandS.WordsDict
import HandS.Small
import HandS.Text
import PyProof.CollectIter
import HandS.ExcInit
import KE.GoesZip
import HandS.FStr
import HandS.TupMul
import PyProof.InstNe
import PySem.Challenge.RW_foldberth_k06_folds_made_or_refused
set_option Elab.async false
set_option linter.all false
set_option autoImplicit false
set_option maxRecDepth 100000
set_option maxHeartbeats 4000000
namespace Mm
open PySem L2

/-! ### the machine's data -/
inductive D where
  | non | bl (b : Bool) | int (i : Int) | str (x : Str)
  | lst (xs : List D) | tup (xs : List D) | ins (c : Str) (fs : List (Str × D)) | ref (n : Nat) | scr (ns : List Int) | ty (n : String) | cls (c : Str)
  | adr (a : Addr) | set (xs : List Int) | dic (ks : List (Key × D)) | tdc (ks : List (List Key × Int))
inductive Cell where
  | lst (xs : List D) | ins (c : Str) (fs : List (Str × D)) | dic (ks : List (Key × D)) | tdc (ks : List (List Key × Int)) | lck (ks : List (Key × D))
/-- what a dict with tuple keys holds -/
def tdV (ks : List (List Key × Int)) : List (List Key × V) := ks.map fun kv => (kv.1, .int kv.2)
def Cell.d : Cell → D
  | .lst xs => .lst xs
  | .ins c fs => .ins c fs
  | .dic ks => .dic ks
  | .tdc ks => .tdc ks
  | .lck ks => .dic ks
inductive Sl where
  | no | v (d : D) | o (c : Cell)
abbrev Sto := List Cell
abbrev Envr := List Sl
inductive R (α : Type) where
  | stuck | exc (c : Str) (p : Option D) (s : Sto) | ok (a : α) (s : Sto)
inductive Ret where
  | val (d : D) | own (c : Cell)
def Ret.d : Ret → D
  | .val d => d
  | .own c => c.d
inductive Out where
  | stuck | nx (e : Envr) (s : Sto) | rt (r : Ret) (s : Sto) | bk (e : Envr) (s : Sto) | ct (e : Envr) (s : Sto) | exc (c : Str) (p : Option D) (e : Envr) (s : Sto)

/-! ### what stands for what -/
structure Gam where
  K : PySem.W.Frag
  ca : Str → Addr
  T : List (Addr × Str)
structure Wd where
  rho : List Addr
  G : Hp
mutual
def Rep (g : Gam) (w : Wd) : D → V → Prop
  | .non, v => v = .non
  | .bl b, v => v = .bl b
  | .int i, v => v = .int i
  | .str x, v => v = .str x
  | .lst ds, v => ∃ a vs, v = .ref a ∧ w.G a = some (.lst vs) ∧ RepL g w ds vs
  | .tup ds, v => ∃ a vs, v = .ref a ∧ SqT g.K w.G a vs ∧ RepL g w ds vs
  | .ins c fs, v => ∃ a dx gs, v = .ref a ∧ w.G a = some (.ins (g.ca c) dx gs) ∧ RepF g w fs gs
  | .ref n, v => ∃ a, w.rho[n]? = some a ∧ v = .ref a
  | .scr ns, v => ∃ a, v = .ref a ∧ SqL g.K w.G a (ns.map V.int)
  | .ty n, v => v = .ty n
  | .cls c, v => v = .ref (g.ca c)
  | .adr a, v => v = .ref a
  | .set xs, v => ∃ a S, v = .ref a ∧ w.G a = some (.set S xs.length) ∧ xs.Nodup ∧ ∀ i, S i = decide (i ∈ xs)
  | .dic ks, v => ∃ a vs, v = .ref a ∧ Rd w.G a (.dK vs) ∧ RepK g w ks vs
  | .tdc ks, v => ∃ a, v = .ref a ∧ w.G a = some (.dT (tdV ks))
def RepL (g : Gam) (w : Wd) : List D → List V → Prop
  | [], vs => vs = []
  | d :: ds, vs => ∃ v r, vs = v :: r ∧ Rep g w d v ∧ RepL g w ds r
def RepF (g : Gam) (w : Wd) : List (Str × D) → List (Str × V) → Prop
  | [], gs => gs = []
  | (f, d) :: fs, gs => ∃ v r, gs = (f, v) :: r ∧ Rep g w d v ∧ RepF g w fs r
def RepK (g : Gam) (w : Wd) : List (Key × D) → List (Key × V) → Prop
  | [], gs => gs = []
  | (f, d) :: fs, gs => ∃ v r, gs = (f, v) :: r ∧ Rep g w d v ∧ RepK g w fs r
end
structure Wd.le (w w' : Wd) : Prop where
  pre : ∃ t, w'.rho = w.rho ++ t
  ex : Same w.G w'.G
theorem Wd.le.refl (w : Wd) : w.le w := ⟨⟨[], by simp⟩, Same.refl _⟩
theorem Wd.le.trans {a b c : Wd} (x : a.le b) (y : b.le c) : a.le c := by
  obtain ⟨t, e⟩ := x.pre
  obtain ⟨u, e'⟩ := y.pre
  exact ⟨⟨t ++ u, by rw [e', e, List.append_assoc]⟩, x.ex.trans y.ex⟩
theorem Wd.le.get {a b : Wd} (x : a.le b) {n : Nat} {p : Addr} (h : a.rho[n]? = some p) : b.rho[n]? = some p := by
  obtain ⟨t, e⟩ := x.pre
  rw [e, List.getElem?_append_left (List.getElem?_eq_some_iff.mp h).1]
  exact h
theorem same_rd {H H' : Hp} {a : Addr} {u : HO} (e : Same H H') (h : Rd H a u) : Rd H' a u := by
  rcases h with h | ⟨o, h⟩
  · exact .inl (e _ _ h)
  · exact .inr ⟨o, e _ _ h⟩
theorem same_sqT {K : PySem.W.Frag} {H H' : Hp} {a : Addr} {xs : List V} (e : Same H H') (h : SqT K H a xs) : SqT K H' a xs := by
  rcases h with (h | ⟨o, h⟩) | h
  · exact .inl (.inl (e _ _ h))
  · exact .inl (.inr ⟨o, e _ _ h⟩)
  · exact .inr h
mutual
theorem Rep.mono {g : Gam} {w w' : Wd} (l : w.le w') : ∀ {d : D} {v : V}, Rep g w d v → Rep g w' d v
  | .non, _, h => h
  | .bl _, _, h => h
  | .int _, _, h => h
  | .str _, _, h => h
  | .lst ds, v, h => by
    unfold Rep at h ⊢
    obtain ⟨a, vs, e, q, r⟩ := h
    exact ⟨a, vs, e, l.ex _ _ q, RepL.mono l r⟩
  | .tup ds, v, h => by
    unfold Rep at h ⊢
    obtain ⟨a, vs, e, q, r⟩ := h
    exact ⟨a, vs, e, same_sqT l.ex q, RepL.mono l r⟩
  | .ins c fs, v, h => by
    unfold Rep at h ⊢
    obtain ⟨a, dx, gs, e, q, r⟩ := h
    exact ⟨a, dx, gs, e, l.ex _ _ q, RepF.mono l r⟩
  | .ref n, v, h => by
    unfold Rep at h ⊢
    obtain ⟨a, e, q⟩ := h
    exact ⟨a, l.get e, q⟩
  | .scr ns, v, h => by
    unfold Rep at h ⊢
    obtain ⟨a, e, q⟩ := h
    exact ⟨a, e, l.ex.seq q⟩
  | .ty _, _, h => h
  | .cls _, _, h => h
  | .adr _, _, h => h
  | .set xs, v, h => by
    unfold Rep at h ⊢
    obtain ⟨a, q, e, r, s⟩ := h
    exact ⟨a, q, e, l.ex _ _ r, s⟩
  | .dic ds, v, h => by
    unfold Rep at h ⊢
    obtain ⟨a, vs, e, q, r⟩ := h
    exact ⟨a, vs, e, same_rd l.ex q, RepK.mono l r⟩
  | .tdc ks, v, h => by
    unfold Rep at h ⊢
    obtain ⟨a, e, q⟩ := h
    exact ⟨a, e, l.ex _ _ q⟩
theorem RepL.mono {g : Gam} {w w' : Wd} (l : w.le w') : ∀ {ds : List D} {vs : List V}, RepL g w ds vs → RepL g w' ds vs
  | [], _, h => h
  | d :: ds, vs, h => by
    unfold RepL at h ⊢
    obtain ⟨v, r, e, a, b⟩ := h
    exact ⟨v, r, e, Rep.mono l a, RepL.mono l b⟩
theorem RepF.mono {g : Gam} {w w' : Wd} (l : w.le w') : ∀ {ds : List (Str × D)} {vs : List (Str × V)}, RepF g w ds vs → RepF g w' ds vs
  | [], _, h => h
  | (f, d) :: ds, vs, h => by
    unfold RepF at h ⊢
    obtain ⟨v, r, e, a, b⟩ := h
    exact ⟨v, r, e, Rep.mono l a, RepF.mono l b⟩
theorem RepK.mono {g : Gam} {w w' : Wd} (l : w.le w') : ∀ {ds : List (Key × D)} {vs : List (Key × V)}, RepK g w ds vs → RepK g w' ds vs
  | [], _, h => h
  | (f, d) :: ds, vs, h => by
    unfold RepK at h ⊢
    obtain ⟨v, r, e, a, b⟩ := h
    exact ⟨v, r, e, Rep.mono l a, RepK.mono l b⟩
end
theorem RepL.nil_ {g : Gam} {w : Wd} : RepL g w [] [] := by unfold RepL; rfl
theorem RepL.cons_ {g : Gam} {w : Wd} {d : D} {ds : List D} {v : V} {vs : List V} (a : Rep g w d v) (b : RepL g w ds vs) : RepL g w (d :: ds) (v :: vs) := by
  unfold RepL
  exact ⟨v, vs, rfl, a, b⟩
theorem RepL.len {g : Gam} {w : Wd} : ∀ {ds : List D} {vs : List V}, RepL g w ds vs → ds.length = vs.length
  | [], vs, h => by
    unfold RepL at h
    rw [h]
    rfl
  | d :: ds, vs, h => by
    unfold RepL at h
    obtain ⟨v, r, e, a, b⟩ := h
    rw [e, List.length_cons, List.length_cons, RepL.len b]
theorem RepL.append_ {g : Gam} {w : Wd} : ∀ {ds es : List D} {vs us : List V}, RepL g w ds vs → RepL g w es us → RepL g w (ds ++ es) (vs ++ us)
  | [], es, vs, us, h, k => by
    unfold RepL at h
    rw [h]
    exact k
  | d :: ds, es, vs, us, h, k => by
    unfold RepL at h
    obtain ⟨v, r, e, a, b⟩ := h
    rw [e]
    exact RepL.cons_ a (RepL.append_ b k)
theorem RepL.at_ {g : Gam} {w : Wd} : ∀ {ds : List D} {vs : List V} {i : Nat} {d : D}, RepL g w ds vs → ds[i]? = some d → ∃ v, vs[i]? = some v ∧ Rep g w d v
  | [], _, _, _, _, e => by simp at e
  | d :: ds, vs, 0, d', h, e => by
    unfold RepL at h
    obtain ⟨v, r, e1, a, b⟩ := h
    have e2 : d = d' := by simpa using e
    rw [e1, ← e2]
    exact ⟨v, rfl, a⟩
  | d :: ds, vs, i + 1, d', h, e => by
    unfold RepL at h
    obtain ⟨v, r, e1, a, b⟩ := h
    rw [e1]
    exact RepL.at_ (i := i) b (by simpa using e)
theorem RepL.drop_ {g : Gam} {w : Wd} : ∀ {ds : List D} {vs : List V} (n : Nat), RepL g w ds vs → RepL g w (ds.drop n) (vs.drop n)
  | _, _, 0, h => h
  | [], vs, n + 1, h => by
    unfold RepL at h
    rw [h]
    exact RepL.nil_
  | d :: ds, vs, n + 1, h => by
    unfold RepL at h
    obtain ⟨v, r, e, a, b⟩ := h
    rw [e]
    exact RepL.drop_ n b
theorem RepL.take_ {g : Gam} {w : Wd} : ∀ {ds : List D} {vs : List V} (n : Nat), RepL g w ds vs → RepL g w (ds.take n) (vs.take n)
  | _, _, 0, h => RepL.nil_
  | [], vs, n + 1, h => by
    unfold RepL at h
    rw [h]
    exact RepL.nil_
  | d :: ds, vs, n + 1, h => by
    unfold RepL at h
    obtain ⟨v, r, e, a, b⟩ := h
    rw [e]
    exact RepL.cons_ a (RepL.take_ n b)
theorem RepL.set_ {g : Gam} {w : Wd} {d : D} {v : V} (q : Rep g w d v) : ∀ {ds : List D} {vs : List V} (n : Nat), RepL g w ds vs → RepL g w (ds.set n d) (vs.set n v)
  | [], vs, n, h => by
    unfold RepL at h
    rw [h]
    exact RepL.nil_
  | e :: ds, vs, 0, h => by
    unfold RepL at h
    obtain ⟨u, r, e1, a, b⟩ := h
    rw [e1]
    exact RepL.cons_ q b
  | e :: ds, vs, n + 1, h => by
    unfold RepL at h
    obtain ⟨u, r, e1, a, b⟩ := h
    rw [e1]
    exact RepL.cons_ a (RepL.set_ q n b)
/-- ints, bools -/
theorem RepL.ints {g : Gam} {w : Wd} : ∀ (ns : List Int), RepL g w (ns.map D.int) (ns.map V.int)
  | [] => RepL.nil_
  | n :: ns => RepL.cons_ (by unfold Rep; rfl) (RepL.ints ns)
/-! ### cells, slots, frames -/
def CellR (g : Gam) (w : Wd) (H : Hp) (a : Addr) : Cell → Prop
  | .lst ds => ∃ vs, H a = some (.lst vs) ∧ RepL g w ds vs
  | .ins c fs => ∃ dx gs, H a = some (.ins (g.ca c) dx gs) ∧ RepF g w fs gs
  | .dic ks => ∃ gs, H a = some (.dK gs) ∧ RepK g w ks gs
  | .tdc ks => H a = some (.dT (tdV ks))
  | .lck ks => ∃ o gs, H a = some (.frz o (.dK gs)) ∧ RepK g w ks gs
theorem CellR.some_ {g : Gam} {w : Wd} {H : Hp} {a : Addr} {c : Cell} (h : CellR g w H a c) : ∃ o, H a = some o ∧ ∀ ps, o ≠ .tbl ps := by
  cases c with
  | lst ds =>
    obtain ⟨vs, e, _⟩ := h
    exact ⟨_, e, fun ps z => by cases z⟩
  | ins c fs =>
    obtain ⟨dx, gs, e, _⟩ := h
    exact ⟨_, e, fun ps z => by cases z⟩
  | dic ks =>
    obtain ⟨gs, e, _⟩ := h
    exact ⟨_, e, fun ps z => by cases z⟩
  | tdc ks => exact ⟨_, h, fun ps z => by cases z⟩
  | lck ks =>
    obtain ⟨o, gs, e, _⟩ := h
    exact ⟨_, e, fun ps z => by cases z⟩
/-- not locked -/
def Cell.fr : Cell → Prop
  | .lck _ => False
  | _ => True
theorem CellR.nofrz {g : Gam} {w : Wd} {H : Hp} {a : Addr} {c : Cell} (h : CellR g w H a c) (hc : c.fr) (o : Obj) (u : HO) : H a ≠ some (.frz o u) := fun z => by
  cases c with
  | lst ds =>
    obtain ⟨vs, e, _⟩ := h
    rw [e] at z
    cases z
  | ins c fs =>
    obtain ⟨dx, gs, e, _⟩ := h
    rw [e] at z
    cases z
  | dic ks =>
    obtain ⟨gs, e, _⟩ := h
    rw [e] at z
    cases z
  | tdc ks =>
    have h : H a = some (.dT (tdV ks)) := h
    rw [h] at z
    cases z
  | lck ks => exact hc
theorem CellR.noext {g : Gam} {w : Wd} {H : Hp} {a : Addr} {c : Cell} (h : CellR g w H a c) (φ : Heap → Prop) : H a ≠ some (.ext φ) := fun z => by
  cases c with
  | lst ds =>
    obtain ⟨vs, e, _⟩ := h
    rw [e] at z
    cases z
  | ins c fs =>
    obtain ⟨dx, gs, e, _⟩ := h
    rw [e] at z
    cases z
  | dic ks =>
    obtain ⟨gs, e, _⟩ := h
    rw [e] at z
    cases z
  | tdc ks =>
    have h : H a = some (.dT (tdV ks)) := h
    rw [h] at z
    cases z
  | lck ks =>
    obtain ⟨o, gs, e, _⟩ := h
    rw [e] at z
    cases z
theorem tabs_upd {T : List (Addr × Str)} {H : Hp} {p : Addr} {o : HO} (t : LamX.Tabs T H) (h1 : ∀ ps, H p ≠ some (.tbl ps)) (h2 : ∀ φ, H p ≠ some (.ext φ)) : LamX.Tabs T (upd H p o) := fun x hx => by
  obtain ⟨ps, a, b, c⟩ := t x hx
  refine ⟨ps, by rw [upd_ne (fun z => h1 ps (by rw [← z]; exact a))]; exact a, b, fun pos cv e => ?_⟩
  obtain ⟨c0, e1, e2⟩ := c pos cv e
  exact ⟨c0, e1, by rw [upd_ne (fun z => h2 _ (by rw [← z]; exact e2))]; exact e2⟩
theorem CellR.move {g : Gam} {w w' : Wd} {H H' : Hp} {a : Addr} {c : Cell} (h : CellR g w H a c) (l : w.le w') (e : H' a = H a) : CellR g w' H' a c := by
  cases c with
  | lst ds =>
    obtain ⟨vs, e1, r⟩ := h
    exact ⟨vs, e.trans e1, r.mono l⟩
  | ins c fs =>
    obtain ⟨dx, gs, e1, r⟩ := h
    exact ⟨dx, gs, e.trans e1, r.mono l⟩
  | dic ks =>
    obtain ⟨gs, e1, r⟩ := h
    exact ⟨gs, e.trans e1, r.mono l⟩
  | tdc ks => exact e.trans h
  | lck ks =>
    obtain ⟨o, gs, e1, r⟩ := h
    exact ⟨o, gs, e.trans e1, r.mono l⟩
structure CellsR (g : Gam) (w : Wd) (H : Hp) (S : Sto) : Prop where
  nd : ∀ (i j : Nat) (a : Addr), w.rho[i]? = some a → w.rho[j]? = some a → i = j
  len : w.rho.length = S.length
  at_ : ∀ (n : Nat) (a : Addr) (c : Cell), w.rho[n]? = some a → S[n]? = some c → w.G a = none ∧ CellR g w H a c
theorem CellsR.in_ {g : Gam} {w : Wd} {H : Hp} {S : Sto} (h : CellsR g w H S) {a : Addr} (m : a ∈ w.rho) : w.G a = none ∧ ∃ o, H a = some o := by
  obtain ⟨n, hn⟩ := List.getElem?_of_mem m
  have l : n < S.length := by
    rw [← h.len]
    exact (List.getElem?_eq_some_iff.mp hn).1
  obtain ⟨h1, h2⟩ := h.at_ n a S[n] hn (List.getElem?_eq_getElem l)
  obtain ⟨o, e, _⟩ := h2.some_
  exact ⟨h1, o, e⟩
/-- the heap and what is known of it -/
structure Ok (g : Gam) (w : Wd) (H : Hp) (S : Sto) : Prop where
  ex : Same w.G H
  cells : CellsR g w H S
  tabs : LamX.Tabs g.T H
  notab : ∀ a ps, w.G a ≠ some (.tbl ps)
/-- what has come to pass since w0, H0 -/
structure Frame (w0 : Wd) (H0 : Hp) (w : Wd) (H : Hp) : Prop where
  le : w0.le w
  keep : ∀ a o, H0 a = some o → a ∉ w0.rho → (∀ ps, o ≠ .tbl ps) → H a = some o
  newG : ∀ a, H0 a ≠ none → w.G a = w0.G a
  rho : ∀ a ∈ w.rho, a ∈ w0.rho ∨ H0 a = none
  dom : ∀ a, H0 a ≠ none → H a ≠ none
  tb : ∀ a ps, H0 a = some (.tbl ps) → ∃ qs, H a = some (.tbl qs)
  fz : ∀ a o u, H0 a = some (.frz o u) → H a = some (.frz o u)
theorem Frame.refl (w : Wd) (H : Hp) : Frame w H w H := ⟨.refl w, fun _ _ h _ _ => h, fun _ _ => rfl, fun _ h => .inl h, fun _ h => h, fun _ ps h => ⟨ps, h⟩, fun _ _ _ h => h⟩
theorem Frame.trans {w0 w1 w2 : Wd} {H0 H1 H2 : Hp} (a : Frame w0 H0 w1 H1) (b : Frame w1 H1 w2 H2) : Frame w0 H0 w2 H2 where
  le := a.le.trans b.le
  keep := fun p o h n t => b.keep p o (a.keep p o h n t) (fun z => by
    rcases a.rho p z with z | z
    · exact n z
    · rw [z] at h
      cases h) t
  newG := fun p h => (b.newG p (a.dom p h)).trans (a.newG p h)
  rho := fun p h => by
    rcases b.rho p h with z | z
    · exact a.rho p z
    · refine .inr ?_
      cases e : H0 p with
      | none => rfl
      | some o => exact absurd z (a.dom p (by rw [e]; exact fun q => nomatch q))
  dom := fun p h => b.dom p (a.dom p h)
  tb := fun p ps h => let ⟨qs, e⟩ := a.tb p ps h; b.tb p qs e
  fz := fun p o u h => b.fz p o u (a.fz p o u h)
def SlotR (g : Gam) (w : Wd) (H : Hp) : Sl → Option V → Option Addr → Prop
  | .no, _, o => o = none
  | .v d, x, o => o = none ∧ ∃ v, x = some v ∧ Rep g w d v
  | .o c, x, o => ∃ p, o = some p ∧ x = some (.ref p) ∧ w.G p = none ∧ CellR g w H p c
structure StR (g : Gam) (w0 : Wd) (H0 : Hp) (w : Wd) (H : Hp) (σ : L2.St) (env : Envr) (S : Sto) (O : List (Option Addr)) : Prop where
  ok : Ok g w H S
  fr : Frame w0 H0 w H
  l1 : env.length = σ.length
  l2 : O.length = σ.length
  sl : ∀ (i : Nat) (s : Sl) (x : Option V) (o : Option Addr), env[i]? = some s → σ[i]? = some x → O[i]? = some o → SlotR g w H s x o
  inj : ∀ (i j : Nat) (p : Addr), O[i]? = some (some p) → O[j]? = some (some p) → i = j
  fresh : ∀ (i : Nat) (p : Addr), O[i]? = some (some p) → H0 p = none ∧ p ∉ w.rho ∧ ∃ c, env[i]? = some (.o c)
section
variable {g : Gam} {w0 w w' : Wd} {H0 H H' : Hp} {σ : L2.St} {env : Envr} {S S' : Sto} {O : List (Option Addr)}
/-- behind a call -/
theorem StR.after (h : StR g w0 H0 w H σ env S O) (f : Frame w H w' H') (k : Ok g w' H' S') : StR g w0 H0 w' H' σ env S' O := by
  have own : ∀ (i : Nat) (p : Addr), O[i]? = some (some p) → ∃ o, H p = some o ∧ (∀ ps, o ≠ .tbl ps) := fun i p e => by
    obtain ⟨_, _, c, hc⟩ := h.fresh i p e
    have hi : i < σ.length := by
      rw [← h.l2]
      exact (List.getElem?_eq_some_iff.mp e).1
    have q := h.sl i (.o c) σ[i] (some p) hc (List.getElem?_eq_getElem hi) e
    obtain ⟨p', e1, e2, e3, e4⟩ := q
    cases e1
    exact e4.some_
  refine ⟨k, h.fr.trans f, h.l1, h.l2, fun i s x o e1 e2 e3 => ?_, h.inj, fun i p e => ?_⟩
  · have q := h.sl i s x o e1 e2 e3
    cases s with
    | no => exact q
    | v d =>
      obtain ⟨q1, v, q2, q3⟩ := q
      exact ⟨q1, v, q2, q3.mono f.le⟩
    | o c =>
      obtain ⟨p, q1, q2, q3, q4⟩ := q
      obtain ⟨ob, z1, z2⟩ := q4.some_
      rw [q1] at e3
      refine ⟨p, q1, q2, (f.newG p (by rw [z1]; exact fun q => nomatch q)).trans q3, q4.move f.le ?_⟩
      rw [f.keep p ob z1 (h.fresh i p e3).2.1 z2, z1]
  · obtain ⟨z1, z2, z3⟩ := h.fresh i p e
    refine ⟨z1, fun m => ?_, z3⟩
    obtain ⟨ob, z4, _⟩ := own i p e
    rcases f.rho p m with z | z
    · exact z2 z
    · rw [z4] at z
      cases z
end
/-- new objects that never change -/
inductive Grow (w : Wd) (H : Hp) : Wd → Hp → Prop
  | refl : Grow w H w H
  | new {w1 : Wd} {H1 : Hp} {p : Addr} {o : HO} : Grow w H w1 H1 → H1 p = none → (∀ ps, o ≠ .tbl ps) → Grow w H ⟨w1.rho, upd w1.G p o⟩ (upd H1 p o)
theorem Grow.one {w : Wd} {H : Hp} {p : Addr} {o : HO} (h : H p = none) (n : ∀ ps, o ≠ .tbl ps) : Grow w H ⟨w.rho, upd w.G p o⟩ (upd H p o) := .new .refl h n
theorem same_upd {H : Hp} {p : Addr} {o : HO} (h : H p = none) : Same H (upd H p o) := fun b x e => by
  rw [upd_ne (ne_of_none e h)]
  exact e
theorem same_upd2 {G H : Hp} {p : Addr} {o : HO} (h : Same G H) : Same (upd G p o) (upd H p o) := fun b x e => by
  by_cases hb : b = p
  · rw [hb, upd_same] at e ⊢
    exact e
  · rw [upd_ne hb] at e ⊢
    exact h b x e
theorem none_of_same {G H : Hp} {p : Addr} (h : Same G H) (e : H p = none) : G p = none := h.free e
theorem ok_new {g : Gam} {w : Wd} {H : Hp} {S : Sto} {p : Addr} {o : HO} (k : Ok g w H S) (h : H p = none) (n : ∀ ps, o ≠ .tbl ps) : Ok g ⟨w.rho, upd w.G p o⟩ (upd H p o) S ∧ Frame w H ⟨w.rho, upd w.G p o⟩ (upd H p o) := by
  have hG : w.G p = none := none_of_same k.ex h
  have le : w.le ⟨w.rho, upd w.G p o⟩ := ⟨⟨[], by simp⟩, same_upd hG⟩
  refine ⟨⟨same_upd2 k.ex, ⟨k.cells.nd, k.cells.len, fun m a c e1 e2 => ?_⟩, k.tabs.ext (same_upd h), fun a ps e => ?_⟩, ⟨le, fun a x e _ _ => same_upd h a x e, fun a e => ?_, fun a m => .inl m, fun a e => ?_, fun a ps e => ⟨ps, same_upd h a _ e⟩, fun a x u e => same_upd h a _ e⟩⟩
  · obtain ⟨q1, q2⟩ := k.cells.at_ m a c e1 e2
    obtain ⟨x, q3, _⟩ := q2.some_
    have ne : a ≠ p := ne_of_none q3 h
    exact ⟨(upd_ne ne).trans q1, q2.move le (upd_ne ne)⟩
  · by_cases ha : a = p
    · rw [ha] at e
      have e2 : upd w.G p o p = some (.tbl ps) := e
      rw [upd_same] at e2
      exact n ps (Option.some.inj e2)
    · have e2 : upd w.G p o a = some (.tbl ps) := e
      rw [upd_ne ha] at e2
      exact k.notab a ps e2
  · have ne : a ≠ p := fun z => e (by rw [z]; exact h)
    exact upd_ne ne
  · have ne : a ≠ p := fun z => e (by rw [z]; exact h)
    rw [upd_ne ne]
    exact e
theorem Grow.ok {g : Gam} {w w' : Wd} {H H' : Hp} {S : Sto} (q : Grow w H w' H') (k : Ok g w H S) : Ok g w' H' S ∧ Frame w H w' H' := by
  induction q with
  | refl => exact ⟨k, Frame.refl w H⟩
  | new q hp hn ih =>
    obtain ⟨k1, f1⟩ := ih
    obtain ⟨k2, f2⟩ := ok_new k1 hp hn
    exact ⟨k2, f1.trans f2⟩
theorem StR.grow {g : Gam} {w0 w w' : Wd} {H0 H H' : Hp} {σ : L2.St} {env : Envr} {S : Sto} {O : List (Option Addr)} (h : StR g w0 H0 w H σ env S O) (q : Grow w H w' H') : StR g w0 H0 w' H' σ env S O :=
  let ⟨k, f⟩ := q.ok h.ok
  h.after f k
theorem Grow.le {g : Gam} {w w' : Wd} {H H' : Hp} {S : Sto} (q : Grow w H w' H') (k : Ok g w H S) : w.le w' := (q.ok k).2.le
/-- the field of a refusal -/
def fldOf (c : Str) : Str := if c = "BadText" then "at" else "name"
/-- what is raised -/
def ExcR (g : Gam) (w : Wd) (H : Hp) (c : Str) (p : Option D) (cls : Value) (dd : Option Addr) : Prop :=
  cls = .ref (g.ca c) ∧ match p with
    | none => dd = none
    | some d => ∃ a v, dd = some a ∧ H a = some (.xd [(fldOf c, v)]) ∧ Rep g w d v
end Mm
namespace Mm
open PySem L2
/-! ### results in a row -/
def R.bind {α β : Type} (r : R α) (f : α → Sto → R β) : R β := match r with
  | .stuck => .stuck
  | .exc c p s => .exc c p s
  | .ok a s => f a s
def opt {α : Type} (o : Option α) (s : Sto) : R α := match o with
  | none => .stuck
  | some a => .ok a s
/-- an exception is not looked for -/
def R.calm {α : Type} : R α → R α
  | .exc _ _ _ => .stuck
  | r => r
def PostX (g : Gam) (W : WX) (w0 : Wd) (H0 : Hp) (w : Wd) (σ : L2.St) (env : Envr) (O : List (Option Addr)) {α : Type} (r : R α) (k : α → Sto → Wd → Hp → Prop) : Prop := match r with
  | .stuck => False
  | .ok a S => ∀ w' H', StR g w0 H0 w' H' σ env S O → w.le w' → k a S w' H'
  | .exc c p S => ∀ w' H' cls dd, StR g w0 H0 w' H' σ env S O → w.le w' → ExcR g w' H' c p cls dd → W cls dd σ H'
section
variable {g : Gam} {W : WX} {w0 w w1 : Wd} {H0 H H1 : Hp} {σ : L2.St} {env : Envr} {S S1 : Sto} {O : List (Option Addr)} {α β : Type}
theorem PostX.mono {r : R α} {k : α → Sto → Wd → Hp → Prop} (h : PostX g W w0 H0 w σ env O r k) (l : w.le w1) : PostX g W w0 H0 w1 σ env O r k := by
  cases r with
  | stuck => exact h
  | ok a S => exact fun w' H' st l' => h w' H' st (l.trans l')
  | exc c p S => exact fun w' H' cls dd st l' => h w' H' cls dd st (l.trans l')
theorem PostX.imp {r : R α} {k k' : α → Sto → Wd → Hp → Prop} (h : PostX g W w0 H0 w σ env O r k) (f : ∀ a S w' H', StR g w0 H0 w' H' σ env S O → w.le w' → k a S w' H' → k' a S w' H') : PostX g W w0 H0 w σ env O r k' := by
  cases r with
  | stuck => exact h
  | ok a S => exact fun w' H' st l' => f a S w' H' st l' (h w' H' st l')
  | exc c p S => exact h
theorem PostX.bind {r : R α} {f : α → Sto → R β} {k : β → Sto → Wd → Hp → Prop} (h : PostX g W w0 H0 w σ env O (r.bind f) k) :
    PostX g W w0 H0 w σ env O r (fun a S w' _ => PostX g W w0 H0 w' σ env O (f a S) k) := by
  cases r with
  | stuck => exact h
  | ok a S => exact fun w' H' _ l' => PostX.mono (show PostX g W w0 H0 w σ env O (f a S) k from h) l'
  | exc c p S => exact h
theorem PostX.opt_ {o : Option α} {k : α → Sto → Wd → Hp → Prop} (h : PostX g W w0 H0 w σ env O (opt o S) k) (st : StR g w0 H0 w H σ env S O) : ∃ a, o = some a ∧ ∀ w' H', StR g w0 H0 w' H' σ env S O → w.le w' → k a S w' H' := by
  cases o with
  | none => exact False.elim h
  | some a => exact ⟨a, rfl, h⟩
end
/-! ### the machine's kinds, and what it is for a reading to follow them -/
abbrev ME := Envr → Sto → R D
abbrev MF := Envr → Sto → R Cell
abbrev MT := Envr → Sto → R Bool
abbrev MA := Envr → Sto → R (List D)
/-- a thing of one's own that stands in no slot -/
structure OwnAt (g : Gam) (w : Wd) (H0 H : Hp) (O : List (Option Addr)) (c : Cell) (p : Addr) : Prop where
  n0 : H0 p = none
  ng : w.G p = none
  nr : p ∉ w.rho
  no : ∀ i : Nat, O[i]? ≠ some (some p)
  at_ : CellR g w H p c
def SimE (g : Gam) (W : WX) (t : TE) (m : ME) : Prop := ∀ w0 H0 w H σ env S O (Q : VK), StR g w0 H0 w H σ env S O →
  PostX g W w0 H0 w σ env O (m env S) (fun d _ w' H' => ∀ v, Rep g w' d v → Q v H') → t σ H Q
def SimF (g : Gam) (W : WX) (t : TE) (m : MF) : Prop := ∀ w0 H0 w H σ env S O (Q : VK), StR g w0 H0 w H σ env S O →
  PostX g W w0 H0 w σ env O (m env S) (fun c _ w' H' => ∀ p, OwnAt g w' H0 H' O c p → Q (.ref p) H') → t σ H Q
def SimT (g : Gam) (W : WX) (t : TT) (m : MT) : Prop := ∀ w0 H0 w H σ env S O (Q : Bool → Hp → Prop), StR g w0 H0 w H σ env S O →
  PostX g W w0 H0 w σ env O (m env S) (fun b _ w' H' => Q b H') → t σ H Q
def SimA (g : Gam) (W : WX) (t : TA) (m : MA) : Prop := ∀ w0 H0 w H σ env S O (Q : List V → Hp → Prop), StR g w0 H0 w H σ env S O →
  PostX g W w0 H0 w σ env O (m env S) (fun ds _ w' H' => ∀ vs, RepL g w' ds vs → Q vs H') → t σ H Q
structure SE (X : Cx) (Y : Gam) (W : WX) (e : Expr) (t : TE) (m : ME) : Prop where
  pe : PE X e t
  sim : SimE Y W t m
structure SF (X : Cx) (Y : Gam) (W : WX) (e : Expr) (t : TE) (m : MF) : Prop where
  pe : PE X e t
  sim : SimF Y W t m
structure SC (X : Cx) (Y : Gam) (W : WX) (e : Expr) (t : TT) (m : MT) : Prop where
  pt : PT X e t
  sim : SimT Y W t m
structure SA (X : Cx) (Y : Gam) (W : WX) (es : List Expr) (t : TA) (m : MA) : Prop where
  pa : PA X es t
  sim : SimA Y W t m
  len : ∀ env S ds S1, m env S = .ok ds S1 → ds.length = es.length
/-! ### an own thing is laid, is frozen -/
section
variable {g : Gam} {W : WX} {w0 w w1 : Wd} {H0 H H1 : Hp} {σ : L2.St} {env : Envr} {S S1 : Sto} {O : List (Option Addr)} {α β : Type}
theorem ok_lay {p : Addr} {o : HO} (k : Ok g w H S) (h : H p = none) (n : ∀ ps, o ≠ .tbl ps) : Ok g w (upd H p o) S ∧ Frame w H w (upd H p o) := by
  refine ⟨⟨k.ex.trans (same_upd h), ⟨k.cells.nd, k.cells.len, fun m a c e1 e2 => ?_⟩, k.tabs.ext (same_upd h), k.notab⟩, ⟨.refl w, fun a x e _ _ => same_upd h a x e, fun a _ => rfl, fun a m => .inl m, fun a e => ?_, fun a ps e => ⟨ps, same_upd h a _ e⟩, fun a x u e => same_upd h a _ e⟩⟩
  · obtain ⟨q1, q2⟩ := k.cells.at_ m a c e1 e2
    obtain ⟨x, q3, _⟩ := q2.some_
    exact ⟨q1, q2.move (.refl w) (upd_ne (ne_of_none q3 h))⟩
  · have ne : a ≠ p := fun z => e (by rw [z]; exact h)
    rw [upd_ne ne]
    exact e
theorem StR.lay {p : Addr} {o : HO} (st : StR g w0 H0 w H σ env S O) (h : H p = none) (n : ∀ ps, o ≠ .tbl ps) : StR g w0 H0 w (upd H p o) σ env S O :=
  let ⟨k, f⟩ := ok_lay st.ok h n
  st.after f k
theorem StR.out {p : Addr} (st : StR g w0 H0 w H σ env S O) (h : H p = none) : H0 p = none ∧ w.G p = none ∧ p ∉ w.rho ∧ ∀ i : Nat, O[i]? ≠ some (some p) := by
  refine ⟨?_, none_of_same st.ok.ex h, fun m => ?_, fun i e => ?_⟩
  · cases e : H0 p with
    | none => rfl
    | some o => exact absurd h (st.fr.dom p (by rw [e]; exact fun q => nomatch q))
  · obtain ⟨_, o, e⟩ := st.ok.cells.in_ m
    rw [h] at e
    cases e
  · obtain ⟨_, _, c, hc⟩ := st.fresh i p e
    have hi : i < σ.length := by
      rw [← st.l2]
      exact (List.getElem?_eq_some_iff.mp e).1
    obtain ⟨p', e1, _, _, e4⟩ := st.sl i (.o c) σ[i] (some p) hc (List.getElem?_eq_getElem hi) e
    cases e1
    obtain ⟨o, e5, _⟩ := e4.some_
    rw [h] at e5
    cases e5
theorem StR.own_new {p : Addr} {o : HO} {c : Cell} (st : StR g w0 H0 w H σ env S O) (h : H p = none) (hc : CellR g w (upd H p o) p c) : OwnAt g w H0 (upd H p o) O c p := by
  obtain ⟨h1, h2, h3, h4⟩ := st.out h
  exact ⟨h1, h2, h3, h4, hc⟩
/-- an own thing becomes a value -/
theorem own_freeze {c : Cell} {p : Addr} (st : StR g w0 H0 w H σ env S O) (a : OwnAt g w H0 H O c p) : ∃ w', StR g w0 H0 w' H σ env S O ∧ w.le w' ∧ Rep g w' c.d (.ref p) := by
  obtain ⟨o, ho, nt⟩ := a.at_.some_
  have le : w.le ⟨w.rho, upd w.G p o⟩ := ⟨⟨[], by simp⟩, same_upd a.ng⟩
  refine ⟨⟨w.rho, upd w.G p o⟩, ⟨⟨fun b x e => ?_, ⟨st.ok.cells.nd, st.ok.cells.len, fun m b c e1 e2 => ?_⟩, st.ok.tabs, fun b ps e => ?_⟩, ⟨st.fr.le.trans le, st.fr.keep, fun b e => ?_, st.fr.rho, st.fr.dom, st.fr.tb, st.fr.fz⟩, st.l1, st.l2, fun i s x q e1 e2 e3 => ?_, st.inj, st.fresh⟩, le, ?_⟩
  · by_cases hb : b = p
    · have e2 : upd w.G p o b = some x := e
      rw [hb, upd_same] at e2
      rw [hb, ho, e2]
    · have e2 : upd w.G p o b = some x := e
      rw [upd_ne hb] at e2
      exact st.ok.ex b x e2
  · obtain ⟨q1, q2⟩ := st.ok.cells.at_ m b c e1 e2
    have ne : b ≠ p := fun z => a.nr (by rw [← z]; exact List.mem_of_getElem? e1)
    exact ⟨(upd_ne ne).trans q1, q2.move le rfl⟩
  · by_cases hb : b = p
    · have e2 : upd w.G p o b = some (.tbl ps) := e
      rw [hb, upd_same] at e2
      exact nt ps (Option.some.inj e2)
    · have e2 : upd w.G p o b = some (.tbl ps) := e
      rw [upd_ne hb] at e2
      exact st.ok.notab b ps e2
  · have ne : b ≠ p := fun z => e (by rw [z]; exact a.n0)
    exact (upd_ne ne).trans (st.fr.newG b e)
  · have q' := st.sl i s x q e1 e2 e3
    cases s with
    | no => exact q'
    | v d =>
      obtain ⟨z1, v, z2, z3⟩ := q'
      exact ⟨z1, v, z2, z3.mono le⟩
    | o c' =>
      obtain ⟨p', z1, z2, z3, z4⟩ := q'
      have ne : p' ≠ p := fun z => a.no i (by rw [e3, z1, z])
      exact ⟨p', z1, z2, (upd_ne ne).trans z3, z4.move le rfl⟩
  · have c2 := a.at_.move le (rfl : H p = H p)
    cases c with
    | lst ds =>
      obtain ⟨vs, e1, e2⟩ := c2
      rw [ho] at e1
      unfold Cell.d Rep
      refine ⟨p, vs, rfl, ?_, e2⟩
      show upd w.G p o p = _
      rw [upd_same, e1]
    | ins c fs =>
      obtain ⟨dx, gs, e1, e2⟩ := c2
      rw [ho] at e1
      unfold Cell.d Rep
      refine ⟨p, dx, gs, rfl, ?_, e2⟩
      show upd w.G p o p = _
      rw [upd_same, e1]
    | dic ks =>
      obtain ⟨gs, e1, e2⟩ := c2
      rw [ho] at e1
      unfold Cell.d Rep
      refine ⟨p, gs, rfl, .inl ?_, e2⟩
      show upd w.G p o p = _
      rw [upd_same, e1]
    | lck ks =>
      obtain ⟨o', gs, e1, e2⟩ := c2
      rw [ho] at e1
      unfold Cell.d Rep
      refine ⟨p, gs, rfl, .inr ⟨o', ?_⟩, e2⟩
      show upd w.G p o p = _
      rw [upd_same, e1]
    | tdc ks =>
      have e1 : H p = some (.dT (tdV ks)) := c2
      rw [ho] at e1
      unfold Cell.d Rep
      refine ⟨p, rfl, ?_⟩
      show upd w.G p o p = _
      rw [upd_same, e1]
end
section
variable {X : Cx} {Y : Gam} {W : WX} {e a b : Expr} {es : List Expr} {ta tb te : TE} {tt tu : TT} {ma mb me : ME} {mt mu : MT} {t : TA} {m : MA} {pos : Pos}
def mFrz (mf : MF) : ME := fun env S => (mf env S).bind fun c S1 => .ok c.d S1
theorem SF.val {mf : MF} (h : SF X Y W e te mf) : SE X Y W e te (mFrz mf) := by
  refine ⟨h.pe, fun w0 H0 w H σ env S O Q st p => h.sim w0 H0 w H σ env S O Q st ((PostX.bind p).imp fun c S1 w1 H1 st1 l1 p1 q ow => ?_)⟩
  obtain ⟨w2, st2, l2, r⟩ := own_freeze st1 ow
  exact p1 w2 H1 st2 l2 _ r
/-! ### names, constants -/
def eV (i : Nat) : ME := fun env S => match env[i]? with
  | some (.v d) => .ok d S
  | _ => .stuck
theorem sim_var {g : Gam} {i : Nat} : SimE g W (tVar i) (eV i) := fun w0 H0 w H σ env S O Q st p => by
  unfold eV at p
  split at p
  · rename_i d e
    have hi : i < σ.length := by
      rw [← st.l1]
      exact (List.getElem?_eq_some_iff.mp e).1
    have hO : i < O.length := by
      rw [st.l2]
      exact hi
    obtain ⟨_, v, e1, r⟩ := st.sl i (.v d) σ[i] O[i] e (List.getElem?_eq_getElem hi) (List.getElem?_eq_getElem hO)
    exact ⟨v, by rw [List.getElem?_eq_getElem hi, e1], p w H st (.refl w) v r⟩
  · exact p.elim
theorem sv (i : Nat) {x : Str} (hN : X.N[i]? = some x := by rfl) (hv : Vis X.env.scope x := by first | exact Or.inl rfl | exact Or.inr (Or.inl rfl) | exact Or.inr (Or.inr rfl)) (hd : (x == ("__debug__" : Str)) = false := by decide)
    (hcd : (x == ("__classdict__" : Str)) = false := by decide) : SE X Y W (.Name x pos) (tVar i) (eV i) := ⟨pv i hN hv hd hcd, sim_var⟩
def eC (d : D) : ME := fun _ S => .ok d S
theorem sim_c {g : Gam} {v : V} {d : D} (h : ∀ w, Rep g w d v) : SimE g W (tC v) (eC d) := fun w0 H0 w H σ env S O Q st p => p w H st (.refl w) v (h w)
theorem s_int {i j} : SE X Y W (.Constant (.int i) j pos) (tC (.int i)) (eC (.int i)) := ⟨pe_int, sim_c fun _ => by unfold Rep; rfl⟩
theorem s_bl {i j} : SE X Y W (.Constant (.bool i) j pos) (tC (.bl i)) (eC (.bl i)) := ⟨pe_bl, sim_c fun _ => by unfold Rep; rfl⟩
theorem s_non {j} : SE X Y W (.Constant .none j pos) (tC .non) (eC .non) := ⟨pe_non, sim_c fun _ => by unfold Rep; rfl⟩
theorem s_str {i j} : SE X Y W (.Constant (.str i) j pos) (tC (.str i)) (eC (.str i)) := ⟨pe_str, sim_c fun _ => by unfold Rep; rfl⟩
/-- a module's number -/
theorem s_gint {x : Str} {i : Int} {u : Tok} (hm : X.mg x = some (.int i u)) (hg : Gl X x := by rfl) (hd : (x == ("__debug__" : Str)) = false := by decide) : SE X Y W (.Name x pos) (tC (.int i)) (eC (.int i)) :=
  ⟨pe_glob hg hm ⟨u, rfl⟩ hd, sim_c fun _ => by unfold Rep; rfl⟩
/-! ### two-place operations -/
def OpD (g : Gam) (r : R2) (f : Sto → D → D → Option D) : Prop := ∀ w H S d1 d2 v1 v2 d (Q : VK), Ok g w H S → Rep g w d1 v1 → Rep g w d2 v2 → f S d1 d2 = some d → (∀ w' H' v, Grow w H w' H' → Rep g w' d v → Q v H') → r v1 v2 H Q
def eOp (f : Sto → D → D → Option D) (ma mb : ME) : ME := fun env S => (ma env S).bind fun d1 S1 => (mb env S1).bind fun d2 S2 => opt (f S2 d1 d2) S2
theorem sim_op {g : Gam} {r : R2} {f : Sto → D → D → Option D} (ho : OpD g r f) (ha : SimE g W ta ma) (hb : SimE g W tb mb) : SimE g W (tOp r ta tb) (eOp f ma mb) := fun w0 H0 w H σ env S O Q st p =>
  ha w0 H0 w H σ env S O _ st ((PostX.bind p).imp fun d1 S1 w1 H1 st1 l1 p1 v1 r1 => hb w0 H0 w1 H1 σ env S1 O _ st1 ((PostX.bind p1).imp fun d2 S2 w2 H2 st2 l2 p2 v2 r2 => by
    obtain ⟨d, e, k⟩ := PostX.opt_ p2 st2
    exact ho w2 H2 S2 d1 d2 v1 v2 d Q st2.ok (r1.mono l2) r2 e fun w3 H3 v q r => k w3 H3 (st2.grow q) (q.le st2.ok) v r))
theorem s_op {op : Operator} {r : R2} {f : Sto → D → D → Option D} (hd : OpD Y r f) (ho : OpR X (binaryOp op) r) (ha : SE X Y W a ta ma) (hb : SE X Y W b tb mb) : SE X Y W (.BinOp a op b pos) (tOp r ta tb) (eOp f ma mb) := ⟨pe_op ho ha.pe hb.pe, sim_op hd ha.sim hb.sim⟩
theorem s_cmp {op : CmpOp} {r : R2} {f : Sto → D → D → Option D} (hd : OpD Y r f) (ho : OpR X (compareOp op) r) (ha : SE X Y W a ta ma) (hb : SE X Y W b tb mb) (hm : behindInMarks op b = false) : SE X Y W (.Compare a [op] [b] pos) (tOp r ta tb) (eOp f ma mb) := ⟨pe_cmpR ho ha.pe hb.pe hm, sim_op hd ha.sim hb.sim⟩
theorem s_ix {r : R2} {f : Sto → D → D → Option D} (hd : OpD Y r f) (ho : IxR X r) (ha : SE X Y W a ta ma) (hb : SE X Y W b tb mb) (hs : PlainIx b) : SE X Y W (.Subscript a b pos) (tOp r ta tb) (eOp f ma mb) := ⟨pe_ix ho ha.pe hb.pe hs, sim_op hd ha.sim hb.sim⟩
/-- either of two readings -/
theorem OpR.or {X : Cx} {f : Value → Value → Sem Value} {r r' : R2} (h : OpR X f r) (h' : OpR X f r') : OpR X f (fun x y H Q => r x y H Q ∨ r' x y H Q) := fun pins s σ H x y v u Q I r1 r2 q =>
  q.elim (h pins s σ H x y v u Q I r1 r2) (h' pins s σ H x y v u Q I r1 r2)
theorem OpD.or {g : Gam} {r r' : R2} {f f' : Sto → D → D → Option D} (h : OpD g r f) (h' : OpD g r' f') : OpD g (fun x y H Q => r x y H Q ∨ r' x y H Q) (fun S a b => (f S a b).or (f' S a b)) := fun w H S d1 d2 v1 v2 d Q k r1 r2 e q => by
  have e : (f S d1 d2).or (f' S d1 d2) = some d := e
  cases z : f S d1 d2 with
  | some d' =>
    rw [z] at e
    have e2 : d' = d := by simpa using e
    exact .inl (h w H S d1 d2 v1 v2 d Q k r1 r2 (by rw [z, e2]) q)
  | none =>
    rw [z] at e
    exact .inr (h' w H S d1 d2 v1 v2 d Q k r1 r2 (by simpa using e) q)
/-- ints -/
def fI (g : Int → Int → D) (c : Int → Int → Bool) : Sto → D → D → Option D
  | _, .int i, .int j => if c i j then some (g i j) else none
  | _, _, _ => none
theorem rep_int {g : Gam} {w : Wd} {i : Int} {v : V} (h : Rep g w (.int i) v) : v = .int i := by
  unfold Rep at h
  exact h
theorem rep_int' {g : Gam} {w : Wd} {i : Int} : Rep g w (.int i) (.int i) := by
  unfold Rep
  rfl
theorem rep_bl' {g : Gam} {w : Wd} {i : Bool} : Rep g w (.bl i) (.bl i) := by
  unfold Rep
  rfl
theorem od_I {g : Gam} {C : Int → Int → Prop} {h : Int → Int → V} {k : Int → Int → D} {c : Int → Int → Bool} (hc : ∀ i j, c i j = true → C i j) (hk : ∀ i j w, Rep g w (k i j) (h i j)) : OpD g (rI C h) (fI k c) := fun w H S d1 d2 v1 v2 d Q _ r1 r2 e q => by
  unfold fI at e
  split at e
  · rename_i i j
    split at e
    · rename_i z
      cases e
      exact ⟨i, j, rep_int r1, rep_int r2, hc i j z, q w H _ .refl (hk i j w)⟩
    · cases e
  · cases e
theorem od_I0 {g : Gam} {h : Int → Int → V} {k : Int → Int → D} (hk : ∀ i j w, Rep g w (k i j) (h i j)) : OpD g (rI0 h) (fI k fun _ _ => true) := fun w H S d1 d2 v1 v2 d Q _ r1 r2 e q => by
  unfold fI at e
  split at e
  · rename_i i j
    simp only [if_true] at e
    cases e
    exact ⟨i, j, rep_int r1, rep_int r2, q w H _ .refl (hk i j w)⟩
  · cases e
end
end Mm
namespace Mm
open PySem L2
section
variable {X : Cx} {Y : Gam} {W : WX} {e a b c : Expr} {es rest : List Expr} {ta tb te : TE} {tt tu : TT} {ma mb me : ME} {mt mu : MT} {t : TA} {m : MA} {pos : Pos}
/-! ### tests -/
def cB (me : ME) : MT := fun env S => (me env S).bind fun d S1 => match d with
  | .bl k => .ok k S1
  | _ => .stuck
theorem sim_test {g : Gam} (h : SimE g W te me) : SimT g W (tTest te) (cB me) := fun w0 H0 w H σ env S O Q st p =>
  h w0 H0 w H σ env S O _ st ((PostX.bind p).imp fun d S1 w1 H1 st1 l1 p1 v r => by
    cases d with
    | bl k =>
      unfold Rep at r
      exact ⟨k, r, p1 w1 H1 st1 (.refl w1)⟩
    | _ => exact False.elim p1)
theorem c_val {te : TE} (h : SE X Y W e te me) (he : ∀ whole, isTrue e X.env whole = (do let v ← whole; standAt e.pos; holding [v] (truthy v)) := by intro _; rfl) : SC X Y W e (tB te) (cB me) := ⟨pt_val h.pe he, sim_test h.sim⟩
theorem c_cmp {op : CmpOp} {r : R2} {f : Sto → D → D → Option D} (hd : OpD Y r f) (ho : OpR X (compareOp op) r) (ha : SE X Y W a ta ma) (hb : SE X Y W b tb mb) (hm : behindInMarks op b = false) : SC X Y W (.Compare a [op] [b] pos) (tTest (tOp r ta tb)) (cB (eOp f ma mb)) :=
  ⟨pt_cmpR ho ha.pe hb.pe hm, sim_test (sim_op hd ha.sim hb.sim)⟩
structure SW (X : Cx) (Y : Gam) (W : WX) (e : Expr) (t : TT) (m : MT) : Prop where
  pw : PW X e t
  sim : SimT Y W t m
theorem SW.sc (h : SW X Y W e tt mt) : SC X Y W e tt mt := ⟨h.pw.pt, h.sim⟩
def cAnd (a b : MT) : MT := fun env S => (a env S).bind fun k S1 => if k = true then b env S1 else .ok false S1
def cOr (a b : MT) : MT := fun env S => (a env S).bind fun k S1 => if k = true then .ok true S1 else b env S1
def cNot (a : MT) : MT := fun env S => (a env S).bind fun k S1 => .ok (!k) S1
theorem sim_or {g : Gam} (h1 : SimT g W tt mt) (h2 : SimT g W tu mu) : SimT g W (tOr tt tu) (cOr mt mu) := fun w0 H0 w H σ env S O Q st p =>
  h1 w0 H0 w H σ env S O _ st ((PostX.bind p).imp fun k S1 w1 H1 st1 l1 p1 => by
    cases k with
    | false =>
      simp only [Bool.false_eq_true, if_false] at p1 ⊢
      exact h2 w0 H0 w1 H1 σ env S1 O Q st1 p1
    | true =>
      simp only [if_true] at p1 ⊢
      exact p1 w1 H1 st1 (.refl w1))
theorem sim_not {g : Gam} (h1 : SimT g W tt mt) : SimT g W (tNot tt) (cNot mt) := fun w0 H0 w H σ env S O Q st p =>
  h1 w0 H0 w H σ env S O _ st ((PostX.bind p).imp fun k S1 w1 H1 st1 l1 p1 => p1 w1 H1 st1 (.refl w1))
theorem w_or1 (ha : SC X Y W a tt mt) : SW X Y W (.BoolOp .Or [a] pos) tt mt := ⟨pw_or1 ha.pt, ha.sim⟩
theorem w_or (ha : SC X Y W a tt mt) (hb : SW X Y W (.BoolOp .Or (b :: rest) pos) tu mu) : SW X Y W (.BoolOp .Or (a :: b :: rest) pos) (tOr tt tu) (cOr mt mu) := ⟨pw_or ha.pt hb.pw, sim_or ha.sim hb.sim⟩
theorem c_not (ha : SC X Y W a tt mt) : SC X Y W (.UnaryOp .Not a pos) (tNot tt) (cNot mt) := ⟨pt_not ha.pt, sim_not ha.sim⟩
/-! ### as values -/
def eAnd (a b : ME) : ME := fun env S => (a env S).bind fun d S1 => match d with
  | .bl true => b env S1
  | .bl false => .ok (.bl false) S1
  | _ => .stuck
def eOr (a b : ME) : ME := fun env S => (a env S).bind fun d S1 => match d with
  | .bl true => .ok (.bl true) S1
  | .bl false => b env S1
  | _ => .stuck
def eNot (a : ME) : ME := fun env S => (a env S).bind fun d S1 => match d with
  | .bl k => .ok (.bl (!k)) S1
  | _ => .stuck
theorem sim_andV {g : Gam} (h1 : SimE g W ta ma) (h2 : SimE g W tb mb) : SimE g W (tAndV ta tb) (eAnd ma mb) := fun w0 H0 w H σ env S O Q st p =>
  h1 w0 H0 w H σ env S O _ st ((PostX.bind p).imp fun d S1 w1 H1 st1 l1 p1 v r => by
    cases d with
    | bl k =>
      unfold Rep at r
      refine ⟨k, r, ?_⟩
      cases k with
      | true =>
        simp only [if_true]
        exact h2 w0 H0 w1 H1 σ env S1 O Q st1 p1
      | false =>
        simp only [Bool.false_eq_true, if_false]
        exact p1 w1 H1 st1 (.refl w1) _ rep_bl'
    | _ => exact False.elim p1)
theorem s_one {op} (h : SE X Y W a te me) : SE X Y W (.BoolOp op [a] pos) te me := ⟨pe_one h.pe, h.sim⟩
theorem s_and (ha : SE X Y W a ta ma) (hb : SE X Y W (.BoolOp .And (b :: rest) pos) tb mb) : SE X Y W (.BoolOp .And (a :: b :: rest) pos) (tAndV ta tb) (eAnd ma mb) := ⟨pe_and ha.pe hb.pe, sim_andV ha.sim hb.sim⟩
def eIf (t : MT) (a b : ME) : ME := fun env S => (t env S).bind fun k S1 => if k = true then a env S1 else b env S1
/-! ### one-place operations -/
def UnD (g : Gam) (r : V → Hp → VK → Prop) (f : Sto → D → Option D) : Prop := ∀ w H S d1 v1 d (Q : VK), Ok g w H S → Rep g w d1 v1 → f S d1 = some d → (∀ w' H' v, Grow w H w' H' → Rep g w' d v → Q v H') → r v1 H Q
def eUn (f : Sto → D → Option D) (ma : ME) : ME := fun env S => (ma env S).bind fun d1 S1 => opt (f S1 d1) S1
theorem s_un {op : UnaryOp} {r : V → Hp → VK → Prop} {f : Sto → D → Option D} (hd : UnD Y r f) (ho : UnR X (unaryOp op) r) (ha : SE X Y W a ta ma) : SE X Y W (.UnaryOp op a pos) (tUn r ta) (eUn f ma) := ⟨pe_un ho ha.pe, fun w0 H0 w H σ env S O Q st p =>
  ha.sim w0 H0 w H σ env S O _ st ((PostX.bind p).imp fun d1 S1 w1 H1 st1 l1 p1 v1 r1 => by
    obtain ⟨d, e, k⟩ := PostX.opt_ p1 st1
    exact hd w1 H1 S1 d1 v1 d Q st1.ok r1 e fun w3 H3 v q r => k w3 H3 (st1.grow q) (q.le st1.ok) v r)⟩
def fNeg : Sto → D → Option D
  | _, .int i => some (.int (-i))
  | _, _ => none
theorem ud_neg {g : Gam} : UnD g (rU fun i => .int (-i)) fNeg := fun w H S d1 v1 d Q _ r1 e q => by
  unfold fNeg at e
  split at e
  · rename_i i
    cases e
    exact ⟨i, rep_int r1, q w H _ .refl rep_int'⟩
  · cases e
/-! ### argument lists, displays -/
def aNil : MA := fun _ S => .ok [] S
def aCons (ma : ME) (mr : MA) : MA := fun env S => (ma env S).bind fun d S1 => (mr env S1).bind fun ds S2 => .ok (d :: ds) S2
theorem a_nil : SA X Y W [] tNil aNil := ⟨pa_nil, fun w0 H0 w H σ env S O Q st p => p w H st (.refl w) [] RepL.nil_, fun env S ds S1 e => by cases e; rfl⟩
theorem a_cons (ha : SE X Y W e te me) (hr : SA X Y W es t m) (hs : starEach (e :: es) X.env = (false, eval e X.env) :: starEach es X.env := by rfl) : SA X Y W (e :: es) (tCons te t) (aCons me m) := ⟨pa_cons ha.pe hr.pa hs, fun w0 H0 w H σ env S O Q st p =>
  ha.sim w0 H0 w H σ env S O _ st ((PostX.bind p).imp fun d S1 w1 H1 st1 l1 p1 v r => hr.sim w0 H0 w1 H1 σ env S1 O _ st1 ((PostX.bind p1).imp fun ds S2 w2 H2 st2 l2 p2 vs rs => p2 w2 H2 st2 (.refl w2) (v :: vs) (RepL.cons_ (r.mono l2) rs))), fun env S ds S1 h => by
  unfold aCons at h
  cases e1 : me env S with
  | stuck => rw [e1] at h; cases h
  | exc c q s => rw [e1] at h; cases h
  | ok d s =>
    rw [e1] at h
    have h : ((m env s).bind fun ds S2 => R.ok (d :: ds) S2) = .ok ds S1 := h
    cases e2 : m env s with
    | stuck => rw [e2] at h; cases h
    | exc c q s => rw [e2] at h; cases h
    | ok d2 s2 =>
      rw [e2] at h
      have h : R.ok (d :: d2) s2 = .ok ds S1 := h
      cases h
      rw [List.length_cons, List.length_cons, hr.len _ _ _ _ e2]⟩
def szB (n : Nat) : Bool := decide (n ≤ 100000)
theorem szB_le {n : Nat} (h : szB n = true) : n ≤ sizeLine := Nat.le_trans (of_decide_eq_true h) (by decide)
theorem nt_tup {xs : List V} : ∀ ps, HO.tup xs ≠ .tbl ps := fun _ z => by cases z
theorem nt_lst {xs : List V} : ∀ ps, HO.lst xs ≠ .tbl ps := fun _ z => by cases z
theorem nt_ins {C dx : Addr} {fs : List (Str × V)} : ∀ ps, HO.ins C dx fs ≠ .tbl ps := fun _ z => by cases z
theorem nt_own {x : Addr} : ∀ ps, HO.own x ≠ .tbl ps := fun _ z => by cases z
def eTup (m : MA) : ME := fun env S => (m env S).bind fun ds S1 => if szB ds.length then .ok (.tup ds) S1 else .stuck
theorem rep_tup_new {g : Gam} {w : Wd} {H : Hp} {S : Sto} {p : Addr} {ds : List D} {vs : List V} (k : Ok g w H S) (h : H p = none) (r : RepL g w ds vs) : Rep g ⟨w.rho, upd w.G p (.tup vs)⟩ (.tup ds) (.ref p) := by
  unfold Rep
  exact ⟨p, vs, rfl, .inl (.inl upd_same), r.mono (Grow.le (Grow.one h nt_tup) k)⟩
theorem s_tup {x1} (h : SA X Y W es t m) : SE X Y W (.Tuple es x1 pos) (tTup t) (eTup m) := ⟨pe_tup h.pa, fun w0 H0 w H σ env S O Q st p =>
  h.sim w0 H0 w H σ env S O _ st ((PostX.bind p).imp fun ds S1 w1 H1 st1 l1 p1 vs r => by
    split at p1
    · rename_i z
      refine ⟨by rw [← r.len]; exact szB_le z, fun q hq => ?_⟩
      have G := Grow.one (w := w1) (o := .tup vs) hq nt_tup
      exact p1 _ _ (st1.grow G) (G.le st1.ok) _ (rep_tup_new st1.ok hq r)
    · exact False.elim p1)⟩
def fLst (m : MA) : MF := fun env S => (m env S).bind fun ds S1 => if szB ds.length then .ok (.lst ds) S1 else .stuck
theorem f_lst (h : SA X Y W es t m) : SF X Y W (.List es pos) (tLst t) (fLst m) := ⟨pe_lst h.pa, fun w0 H0 w H σ env S O Q st p =>
  h.sim w0 H0 w H σ env S O _ st ((PostX.bind p).imp fun ds S1 w1 H1 st1 l1 p1 vs r => by
    split at p1
    · rename_i z
      refine ⟨by rw [← r.len]; exact szB_le z, fun q hq => ?_⟩
      exact p1 w1 _ (st1.lay hq nt_lst) (.refl w1) q (st1.own_new hq ⟨vs, upd_same, r⟩)
    · exact False.elim p1)⟩
/-! ### what a def promises -/
def RetR (g : Gam) (w : Wd) (H0 H : Hp) (r : Ret) (v : V) : Prop := match r with
  | .val d => Rep g w d v
  | .own c => ∃ p, v = .ref p ∧ H0 p = none ∧ w.G p = none ∧ p ∉ w.rho ∧ CellR g w H p c
def PostF (g : Gam) (w : Wd) (H : Hp) (Q : VK) (E : XK) : R Ret → Prop
  | .stuck => False
  | .ok r S => ∀ w' H' v, Frame w H w' H' → Ok g w' H' S → RetR g w' H H' r v → Q v H'
  | .exc c p S => ∀ w' H' cls dd, Frame w H w' H' → Ok g w' H' S → ExcR g w' H' c p cls dd → E cls dd H'
abbrev MFn := List D → Sto → R Ret
def spOf (g : Gam) (n : Nat) (m : MFn) : Sp := fun vs H Q E => vs.length = n ∧ ∃ w ds S, Ok g w H S ∧ RepL g w ds vs ∧ PostF g w H Q E (m ds S)
/-- a call's end, seen from the caller -/
theorem post_val {g : Gam} {w0 w : Wd} {H0 H : Hp} {σ : L2.St} {env : Envr} {S : Sto} {O : List (Option Addr)} {Q : VK} {r : R Ret} (st : StR g w0 H0 w H σ env S O)
    (p : PostX g W w0 H0 w σ env O (r.bind fun r S2 => R.ok r.d S2) (fun d _ w' H' => ∀ v, Rep g w' d v → Q v H')) : PostF g w H Q (fun cls dd H' => W cls dd σ H') r := by
  cases r with
  | stuck => exact p
  | exc c q S2 => exact fun w' H' cls dd f k x => p w' H' cls dd (st.after f k) f.le x
  | ok r S2 =>
    intro w' H' v f k x
    have st2 := st.after f k
    cases r with
    | val d => exact p w' H' st2 f.le v x
    | own c =>
      obtain ⟨q, e, n0, ng, nr, at_⟩ := x
      have ow : OwnAt g w' H0 H' O c q := by
        obtain ⟨z1, z2, z3, z4⟩ := st.out n0
        exact ⟨z1, ng, nr, z4, at_⟩
      obtain ⟨w3, st3, l3, r3⟩ := own_freeze st2 ow
      rw [e]
      exact p w3 H' st3 (f.le.trans l3) _ r3
def rOwn : Ret → Sto → R Cell
  | .own c, S => .ok c S
  | .val _, _ => .stuck
theorem post_own {g : Gam} {w0 w : Wd} {H0 H : Hp} {σ : L2.St} {env : Envr} {S : Sto} {O : List (Option Addr)} {Q : VK} {r : R Ret} (st : StR g w0 H0 w H σ env S O)
    (p : PostX g W w0 H0 w σ env O (r.bind rOwn) (fun c _ w' H' => ∀ p, OwnAt g w' H0 H' O c p → Q (.ref p) H')) : PostF g w H Q (fun cls dd H' => W cls dd σ H') r := by
  cases r with
  | stuck => exact p
  | exc c q S2 => exact fun w' H' cls dd f k x => p w' H' cls dd (st.after f k) f.le x
  | ok r S2 =>
    intro w' H' v f k x
    have st2 := st.after f k
    cases r with
    | val d => exact False.elim p
    | own c =>
      obtain ⟨q, e, n0, ng, nr, at_⟩ := x
      obtain ⟨z1, z2, z3, z4⟩ := st.out n0
      rw [e]
      exact p w' H' st2 f.le q ⟨z1, ng, nr, z4, at_⟩
def eCall (f : MFn) (dd : List D) (m : MA) : ME := fun env S => (m env S).bind fun ds S1 => (f (ds ++ dd) S1).bind fun r S2 => .ok r.d S2
def fCall (f : MFn) (dd : List D) (m : MA) : MF := fun env S => (m env S).bind fun ds S1 => (f (ds ++ dd) S1).bind rOwn
variable {k n : Nat} {f : Addr} {fd : FuncData} {ps : List Str} {mf : MFn} {dvs : List V} {ds : List Value} {dd : List D} {x : Str} {p : Pos}
theorem sim_callA {g : Gam} (hdv : ∀ w, RepL g w dd dvs) (ha : SimA g W t m) (hlen : ∀ env S ds S1, m env S = .ok ds S1 → ds.length + dd.length = n) {w0 w : Wd} {H0 H : Hp} {σ : L2.St} {env : Envr} {S : Sto} {O : List (Option Addr)} {α : Type} {F : Ret → Sto → R α} {kk : α → Sto → Wd → Hp → Prop} {Q : VK}
    (st : StR g w0 H0 w H σ env S O) (p : PostX g W w0 H0 w σ env O ((m env S).bind fun ds S1 => (mf (ds ++ dd) S1).bind F) kk)
    (fin : ∀ w1 H1 S1 r, StR g w0 H0 w1 H1 σ env S1 O → PostX g W w0 H0 w1 σ env O (r.bind F) kk → PostF g w1 H1 Q (WE W σ) r) : t σ H (fun vs H1 => spOf g n mf (vs ++ dvs) H1 Q (WE W σ)) := by
  refine ha w0 H0 w H σ env S O _ st ?_
  have p2 := PostX.bind p
  cases e : m env S with
  | stuck =>
    rw [e] at p2
    exact p2
  | exc c q S2 =>
    rw [e] at p2
    exact p2
  | ok ds S1 =>
    rw [e] at p2
    intro w1 H1 st1 l1 vs rs
    have p3 := p2 w1 H1 st1 l1
    have r2 := rs.append_ (hdv w1)
    refine ⟨?_, w1, ds ++ dd, S1, st1.ok, r2, fin w1 H1 S1 _ st1 p3⟩
    rw [← r2.len, List.length_append]
    exact hlen env S ds S1 e
/-- f(e, ..) -/
theorem s_call (F : FnOk X.prog X.w X.K X.mg X.base (L2N.CX X.prog X.w) k f fd ps (spOf Y n mf)) (hr : Room k X.A) (hm : X.mg x = some (.ref f)) (hk : PySem.W.keepIn X.K (.ref f) = true) (hb : Binds X.K fd ps ds) (hd : Vals dvs ds) (hdv : ∀ w, RepL Y w dd dvs) (tk : L2N.Takes X W)
    (ha : SA X Y W (e :: es) t m) (hn : (e :: es).length + dd.length = n := by rfl) (hg : Gl X x := by rfl) (hdb : (x == ("__debug__" : Str)) = false := by decide) (he : starEach (e :: es) X.env = (false, eval e X.env) :: starEach es X.env := by rfl) (hpl : (backTo pos (starEach es X.env)).any (·.1) = false := by rfl) :
    SE X Y W (.Call (.Name x p) (e :: es) [] pos) (tCallSD (spOf Y n mf) dvs (WE W) t) (eCall mf dd m) :=
  ⟨pe_callSD F hr hg hm hk hb hd (fun σ => L2N.passAt tk σ) ha.pa hdb he hpl, fun w0 H0 w H σ env S O Q st p => sim_callA hdv ha.sim (fun env S ds S1 h => by rw [ha.len _ _ _ _ h]; exact hn) st p fun w1 H1 S1 r st1 p1 => post_val st1 p1⟩
theorem f_call (F : FnOk X.prog X.w X.K X.mg X.base (L2N.CX X.prog X.w) k f fd ps (spOf Y n mf)) (hr : Room k X.A) (hm : X.mg x = some (.ref f)) (hk : PySem.W.keepIn X.K (.ref f) = true) (hb : Binds X.K fd ps ds) (hd : Vals dvs ds) (hdv : ∀ w, RepL Y w dd dvs) (tk : L2N.Takes X W)
    (ha : SA X Y W (e :: es) t m) (hn : (e :: es).length + dd.length = n := by rfl) (hg : Gl X x := by rfl) (hdb : (x == ("__debug__" : Str)) = false := by decide) (he : starEach (e :: es) X.env = (false, eval e X.env) :: starEach es X.env := by rfl) (hpl : (backTo pos (starEach es X.env)).any (·.1) = false := by rfl) :
    SF X Y W (.Call (.Name x p) (e :: es) [] pos) (tCallSD (spOf Y n mf) dvs (WE W) t) (fCall mf dd m) :=
  ⟨pe_callSD F hr hg hm hk hb hd (fun σ => L2N.passAt tk σ) ha.pa hdb he hpl, fun w0 H0 w H σ env S O Q st p => sim_callA hdv ha.sim (fun env S ds S1 h => by rw [ha.len _ _ _ _ h]; exact hn) st p fun w1 H1 S1 r st1 p1 => post_own st1 p1⟩
end
end Mm
namespace Mm
open PySem L2
/-! ### slots change -/
section
variable {g : Gam} {w0 w w1 : Wd} {H0 H H1 : Hp} {σ : L2.St} {env : Envr} {S S1 : Sto} {O : List (Option Addr)}
theorem StR.set_v (st : StR g w0 H0 w H σ env S O) (i : Nat) {d : D} {v : V} (r : Rep g w d v) : StR g w0 H0 w H (σ.set i (some v)) (env.set i (.v d)) S (O.set i none) := by
  refine ⟨st.ok, st.fr, by rw [List.length_set, List.length_set]; exact st.l1, by rw [List.length_set, List.length_set]; exact st.l2, fun j s x o e1 e2 e3 => ?_, fun j k p e1 e2 => ?_, fun j p e => ?_⟩
  · rw [List.getElem?_set] at e1 e2 e3
    by_cases hj : i = j
    · rw [if_pos hj] at e1 e2 e3
      split at e1
      · split at e2
        · split at e3
          · cases e1
            cases e2
            cases e3
            exact ⟨rfl, v, rfl, r⟩
          · cases e3
        · cases e2
      · cases e1
    · rw [if_neg hj] at e1 e2 e3
      exact st.sl j s x o e1 e2 e3
  · rw [List.getElem?_set] at e1 e2
    have h1 : i ≠ j := fun z => by
      rw [if_pos z] at e1
      split at e1 <;> cases e1
    have h2 : i ≠ k := fun z => by
      rw [if_pos z] at e2
      split at e2 <;> cases e2
    rw [if_neg h1] at e1
    rw [if_neg h2] at e2
    exact st.inj j k p e1 e2
  · rw [List.getElem?_set] at e
    have h1 : i ≠ j := fun z => by
      rw [if_pos z] at e
      split at e <;> cases e
    rw [if_neg h1] at e
    obtain ⟨a, b, c, hc⟩ := st.fresh j p e
    exact ⟨a, b, c, by rw [List.getElem?_set, if_neg h1]; exact hc⟩
theorem StR.set_o (st : StR g w0 H0 w H σ env S O) (i : Nat) {c : Cell} {p : Addr} (r : OwnAt g w H0 H O c p) (hi : i < σ.length) : StR g w0 H0 w H (σ.set i (some (.ref p))) (env.set i (.o c)) S (O.set i (some p)) := by
  refine ⟨st.ok, st.fr, by rw [List.length_set, List.length_set]; exact st.l1, by rw [List.length_set, List.length_set]; exact st.l2, fun j s x o e1 e2 e3 => ?_, fun j k q e1 e2 => ?_, fun j q e => ?_⟩
  · rw [List.getElem?_set] at e1 e2 e3
    by_cases hj : i = j
    · rw [if_pos hj, if_pos (by rw [st.l1]; exact hi)] at e1
      rw [if_pos hj, if_pos hi] at e2
      rw [if_pos hj, if_pos (by rw [st.l2]; exact hi)] at e3
      cases e1
      cases e2
      cases e3
      exact ⟨p, rfl, rfl, r.ng, r.at_⟩
    · rw [if_neg hj] at e1 e2 e3
      exact st.sl j s x o e1 e2 e3
  · rw [List.getElem?_set] at e1 e2
    by_cases h1 : i = j
    · by_cases h2 : i = k
      · exact h1.symm.trans h2
      · rw [if_neg h2] at e2
        rw [if_pos h1] at e1
        split at e1
        · cases e1
          exact absurd e2 (r.no k)
        · cases e1
    · rw [if_neg h1] at e1
      by_cases h2 : i = k
      · rw [if_pos h2] at e2
        split at e2
        · cases e2
          exact absurd e1 (r.no j)
        · cases e2
      · rw [if_neg h2] at e2
        exact st.inj j k q e1 e2
  · rw [List.getElem?_set] at e
    by_cases h1 : i = j
    · rw [if_pos h1] at e
      split at e
      · cases e
        exact ⟨r.n0, r.nr, c, by rw [List.getElem?_set, if_pos h1, if_pos (by rw [st.l1]; exact hi)]⟩
      · cases e
    · rw [if_neg h1] at e
      obtain ⟨a, b, c, hc⟩ := st.fresh j q e
      exact ⟨a, b, c, by rw [List.getElem?_set, if_neg h1]; exact hc⟩
/-- what stands in an own slot -/
theorem StR.own_at (st : StR g w0 H0 w H σ env S O) {i : Nat} {c : Cell} (h : env[i]? = some (.o c)) : ∃ p, σ[i]? = some (some (.ref p)) ∧ O[i]? = some (some p) ∧ w.G p = none ∧ CellR g w H p c ∧ H0 p = none ∧ p ∉ w.rho ∧ i < σ.length := by
  have hi : i < σ.length := by
    rw [← st.l1]
    exact (List.getElem?_eq_some_iff.mp h).1
  have hO : i < O.length := by
    rw [st.l2]
    exact hi
  obtain ⟨p, e1, e2, e3, e4⟩ := st.sl i (.o c) σ[i] O[i] h (List.getElem?_eq_getElem hi) (List.getElem?_eq_getElem hO)
  have e5 : O[i]? = some (some p) := by rw [List.getElem?_eq_getElem hO, e1]
  exact ⟨p, by rw [List.getElem?_eq_getElem hi, e2], e5, e3, e4, (st.fresh i p e5).1, (st.fresh i p e5).2.1, hi⟩
/-- the thing in an own slot changes -/
theorem StR.mut (st : StR g w0 H0 w H σ env S O) {i : Nat} {c c' : Cell} {p : Addr} {o : HO} (h : env[i]? = some (.o c)) (hO : O[i]? = some (some p)) (r : CellR g w (upd H p o) p c') (nt : ∀ ps, o ≠ .tbl ps) : StR g w0 H0 w (upd H p o) σ (env.set i (.o c')) S O := by
  obtain ⟨p', e1, e2, e3, e4, e5, e6, hi⟩ := st.own_at h
  rw [hO] at e2
  cases e2
  obtain ⟨x, e7, e8⟩ := e4.some_
  have noG : ∀ b, w.G b ≠ none → b ≠ p := fun b q z => q (by rw [z]; exact e3)
  refine ⟨⟨fun b u e => ?_, ⟨st.ok.cells.nd, st.ok.cells.len, fun m b q e9 e10 => ?_⟩, tabs_upd st.ok.tabs (fun ps z => by rw [e7] at z; exact e8 ps (Option.some.inj z)) (fun φ z => e4.noext φ z), st.ok.notab⟩, ⟨st.fr.le, fun b u q1 q2 q3 => ?_, st.fr.newG, st.fr.rho, fun b q => ?_, fun b ps q => by rw [upd_ne (fun z => by rw [z, e5] at q; cases q)]; exact st.fr.tb b ps q, fun b x u q => by rw [upd_ne (fun z => by rw [z, e5] at q; cases q)]; exact st.fr.fz b x u q⟩, by rw [List.length_set]; exact st.l1, st.l2, fun j s y q z1 z2 z3 => ?_, st.inj, fun j q e => ?_⟩
  · rw [upd_ne (noG b (by rw [e]; exact fun z => nomatch z))]
    exact st.ok.ex b u e
  · obtain ⟨q1, q2⟩ := st.ok.cells.at_ m b q e9 e10
    exact ⟨q1, q2.move (.refl w) (upd_ne fun z => e6 (by rw [← z]; exact List.mem_of_getElem? e9))⟩
  · rw [upd_ne (fun z => by rw [z, e5] at q1; cases q1)]
    exact st.fr.keep b u q1 q2 q3
  · by_cases hb : b = p
    · rw [hb, upd_same]
      exact fun z => nomatch z
    · rw [upd_ne hb]
      exact st.fr.dom b q
  · rw [List.getElem?_set] at z1
    by_cases hj : i = j
    · rw [if_pos hj, if_pos (by rw [st.l1]; exact hi)] at z1
      cases z1
      rw [hj] at hO e1
      rw [hO] at z3
      rw [e1] at z2
      cases z3
      cases z2
      exact ⟨p, rfl, rfl, e3, r⟩
    · rw [if_neg hj] at z1
      have q' := st.sl j s y q z1 z2 z3
      cases s with
      | no => exact q'
      | v d => exact q'
      | o cj =>
        obtain ⟨pj, y1, y2, y3, y4⟩ := q'
        rw [y1] at z3
        have ne : pj ≠ p := fun z => hj (st.inj i j p hO (by rw [z3, z]))
        exact ⟨pj, y1, y2, y3, y4.move (.refl w) (upd_ne ne)⟩
  · obtain ⟨a, b, cj, hc⟩ := st.fresh j q e
    refine ⟨a, b, ?_⟩
    by_cases hj : i = j
    · exact ⟨c', by rw [List.getElem?_set, if_pos hj, if_pos (by rw [st.l1]; exact hi)]⟩
    · exact ⟨cj, by rw [List.getElem?_set, if_neg hj]; exact hc⟩
/-- a cell changes -/
theorem ok_cell (k : Ok g w H S) {n : Nat} {c c' : Cell} {a : Addr} {o : HO} (hn : w.rho[n]? = some a) (hc : S[n]? = some c) (r : CellR g w (upd H a o) a c') (nt : ∀ ps, o ≠ .tbl ps) (cf : c.fr := by exact True.intro) : Ok g w (upd H a o) (S.set n c') ∧ Frame w H w (upd H a o) := by
  obtain ⟨e3, e4⟩ := k.cells.at_ n a c hn hc
  obtain ⟨x, e7, e8⟩ := e4.some_
  have noG : ∀ b, w.G b ≠ none → b ≠ a := fun b q z => q (by rw [z]; exact e3)
  refine ⟨⟨fun b u e => ?_, ⟨k.cells.nd, by rw [List.length_set]; exact k.cells.len, fun m b q e9 e10 => ?_⟩, tabs_upd k.tabs (fun ps z => by rw [e7] at z; exact e8 ps (Option.some.inj z)) (fun φ z => e4.noext φ z), k.notab⟩, ⟨.refl w, fun b u q1 q2 q3 => ?_, fun _ _ => rfl, fun b q => .inl q, fun b q => ?_, fun b ps q => ⟨ps, by rw [upd_ne (fun z => by rw [z, e7] at q; exact e8 ps (Option.some.inj q))]; exact q⟩, fun b x u q => by rw [upd_ne (fun z => e4.nofrz cf x u (by rw [← z]; exact q))]; exact q⟩⟩
  · rw [upd_ne (noG b (by rw [e]; exact fun z => nomatch z))]
    exact k.ex b u e
  · rw [List.getElem?_set] at e10
    by_cases hj : n = m
    · rw [if_pos hj] at e10
      split at e10
      · cases e10
        rw [← hj, hn] at e9
        cases e9
        exact ⟨e3, r⟩
      · cases e10
    · rw [if_neg hj] at e10
      obtain ⟨q1, q2⟩ := k.cells.at_ m b q e9 e10
      exact ⟨q1, q2.move (.refl w) (upd_ne fun z => hj (k.cells.nd n m a hn (by rw [← z]; exact e9)))⟩
  · rw [upd_ne (fun z => q2 (by rw [z]; exact List.mem_of_getElem? hn))]
    exact q1
  · by_cases hb : b = a
    · rw [hb, upd_same]
      exact fun z => nomatch z
    · rw [upd_ne hb]
      exact q
end
/-! ### statements -/
abbrev MS := Envr → Sto → Out
def PostS (g : Gam) (W : WX) (w0 : Wd) (H0 : Hp) (w : Wd) (Dn : Ends) : Out → Prop
  | .stuck => False
  | .nx e S => ∀ w' H' σ' O', StR g w0 H0 w' H' σ' e S O' → w.le w' → Dn.nx σ' H'
  | .bk e S => ∀ w' H' σ' O', StR g w0 H0 w' H' σ' e S O' → w.le w' → Dn.bk σ' H'
  | .ct e S => ∀ w' H' σ' O', StR g w0 H0 w' H' σ' e S O' → w.le w' → Dn.ct σ' H'
  | .rt r S => ∀ w' H' v, Ok g w' H' S → Frame w0 H0 w' H' → RetR g w' H0 H' r v → Dn.rt v H'
  | .exc c p e S => ∀ w' H' σ' O' cls dd, StR g w0 H0 w' H' σ' e S O' → w.le w' → ExcR g w' H' c p cls dd → W cls dd σ' H'
def SimS (g : Gam) (W : WX) (t : TS) (m : MS) : Prop := ∀ w0 H0 w H σ env S O (Dn : Ends), StR g w0 H0 w H σ env S O → PostS g W w0 H0 w Dn (m env S) → t Dn σ H
structure SS (X : Cx) (Y : Gam) (W : WX) (st : Stmt) (t : TS) (m : MS) : Prop where
  ps : PS X st t
  sim : SimS Y W t m
structure SB (X : Cx) (Y : Gam) (W : WX) (st : List Stmt) (t : TS) (m : MS) : Prop where
  pss : PSs X st t
  sim : SimS Y W t m
theorem PostS.mono {g : Gam} {W : WX} {w0 w w1 : Wd} {H0 : Hp} {Dn : Ends} {o : Out} (h : PostS g W w0 H0 w Dn o) (l : w.le w1) : PostS g W w0 H0 w1 Dn o := by
  cases o with
  | stuck => exact h
  | nx e S => exact fun w' H' σ' O' st l' => h w' H' σ' O' st (l.trans l')
  | bk e S => exact fun w' H' σ' O' st l' => h w' H' σ' O' st (l.trans l')
  | ct e S => exact fun w' H' σ' O' st l' => h w' H' σ' O' st (l.trans l')
  | rt r S => exact h
  | exc c p e S => exact fun w' H' σ' O' cls dd st l' => h w' H' σ' O' cls dd st (l.trans l')
/-- a result of an expression goes into a statement -/
def R.out {α : Type} (r : R α) (env : Envr) (f : α → Sto → Out) : Out := match r with
  | .stuck => .stuck
  | .exc c p s => .exc c p env s
  | .ok a s => f a s
theorem PostS.out {g : Gam} {W : WX} {w0 w : Wd} {H0 : Hp} {σ : L2.St} {env : Envr} {O : List (Option Addr)} {Dn : Ends} {α : Type} {r : R α} {f : α → Sto → Out} (h : PostS g W w0 H0 w Dn (r.out env f)) :
    PostX g W w0 H0 w σ env O r (fun a S w' _ => PostS g W w0 H0 w' Dn (f a S)) := by
  cases r with
  | stuck => exact h
  | exc c p s => exact fun w' H' cls dd st l x => h w' H' σ O cls dd st l x
  | ok a s => exact fun w' H' st l => PostS.mono (show PostS g W w0 H0 w Dn (f a s) from h) l
section
variable {X : Cx} {Y : Gam} {W : WX} {e a b c : Expr} {es rest : List Expr} {ta tb te : TE} {tt tu : TT} {ma mb me : ME} {mt mu : MT} {mf : MF} {t : TA} {m : MA} {pos : Pos} {s : Stmt} {ss : List Stmt} {t1 t2 : TS} {m1 m2 : MS}
def sNil : MS := fun env S => .nx env S
def sSeq (a b : MS) : MS := fun env S => match a env S with
  | .nx e S1 => b e S1
  | o => o
theorem b_nil : SB X Y W [] tNext sNil := ⟨pss_nil, fun w0 H0 w H σ env S O Dn st p => p w H σ O st (.refl w)⟩
theorem b_cons (h1 : SS X Y W s t1 m1) (h2 : SB X Y W ss t2 m2) : SB X Y W (s :: ss) (tSeq t1 t2) (sSeq m1 m2) := ⟨pss_cons h1.ps h2.pss, fun w0 H0 w H σ env S O Dn st p => by
  refine h1.sim w0 H0 w H σ env S O { Dn with nx := t2 Dn } st ?_
  unfold sSeq at p
  cases q : m1 env S with
  | stuck => rw [q] at p; exact p
  | bk e S => rw [q] at p; exact p
  | ct e S => rw [q] at p; exact p
  | rt r S => rw [q] at p; exact p
  | exc c p' e S => rw [q] at p; exact p
  | nx e1 S1 =>
    rw [q] at p
    exact fun w' H' σ' O' st' l' => h2.sim w0 H0 w' H' σ' e1 S1 O' Dn st' (p.mono l')⟩
theorem b_one (h1 : SS X Y W s t1 m1) : SB X Y W [s] t1 m1 := ⟨pss_one h1.ps, h1.sim⟩
def sBrk : MS := fun env S => .bk env S
def sCnt : MS := fun env S => .ct env S
def sExpr (me : ME) : MS := fun env S => (me env S).out env fun _ S1 => .nx env S1
def sRet (me : ME) : MS := fun env S => (me env S).out env fun d S1 => .rt (.val d) S1
theorem t_ret (h : SE X Y W e te me) : SS X Y W (.Return (some e) pos) (tRet te) (sRet me) := ⟨ps_ret h.pe, fun w0 H0 w H σ env S O Dn st p =>
  h.sim w0 H0 w H σ env S O _ st ((PostS.out p).imp fun d S1 w1 H1 st1 l1 p1 v r => p1 w1 H1 v st1.ok st1.fr r)⟩
def sRetF (mf : MF) : MS := fun env S => (mf env S).out env fun c S1 => .rt (.own c) S1
theorem t_retF (h : SF X Y W e te mf) : SS X Y W (.Return (some e) pos) (tRet te) (sRetF mf) := ⟨ps_ret h.pe, fun w0 H0 w H σ env S O Dn st p =>
  h.sim w0 H0 w H σ env S O _ st ((PostS.out p).imp fun d S1 w1 H1 st1 l1 p1 v r => p1 w1 H1 _ st1.ok st1.fr ⟨v, rfl, r.n0, r.ng, r.nr, r.at_⟩)⟩
def sRetO (i : Nat) : MS := fun env S => match env[i]? with
  | some (.o c) => .rt (.own c) S
  | some (.v d) => .rt (.val d) S
  | _ => .stuck
theorem t_retO (i : Nat) {x : Str} {p : Pos} (hN : X.N[i]? = some x := by rfl) (hv : Vis X.env.scope x := by first | exact Or.inl rfl | exact Or.inr (Or.inl rfl) | exact Or.inr (Or.inr rfl)) (hd : (x == ("__debug__" : Str)) = false := by decide)
    (hcd : (x == ("__classdict__" : Str)) = false := by decide) : SS X Y W (.Return (some (.Name x p)) pos) (tRet (tVar i)) (sRetO i) := ⟨ps_ret (pv i hN hv hd hcd), fun w0 H0 w H σ env S O Dn st p => by
  unfold sRetO at p
  split at p
  · rename_i c e
    obtain ⟨q, e1, e2, e3, e4, e5, e6, hi⟩ := st.own_at e
    exact ⟨_, e1, p w H _ st.ok st.fr ⟨q, rfl, e5, e3, e6, e4⟩⟩
  · rename_i d e
    exact sim_var (W := W) w0 H0 w H σ env S O Dn.rt st (by
      unfold eV
      rw [e]
      exact fun w' H' st' l' v r => p w' H' v st'.ok st'.fr r)
  · exact p.elim⟩
def sRetN : MS := fun env S => .rt (.val .non) S
def sIf (c : MT) (a b : MS) : MS := fun env S => (c env S).out env fun k S1 => if k = true then a env S1 else b env S1
theorem t_if {x y : List Stmt} (hc : SC X Y W c tt mt) (ha : SB X Y W x t1 m1) (hb : SB X Y W y t2 m2) : SS X Y W (.If c x y pos) (tIfS tt t1 t2) (sIf mt m1 m2) := ⟨ps_if hc.pt ha.pss hb.pss, fun w0 H0 w H σ env S O Dn st p =>
  hc.sim w0 H0 w H σ env S O _ st ((PostS.out p).imp fun k S1 w1 H1 st1 l1 p1 => by
    cases k with
    | true =>
      simp only [if_true] at p1 ⊢
      exact ha.sim w0 H0 w1 H1 σ env S1 O Dn st1 p1
    | false =>
      simp only [Bool.false_eq_true, if_false] at p1 ⊢
      exact hb.sim w0 H0 w1 H1 σ env S1 O Dn st1 p1)⟩
/-! ### targets -/
abbrev MG := D → Envr → Option Envr
/-- all slots but those of the list are as they were -/
def Slots (is : List Nat) (σ σ' : L2.St) : Prop := σ'.length = σ.length ∧ ∀ k, k ∉ is → σ'[k]? = σ[k]?
theorem Slots.refl {is : List Nat} (σ : L2.St) : Slots is σ σ := ⟨rfl, fun _ _ => rfl⟩
theorem Slots.set {i : Nat} {is : List Nat} {x : Option V} (σ : L2.St) (h : i ∈ is) : Slots is σ (σ.set i x) := ⟨List.length_set, fun k hk => by
  rw [List.getElem?_set_ne]
  intro z
  exact hk (z ▸ h)⟩
theorem Slots.trans {is : List Nat} {a b c : L2.St} (x : Slots is a b) (y : Slots is b c) : Slots is a c := ⟨y.1.trans x.1, fun k h => (y.2 k h).trans (x.2 k h)⟩
theorem Slots.mono {is js : List Nat} {a b : L2.St} (x : Slots is a b) (h : ∀ i ∈ is, i ∈ js) : Slots js a b := ⟨x.1, fun k hk => x.2 k fun z => hk (h k z)⟩
def SimG (g : Gam) (is : List Nat) (t : TG) (m : MG) : Prop := ∀ w0 H0 w H σ env S O d v (Q : L2.St → Hp → Prop) e, StR g w0 H0 w H σ env S O → Rep g w d v → m d env = some e → (∀ σ' O', StR g w0 H0 w H σ' e S O' → Slots is σ σ' → Q σ' H) → t v σ H Q
structure SG (X : Cx) (Y : Gam) (is : List Nat) (e : Expr) (t : TG) (m : MG) : Prop where
  pg : PG X e t
  sim : SimG Y is t m
abbrev MGs := List D → Envr → Option Envr
def SimGs (g : Gam) (is : List Nat) (t : TGs) (m : MGs) : Prop := ∀ w0 H0 w H σ env S O d v (Q : L2.St → Hp → Prop) e, StR g w0 H0 w H σ env S O → RepL g w d v → m d env = some e → (∀ σ' O', StR g w0 H0 w H σ' e S O' → Slots is σ σ' → Q σ' H) → t v σ H Q
structure SGs (X : Cx) (Y : Gam) (is : List Nat) (e : List Expr) (t : TGs) (m : MGs) : Prop where
  pg : PGs X e t
  sim : SimGs Y is t m
  len : ∀ ds env e', m ds env = some e' → ds.length = e.length
def gN (i : Nat) : MG := fun d env => some (env.set i (.v d))
theorem g_name {i : Nat} {x : Str} (hN : X.N.Nodup) (hi : X.N[i]? = some x) (hx : Loc X.env.scope x) (hf : X.fn x = true ∨ X.env.scope.names.lookup x = some .local := by first | exact .inl rfl | exact .inr rfl | assumption) : SG X Y [i] (.Name x pos) (gName i) (gN i) :=
  ⟨pg_name hN hi hx hf, fun w0 H0 w H σ env S O d v Q e st r h q => by
    cases h
    exact q _ _ (st.set_v i r) (Slots.set σ (by simp))⟩
def gN0 : MGs := fun ds env => match ds with
  | [] => some env
  | _ => none
def gNC (a : MG) (b : MGs) : MGs := fun ds env => match ds with
  | d :: r => (a d env).bind fun e => b r e
  | _ => none
theorem gs_nil : SGs X Y [] [] gNil gN0 := ⟨pgs_nil, fun w0 H0 w H σ env S O d v Q e st r h q => by
  unfold gN0 at h
  split at h
  · cases h
    unfold RepL at r
    exact ⟨r, q _ _ st (Slots.refl σ)⟩
  · simp at h, fun ds env e' h => by
  unfold gN0 at h
  split at h
  · rfl
  · simp at h⟩
theorem gs_cons {is js : List Nat} {tg : TG} {tgs : TGs} {mg : MG} {mgs : MGs} (h1 : SG X Y is e tg mg) (h2 : SGs X Y js es tgs mgs) (hs : (assignEach (e :: es) X.env).map (·.2) = assign e X.env :: (assignEach es X.env).map (·.2) := by rfl) : SGs X Y (is ++ js) (e :: es) (gCons tg tgs) (gNC mg mgs) :=
  ⟨pgs_cons h1.pg h2.pg hs, fun w0 H0 w H σ env S O d v Q e' st r h q => by
    unfold gNC at h
    split at h
    · rename_i d1 dr
      unfold RepL at r
      obtain ⟨v1, vr, ev, r1, r2⟩ := r
      cases z : mg d1 env with
      | none => rw [z] at h; cases h
      | some e1 =>
        rw [z] at h
        have h : mgs dr e1 = some e' := h
        exact ⟨v1, vr, ev, h1.sim w0 H0 w H σ env S O d1 v1 _ e1 st r1 z fun σ1 O1 st1 s1 => h2.sim w0 H0 w H σ1 e1 S O1 dr vr Q e' st1 r2 h fun σ2 O2 st2 s2 => q σ2 O2 st2 ((s1.mono fun i hi => List.mem_append_left _ hi).trans (s2.mono fun i hi => List.mem_append_right _ hi))⟩
    · simp at h, fun ds env e' h => by
    unfold gNC at h
    split at h
    · rename_i d1 dr
      cases z : mg d1 env with
      | none => rw [z] at h; cases h
      | some e1 =>
        rw [z] at h
        have h : mgs dr e1 = some e' := h
        rw [List.length_cons, List.length_cons, h2.len dr e1 e' h]
    · cases h⟩
def gT (b : MGs) : MG := fun d env => match d with
  | .tup ds => b ds env
  | _ => none
theorem g_tup {is : List Nat} {k : Nat} {tgs : TGs} {mgs : MGs} (h : SGs X Y is es tgs mgs) (hK : X.K = Y.K := by rfl) (hc : X.calm = true := by rfl) (hn : (assignEach es X.env).length = es.length := by rfl) (hst : (assignEach es X.env).findIdx? (·.1) = none := by rfl) : SG X Y is (.Tuple es k pos) (gTup Y.K es.length tgs) (gT mgs) :=
  ⟨hK ▸ pg_tup hc h.pg hn hst, fun w0 H0 w H σ env S O d v Q e' st r h' q => by
    unfold gT at h'
    split at h'
    · rename_i ds
      unfold Rep at r
      obtain ⟨a, vs, e1, e2, e3⟩ := r
      exact ⟨a, vs, e1, same_sqT st.ok.ex e2, by rw [← e3.len]; exact h.len ds env e' h', h.sim w0 H0 w H σ env S O ds vs Q e' st e3 h' q⟩
    · cases h'⟩
def sAsg (me : ME) (mg : MG) : MS := fun env S => (me env S).out env fun d S1 => match mg d env with
  | some e => .nx e S1
  | none => .stuck
theorem sim_asg {g : Gam} {is : List Nat} {tg : TG} {mg : MG} (he : SimE g W te me) (hg : SimG g is tg mg) : SimS g W (tAsg te tg) (sAsg me mg) := fun w0 H0 w H σ env S O Dn st p =>
  he w0 H0 w H σ env S O _ st ((PostS.out p).imp fun d S1 w1 H1 st1 l1 p1 v r => by
    cases z : mg d env with
    | none => rw [z] at p1; exact False.elim p1
    | some e1 =>
      rw [z] at p1
      exact hg w0 H0 w1 H1 σ env S1 O d v Dn.nx e1 st1 r z fun σ' O' st' _ => p1 w1 H1 σ' O' st' (.refl w1))
theorem t_asg {tg : Expr} {is : List Nat} {g : TG} {mg : MG} (he : SE X Y W e te me) (hg : SG X Y is tg g mg) (hs : swapsWithSole [tg] e pos.line X.env = pure false := by rfl) (hw : swappedStores [tg] e X.env = pure none := by rfl)
    (h1 : (assignEach [tg] X.env).map (·.2) = [assign tg X.env] := by rfl) : SS X Y W (.Assign [tg] e pos) (tAsg te g) (sAsg me mg) := ⟨ps_asg he.pe hg.pg hs hw h1, sim_asg he.sim hg.sim⟩
theorem t_set {i : Nat} {x : Str} {pos' : Pos} (hN : X.N.Nodup) (hi : X.N[i]? = some x) (hx : Loc X.env.scope x) (he : SE X Y W e te me) (hs : swapsWith e (some (.Name x pos')) pos.line X.env = pure false := by rfl) (hf : X.fn x = true ∨ X.env.scope.names.lookup x = some .local := by first | exact .inl rfl | exact .inr rfl | assumption) :
    SS X Y W (.Assign [.Name x pos'] e pos) (tAsg te (gName i)) (sAsg me (gN i)) := ⟨ps_set hN hi hx he.pe hs hf, sim_asg (is := [i]) he.sim fun w0 H0 w H σ env S O d v Q e st r h q => by
    cases h
    exact q _ _ (st.set_v i r) (Slots.set σ (by simp))⟩
/-- x = a new thing, of one's own -/
def sOwn (i : Nat) (mf : MF) : MS := fun env S => (mf env S).out env fun c S1 => if i < env.length then .nx (env.set i (.o c)) S1 else .stuck
theorem sim_own {g : Gam} {i : Nat} (h : SimF g W te mf) : SimS g W (tAsg te (gName i)) (sOwn i mf) := fun w0 H0 w H σ env S O Dn st p =>
  h w0 H0 w H σ env S O _ st ((PostS.out p).imp fun c S1 w1 H1 st1 l1 p1 q ow => by
    split at p1
    · rename_i hi
      exact p1 w1 H1 _ _ (st1.set_o i ow (by rw [← st1.l1]; exact hi)) (.refl w1)
    · exact False.elim p1)
theorem t_own {i : Nat} {x : Str} {pos' : Pos} (hN : X.N.Nodup) (hi : X.N[i]? = some x) (hx : Loc X.env.scope x) (he : SF X Y W e te mf) (hs : swapsWith e (some (.Name x pos')) pos.line X.env = pure false := by rfl) (hf : X.fn x = true ∨ X.env.scope.names.lookup x = some .local := by first | exact .inl rfl | exact .inr rfl | assumption) :
    SS X Y W (.Assign [.Name x pos'] e pos) (tAsg te (gName i)) (sOwn i mf) := ⟨ps_set hN hi hx he.pe hs hf, sim_own he.sim⟩
/-- a, b = x, y -/
def sPar (i j : Nat) (m : MA) : MS := fun env S => (m env S).out env fun ds S1 => match ds with
  | [d1, d2] => .nx ((env.set i (.v d1)).set j (.v d2)) S1
  | _ => .stuck
end
end Mm
namespace Mm
open PySem L2
/-! ### what is walked -/
def ItR (g : Gam) (w1 : Wd) (J : It) (ds : List D) : Prop := ∀ w H, w1.le w → Same w.G H →
  (∀ (i : Nat) d, ds[i]? = some d → J.go i H ∧ ∀ x H', J.yld i H x H' → ∃ w', Grow w H w' H' ∧ Rep g w' d x) ∧ J.stop ds.length H
theorem ItR.mono {g : Gam} {w1 w2 : Wd} {J : It} {ds : List D} (h : ItR g w1 J ds) (l : w1.le w2) : ItR g w2 J ds := fun w H l' e => h w H (l.trans l') e
abbrev MI := Envr → Sto → R (List D)
def SimI (g : Gam) (W : WX) (wi : TI) (m : MI) : Prop := ∀ w0 H0 w H σ env S O (Q : It → Hp → Prop), StR g w0 H0 w H σ env S O →
  PostX g W w0 H0 w σ env O (m env S) (fun ds _ w' H' => ∀ J, ItR g w' J ds → Q J H') → wi σ H Q
structure SI (X : Cx) (Y : Gam) (W : WX) (tg e : Expr) (wi : TI) (m : MI) : Prop where
  pi : PI X tg e wi
  sim : SimI Y W wi m
section
variable {X : Cx} {Y : Gam} {W : WX} {e a b c tg : Expr} {es rest : List Expr} {ta tb te : TE} {tt tu : TT} {ma mb me : ME} {mt mu : MT} {mf : MF} {t : TA} {m : MA} {pos : Pos} {s : Stmt} {ss : List Stmt} {t1 t2 : TS} {m1 m2 : MS} {wi : TI} {mi : MI}
/-! ### for -/
def forL (g : MG) (b : MS) : List D → MS
  | [], env, S => .nx env S
  | d :: ds, env, S => match g d env with
    | none => .stuck
    | some e1 => match b e1 S with
      | .nx e S1 => forL g b ds e S1
      | .ct e S1 => forL g b ds e S1
      | .bk e S1 => .nx e S1
      | o => o
def sFor (mi : MI) (g : MG) (b : MS) : MS := fun env S => (mi env S).out env fun ds S1 => forL g b ds env S1
theorem sim_for {g : Gam} {is : List Nat} {tg : TG} {mg : MG} (hi : SimI g W wi mi) (hg : SimG g is tg mg) (hb : SimS g W t1 m1) : SimS g W (tFor wi tg t1) (sFor mi mg m1) := fun w0 H0 w H σ env S O Dn st p =>
  hi w0 H0 w H σ env S O _ st ((PostS.out p).imp fun ds S1 w1 H1 st1 l1 p1 J hJ => by
    refine ⟨fun i m σ H => m + i = ds.length ∧ ∃ w env S O, StR g w0 H0 w H σ env S O ∧ w1.le w ∧ PostS g W w0 H0 w Dn (forL mg m1 (ds.drop i) env S), ⟨ds.length, by omega, w1, env, S1, O, st1, .refl w1, p1⟩, ?_⟩
    rintro i k σ2 H2 ⟨hk, w2, env2, S2, O2, st2, l2, p2⟩
    obtain ⟨hgo, hstop⟩ := hJ w2 H2 l2 st2.ok.ex
    by_cases hlt : i < ds.length
    · have ed : ds.drop i = ds[i] :: ds.drop (i + 1) := List.drop_eq_getElem_cons hlt
      obtain ⟨go, yld⟩ := hgo i ds[i] (List.getElem?_eq_getElem hlt)
      refine .inr ⟨go, fun σ' H' => ∃ w env S O, StR g w0 H0 w H' σ' env S O ∧ w1.le w ∧ PostS g W w0 H0 w Dn (forL mg m1 (ds.drop (i + 1)) env S), fun σ' H' h' => ⟨k - 1, by omega, by omega, h'⟩, fun x H' hy => ?_⟩
      obtain ⟨w3, gr, rx⟩ := yld x H' hy
      have st3 := st2.grow gr
      have l3 := gr.le st2.ok
      rw [ed] at p2
      unfold forL at p2
      cases z : mg ds[i] env2 with
      | none => rw [z] at p2; exact False.elim p2
      | some e1 =>
        rw [z] at p2
        refine hg w0 H0 w3 H' σ2 env2 S2 O2 ds[i] x _ e1 st3 rx z fun σ4 O4 st4 _ => ?_
        refine hb w0 H0 w3 H' σ4 e1 S2 O4 _ st4 ?_
        have p2 : PostS g W w0 H0 w2 Dn (match m1 e1 S2 with
          | .nx e S1 => forL mg m1 (ds.drop (i + 1)) e S1
          | .ct e S1 => forL mg m1 (ds.drop (i + 1)) e S1
          | .bk e S1 => .nx e S1
          | o => o) := p2
        cases y : m1 e1 S2 with
        | stuck => rw [y] at p2; exact p2
        | nx e S5 => rw [y] at p2; exact fun w' H' σ' O' st' l' => ⟨w', e, S5, O', st', (l2.trans l3).trans l', p2.mono (l3.trans l')⟩
        | ct e S5 => rw [y] at p2; exact fun w' H' σ' O' st' l' => ⟨w', e, S5, O', st', (l2.trans l3).trans l', p2.mono (l3.trans l')⟩
        | bk e S5 => rw [y] at p2; exact fun w' H' σ' O' st' l' => p2 w' H' σ' O' st' (l3.trans l')
        | rt r S5 => rw [y] at p2; exact p2
        | exc c q e S5 => rw [y] at p2; exact fun w' H' σ' O' cls dd st' l' x => p2 w' H' σ' O' cls dd st' (l3.trans l') x
    · have ei : i = ds.length := by omega
      refine .inl ⟨by rw [ei]; exact hstop, ?_⟩
      have ed : ds.drop i = [] := by rw [ei]; exact List.drop_length
      rw [ed] at p2
      exact p2 w2 H2 σ2 O2 st2 (.refl w2))
theorem t_for {tg iter : Expr} {body : List Stmt} {is : List Nat} {g : TG} {mg : MG} (hp : PassesOwn (model X.prog X.w) X.A X.env X.xe) (hi : SI X Y W tg iter wi mi) (hg : SG X Y is tg g mg) (hb : SB X Y W body t1 m1) (hc : X.calm = true := by rfl)
    (hs : ∀ x, foldedSetIterable iter X.env x = pure x := by intro _; rfl) : SS X Y W (.For tg iter body [] pos) (tFor wi g t1) (sFor mi mg m1) := ⟨ps_for hp hc hi.pi hg.pg hb.pss hs, sim_for hi.sim hg.sim hb.sim⟩
/-! ### while -/
def whL (c : MT) (b : MS) : Nat → MS
  | 0, _, _ => .stuck
  | n + 1, env, S => (c env S).out env fun k S1 => if k = true then (match b env S1 with
      | .nx e S2 => whL c b n e S2
      | .ct e S2 => whL c b n e S2
      | .bk e S2 => .nx e S2
      | o => o) else .nx env S1
/-! ### a list comprehension -/
def hideS : Sl → Sl
  | .o _ => .no
  | s => s
def wipeE (env : Envr) : List Nat → Envr
  | [] => env.map hideS
  | v :: vs => (wipeE env vs).set v .no
theorem wipeE_len (env : Envr) : ∀ vs : List Nat, (wipeE env vs).length = env.length
  | [] => List.length_map _
  | v :: vs => by
    unfold wipeE
    rw [List.length_set, wipeE_len env vs]
theorem wipe_get (σ : L2.St) : ∀ (vs : List Nat) (k : Nat), k ∉ vs → (wipe σ vs)[k]? = σ[k]?
  | [], _, _ => rfl
  | v :: vs, k, h => by
    unfold wipe
    rw [List.getElem?_set_ne (fun z => h (by rw [z]; exact List.mem_cons_self))]
    exact wipe_get σ vs k fun z => h (List.mem_cons_of_mem _ z)
theorem wipe_in (σ : L2.St) : ∀ (vs : List Nat) (k : Nat), k ∈ vs → k < σ.length → (wipe σ vs)[k]? = some none
  | v :: vs, k, h, l => by
    unfold wipe
    by_cases e : v = k
    · rw [e, List.getElem?_set_self (by rw [wipe_length]; exact l)]
    · rw [List.getElem?_set_ne e]
      rcases List.mem_cons.mp h with z | z
      · exact absurd z.symm e
      · exact wipe_in σ vs k z l
theorem wipe_slots {is : List Nat} {a b : L2.St} (h : Slots is a b) {vs : List Nat} (hv : ∀ i ∈ is, i ∈ vs) : wipe b vs = wipe a vs := by
  refine List.ext_getElem? fun k => ?_
  by_cases hk : k ∈ vs
  · by_cases hl : k < a.length
    · rw [wipe_in a vs k hk hl, wipe_in b vs k hk (by rw [h.1]; exact hl)]
    · have h1 := h.1
      rw [List.getElem?_eq_none (l := wipe b vs) (by rw [wipe_length]; omega), List.getElem?_eq_none (l := wipe a vs) (by rw [wipe_length]; omega)]
  · rw [wipe_get b vs k hk, wipe_get a vs k hk]
    exact h.2 k fun z => hk (hv k z)
theorem wipe_wipe {vs : List Nat} (σ : L2.St) : wipe (wipe σ vs) vs = wipe σ vs := wipe_slots (is := vs) ⟨wipe_length σ vs, fun k hk => wipe_get σ vs k hk⟩ fun _ h => h
theorem wipeE_get (env : Envr) : ∀ (vs : List Nat) (k : Nat) (s : Sl), (wipeE env vs)[k]? = some s → s = .no ∨ (∃ d, s = .v d ∧ env[k]? = some (.v d) ∧ k ∉ vs)
  | [], k, s, h => by
    unfold wipeE at h
    rw [List.getElem?_map] at h
    cases e : env[k]? with
    | none => rw [e] at h; cases h
    | some s' =>
      rw [e] at h
      cases s' with
      | no => exact .inl (Option.some.inj h).symm
      | o c => exact .inl (Option.some.inj h).symm
      | v d => exact .inr ⟨d, (Option.some.inj h).symm, rfl, by simp⟩
  | v :: vs, k, s, h => by
    unfold wipeE at h
    rw [List.getElem?_set] at h
    split at h
    · split at h
      · exact .inl (Option.some.inj h).symm
      · cases h
    · rename_i hne
      rcases wipeE_get env vs k s h with z | ⟨d, z1, z2, z3⟩
      · exact .inl z
      · exact .inr ⟨d, z1, z2, fun q => by
          rcases List.mem_cons.mp q with q | q
          · exact hne q.symm
          · exact z3 q⟩
theorem StR.hide {g : Gam} {w0 w : Wd} {H0 H : Hp} {σ : L2.St} {env : Envr} {S : Sto} {O : List (Option Addr)} (st : StR g w0 H0 w H σ env S O) (vs : List Nat) : StR g w H w H (wipe σ vs) (wipeE env vs) S (List.replicate σ.length none) := by
  have nn : ∀ (i : Nat) (p : Addr), (List.replicate σ.length (none : Option Addr))[i]? ≠ some (some p) := fun i p e => by
    rw [List.getElem?_replicate] at e
    split at e <;> cases e
  refine ⟨st.ok, .refl w H, by rw [wipeE_len, wipe_length]; exact st.l1, by rw [List.length_replicate, wipe_length], fun i s x o e1 e2 e3 => ?_, fun i j p e _ => absurd e (nn i p), fun i p e => absurd e (nn i p)⟩
  have eo : o = none := by
    rw [List.getElem?_replicate] at e3
    split at e3
    · exact (Option.some.inj e3).symm
    · cases e3
  rcases wipeE_get env vs i s e1 with z | ⟨d, z1, z2, z3⟩
  · rw [z]
    exact eo
  · rw [z1]
    rw [wipe_get σ vs i z3] at e2
    have hO : i < O.length := by
      rw [st.l2, ← st.l1]
      exact (List.getElem?_eq_some_iff.mp z2).1
    obtain ⟨_, v, q1, q2⟩ := st.sl i (.v d) x O[i] z2 e2 (List.getElem?_eq_getElem hO)
    exact ⟨eo, v, q1, q2⟩
def W0 : WX := fun _ _ _ _ => False
def lcR (g : MG) (tt : MT) (te : ME) (env : Envr) : List D → Sto → R (List D)
  | [], S => .ok [] S
  | d :: ds, S => match g d env with
    | none => .stuck
    | some e1 => match tt e1 S with
      | .ok true S1 => (match te e1 S1 with
        | .ok y S2 => (lcR g tt te env ds S2).bind fun ys S3 => .ok (y :: ys) S3
        | _ => .stuck)
      | .ok false S1 => lcR g tt te env ds S1
      | _ => .stuck
theorem lcR_noexc {g : MG} {tt : MT} {te : ME} {env : Envr} : ∀ (ds : List D) (S : Sto) (c : Str) (p : Option D) (s : Sto), lcR g tt te env ds S ≠ .exc c p s
  | [], S, c, p, s, h => by
    unfold lcR at h
    cases h
  | d :: ds, S, c, p, s, h => by
    unfold lcR at h
    split at h
    · cases h
    · split at h
      · split at h
        · rename_i y S2 _
          cases q : lcR g tt te env ds S2 with
          | stuck => rw [q] at h; cases h
          | exc c' p' s' => exact lcR_noexc ds S2 c' p' s' q
          | ok ys s' => rw [q] at h; cases h
        · cases h
      · exact lcR_noexc ds _ c p s h
      · cases h
theorem Frame.upd_new {w0 w : Wd} {H0 H : Hp} {p : Addr} {o : HO} (f : Frame w0 H0 w H) (h : H0 p = none) : Frame w0 H0 w (upd H p o) :=
  ⟨f.le, fun a x e n t => by
    rw [upd_ne (fun z => by rw [z, h] at e; cases e)]
    exact f.keep a x e n t, f.newG, f.rho, fun a e => by
    by_cases ha : a = p
    · rw [ha, upd_same]
      exact fun z => nomatch z
    · rw [upd_ne ha]
      exact f.dom a e, fun a ps e => by
    rw [upd_ne (fun z => by rw [z, h] at e; cases e)]
    exact f.tb a ps e, fun a x u e => by
    rw [upd_ne (fun z => by rw [z, h] at e; cases e)]
    exact f.fz a x u e⟩
theorem ok_upd {g : Gam} {w : Wd} {H : Hp} {S : Sto} {p : Addr} {xs : List V} {o : HO} (k : Ok g w H S) (e : H p = some (.lst xs)) (hg : w.G p = none) (hr : p ∉ w.rho) : Ok g w (upd H p o) S := by
  refine ⟨fun b u q => ?_, ⟨k.cells.nd, k.cells.len, fun m b q e9 e10 => ?_⟩, tabs_upd k.tabs (fun ps z => by rw [e] at z; cases z) (fun φ z => by rw [e] at z; cases z), k.notab⟩
  · rw [upd_ne (fun z => by rw [z, hg] at q; cases q)]
    exact k.ex b u q
  · obtain ⟨q1, q2⟩ := k.cells.at_ m b q e9 e10
    exact ⟨q1, q2.move (.refl w) (upd_ne fun z => hr (by rw [← z]; exact List.mem_of_getElem? e9))⟩
def fin (ys : List D) (S : Sto) : R Cell := if szB ys.length then .ok (.lst ys) S else .stuck
def fLc (mi : MI) (g : MG) (tt : MT) (te : ME) (vs : List Nat) : MF := fun env S => (mi env S).bind fun ds S1 => (lcR g tt te (wipeE env vs) ds S1).bind fin
theorem sim_lc {g : Gam} {is vs : List Nat} {tg : TG} {mg : MG} (hi : SimI g W wi mi) (hg : SimG g is tg mg) (hv : ∀ i ∈ is, i ∈ vs) (ht : SimT g W0 tt mt) (he : SimE g W0 te me) : SimF g W (tLc wi tg tt te vs) (fLc mi mg mt me vs) := fun w0 H0 w H σ env S O Q st p => by
  refine hi w0 H0 w H σ env S O _ st ((PostX.bind p).imp fun ds S1 w1 H1 st1 l1 p1 J hJ D hD => ?_)
  obtain ⟨o1, o2, o3, o4⟩ := st1.out hD
  refine ⟨fun i m H => m + i = ds.length ∧ ∃ w' S' acc accV, Frame w1 H1 w' H ∧ Ok g w' H S' ∧ H D = some (.lst accV) ∧ w'.G D = none ∧ D ∉ w'.rho ∧ RepL g w' acc accV ∧
    PostX g W w0 H0 w' σ env O ((lcR mg mt me (wipeE env vs) (ds.drop i) S').bind fun ys S3 => fin (acc ++ ys) S3) (fun c _ w' H' => ∀ p, OwnAt g w' H0 H' O c p → Q (.ref p) H'), ?_, ?_⟩
  · obtain ⟨k2, f2⟩ := ok_lay (o := .lst []) st1.ok hD nt_lst
    exact ⟨ds.length, by omega, w1, S1, [], [], f2, k2, upd_same, o2, o3, RepL.nil_, p1⟩
  · rintro i k H2 ⟨hk, w2, S2, acc, accV, f2, k2, e2, g2, r2, ra, p2⟩
    obtain ⟨hgo, hstop⟩ := hJ w2 H2 f2.le k2.ex
    have st2 : StR g w0 H0 w2 H2 σ env S2 O := st1.after f2 k2
    have stb : StR g w2 H2 w2 H2 (wipe σ vs) (wipeE env vs) S2 (List.replicate σ.length none) := st2.hide vs
    by_cases hlt : i < ds.length
    · have ed : ds.drop i = ds[i] :: ds.drop (i + 1) := List.drop_eq_getElem_cons hlt
      obtain ⟨go, yld⟩ := hgo i ds[i] (List.getElem?_eq_getElem hlt)
      refine .inr ⟨go, fun H => ∃ w' S' acc accV, Frame w1 H1 w' H ∧ Ok g w' H S' ∧ H D = some (.lst accV) ∧ w'.G D = none ∧ D ∉ w'.rho ∧ RepL g w' acc accV ∧
        PostX g W w0 H0 w' σ env O ((lcR mg mt me (wipeE env vs) (ds.drop (i + 1)) S').bind fun ys S3 => fin (acc ++ ys) S3) (fun c _ w' H' => ∀ p, OwnAt g w' H0 H' O c p → Q (.ref p) H'), fun H' h' => ⟨k - 1, by omega, by omega, h'⟩, fun x H' hy => ?_⟩
      obtain ⟨w3, gr, rx⟩ := yld x H' hy
      have st3 := stb.grow gr
      rw [ed] at p2
      unfold lcR at p2
      cases z : mg ds[i] (wipeE env vs) with
      | none => rw [z] at p2; exact False.elim p2
      | some e1 =>
        simp only [z] at p2
        refine hg w2 H2 w3 H' _ _ S2 _ ds[i] x _ e1 st3 rx z fun σ4 O4 st4 sl4 => ⟨?_, ?_⟩
        · rw [wipe_slots sl4 hv, wipe_wipe]
        · refine ht w2 H2 w3 H' σ4 e1 S2 O4 _ st4 ?_
          cases y : mt e1 S2 with
          | stuck => simp only [y] at p2; exact p2
          | exc c q s => simp only [y] at p2; exact False.elim p2
          | ok bb S5 =>
            intro w5 H5 st5 l5
            have keepD : ∀ {w6 : Wd} {H6 : Hp}, Frame w2 H2 w6 H6 → H6 D = some (.lst accV) ∧ w6.G D = none ∧ D ∉ w6.rho := fun {w6 H6} f6 =>
              ⟨f6.keep D _ e2 r2 nt_lst, (f6.newG D (by rw [e2]; exact fun z => nomatch z)).trans g2, fun q => by
                rcases f6.rho D q with z | z
                · exact r2 z
                · rw [e2] at z; cases z⟩
            cases bb with
            | false =>
              simp only [y] at p2
              simp only [Bool.false_eq_true, if_false]
              obtain ⟨q1, q2, q3⟩ := keepD st5.fr
              exact ⟨w5, S5, acc, accV, f2.trans st5.fr, st5.ok, q1, q2, q3, ra.mono st5.fr.le, PostX.mono p2 st5.fr.le⟩
            | true =>
              simp only [y] at p2
              simp only [if_true]
              refine he w2 H2 w5 H5 σ4 e1 S5 O4 _ st5 ?_
              cases u : me e1 S5 with
              | stuck => simp only [u] at p2; exact p2
              | exc c q s => simp only [u] at p2; exact False.elim p2
              | ok yv S6 =>
                simp only [u] at p2
                intro w6 H6 st6 l6 v6 r6
                obtain ⟨q1, q2, q3⟩ := keepD st6.fr
                have p3 : PostX g W w0 H0 w2 σ env O (((lcR mg mt me (wipeE env vs) (ds.drop (i + 1)) S6).bind fun ys S3 => R.ok (yv :: ys) S3).bind fun ys S3 => fin (acc ++ ys) S3) (fun c _ w' H' => ∀ p, OwnAt g w' H0 H' O c p → Q (.ref p) H') := p2
                have p4 : PostX g W w0 H0 w2 σ env O ((lcR mg mt me (wipeE env vs) (ds.drop (i + 1)) S6).bind fun ys S3 => fin ((acc ++ [yv]) ++ ys) S3) (fun c _ w' H' => ∀ p, OwnAt g w' H0 H' O c p → Q (.ref p) H') := by
                  cases q : lcR mg mt me (wipeE env vs) (ds.drop (i + 1)) S6 with
                  | stuck => rw [q] at p3; exact p3
                  | exc c a s => rw [q] at p3; exact p3
                  | ok ys s =>
                    rw [q] at p3
                    have p3 : PostX g W w0 H0 w2 σ env O (fin (acc ++ (yv :: ys)) s) _ := p3
                    show PostX g W w0 H0 w2 σ env O (fin ((acc ++ [yv]) ++ ys) s) _
                    rw [List.append_assoc]
                    exact p3
                have hsz : acc.length + 1 ≤ 100000 := by
                  cases q : lcR mg mt me (wipeE env vs) (ds.drop (i + 1)) S6 with
                  | stuck => rw [q] at p4; exact False.elim p4
                  | exc c a s => exact absurd q (lcR_noexc _ _ _ _ _)
                  | ok ys s =>
                    rw [q] at p4
                    have p4 : PostX g W w0 H0 w2 σ env O (fin ((acc ++ [yv]) ++ ys) s) _ := p4
                    unfold fin at p4
                    split at p4
                    · rename_i hz
                      have hz2 : ((acc ++ [yv]) ++ ys).length ≤ 100000 := of_decide_eq_true hz
                      simp only [List.length_append, List.length_cons, List.length_nil] at hz2
                      omega
                    · exact False.elim p4
                refine ⟨accV, q1, Nat.lt_of_lt_of_le (by rw [← ra.len]; omega) (by decide : 100000 ≤ sizeLine), ?_⟩
                have f7 := (f2.trans st6.fr).upd_new (o := .lst (accV ++ [v6])) hD
                have k7 := ok_upd (o := .lst (accV ++ [v6])) st6.ok q1 q2 q3
                exact ⟨w6, S6, acc ++ [yv], accV ++ [v6], f7, k7, upd_same, q2, q3, (ra.mono st6.fr.le).append_ (RepL.cons_ r6 RepL.nil_), PostX.mono p4 st6.fr.le⟩
    · have ei : i = ds.length := by omega
      refine .inl ⟨by rw [ei]; exact hstop, ?_⟩
      have ed : ds.drop i = [] := by rw [ei]; exact List.drop_length
      rw [ed] at p2
      have p2 : PostX g W w0 H0 w2 σ env O (fin (acc ++ []) S2) _ := p2
      rw [List.append_nil] at p2
      unfold fin at p2
      split at p2
      · exact p2 w2 H2 st2 (.refl w2) D ⟨o1, g2, r2, o4, ⟨accV, e2, ra⟩⟩
      · exact False.elim p2
end
end Mm
namespace Mm
open PySem L2
section
variable {X : Cx} {Y : Gam} {W : WX} {e a b c tg iter elt : Expr} {es rest ifs : List Expr} {ta tb te : TE} {tt tu : TT} {ma mb me : ME} {mt mu : MT} {mf : MF} {t : TA} {m : MA} {pos : Pos} {s : Stmt} {ss : List Stmt} {t1 t2 : TS} {m1 m2 : MS} {wi : TI} {mi : MI}
/-! ### list comprehensions as rules -/
structure ST (X : Cx) (Y : Gam) (W : WX) (ifs : List Expr) (t : TT) (m : MT) : Prop where
  pts : PTs X ifs t
  sim : SimT Y W t m
def cYes : MT := fun _ S => .ok true S
theorem ts_nil : ST X Y W [] tYes cYes := ⟨pts_nil, fun w0 H0 w H σ env S O Q st p => p w H st (.refl w)⟩
theorem ts_one (h : SC X Y W c tt mt) : ST X Y W [c] tt mt := ⟨pts_one h.pt, h.sim⟩
variable {scope : Scope} {own : List (Str × Nat)} {is : List Nat} {g : TG} {mg : MG}
theorem f_lc (hN : X.N.Nodup) (hi : SI X Y W tg iter wi mi) (ok : BlkOk X.N X.env.scope scope own) (hg : ∀ (s : Shared) (H : Hp) (C : Addr) (cl : List (Str × Addr)) (fp : List Addr), SG (X.blk s H scope (compEnvC scope cl C X.env) fp) Y is tg g mg)
    (ht : ∀ (s : Shared) (H : Hp) (C : Addr) (cl : List (Str × Addr)) (fp : List Addr), ST (X.blk s H scope (compEnvC scope cl C X.env) fp) Y W0 ifs tt mt)
    (he : ∀ (s : Shared) (H : Hp) (C : Addr) (cl : List (Str × Addr)) (fp : List Addr), SE (X.blk s H scope (compEnvC scope cl C X.env) fp) Y W0 elt te me) (hv : ∀ i ∈ is, i ∈ own.map (·.2) := by decide) (hc : X.calm = true := by rfl) (hs : ∀ x, foldedSetIterable iter X.env x = pure x := by intro _; rfl) :
    SF X Y W (.ListComp elt [⟨tg, iter, ifs, 0⟩] scope pos) (tLc wi g tt te (own.map (·.2))) (fLc mi mg mt me (own.map (·.2))) :=
  ⟨pe_lc hc hN hi.pi ok (fun s H C cl fp => (hg s H C cl fp).pg) (fun s H C cl fp => (ht s H C cl fp).pts) (fun s H C cl fp => (he s H C cl fp).pe) hs,
    sim_lc hi.sim (hg X.s_0 X.H_0 0 [] []).sim hv (ht X.s_0 X.H_0 0 [] []).sim (he X.s_0 X.H_0 0 [] []).sim⟩
/-! ### a def -/
def startE (n : Nat) (ds : List D) : Envr := ds.map Sl.v ++ List.replicate (n - ds.length) .no
def mFn (n : Nat) (m : MS) : MFn := fun ds S => match m (startE n ds) S with
  | .nx _ S1 => .ok (.val .non) S1
  | .rt r S1 => .ok r S1
  | .exc c p _ S1 => .exc c p S1
  | _ => .stuck
theorem stR_start {g : Gam} {w : Wd} {H : Hp} {S : Sto} {N : List Str} {ds : List D} {vs : List V} (k : Ok g w H S) (r : RepL g w ds vs) : StR g w H w H (L2.start N vs) (startE N.length ds) S (List.replicate (L2.start N vs).length none) := by
  have nn : ∀ (i : Nat) (p : Addr), (List.replicate (L2.start N vs).length (none : Option Addr))[i]? ≠ some (some p) := fun i p e => by
    rw [List.getElem?_replicate] at e
    split at e <;> cases e
  refine ⟨k, .refl w H, ?_, List.length_replicate, fun i s x o e1 e2 e3 => ?_, fun i j p e _ => absurd e (nn i p), fun i p e => absurd e (nn i p)⟩
  · unfold startE L2.start
    rw [List.length_append, List.length_append, List.length_map, List.length_map, List.length_replicate, List.length_replicate, r.len]
  · have eo : o = none := by
      rw [List.getElem?_replicate] at e3
      split at e3
      · exact (Option.some.inj e3).symm
      · cases e3
    unfold startE at e1
    unfold L2.start at e2
    by_cases hi : i < ds.length
    · rw [List.getElem?_append_left (by rw [List.length_map]; exact hi), List.getElem?_map, List.getElem?_eq_getElem hi] at e1
      obtain ⟨v, ev, rv⟩ := r.at_ (List.getElem?_eq_getElem hi)
      rw [List.getElem?_append_left (by rw [List.length_map, ← r.len]; exact hi), List.getElem?_map, ev] at e2
      cases e1
      cases e2
      exact ⟨eo, v, rfl, rv⟩
    · rw [List.getElem?_append_right (by rw [List.length_map]; omega), List.getElem?_replicate] at e1
      split at e1
      · cases e1
        exact eo
      · cases e1
theorem fn_post {g : Gam} {w : Wd} {H : Hp} {S : Sto} {N : List Str} {ds : List D} {vs : List V} {Q : VK} {E : XK} (k : Ok g w H S) (r : RepL g w ds vs) (h : SimS g (fun cls d _ H => E cls d H) t1 m1) (p : PostF g w H Q E (mFn N.length m1 ds S)) :
    t1 { nx := fun _ H' => Q .non H', rt := Q } (L2.start N vs) H := by
  refine h w H w H _ (startE N.length ds) S _ _ (stR_start k r) ?_
  unfold mFn at p
  cases q : m1 (startE N.length ds) S with
  | stuck => rw [q] at p; exact p
  | bk e S1 => rw [q] at p; exact False.elim p
  | ct e S1 => rw [q] at p; exact False.elim p
  | nx e S1 =>
    rw [q] at p
    exact fun w' H' σ' O' st' _ => p w' H' .non st'.fr st'.ok (by unfold RetR Rep; rfl)
  | rt rr S1 =>
    rw [q] at p
    exact fun w' H' v k' f' r' => p w' H' v f' k' r'
  | exc c x e S1 =>
    rw [q] at p
    exact fun w' H' σ' O' cls dd st' _ x => p w' H' cls dd st'.fr st'.ok x
theorem fn_sim {P : Program} {w : World} {K : PySem.W.Frag} {mg : Str → Option Value} {base : Heap} {x qual : Str} {params : Arguments} {body : List Stmt} {scope : Scope} {dvs : List V} {kws : List (Str × V)} {f : Addr} {fd : FuncData} {N ps : List Str} {k n : Nat} {m1 : MS} (Y : Gam)
    (F : FunD K x qual params body scope dvs kws f fd) (S : FnScope N ps scope) (hn : n = ps.length)
    (hbody : ∀ (cdv : Value) (A : Around) (outer : List Env) (s : Shared) (H : Hp) (E : XK), Room k (A.deeper (PyProof.Rows.envOfC qual scope s.heap.objs.size f cdv)) → L2N.Takes (cxOf (L2N.CX P w) P w K mg base N qual scope f cdv A outer s H E) (fun cls d _ H => E cls d H) →
      PassesOwn (model P w) (A.deeper (PyProof.Rows.envOfC qual scope s.heap.objs.size f cdv)) (PyProof.Rows.envOfC qual scope s.heap.objs.size f cdv) (cxOf (L2N.CX P w) P w K mg base N qual scope f cdv A outer s H E).xe →
      ∃ t1, SB (cxOf (L2N.CX P w) P w K mg base N qual scope f cdv A outer s H E) Y (fun cls d _ H => E cls d H) body t1 m1) :
    FnOk P w K mg base (L2N.CX P w) (k + 1) f fd ps (spOf Y n (mFn N.length m1)) :=
  F.ok S (fun vs H Q E h => by rw [h.1, hn]) (fun cdv A outer s H vs Q E hr h => by
    obtain ⟨_, w1, ds, S1, k1, r1, p1⟩ := h
    obtain ⟨t1, B⟩ := hbody cdv A outer s H E hr (L2N.takes_of rfl rfl rfl rfl) (passes_of rfl)
    exact ⟨_, B.pss, fn_post k1 r1 B.sim p1⟩)
end
end Mm
namespace Mm
open PySem L2
theorem rep_lst {g : Gam} {w : Wd} {ds : List D} {v : V} (h : Rep g w (.lst ds) v) : ∃ a vs, v = .ref a ∧ w.G a = some (.lst vs) ∧ RepL g w ds vs := by
  unfold Rep at h
  exact h
theorem rep_tup {g : Gam} {w : Wd} {ds : List D} {v : V} (h : Rep g w (.tup ds) v) : ∃ a vs, v = .ref a ∧ SqT g.K w.G a vs ∧ RepL g w ds vs := by
  unfold Rep at h
  exact h
theorem rep_str {g : Gam} {w : Wd} {x : Str} {v : V} (h : Rep g w (.str x) v) : v = .str x := by
  unfold Rep at h
  exact h
theorem rep_bl {g : Gam} {w : Wd} {x : Bool} {v : V} (h : Rep g w (.bl x) v) : v = .bl x := by
  unfold Rep at h
  exact h
theorem rep_non {g : Gam} {w : Wd} {v : V} (h : Rep g w .non v) : v = .non := by
  unfold Rep at h
  exact h
theorem rep_ref {g : Gam} {w : Wd} {n : Nat} {v : V} (h : Rep g w (.ref n) v) : ∃ a, w.rho[n]? = some a ∧ v = .ref a := by
  unfold Rep at h
  exact h
theorem rep_str' {g : Gam} {w : Wd} {x : Str} : Rep g w (.str x) (.str x) := by
  unfold Rep
  rfl
theorem repL_two {g : Gam} {w : Wd} {d1 d2 : D} {vs : List V} (h : RepL g w [d1, d2] vs) : ∃ v1 v2, vs = [v1, v2] ∧ Rep g w d1 v1 ∧ Rep g w d2 v2 := by
  unfold RepL at h
  obtain ⟨v1, r1, e1, q1, h⟩ := h
  unfold RepL at h
  obtain ⟨v2, r2, e2, q2, h⟩ := h
  unfold RepL at h
  subst h e2
  exact ⟨v1, v2, e1, q1, q2⟩
theorem repL_one {g : Gam} {w : Wd} {d1 : D} {vs : List V} (h : RepL g w [d1] vs) : ∃ v1, vs = [v1] ∧ Rep g w d1 v1 := by
  unfold RepL at h
  obtain ⟨v1, r1, e1, q1, h⟩ := h
  unfold RepL at h
  subst h
  exact ⟨v1, e1, q1⟩
/-! ### lists of one kind -/
def intsOf : List D → Option (List Int)
  | [] => some []
  | .int i :: ds => (intsOf ds).map (i :: ·)
  | _ => none
theorem intsOf_map (ns : List Int) : intsOf (ns.map D.int) = some ns := by
  induction ns with
  | nil => rfl
  | cons n ns ih =>
    unfold List.map intsOf
    rw [ih]
    rfl
def blsOf : List D → Option (List Bool)
  | [] => some []
  | .bl i :: ds => (blsOf ds).map (i :: ·)
  | _ => none
theorem blsOf_map (ns : List Bool) : blsOf (ns.map D.bl) = some ns := by
  induction ns with
  | nil => rfl
  | cons n ns ih =>
    unfold List.map blsOf
    rw [ih]
    rfl
theorem blsOf_rep {g : Gam} {w : Wd} : ∀ {ds : List D} {ns : List Bool} {vs : List V}, blsOf ds = some ns → RepL g w ds vs → vs = ns.map V.bl
  | [], ns, vs, h, r => by
    unfold blsOf at h
    unfold RepL at r
    cases h
    exact r
  | d :: ds, ns, vs, h, r => by
    cases d with
    | bl i =>
      unfold blsOf at h
      cases q : blsOf ds with
      | none => rw [q] at h; cases h
      | some ns' =>
        rw [q] at h
        cases h
        unfold RepL at r
        obtain ⟨v, r', e1, a, b⟩ := r
        rw [e1, rep_bl a, blsOf_rep q b]
        rfl
    | _ =>
      unfold blsOf at h
      cases h
/-! ### what is walked -/
section
variable {X : Cx} {Y : Gam} {W : WX} {e a b c tg iter elt : Expr} {es rest ifs : List Expr} {ta tb te : TE} {tt tu : TT} {ma mb me : ME} {mt mu : MT} {mf : MF} {t : TA} {m : MA} {pos p : Pos} {s : Stmt} {ss : List Stmt} {t1 t2 : TS} {m1 m2 : MS} {wi : TI} {mi : MI}
def iSeq (K : PySem.W.Frag) (tl : TE) : TI := fun σ H R => tl σ H fun x H1 => ∃ a, x = .ref a ∧ (((∃ xs, SqL K H1 a xs) ∧ R (Itl K a) H1) ∨ ((∃ xs, SqT K H1 a xs) ∧ R (Itt K a) H1))
theorem pi_seq {l : Expr} {tl : TE} (hl : PE X l tl) : PI X tg l (iSeq X.K tl) := by
  refine ⟨fun pins s σ H R I h => ?_⟩
  refine thn (hl.run pins s σ H _ I h) fun v s1 ⟨x, H1, I1, r1, q1⟩ => ?_
  obtain ⟨a, e, q1⟩ := q1
  subst e
  cases r1
  rcases q1 with ⟨⟨xs, hq⟩, q⟩ | ⟨⟨xs, hq⟩, q⟩
  · obtain ⟨its, rv, p, hz⟩ := I1.list hq
    refine wpAny_pyIter_list p.isList ?_
    refine ⟨s1.heap.objs.size, [s1.heap.objs.size], _, _, H1, rfl, I1.kept (t' := s1.toks) fun b o e => Heap.get?_push_of_some _ e, turn_list a _, ⟨_, Heap.get?_push_size _ rfl, rfl, rfl⟩, fun b hb => ?_, q⟩
    have e : b = s1.heap.objs.size := by simpa using hb
    subst e
    exact I1.fpOk (Nat.le_refl _) (I1.hok.fresh (Nat.le_refl _))
  · obtain ⟨its, rv, p, hz⟩ := I1.tuple hq
    refine wpAny_pyIter_tuple (show s1.heap.IsTuple a its.toArray from p) ?_
    refine ⟨s1.heap.objs.size, [s1.heap.objs.size], _, _, H1, rfl, I1.kept (t' := s1.toks) fun b o e => Heap.get?_push_of_some _ e, turn_tuple a _, ⟨_, Heap.get?_push_size _ rfl, rfl, rfl⟩, fun b hb => ?_, q⟩
    have e : b = s1.heap.objs.size := by simpa using hb
    subst e
    exact I1.fpOk (Nat.le_refl _) (I1.hok.fresh (Nat.le_refl _))
def itL (me : ME) : MI := fun env S => (me env S).bind fun d S1 => match d with
  | .lst ds => .ok ds S1
  | .tup ds => .ok ds S1
  | _ => .stuck
theorem itR_list {g : Gam} {w : Wd} {a : Addr} {ds : List D} {vs : List V} (e : w.G a = some (.lst vs)) (r : RepL g w ds vs) : ItR g w (Itl g.K a) ds := fun w2 H2 l x => by
  have q : SqL g.K H2 a vs := .inl (.inl (x _ _ (l.ex _ _ e)))
  refine ⟨fun i d hd => ?_, ⟨vs, q, by rw [r.len]; exact Nat.le_refl _⟩⟩
  obtain ⟨v, hv, rv⟩ := r.at_ hd
  refine ⟨⟨vs, v, q, hv⟩, fun y H' hy => ?_⟩
  obtain ⟨e1, e2⟩ := hy
  have e3 := e2 vs q
  rw [hv] at e3
  cases e3
  rw [e1]
  exact ⟨w2, .refl, rv.mono l⟩
theorem itR_tup {g : Gam} {w : Wd} {a : Addr} {ds : List D} {vs : List V} (e : SqT g.K w.G a vs) (r : RepL g w ds vs) : ItR g w (Itt g.K a) ds := fun w2 H2 l x => by
  have q : SqT g.K H2 a vs := same_sqT (l.ex.trans x) e
  refine ⟨fun i d hd => ?_, ⟨vs, q, by rw [r.len]; exact Nat.le_refl _⟩⟩
  obtain ⟨v, hv, rv⟩ := r.at_ hd
  refine ⟨⟨vs, v, q, hv⟩, fun y H' hy => ?_⟩
  obtain ⟨e1, e2⟩ := hy
  have e3 := e2 vs q
  rw [hv] at e3
  cases e3
  rw [e1]
  exact ⟨w2, .refl, rv.mono l⟩
theorem i_seq (h : SE X Y W e te me) (hK : X.K = Y.K := by rfl) : SI X Y W tg e (iSeq Y.K te) (itL me) := ⟨hK ▸ pi_seq h.pe, fun w0 H0 w H σ env S O Q st p =>
  h.sim w0 H0 w H σ env S O _ st ((PostX.bind p).imp fun d S1 w1 H1 st1 l1 p1 v r => by
    cases d with
    | lst ds =>
      obtain ⟨a, vs, e1, e2, e3⟩ := rep_lst r
      exact ⟨a, e1, .inl ⟨⟨vs, .inl (.inl (st1.ok.ex _ _ e2))⟩, p1 w1 H1 st1 (.refl w1) _ (itR_list (g := Y) e2 e3)⟩⟩
    | tup ds =>
      obtain ⟨a, vs, e1, e2, e3⟩ := rep_tup r
      exact ⟨a, e1, .inr ⟨⟨vs, same_sqT st1.ok.ex e2⟩, p1 w1 H1 st1 (.refl w1) _ (itR_tup (g := Y) e2 e3)⟩⟩
    | _ => exact False.elim p1)⟩
def rngD (lo : Int) (n : Nat) : List D := (List.range n).map fun (i : Nat) => D.int (lo + i)
theorem itR_rng {g : Gam} {w : Wd} (lo : Int) (n : Nat) : ItR g w (Itr lo n) (rngD lo n) := fun w2 H2 l x => by
  refine ⟨fun i d hd => ?_, ?_⟩
  · unfold rngD at hd
    rw [List.getElem?_map] at hd
    have hi : i < n := by
      cases q : (List.range n)[i]? with
      | none => rw [q] at hd; cases hd
      | some j =>
        have := (List.getElem?_eq_some_iff.mp q).1
        simpa using this
    rw [List.getElem?_range hi] at hd
    cases hd
    refine ⟨hi, fun y H' hy => ?_⟩
    obtain ⟨e1, e2⟩ := hy
    rw [e1, e2]
    exact ⟨w2, .refl, rep_int'⟩
  · show n ≤ (rngD lo n).length
    unfold rngD
    rw [List.length_map, List.length_range]
    exact Nat.le_refl _
def bBnd (i : Int) (n : Nat) : Bool := Nat.ble i.natAbs n
theorem bBnd_iff {i : Int} {n : Nat} : bBnd i n = true ↔ i.natAbs ≤ n := Iff.of_eq Nat.ble_eq
def rgB (i : Int) : Bool := bBnd i 4611686018427387903
theorem rgB_ok {i : Int} (h : rgB i = true) : -(2 ^ 62) ≤ i ∧ i < 2 ^ 62 := by
  have := bBnd_iff.mp h
  omega
def itR1 (m : MA) : MI := fun env S => (m env S).bind fun ds S1 => match ds with
  | [.int j] => if rgB j then .ok (rngD 0 j.toNat) S1 else .stuck
  | _ => .stuck
def itR2 (m : MA) : MI := fun env S => (m env S).bind fun ds S1 => match ds with
  | [.int i, .int j] => if rgB i && rgB j then .ok (rngD i (j - i).toNat) S1 else .stuck
  | _ => .stuck
theorem i_range1 (hm : X.mg "range" = none) (ha : SA X Y W [a] t m) (hg : Gl X "range" := by rfl) (hs : starEach [a] X.env = [(false, eval a X.env)] := by rfl) : SI X Y W tg (.Call (.Name "range" p) [a] [] pos) (iRng1 t) (itR1 m) := ⟨pi_range1 hg hm ha.pa hs, fun w0 H0 w H σ env S O Q st p =>
  ha.sim w0 H0 w H σ env S O _ st ((PostX.bind p).imp fun ds S1 w1 H1 st1 l1 p1 vs r => by
    split at p1
    · rename_i j
      split at p1
      · rename_i z
        obtain ⟨v, e1, e2⟩ := repL_one r
        rw [rep_int e2] at e1
        exact ⟨j, e1, (rgB_ok z).1, (rgB_ok z).2, p1 w1 H1 st1 (.refl w1) _ (itR_rng 0 _)⟩
      · exact False.elim p1
    · exact False.elim p1)⟩
/-- enumerate -/
def enumD (k : Nat) : List D → List D
  | [] => []
  | d :: ds => .tup [.int (k : Nat), d] :: enumD (k + 1) ds
def itE (m : MA) : MI := fun env S => (m env S).bind fun ds S1 => match ds with
  | [.lst ds] => .ok (enumD 0 ds) S1
  | _ => .stuck
/-- zip of two lists -/
def zipD : List D → List D → List D
  | x :: xs, y :: ys => .tup [x, y] :: zipD xs ys
  | _, _ => []
theorem zipD_at : ∀ (xs ys : List D) (i : Nat) (z : D), (zipD xs ys)[i]? = some z → ∃ x y, xs[i]? = some x ∧ ys[i]? = some y ∧ z = .tup [x, y]
  | [], _, _, _, h => by simp [zipD] at h
  | _ :: _, [], _, _, h => by simp [zipD] at h
  | x :: xs, y :: ys, 0, z, h => by
    unfold zipD at h
    exact ⟨x, y, rfl, rfl, (Option.some.inj h).symm⟩
  | x :: xs, y :: ys, i + 1, z, h => by
    unfold zipD at h
    exact zipD_at xs ys i z h
theorem zipD_len : ∀ (xs ys : List D), (zipD xs ys).length = min xs.length ys.length
  | [], _ => by simp [zipD]
  | _ :: _, [] => by simp [zipD]
  | x :: xs, y :: ys => by
    unfold zipD
    rw [List.length_cons, zipD_len xs ys, List.length_cons, List.length_cons]
    omega
theorem itR_zip {g : Gam} {w : Wd} {a b : Addr} {ds es : List D} {vs us : List V} (e : w.G a = some (.lst vs)) (r : RepL g w ds vs) (e' : w.G b = some (.lst us)) (r' : RepL g w es us) : ItR g w (Itz g.K a b) (zipD ds es) := fun w2 H2 l x => by
  have q : SqL g.K H2 a vs := .inl (.inl (x _ _ (l.ex _ _ e)))
  have q' : SqL g.K H2 b us := .inl (.inl (x _ _ (l.ex _ _ e')))
  refine ⟨fun i d hd => ?_, ⟨vs, us, q, q', by rw [zipD_len, r.len, r'.len]; omega⟩⟩
  obtain ⟨d1, d2, h1, h2, ed⟩ := zipD_at ds es i d hd
  obtain ⟨v, hv, rv⟩ := r.at_ h1
  obtain ⟨u, hu, ru⟩ := r'.at_ h2
  refine ⟨⟨vs, us, v, u, q, q', hv, hu⟩, fun y H' hy => ?_⟩
  obtain ⟨T, x', y', e1, e2, e3, e4, e5⟩ := hy
  have e6 := e4 vs q
  have e7 := e5 us q'
  rw [hv] at e6
  rw [hu] at e7
  cases e6
  cases e7
  rw [e1, e3, ed]
  refine ⟨_, Grow.one e2 nt_tup, ?_⟩
  unfold Rep
  have le : w2.le ⟨w2.rho, upd w2.G T (.tup [v, u])⟩ := ⟨⟨[], by simp⟩, same_upd (none_of_same x e2)⟩
  exact ⟨T, _, rfl, .inl (.inl upd_same), RepL.cons_ ((rv.mono l).mono le) (RepL.cons_ ((ru.mono l).mono le) RepL.nil_)⟩
def itZ (m : MA) : MI := fun env S => (m env S).bind fun ds S1 => match ds with
  | [.lst xs, .lst ys] => .ok (zipD xs ys) S1
  | _ => .stuck
end
end Mm
namespace Mm
open PySem L2
/-! ### sorting -/
def ins1 (x : Int) : List Int → List Int
  | [] => [x]
  | y :: ys => if x ≤ y then x :: y :: ys else y :: ins1 x ys
def isrt : List Int → List Int
  | [] => []
  | x :: xs => ins1 x (isrt xs)
section
variable {X : Cx} {Y : Gam} {W : WX} {e a b c tg iter elt : Expr} {es rest ifs : List Expr} {ta tb te : TE} {tt tu : TT} {ma mb me : ME} {mt mu : MT} {mf : MF} {t : TA} {m : MA} {pos p : Pos} {s : Stmt} {ss : List Stmt} {t1 t2 : TS} {m1 m2 : MS} {wi : TI} {mi : MI} {x : Str}
/-! ### built-ins by values -/
def CallD (g : Gam) (r : List V → Hp → VK → Prop) (f : Sto → List D → Option D) : Prop := ∀ w H S ds vs d (Q : VK), Ok g w H S → RepL g w ds vs → f S ds = some d → (∀ w' H' v, Grow w H w' H' → Rep g w' d v → Q v H') → r vs H Q
def CallO (g : Gam) (r : List V → Hp → VK → Prop) (f : Sto → List D → Option Cell) : Prop := ∀ w H S ds vs c (Q : VK), Ok g w H S → RepL g w ds vs → f S ds = some c → (∀ p o, H p = none → (∀ ps, o ≠ .tbl ps) → CellR g w (upd H p o) p c → Q (.ref p) (upd H p o)) → r vs H Q
def eCB (f : Sto → List D → Option D) (m : MA) : ME := fun env S => (m env S).bind fun ds S1 => opt (f S1 ds) S1
def fCB (f : Sto → List D → Option Cell) (m : MA) : MF := fun env S => (m env S).bind fun ds S1 => opt (f S1 ds) S1
theorem sim_cb {g : Gam} {r : List V → Hp → VK → Prop} {f : Sto → List D → Option D} (h : CallD g r f) (ha : SimA g W t m) : SimE g W (tCB r t) (eCB f m) := fun w0 H0 w H σ env S O Q st p =>
  ha w0 H0 w H σ env S O _ st ((PostX.bind p).imp fun ds S1 w1 H1 st1 l1 p1 vs rs => by
    obtain ⟨d, e, k⟩ := PostX.opt_ p1 st1
    exact h w1 H1 S1 ds vs d Q st1.ok rs e fun w3 H3 v q r => k w3 H3 (st1.grow q) (q.le st1.ok) v r)
theorem sim_co {g : Gam} {r : List V → Hp → VK → Prop} {f : Sto → List D → Option Cell} (h : CallO g r f) (ha : SimA g W t m) : SimF g W (tCB r t) (fCB f m) := fun w0 H0 w H σ env S O Q st p =>
  ha w0 H0 w H σ env S O _ st ((PostX.bind p).imp fun ds S1 w1 H1 st1 l1 p1 vs rs => by
    obtain ⟨d, e, k⟩ := PostX.opt_ p1 st1
    exact h w1 H1 S1 ds vs d Q st1.ok rs e fun q o hq nt hc => k w1 _ (st1.lay hq nt) (.refl w1) q (st1.own_new hq hc))
theorem s_cb {id : String} {r : List V → Hp → VK → Prop} {f : Sto → List D → Option D} (hd : CallD Y r f) (hc : CallR X (.builtin id) r) (hm : X.mg x = none) (hv : bootBuiltins x = some (.builtin id)) (ha : SA X Y W (e :: es) t m) (hg : Gl X x := by rfl) (hn : x ≠ "__name__" := by decide) (hdb : (x == ("__debug__" : Str)) = false := by decide)
    (he : starEach (e :: es) X.env = (false, eval e X.env) :: starEach es X.env := by rfl) (hpl : (backTo pos (starEach es X.env)).any (·.1) = false := by rfl) : SE X Y W (.Call (.Name x p) (e :: es) [] pos) (tCB r t) (eCB f m) := ⟨pe_callB hc hg hm hv ha.pa hn hdb he hpl, sim_cb hd ha.sim⟩
theorem s_ct {id : String} {r : List V → Hp → VK → Prop} {f : Sto → List D → Option D} (hd : CallD Y r f) (hc : CallR X (.type id) r) (hm : X.mg x = none) (hv : bootBuiltins x = some (.type id)) (ha : SA X Y W (e :: es) t m) (hg : Gl X x := by rfl) (hn : x ≠ "__name__" := by decide) (hdb : (x == ("__debug__" : Str)) = false := by decide)
    (he : starEach (e :: es) X.env = (false, eval e X.env) :: starEach es X.env := by rfl) (hpl : (backTo pos (starEach es X.env)).any (·.1) = false := by rfl) : SE X Y W (.Call (.Name x p) (e :: es) [] pos) (tCB r t) (eCB f m) := ⟨pe_callTy hc hg hm hv ha.pa hn hdb he hpl, sim_cb hd ha.sim⟩
theorem f_ct {id : String} {r : List V → Hp → VK → Prop} {f : Sto → List D → Option Cell} (hd : CallO Y r f) (hc : CallR X (.type id) r) (hm : X.mg x = none) (hv : bootBuiltins x = some (.type id)) (ha : SA X Y W (e :: es) t m) (hg : Gl X x := by rfl) (hn : x ≠ "__name__" := by decide) (hdb : (x == ("__debug__" : Str)) = false := by decide)
    (he : starEach (e :: es) X.env = (false, eval e X.env) :: starEach es X.env := by rfl) (hpl : (backTo pos (starEach es X.env)).any (·.1) = false := by rfl) : SF X Y W (.Call (.Name x p) (e :: es) [] pos) (tCB r t) (fCB f m) := ⟨pe_callTy hc hg hm hv ha.pa hn hdb he hpl, sim_co hd ha.sim⟩
/-- len: a list, a tuple, a cell's list, a text -/
def fLen : Sto → List D → Option D
  | _, [.lst ds] => some (.int ds.length)
  | _, [.tup ds] => some (.int ds.length)
  | S, [.ref n] => (match S[n]? with
    | some (.lst ds) => some (.int ds.length)
    | _ => none)
  | _, [.str z] => if szB z.length then some (.int z.length) else none
  | _, _ => none
theorem cell_lst {g : Gam} {w : Wd} {H : Hp} {S : Sto} {n : Nat} {v : V} {ds : List D} (k : Ok g w H S) (r : Rep g w (.ref n) v) (h : S[n]? = some (.lst ds)) : ∃ a vs, v = .ref a ∧ w.rho[n]? = some a ∧ H a = some (.lst vs) ∧ RepL g w ds vs := by
  obtain ⟨a, e1, e2⟩ := rep_ref r
  obtain ⟨_, vs, e3, e4⟩ := k.cells.at_ n a _ e1 h
  exact ⟨a, vs, e2, e1, e3, e4⟩
theorem CallR.or {f : Value} {r r' : List V → Hp → VK → Prop} (h : CallR X f r) (h' : CallR X f r') : CallR X f (fun xs H Q => r xs H Q ∨ r' xs H Q) := fun pins s σ H xs us Q I r1 q => q.elim (h pins s σ H xs us Q I r1) (h' pins s σ H xs us Q I r1)
def rLn (K : PySem.W.Frag) : List V → Hp → VK → Prop := fun xs H Q => (∃ p ys, xs = [.ref p] ∧ (SqL K H p ys ∨ SqT K H p ys) ∧ Q (.int ys.length) H) ∨ ∃ z, xs = [.str z] ∧ z.length ≤ sizeLine ∧ Q (.int z.length) H
theorem cr_len : CallR X (.builtin "len") (rLn X.K) := CallR.or call_len_seq call_len_str
theorem cd_len {g : Gam} : CallD g (rLn g.K) fLen := fun w H S ds vs d Q k r e q => by
  unfold fLen at e
  split at e
  · rename_i ds
    cases e
    obtain ⟨v, e1, e2⟩ := repL_one r
    obtain ⟨a, us, x1, x2, x3⟩ := rep_lst e2
    rw [x1] at e1
    exact .inl ⟨a, us, e1, .inl (.inl (.inl (k.ex _ _ x2))), q w H _ .refl (by rw [x3.len]; exact rep_int')⟩
  · rename_i ds
    cases e
    obtain ⟨v, e1, e2⟩ := repL_one r
    obtain ⟨a, us, x1, x2, x3⟩ := rep_tup e2
    rw [x1] at e1
    exact .inl ⟨a, us, e1, .inr (same_sqT k.ex x2), q w H _ .refl (by rw [x3.len]; exact rep_int')⟩
  · rename_i n
    split at e
    · rename_i ds hS
      cases e
      obtain ⟨v, e1, e2⟩ := repL_one r
      obtain ⟨a, us, x1, x2, x3, x4⟩ := cell_lst k e2 hS
      rw [x1] at e1
      exact .inl ⟨a, us, e1, .inl (.inl (.inl x3)), q w H _ .refl (by rw [x4.len]; exact rep_int')⟩
    · cases e
  · rename_i z
    split at e
    · rename_i hz
      cases e
      obtain ⟨v, e1, e2⟩ := repL_one r
      rw [rep_str e2] at e1
      exact .inr ⟨z, e1, szB_le hz, q w H _ .refl rep_int'⟩
    · cases e
  · cases e
/-- list(x): a new list -/
def fListOf : Sto → List D → Option Cell
  | _, [.lst ds] => some (.lst ds)
  | _, [.tup ds] => some (.lst ds)
  | S, [.ref n] => (match S[n]? with
    | some (.lst ds) => some (.lst ds)
    | _ => none)
  | _, _ => none
theorem co_list {g : Gam} : CallO g (fun xs H Q => ∃ p ys, xs = [.ref p] ∧ (SqL g.K H p ys ∨ SqT g.K H p ys) ∧ ∀ l, H l = none → Q (.ref l) (upd H l (.lst ys))) fListOf := fun w H S ds vs c Q k r e q => by
  unfold fListOf at e
  split at e
  · cases e
    obtain ⟨v, e1, e2⟩ := repL_one r
    obtain ⟨a, us, x1, x2, x3⟩ := rep_lst e2
    rw [x1] at e1
    exact ⟨a, us, e1, .inl (.inl (.inl (k.ex _ _ x2))), fun l hl => q l _ hl nt_lst ⟨us, upd_same, x3⟩⟩
  · cases e
    obtain ⟨v, e1, e2⟩ := repL_one r
    obtain ⟨a, us, x1, x2, x3⟩ := rep_tup e2
    rw [x1] at e1
    exact ⟨a, us, e1, .inr (same_sqT k.ex x2), fun l hl => q l _ hl nt_lst ⟨us, upd_same, x3⟩⟩
  · split at e
    · rename_i ds hS
      cases e
      obtain ⟨v, e1, e2⟩ := repL_one r
      obtain ⟨a, us, x1, x2, x3, x4⟩ := cell_lst k e2 hS
      rw [x1] at e1
      exact ⟨a, us, e1, .inl (.inl (.inl x3)), fun l hl => q l _ hl nt_lst ⟨us, upd_same, x4⟩⟩
    · cases e
  · cases e
/-- tuple(x) -/
def fTupOf : Sto → List D → Option D
  | _, [.lst ds] => some (.tup ds)
  | _, [.tup ds] => some (.tup ds)
  | _, _ => none
theorem cd_tup {g : Gam} : CallD g (fun xs H Q => ∃ p ys, xs = [.ref p] ∧ ((SqL g.K H p ys ∧ ∀ l, H l = none → Q (.ref l) (upd H l (.tup ys))) ∨ (SqT g.K H p ys ∧ Q (.ref p) H))) fTupOf := fun w H S ds vs d Q k r e q => by
  unfold fTupOf at e
  split at e
  · cases e
    obtain ⟨v, e1, e2⟩ := repL_one r
    obtain ⟨a, us, x1, x2, x3⟩ := rep_lst e2
    rw [x1] at e1
    exact ⟨a, us, e1, .inl ⟨.inl (.inl (k.ex _ _ x2)), fun l hl => q _ _ _ (Grow.one hl nt_tup) (rep_tup_new k hl x3)⟩⟩
  · cases e
    obtain ⟨v, e1, e2⟩ := repL_one r
    obtain ⟨a, us, x1, x2, x3⟩ := rep_tup e2
    rw [x1] at e1
    exact ⟨a, us, e1, .inr ⟨same_sqT k.ex x2, q w H _ .refl (by rw [← x1]; exact e2)⟩⟩
  · cases e
/-- sorted(ints): a new list -/
def fSorted : Sto → List D → Option Cell
  | _, [.lst ds] => (intsOf ds).map fun ns => .lst ((isrt ns).map D.int)
  | _, _ => none
def fSum : Sto → List D → Option D
  | _, [.lst ds] => (intsOf ds).map fun ns => .int ns.sum
  | _, _ => none
def fAll : Sto → List D → Option D
  | _, [.lst ds] => (blsOf ds).map fun ns => .bl (ns.all id)
  | _, _ => none
theorem cd_all {g : Gam} : CallD g (rAll g.K) fAll := fun w H S ds vs c Q k r e q => by
  unfold fAll at e
  split at e
  · rename_i ds
    cases z : blsOf ds with
    | none => rw [z] at e; cases e
    | some ns =>
      rw [z] at e
      cases e
      obtain ⟨v, e1, e2⟩ := repL_one r
      obtain ⟨a, us, x1, x2, x3⟩ := rep_lst e2
      rw [x1] at e1
      exact ⟨a, ns, e1, .inl (.inl (by rw [← blsOf_rep z x3]; exact k.ex _ _ x2)), q w H _ .refl rep_bl'⟩
  · cases e
def fAny : Sto → List D → Option D
  | _, [.lst ds] => (blsOf ds).map fun ns => .bl (ns.any id)
  | _, _ => none
/-- int(x) of an int, a bool -/
def fInt : Sto → List D → Option D
  | _, [.int i] => some (.int i)
  | _, [.bl b] => some (.int (if b then 1 else 0))
  | _, _ => none
/-- x.bit_length() -/
def eBits (me : ME) : ME := fun env S => (me env S).bind fun d S1 => match d with
  | .int i => .ok (.int (Builtin.Int.intBits i : Nat)) S1
  | _ => .stuck
/-! ### operators -/
def mulB (i j : Int) : Bool := bBnd i 18446744073709551615 || bBnd j 18446744073709551615
def powB (i j : Int) : Bool := decide (0 ≤ j) && (bBnd j 1000000 && bBnd i 18446744073709551615)
def divB (_ j : Int) : Bool := decide (j ≠ 0) && decide (j.natAbs < 1073741824)
theorem mulB_ok (i j : Int) (h : mulB i j = true) : CMul i j := by
  unfold mulB at h
  simp only [Bool.or_eq_true, bBnd_iff] at h
  unfold CMul
  omega
theorem powB_ok (i j : Int) (h : powB i j = true) : CPow i j := by
  unfold powB at h
  simp only [Bool.and_eq_true, decide_eq_true_eq, bBnd_iff] at h
  unfold CPow
  omega
theorem divB_ok (i j : Int) (h : divB i j = true) : CDivN i j := by
  unfold divB at h
  simp only [Bool.and_eq_true, decide_eq_true_eq] at h
  exact h
def iAdd := fI (fun i j => .int (i + j)) fun _ _ => true
def iSub := fI (fun i j => .int (i - j)) fun _ _ => true
def iMul := fI (fun i j => .int (i * j)) mulB
def iDiv := fI (fun i j => .int (i.fdiv j)) divB
def iMod := fI (fun i j => .int (i.fmod j)) fun _ j => decide (j ≠ 0)
def iPow := fI (fun i j => .int (i ^ j.toNat)) powB
def iShl := fI (fun i j => .int (i * 2 ^ j.toNat)) powB
def iShr := fI (fun i j => .int (i / 2 ^ j.toNat)) fun _ j => decide (0 ≤ j)
def iAnd := fI (fun i j => .int (Builtin.bitAnd i j)) fun _ _ => true
def iOr := fI (fun i j => .int (Builtin.bitOr i j)) fun _ _ => true
def iXor := fI (fun i j => .int (Builtin.bitXor i j)) fun _ _ => true
def iLt := fI (fun i j => .bl (decide (i < j))) fun _ _ => true
def iLe := fI (fun i j => .bl (decide (i ≤ j))) fun _ _ => true
def iGt := fI (fun i j => .bl (decide (j < i))) fun _ _ => true
def iGe := fI (fun i j => .bl (decide (j ≤ i))) fun _ _ => true
theorem od_mul {g : Gam} : OpD g (rI CMul fun i j => .int (i * j)) iMul := od_I mulB_ok fun _ _ _ => rep_int'
theorem od_div {g : Gam} : OpD g (rI CDivN fun i j => .int (i.fdiv j)) iDiv := od_I divB_ok fun _ _ _ => rep_int'
theorem od_mod {g : Gam} : OpD g (rI (fun _ j => j ≠ 0) fun i j => .int (i.fmod j)) iMod := od_I (fun _ _ h => of_decide_eq_true h) fun _ _ _ => rep_int'
theorem od_pow {g : Gam} : OpD g (rI CPow fun i j => .int (i ^ j.toNat)) iPow := od_I powB_ok fun _ _ _ => rep_int'
theorem od_shl {g : Gam} : OpD g (rI CPow fun i j => .int (i * 2 ^ j.toNat)) iShl := od_I powB_ok fun _ _ _ => rep_int'
theorem od_shr {g : Gam} : OpD g (rI (fun _ j => 0 ≤ j) fun i j => .int (i / 2 ^ j.toNat)) iShr := od_I (fun _ _ h => of_decide_eq_true h) fun _ _ _ => rep_int'
theorem od_lt {g : Gam} : OpD g (rI0 fun i j => .bl (decide (i < j))) iLt := od_I0 fun _ _ _ => rep_bl'
theorem od_le {g : Gam} : OpD g (rI0 fun i j => .bl (decide (i ≤ j))) iLe := od_I0 fun _ _ _ => rep_bl'
theorem od_gt {g : Gam} : OpD g (rI0 fun i j => .bl (decide (j < i))) iGt := od_I0 fun _ _ _ => rep_bl'
theorem od_ge {g : Gam} : OpD g (rI0 fun i j => .bl (decide (j ≤ i))) iGe := od_I0 fun _ _ _ => rep_bl'
theorem od_addI {g : Gam} : OpD g (rI0 fun i j => .int (i + j)) iAdd := od_I0 fun _ _ _ => rep_int'
/-- lists joined -/
def fCat : Sto → D → D → Option Cell
  | _, .lst xs, .lst ys => if szB (xs.length + ys.length) then some (.lst (xs ++ ys)) else none
  | _, _, _ => none
def OpO (g : Gam) (r : R2) (f : Sto → D → D → Option Cell) : Prop := ∀ w H S d1 d2 v1 v2 c (Q : VK), Ok g w H S → Rep g w d1 v1 → Rep g w d2 v2 → f S d1 d2 = some c → (∀ p o, H p = none → (∀ ps, o ≠ .tbl ps) → CellR g w (upd H p o) p c → Q (.ref p) (upd H p o)) → r v1 v2 H Q
def fOp (f : Sto → D → D → Option Cell) (ma mb : ME) : MF := fun env S => (ma env S).bind fun d1 S1 => (mb env S1).bind fun d2 S2 => opt (f S2 d1 d2) S2
theorem sim_opO {g : Gam} {r : R2} {f : Sto → D → D → Option Cell} (ho : OpO g r f) (ha : SimE g W ta ma) (hb : SimE g W tb mb) : SimF g W (tOp r ta tb) (fOp f ma mb) := fun w0 H0 w H σ env S O Q st p =>
  ha w0 H0 w H σ env S O _ st ((PostX.bind p).imp fun d1 S1 w1 H1 st1 l1 p1 v1 r1 => hb w0 H0 w1 H1 σ env S1 O _ st1 ((PostX.bind p1).imp fun d2 S2 w2 H2 st2 l2 p2 v2 r2 => by
    obtain ⟨d, e, k⟩ := PostX.opt_ p2 st2
    exact ho w2 H2 S2 d1 d2 v1 v2 d Q st2.ok (r1.mono l2) r2 e fun q o hq nt hc => k w2 _ (st2.lay hq nt) (.refl w2) q (st2.own_new hq hc)))
theorem f_op {op : Operator} {r : R2} {f : Sto → D → D → Option Cell} (hd : OpO Y r f) (ho : OpR X (binaryOp op) r) (ha : SE X Y W a ta ma) (hb : SE X Y W b tb mb) : SF X Y W (.BinOp a op b pos) (tOp r ta tb) (fOp f ma mb) := ⟨pe_op ho ha.pe hb.pe, sim_opO hd ha.sim hb.sim⟩
theorem oo_cat {g : Gam} : OpO g rCat fCat := fun w H S d1 d2 v1 v2 c Q k r1 r2 e q => by
  unfold fCat at e
  split at e
  · split at e
    · rename_i xs ys z
      cases e
      obtain ⟨a, us, x1, x2, x3⟩ := rep_lst r1
      obtain ⟨b, ws, y1, y2, y3⟩ := rep_lst r2
      exact ⟨a, b, us, ws, x1, y1, k.ex _ _ x2, k.ex _ _ y2, by rw [← x3.len, ← y3.len]; exact szB_le z, fun l hl => q l _ hl nt_lst ⟨_, upd_same, x3.append_ y3⟩⟩
    · cases e
  · cases e
def fRep : Sto → D → D → Option Cell
  | _, .lst xs, .int k => if bBnd k 9223372036854775807 && szB (xs.length * k.toNat) then some (.lst (List.replicate k.toNat xs).flatten) else none
  | _, _, _ => none
/-- a value that is a new one -/
theorem OpO.d {g : Gam} {r : R2} {f : Sto → D → D → Option Cell} (h : OpO g r f) : OpD g r (fun S a b => (f S a b).map Cell.d) := fun w H S d1 d2 v1 v2 d Q k r1 r2 e q => by
  have e : Option.map Cell.d (f S d1 d2) = some d := e
  cases z : f S d1 d2 with
  | none => rw [z] at e; cases e
  | some c =>
    rw [z] at e
    cases e
    refine h w H S d1 d2 v1 v2 c Q k r1 r2 z fun p o hp nt hc => ?_
    refine q _ _ _ (Grow.one hp nt) ?_
    have le := Grow.le (Grow.one (w := w) hp nt) k
    cases c with
    | lst ds =>
      obtain ⟨vs, e1, e2⟩ := hc
      rw [upd_same] at e1
      unfold Cell.d Rep
      exact ⟨p, vs, rfl, by show upd w.G p o p = _; rw [upd_same]; exact e1, e2.mono le⟩
    | ins cc fs =>
      obtain ⟨dx, gs, e1, e2⟩ := hc
      rw [upd_same] at e1
      unfold Cell.d Rep
      exact ⟨p, dx, gs, rfl, by show upd w.G p o p = _; rw [upd_same]; exact e1, e2.mono le⟩
    | dic ks =>
      obtain ⟨gs, e1, e2⟩ := hc
      rw [upd_same] at e1
      unfold Cell.d Rep
      exact ⟨p, gs, rfl, .inl (by show upd w.G p o p = _; rw [upd_same]; exact e1), e2.mono le⟩
    | lck ks =>
      obtain ⟨o', gs, e1, e2⟩ := hc
      rw [upd_same] at e1
      unfold Cell.d Rep
      exact ⟨p, gs, rfl, .inr ⟨o', by show upd w.G p o p = _; rw [upd_same]; exact e1⟩, e2.mono le⟩
    | tdc ks =>
      have e1 : upd H p o p = some (.dT (tdV ks)) := hc
      rw [upd_same] at e1
      unfold Cell.d Rep
      exact ⟨p, rfl, by show upd w.G p o p = _; rw [upd_same]; exact e1⟩
/-- + of numbers, of lists, of texts -/
def fAddS : Sto → D → D → Option D
  | _, .str x, .str y => if szB (x.length + y.length) then some (.str (x ++ y)) else none
  | _, _, _ => none
theorem od_addS {g : Gam} : OpD g (fun x y H Q => ∃ i j, x = .str i ∧ y = .str j ∧ i.length + j.length ≤ sizeLine ∧ Q (.str (i ++ j)) H) fAddS := fun w H S d1 d2 v1 v2 d Q k r1 r2 e q => by
  unfold fAddS at e
  split at e
  · split at e
    · rename_i x y z
      cases e
      exact ⟨x, y, rep_str r1, rep_str r2, szB_le z, q w H _ .refl rep_str'⟩
    · cases e
  · cases e
def fCatD : Sto → D → D → Option D := fun S a b => (fCat S a b).map Cell.d
def dAdd : Sto → D → D → Option D := fun S a b => (iAdd S a b).or (fCatD S a b)
theorem od_add {g : Gam} : OpD g (fun x y H Q => rI0 (fun i j => .int (i + j)) x y H Q ∨ rCat x y H Q) dAdd := od_addI.or oo_cat.d
theorem op_addD : OpR X (binaryOp .Add) (fun x y H Q => rI0 (fun i j => .int (i + j)) x y H Q ∨ rCat x y H Q) := OpR.or op_add op_cat
/-! ### items, slices -/
def fIx : Sto → D → D → Option D
  | _, .lst xs, .int i => atI xs i
  | _, .tup xs, .int i => atI xs i
  | S, .ref n, .int i => (match S[n]? with
    | some (.lst xs) => atI xs i
    | _ => none)
  | _, _, _ => none
theorem RepL.atI_ {g : Gam} {w : Wd} {ds : List D} {vs : List V} {i : Int} {d : D} (r : RepL g w ds vs) (h : atI ds i = some d) : ∃ v, atI vs i = some v ∧ Rep g w d v := by
  unfold atI at h ⊢
  rw [r.len] at h
  cases z : ixN vs.length i with
  | none => rw [z] at h; cases h
  | some j =>
    rw [z] at h
    exact r.at_ h
theorem od_ix {g : Gam} : OpD g (fun x y H Q => rIxL g.K x y H Q ∨ rIxT g.K x y H Q) fIx := fun w H S d1 d2 v1 v2 d Q k r1 r2 e q => by
  unfold fIx at e
  split at e
  · rename_i xs i
    obtain ⟨a, us, x1, x2, x3⟩ := rep_lst r1
    obtain ⟨v, e1, e2⟩ := x3.atI_ e
    exact .inl ⟨a, us, i, v, x1, rep_int r2, .inl (.inl (k.ex _ _ x2)), e1, q w H _ .refl e2⟩
  · rename_i xs i
    obtain ⟨a, us, x1, x2, x3⟩ := rep_tup r1
    obtain ⟨v, e1, e2⟩ := x3.atI_ e
    exact .inr ⟨a, us, i, v, x1, rep_int r2, same_sqT k.ex x2, e1, q w H _ .refl e2⟩
  · rename_i n i
    split at e
    · rename_i xs hS
      obtain ⟨a, us, x1, x2, x3, x4⟩ := cell_lst k r1 hS
      obtain ⟨v, e1, e2⟩ := x4.atI_ e
      exact .inl ⟨a, us, i, v, x1, rep_int r2, .inl (.inl x3), e1, q w H _ .refl e2⟩
    · cases e
  · cases e
theorem ix_lt : IxR X (fun x y H Q => rIxL X.K x y H Q ∨ rIxT X.K x y H Q) := ix_list.or ix_tup
end
end Mm
namespace Mm
open PySem L2
section
variable {X : Cx} {Y : Gam} {W : WX} {e a b c tg iter elt : Expr} {es rest ifs : List Expr} {ta tb te : TE} {tt tu : TT} {ma mb me : ME} {mt mu : MT} {mf : MF} {t : TA} {m : MA} {pos p : Pos} {s : Stmt} {ss : List Stmt} {t1 t2 : TS} {m1 m2 : MS} {wi : TI} {mi : MI} {x : Str}
/-! ### data compared -/
mutual
def D.py : D → Option PyData
  | .non => some .none
  | .bl b => some (.bool b)
  | .int i => some (.int i)
  | .str x => some (.str x)
  | .lst ds => (pyAll ds).map .list
  | .tup ds => (pyAll ds).map .tuple
  | _ => none
def pyAll : List D → Option (List PyData)
  | [] => some []
  | d :: ds => match d.py, pyAll ds with
    | some x, some xs => some (x :: xs)
    | _, _ => none
end
mutual
theorem rep_py {g : Gam} {w : Wd} : ∀ {d : D} {v : V} {q : PyData}, Rep g w d v → d.py = some q → Dp g.K w.G v q
  | .non, v, q, r, h => by
    unfold D.py at h
    cases h
    rw [rep_non r]
    exact .non
  | .bl b, v, q, r, h => by
    unfold D.py at h
    cases h
    rw [rep_bl r]
    exact .bl b
  | .int b, v, q, r, h => by
    unfold D.py at h
    cases h
    rw [rep_int r]
    exact .int b
  | .str b, v, q, r, h => by
    unfold D.py at h
    cases h
    rw [rep_str r]
    exact .str b
  | .lst ds, v, q, r, h => by
    unfold D.py at h
    obtain ⟨a, vs, e1, e2, e3⟩ := rep_lst r
    cases z : pyAll ds with
    | none => rw [z] at h; cases h
    | some xs =>
      rw [z] at h
      cases h
      rw [e1]
      exact .lst (.inl (.inl e2)) (repL_py e3 z)
  | .tup ds, v, q, r, h => by
    unfold D.py at h
    obtain ⟨a, vs, e1, e2, e3⟩ := rep_tup r
    cases z : pyAll ds with
    | none => rw [z] at h; cases h
    | some xs =>
      rw [z] at h
      cases h
      rw [e1]
      exact .tup e2 (repL_py e3 z)
  | .ins _ _, v, q, r, h => by unfold D.py at h; cases h
  | .ref _, v, q, r, h => by unfold D.py at h; cases h
  | .scr _, v, q, r, h => by unfold D.py at h; cases h
  | .ty _, v, q, r, h => by unfold D.py at h; cases h
  | .cls _, v, q, r, h => by unfold D.py at h; cases h
  | .adr _, v, q, r, h => by unfold D.py at h; cases h
  | .set _, v, q, r, h => by unfold D.py at h; cases h
  | .dic _, v, q, r, h => by unfold D.py at h; cases h
  | .tdc _, v, q, r, h => by unfold D.py at h; cases h
theorem repL_py {g : Gam} {w : Wd} : ∀ {ds : List D} {vs : List V} {qs : List PyData}, RepL g w ds vs → pyAll ds = some qs → DpAll g.K w.G vs qs
  | [], vs, qs, r, h => by
    unfold pyAll at h
    unfold RepL at r
    cases h
    rw [r]
    exact .nil
  | d :: ds, vs, qs, r, h => by
    unfold pyAll at h
    unfold RepL at r
    obtain ⟨v, vr, e1, e2, e3⟩ := r
    cases z : d.py with
    | none => rw [z] at h; cases h
    | some x =>
      cases y : pyAll ds with
      | none => rw [z, y] at h; cases h
      | some xs =>
        rw [z, y] at h
        cases h
        rw [e1]
        exact .cons (rep_py e2 z) (repL_py e3 y)
end
mutual
theorem Dp.same {K : PySem.W.Frag} {H H' : Hp} (e : Same H H') : ∀ {v : V} {q : PyData}, Dp K H v q → Dp K H' v q
  | _, _, .non => .non
  | _, _, .bl b => .bl b
  | _, _, .int b => .int b
  | _, _, .str b => .str b
  | _, _, .lst s a => .lst (e.seq s) (DpAll.same e a)
  | _, _, .tup s a => .tup (same_sqT e s) (DpAll.same e a)
theorem DpAll.same {K : PySem.W.Frag} {H H' : Hp} (e : Same H H') : ∀ {v : List V} {q : List PyData}, DpAll K H v q → DpAll K H' v q
  | _, _, .nil => .nil
  | _, _, .cons a b => .cons (Dp.same e a) (DpAll.same e b)
end
def fEq : Sto → D → D → Option D := fun _ a b => match a.py, b.py with
  | some x, some y => if SeqAt.shaped x && SeqAt.shaped y then some (.bl (PyData.eqv x y)) else none
  | _, _ => none
def fNe : Sto → D → D → Option D := fun _ a b => match a.py, b.py with
  | some x, some y => if SeqAt.shaped x && SeqAt.shaped y then some (.bl (!PyData.eqv x y)) else none
  | _, _ => none
theorem od_eq {g : Gam} : OpD g (rEqD g.K) fEq := fun w H S d1 d2 v1 v2 d Q k r1 r2 e q => by
  unfold fEq at e
  split at e
  · rename_i x y z1 z2
    split at e
    · rename_i z
      rw [Bool.and_eq_true] at z
      cases e
      exact ⟨x, y, Dp.same k.ex (rep_py r1 z1), Dp.same k.ex (rep_py r2 z2), z.1, z.2, q w H _ .refl rep_bl'⟩
    · cases e
  · cases e
theorem od_ne {g : Gam} : OpD g (rNeD g.K) fNe := fun w H S d1 d2 v1 v2 d Q k r1 r2 e q => by
  unfold fNe at e
  split at e
  · rename_i x y z1 z2
    split at e
    · rename_i z
      rw [Bool.and_eq_true] at z
      cases e
      exact ⟨x, y, Dp.same k.ex (rep_py r1 z1), Dp.same k.ex (rep_py r2 z2), z.1, z.2, q w H _ .refl rep_bl'⟩
    · cases e
  · cases e
/-- is None -/
def D.isN : D → Bool
  | .non => true
  | _ => false
theorem rep_isN {g : Gam} {w : Wd} {d : D} {v : V} (r : Rep g w d v) : decide (v = .non) = d.isN := by
  cases d with
  | non => rw [rep_non r]; rfl
  | bl b => rw [rep_bl r]; rfl
  | int b => rw [rep_int r]; rfl
  | str b => rw [rep_str r]; rfl
  | lst ds => obtain ⟨a, vs, e1, _⟩ := rep_lst r; rw [e1]; rfl
  | tup ds => obtain ⟨a, vs, e1, _⟩ := rep_tup r; rw [e1]; rfl
  | ins c fs => unfold Rep at r; obtain ⟨a, _, _, e1, _⟩ := r; rw [e1]; rfl
  | ref n => obtain ⟨a, _, e1⟩ := rep_ref r; rw [e1]; rfl
  | scr n => unfold Rep at r; obtain ⟨a, e1, _⟩ := r; rw [e1]; rfl
  | ty n => unfold Rep at r; rw [r]; rfl
  | cls n => unfold Rep at r; rw [r]; rfl
  | adr n => unfold Rep at r; rw [r]; rfl
  | set n => unfold Rep at r; obtain ⟨a, _, e1, _⟩ := r; rw [e1]; rfl
  | dic n => unfold Rep at r; obtain ⟨a, _, e1, _⟩ := r; rw [e1]; rfl
  | tdc n => unfold Rep at r; obtain ⟨a, e1, _⟩ := r; rw [e1]; rfl
def fIs : Sto → D → D → Option D
  | _, d, .non => some (.bl d.isN)
  | _, _, _ => none
def fIsNot : Sto → D → D → Option D
  | _, d, .non => some (.bl (!d.isN))
  | _, _, _ => none
theorem od_is {g : Gam} : OpD g (fun x y H Q => y = .non ∧ Q (.bl (decide (x = .non))) H) fIs := fun w H S d1 d2 v1 v2 d Q k r1 r2 e q => by
  unfold fIs at e
  split at e
  · cases e
    exact ⟨rep_non r2, q w H _ .refl (by rw [rep_isN r1]; exact rep_bl')⟩
  · cases e
/-- in, of ints -/
def fIn (neg : Bool) : Sto → D → D → Option D
  | _, .int i, .lst ds => (intsOf ds).map fun ns => .bl (if neg then !decide (i ∈ ns) else decide (i ∈ ns))
  | _, .int i, .tup ds => (intsOf ds).map fun ns => .bl (if neg then !decide (i ∈ ns) else decide (i ∈ ns))
  | _, _, _ => none
/-! ### slices -/
abbrev MO := Envr → Sto → R (Option Int)
def SimO (g : Gam) (W : WX) (t : TO) (m : MO) : Prop := ∀ w0 H0 w H σ env S O (Q : Option Int → Hp → Prop), StR g w0 H0 w H σ env S O →
  PostX g W w0 H0 w σ env O (m env S) (fun o _ w' H' => Q o H') → t σ H Q
structure SO (X : Cx) (Y : Gam) (W : WX) (e : Option Expr) (t : TO) (m : MO) : Prop where
  po : PO X e t
  sim : SimO Y W t m
def oNone : MO := fun _ S => .ok none S
def oSome (me : ME) : MO := fun env S => (me env S).bind fun d S1 => match d with
  | .int i => .ok (some i) S1
  | _ => .stuck
theorem o_none : SO X Y W none tNoPart oNone := ⟨po_none, fun w0 H0 w H σ env S O Q st p => p w H st (.refl w)⟩
theorem o_some (h : SE X Y W e te me) : SO X Y W (some e) (tPart te) (oSome me) := ⟨po_some h.pe, fun w0 H0 w H σ env S O Q st p =>
  h.sim w0 H0 w H σ env S O _ st ((PostX.bind p).imp fun d S1 w1 H1 st1 l1 p1 v r => by
    cases d with
    | int i => exact ⟨i, rep_int r, p1 w1 H1 st1 (.refl w1)⟩
    | _ => exact False.elim p1)⟩
def cutD (xs : List D) (lo hi : Option Int) : List D := (xs.drop (HT.sIx xs.length 0 lo)).take (HT.sIx xs.length xs.length hi - HT.sIx xs.length 0 lo)
theorem rep_cut {g : Gam} {w : Wd} {ds : List D} {vs : List V} (r : RepL g w ds vs) (lo hi : Option Int) : RepL g w (cutD ds lo hi) (cutV vs lo hi) := by
  unfold cutD cutV
  rw [r.len]
  exact (r.drop_ _).take_ _
/-- xs[a:b] of a list (the script too): a new list -/
def fSl (me : ME) (ml mh : MO) : MF := fun env S => (me env S).bind fun d S1 => (ml env S1).bind fun lo S2 => (mh env S2).bind fun hi S3 => match d with
  | .lst ds => .ok (.lst (cutD ds lo hi)) S3
  | .scr ns => .ok (.lst (cutD (ns.map D.int) lo hi)) S3
  | _ => .stuck
theorem f_sl {lo hi : Option Expr} {tl th : TO} {ml mh : MO} {p2 : Pos} (he : SE X Y W e te me) (hl : SO X Y W lo tl ml) (hh : SO X Y W hi th mh) (hK : X.K = Y.K := by rfl) : SF X Y W (.Subscript e (.Slice lo hi none p2) pos) (tSl (rSlL Y.K) te tl th) (fSl me ml mh) := ⟨hK ▸ pe_slice sl_list he.pe hl.po hh.po, fun w0 H0 w H σ env S O Q st p =>
  he.sim w0 H0 w H σ env S O _ st ((PostX.bind p).imp fun d S1 w1 H1 st1 l1 p1 v r => hl.sim w0 H0 w1 H1 σ env S1 O _ st1 ((PostX.bind p1).imp fun lo S2 w2 H2 st2 l2 p2 => hh.sim w0 H0 w2 H2 σ env S2 O _ st2 ((PostX.bind p2).imp fun hi S3 w3 H3 st3 l3 p3 => by
    cases d with
    | lst ds =>
      obtain ⟨a, vs, e1, e2, e3⟩ := rep_lst (r.mono (l2.trans l3))
      exact ⟨a, vs, e1, .inl (.inl (st3.ok.ex _ _ e2)), fun q hq => p3 w3 _ (st3.lay hq nt_lst) (.refl w3) q (st3.own_new hq ⟨_, upd_same, rep_cut e3 lo hi⟩)⟩
    | scr ns =>
      have r3 := r.mono (l2.trans l3)
      unfold Rep at r3
      obtain ⟨a, e1, e2⟩ := r3
      exact ⟨a, _, e1, st3.ok.ex.seq e2, fun q hq => p3 w3 _ (st3.lay hq nt_lst) (.refl w3) q (st3.own_new hq ⟨_, upd_same, rep_cut (RepL.ints ns) lo hi⟩)⟩
    | _ => exact False.elim p3)))⟩
/-- t[a:b] of a tuple, not the whole -/
def eSlT (me : ME) (ml mh : MO) : ME := fun env S => (me env S).bind fun d S1 => (ml env S1).bind fun lo S2 => (mh env S2).bind fun hi S3 => match d with
  | .tup ds => .ok (.tup (cutD ds lo hi)) S3
  | _ => .stuck
/-! ### things of one's own change -/
/-- xs.append(e), xs in slot i -/
def sApp (i : Nat) (me : ME) : MS := fun env S => match env[i]? with
  | some (.o (.lst ds)) => (me env S).out env fun d S1 => if szB (ds.length + 1) then .nx (env.set i (.o (.lst (ds ++ [d])))) S1 else .stuck
  | _ => .stuck
theorem tyV_lst {K : PySem.W.Frag} {H : Hp} {p : Addr} {vs : List V} (h : H p = some (.lst vs)) : tyV K "list" (.ref p) H := .inl ⟨rfl, vs, .inl (.inl h)⟩
/-- xs.insert(k, e), xs in slot i -/
def sIns (i : Nat) (mk me : ME) : MS := fun env S => match env[i]? with
  | some (.o (.lst ds)) => (mk env S).out env fun k S1 => (me env S1).out env fun d S2 => match k with
    | .int k => if decide (0 ≤ k) && (bBnd k 9223372036854775807 && szB (ds.length + 1)) then .nx (env.set i (.o (.lst (ds.take k.toNat ++ [d] ++ ds.drop k.toNat)))) S2 else .stuck
    | _ => .stuck
  | _ => .stuck
theorem t_ins (i : Nat) {x : Str} {p1 apos cpos : Pos} (hk : SE X Y W a ta ma) (he : SE X Y W e te me) (hK : X.K = Y.K := by rfl) (hN : X.N[i]? = some x := by rfl) (hv : Vis X.env.scope x := by first | exact Or.inl rfl | exact Or.inr (Or.inl rfl) | exact Or.inr (Or.inr rfl)) (hd : (x == ("__debug__" : Str)) = false := by decide)
    (hcd : (x == ("__classdict__" : Str)) = false := by decide) (hbase : attributeBase (.Name x p1) "insert" X.env (eval (.Name x p1) X.env) = eval (.Name x p1) X.env := by rfl)
    (hfew : ((backTo cpos (starEach [a, e] X.env)).all (fun x => !x.1) && (backToKw cpos (keywordEach [] X.env)).all (fun x => x.1.isSome)
      && decide ([a, e].length + ([] : List Keyword).length + (if ([] : List Keyword).isEmpty then 0 else 1) < 30)) = true := by rfl)
    (hline : (apos.endLine == cpos.line) = true := by rfl) (hs : starEach [a, e] X.env = (false, eval a X.env) :: starEach [e] X.env := by rfl) (hs2 : starEach [e] X.env = (false, eval e X.env) :: starEach [] X.env := by rfl) (hplain : (backTo cpos (starEach [e] X.env)).any (·.1) = false := by rfl)
    (hsw : swapsWith (.Call (.Attribute (.Name x p1) "insert" apos) [a, e] [] cpos) none pos.line X.env = pure false := by rfl) :
    SS X Y W (.Expr (.Call (.Attribute (.Name x p1) "insert" apos) [a, e] [] cpos) pos) (tDrop (tBM Y.K "list" (fun x vs H Q => ∃ (l : Addr) (xs : List V) (i : Int) (y : V), x = .ref l ∧ vs = [.int i, y] ∧ H l = some (.lst xs) ∧ xs.length < sizeLine ∧ 0 ≤ i ∧ i < 2 ^ 63 ∧
    Q .non (upd H l (.lst (xs.take i.toNat ++ [y] ++ xs.drop i.toNat)))) (tVar i) (tCons ta (tCons te tNil)))) (sIns i ma me) :=
  ⟨hK ▸ ps_expr (pe_bm PySem.F.plainAttrs_list PySem.F.slot_list_insert PySem.F.type_list_insert mt_insert (pv i hN hv hd hcd) (pa_cons hk.pe (pa_cons he.pe pa_nil hs2) hs) hbase hfew hline hs hplain) hsw, fun w0 H0 w H σ env S O Dn st p => by
    unfold sIns at p
    split at p
    · rename_i ds hs
      obtain ⟨q, e1, e2, e3, ⟨vs, e4, e4'⟩, e5, e6, hi⟩ := st.own_at hs
      refine ⟨.ref q, e1, tyV_lst e4, ?_⟩
      refine hk.sim w0 H0 w H σ env S O _ st ((PostS.out p).imp fun k S1 w1 H1 st1 l1 p1 kv kr => ?_)
      refine he.sim w0 H0 w1 H1 σ env S1 O _ st1 ((PostS.out p1).imp fun d S2 w2 H2 st2 l2 p2 v r => ?_)
      cases k with
      | int k =>
        simp only at p2
        split at p2
        · rename_i hz
          simp only [Bool.and_eq_true, decide_eq_true_eq, bBnd_iff] at hz
          obtain ⟨q', f1, f2, f3, ⟨us, f4, f4'⟩, f5, f6, _⟩ := st2.own_at hs
          rw [e2] at f2
          cases f2
          have hz2 : us.length < sizeLine := Nat.lt_of_lt_of_le (by rw [← f4'.len]; exact Nat.lt_succ_self _) (szB_le hz.2.2)
          refine ⟨q, us, k, v, rfl, by rw [rep_int kr], f4, hz2, hz.1, by have := hz.1; have := hz.2.1; omega, ?_⟩
          exact p2 w2 _ σ O (st2.mut hs e2 ⟨_, upd_same, ((f4'.take_ _).append_ (RepL.cons_ r RepL.nil_)).append_ (f4'.drop_ _)⟩ nt_lst) (.refl w2)
        · exact False.elim p2
      | _ => exact False.elim p2
    · exact p.elim⟩
/-- xs[k] = e, xs in slot i (of one's own), or a cell -/
def sPut (i : Nat) (mk me : ME) : MS := fun env S => (me env S).out env fun d S1 => match env[i]? with
  | some (.o (.lst ds)) => (mk env S1).out env fun k S2 => (match k with
    | .int k => (match ixN ds.length k with
      | some j => .nx (env.set i (.o (.lst (ds.set j d)))) S2
      | none => .stuck)
    | _ => .stuck)
  | some (.v (.ref n)) => (mk env S1).out env fun k S2 => (match S2[n]?, k with
    | some (.lst ds), .int k => (match ixN ds.length k with
      | some j => .nx env (S2.set n (.lst (ds.set j d)))
      | none => .stuck)
    | _, _ => .stuck)
  | _ => .stuck
theorem sim_put {g : Gam} {i : Nat} (hk : SimE g W ta ma) (he : SimE g W te me) : SimS g W (tAsg te (gSub (tVar i) ta rSetL)) (sPut i ma me) := fun w0 H0 w H σ env S O Dn st p => by
  refine he w0 H0 w H σ env S O _ st ((PostS.out p).imp fun d S1 w1 H1 st1 l1 p1 v r => ?_)
  split at p1
  · rename_i ds hs
    obtain ⟨q, e1, e2, e3, e4, e5, e6, hi⟩ := st1.own_at hs
    refine ⟨.ref q, e1, ?_⟩
    refine hk w0 H0 w1 H1 σ env S1 O _ st1 ((PostS.out p1).imp fun k S2 w2 H2 st2 l2 p2 kv kr => ?_)
    split at p2
    · rename_i k
      split at p2
      · rename_i j hj
        obtain ⟨q', f1, f2, f3, ⟨us, f4, f4'⟩, f5, f6, _⟩ := st2.own_at hs
        rw [e2] at f2
        cases f2
        refine ⟨q, us, k, j, rfl, rep_int kr, f4, by rw [← f4'.len]; exact hj, ?_⟩
        exact p2 w2 _ σ O (st2.mut hs e2 ⟨_, upd_same, f4'.set_ (r.mono l2) j⟩ nt_lst) (.refl w2)
      · exact False.elim p2
    · exact False.elim p2
  · rename_i n hs
    have hi : i < σ.length := by
      rw [← st1.l1]
      exact (List.getElem?_eq_some_iff.mp hs).1
    have hO : i < O.length := by
      rw [st1.l2]
      exact hi
    obtain ⟨_, x, ex, rx⟩ := st1.sl i (.v (.ref n)) σ[i] O[i] hs (List.getElem?_eq_getElem hi) (List.getElem?_eq_getElem hO)
    refine ⟨x, by rw [List.getElem?_eq_getElem hi, ex], ?_⟩
    refine hk w0 H0 w1 H1 σ env S1 O _ st1 ((PostS.out p1).imp fun k S2 w2 H2 st2 l2 p2 kv kr => ?_)
    split at p2
    · rename_i ds k hS
      split at p2
      · rename_i j hj
        obtain ⟨a, us, x1, x2, x3, x4⟩ := cell_lst st2.ok (rx.mono l2) hS
        refine ⟨a, us, k, j, x1, rep_int kr, x3, by rw [← x4.len]; exact hj, ?_⟩
        obtain ⟨k3, f3⟩ := ok_cell (c' := .lst (ds.set j d)) st2.ok x2 hS (o := .lst (us.set j v)) ⟨_, upd_same, x4.set_ (r.mono l2) j⟩ nt_lst
        exact p2 w2 _ σ O (st2.after f3 k3) (.refl w2)
      · exact False.elim p2
    · exact False.elim p2
  · exact p1.elim
theorem t_put (i : Nat) {x : Str} {p1 p2 : Pos} (hk : SE X Y W a ta ma) (he : SE X Y W e te me) (hN : X.N[i]? = some x := by rfl) (hv : Vis X.env.scope x := by first | exact Or.inl rfl | exact Or.inr (Or.inl rfl) | exact Or.inr (Or.inr rfl)) (hd : (x == ("__debug__" : Str)) = false := by decide)
    (hcd : (x == ("__classdict__" : Str)) = false := by decide) (ha : ∀ v, assign (.Subscript (.Name x p1) a p2) X.env v = (do
      let ov ← holding [v] (eval (.Name x p1) X.env)
      let iv ← holding [v, ov] (eval a X.env)
      standAt p2
      holding [v, ov, iv] (setItem ov iv v)
      release [v, ov, iv] []) := by intro _; rfl) (hs : swapsWithSole [.Subscript (.Name x p1) a p2] e pos.line X.env = pure false := by rfl) (hw : swappedStores [.Subscript (.Name x p1) a p2] e X.env = pure none := by rfl)
    (h1 : (assignEach [.Subscript (.Name x p1) a p2] X.env).map (·.2) = [assign (.Subscript (.Name x p1) a p2) X.env] := by rfl) :
    SS X Y W (.Assign [.Subscript (.Name x p1) a p2] e pos) (tAsg te (gSub (tVar i) ta rSetL)) (sPut i ma me) := ⟨ps_asg he.pe (pg_sub (pv i hN hv hd hcd) hk.pe set_list ha) hs hw h1, sim_put hk.sim he.sim⟩
/-! ### x += e -/
def sAug (i : Nat) (f : Int → Int → Int) (me : ME) : MS := fun env S => match env[i]? with
  | some (.v (.int k)) => (me env S).out env fun d S1 => (match d with
    | .int j => .nx (env.set i (.v (.int (f k j)))) S1
    | _ => .stuck)
  | _ => .stuck
/-! ### raise -/
theorem pmk_own0 {C : Addr} {bmB : List Value} {B newId initId : String} (F : ExcBaseFacts B newId initId bmB) (q : PySem.W.excIn X.K C bmB newId = true) (gC : X.mg x = some (.ref C)) (kC : PySem.W.keepIn X.K (.ref C) = true) (r : Raises X (.ref C)) (hg : Gl X x)
    (hdb : (x == ("__debug__" : Str)) = false := by decide) : L2N.PMk X (.Call (.Name x p) [] [] pos) (fun _ H Q => Q (.ref C) none H) := by
  intro pins s σ H Q I h
  refine wpAny_Call_Name_kw (ld_glob I hg gC ?_ hdb)
  refine PySem.W.callWith_K0 I.kIn kC ?_
  show wpAny _ _ (call (.ref C) []) _ _ _
  obtain ⟨bm, N, nm, qn, bs, hdct, sn, sub, ab, col, dd, k0, k1, k2, k3, k5, mN, hC, hN, hni, T⟩ := exc_obj I.kIn q
  refine wpAny_call_exc_subT F T hC hN hni (fun h' e hm => ?_) (by show 0 ≤ sizeLine; exact Nat.zero_le _)
  exact L2N.mk_of I hm r h (I.hok.gone hm.new)
def sRaise (c : Str) : MS := fun env S => .exc c none env S
theorem t_raise {x : Str} {pos' : Pos} (xP : PySem.W.excIn X.K (Y.ca x) [.type "ValueError", .type "Exception", .type "BaseException", .type "object"] "ValueError.__new__" = true) (gP : X.mg x = some (.ref (Y.ca x))) (kP : PySem.W.keepIn X.K (.ref (Y.ca x)) = true)
    (bP : PySem.W.subIn X.K (.ref (Y.ca x)) (.type "BaseException") = some true) (tP : PySem.W.typeIn X.K (.ref (Y.ca x)) = some (.type "type")) (tk : L2N.Takes X W) (hc : X.calm = true := by rfl) (hg : Gl X x := by rfl) (hdb : (x == ("__debug__" : Str)) = false := by decide) :
    SS X Y W (.Raise (some (.Call (.Name x p) [] [] pos)) none pos') (fun _ σ H => W (.ref (Y.ca x)) none σ H) (sRaise x) :=
  ⟨L2N.ps_raise hc tk (pmk_own0 PySem.F.excBase_ValueError xP gP kP (raises_own bP tP) hg hdb), fun w0 H0 w H σ env S O Dn st p => p w H σ O _ _ st (.refl w) ⟨rfl, rfl⟩⟩
end
end Mm
namespace Mm
open PySem L2
/-! ### fields -/
def putFD (f : Str) (v : D) : List (Str × D) → List (Str × D)
  | [] => [(f, v)]
  | (g, x) :: r => if g = f then (g, v) :: r else (g, x) :: putFD f v r
theorem RepF.look {g : Gam} {w : Wd} : ∀ {fs : List (Str × D)} {gs : List (Str × V)} {f : Str}, RepF g w fs gs → (∀ d, fs.lookup f = some d → ∃ v, gs.lookup f = some v ∧ Rep g w d v) ∧ (fs.lookup f = none → gs.lookup f = none)
  | [], gs, f, r => by
    unfold RepF at r
    subst r
    exact ⟨fun d h => (by cases h), fun _ => rfl⟩
  | (f', d') :: fs, gs, f, r => by
    unfold RepF at r
    obtain ⟨v, vr, e, a, b⟩ := r
    subst e
    have ih := RepF.look (f := f) b
    rw [List.lookup_cons, List.lookup_cons]
    cases f == f' with
    | true => exact ⟨fun d h => (by cases h; exact ⟨v, rfl, a⟩), fun h => (by cases h)⟩
    | false => exact ih
theorem RepF.put {g : Gam} {w : Wd} {f : Str} {d : D} {v : V} (q : Rep g w d v) : ∀ {fs : List (Str × D)} {gs : List (Str × V)}, RepF g w fs gs → RepF g w (putFD f d fs) (putF f v gs)
  | [], gs, r => by
    unfold RepF at r
    subst r
    unfold putFD putF RepF
    exact ⟨v, [], rfl, q, by unfold RepF; rfl⟩
  | (f', d') :: fs, gs, r => by
    unfold RepF at r
    obtain ⟨u, vr, e, a, b⟩ := r
    subst e
    unfold putFD putF
    by_cases h : f' = f
    · rw [if_pos h, if_pos h]
      unfold RepF
      exact ⟨v, vr, rfl, q, b⟩
    · rw [if_neg h, if_neg h]
      unfold RepF
      exact ⟨u, _, rfl, a, RepF.put q b⟩
theorem RepF.len {g : Gam} {w : Wd} : ∀ {fs : List (Str × D)} {gs : List (Str × V)}, RepF g w fs gs → fs.length = gs.length
  | [], gs, r => by
    unfold RepF at r
    subst r
    rfl
  | (f', d') :: fs, gs, r => by
    unfold RepF at r
    obtain ⟨u, vr, e, a, b⟩ := r
    subst e
    rw [List.length_cons, List.length_cons, RepF.len b]
/-- the fields of a thing of the class c -/
def insOf (c : Str) (S : Sto) : D → Option (List (Str × D))
  | .ins c' fs => if c' = c then some fs else none
  | .ref n => (match S[n]? with
    | some (.ins c' fs) => if c' = c then some fs else none
    | _ => none)
  | _ => none
theorem insOf_rep {g : Gam} {w : Wd} {H : Hp} {S : Sto} {c : Str} {d : D} {v : V} {fs : List (Str × D)} (k : Ok g w H S) (r : Rep g w d v) (h : insOf c S d = some fs) : ∃ a dx gs, v = .ref a ∧ H a = some (.ins (g.ca c) dx gs) ∧ RepF g w fs gs := by
  unfold insOf at h
  split at h
  · split at h
    · rename_i c' fs' e
      cases h
      subst e
      unfold Rep at r
      obtain ⟨a, dx, gs, e1, e2, e3⟩ := r
      exact ⟨a, dx, gs, e1, k.ex _ _ e2, e3⟩
    · cases h
  · rename_i n
    split at h
    · rename_i c' fs' hS
      split at h
      · rename_i e
        cases h
        subst e
        obtain ⟨a, e1, e2⟩ := rep_ref r
        obtain ⟨_, dx, gs, e3, e4⟩ := k.cells.at_ n a _ e1 hS
        exact ⟨a, dx, gs, e2, e3, e4⟩
      · cases h
    · cases h
  · cases h
section
variable {X : Cx} {Y : Gam} {W : WX} {e a b c tg iter elt o : Expr} {es rest ifs : List Expr} {ta tb te : TE} {tt tu : TT} {ma mb me : ME} {mt mu : MT} {mf : MF} {t : TA} {m : MA} {pos p apos : Pos} {s : Stmt} {ss : List Stmt} {t1 t2 : TS} {m1 m2 : MS} {wi : TI} {mi : MI} {x f : Str}
def eFld (c f : Str) (me : ME) : ME := fun env S => (me env S).bind fun d S1 => match insOf c S1 d with
  | some fs => opt (fs.lookup f) S1
  | none => .stuck
theorem s_fld (c : Str) (hC : Cls X.K (Y.ca c)) (hn : NoAttr X.K (Y.ca c) f) (he : SE X Y W e te me) (hK : X.K = Y.K := by rfl) (hb : attributeBase e f X.env (eval e X.env) = eval e X.env := by rfl) : SE X Y W (.Attribute e f pos) (tFld Y.K te f) (eFld c f me) := ⟨hK ▸ pe_fld he.pe hb, fun w0 H0 w H σ env S O Q st p =>
  he.sim w0 H0 w H σ env S O _ st ((PostX.bind p).imp fun d S1 w1 H1 st1 l1 p1 v r => by
    split at p1
    · rename_i fs hf
      obtain ⟨a, dx, gs, e1, e2, e3⟩ := insOf_rep st1.ok r hf
      obtain ⟨d', e4, k⟩ := PostX.opt_ p1 st1
      obtain ⟨v', e5, e6⟩ := (RepF.look e3).1 d' e4
      exact ⟨a, _, dx, gs, v', e1, e2, hK ▸ hC, hK ▸ hn, e5, k w1 H1 st1 (.refl w1) v' e6⟩
    · exact False.elim p1)⟩
/-- self.f = e, self a cell -/
def sFldC (c f : Str) (mo me : ME) : MS := fun env S => (me env S).out env fun y S1 => (mo env S1).out env fun d S2 => match d with
  | .ref n => (match S2[n]? with
    | some (.ins c' fs) => if c' = c ∧ fs.length < 1000 then .nx env (S2.set n (.ins c (putFD f y fs))) else .stuck
    | _ => .stuck)
  | _ => .stuck
theorem t_fld (c : Str) {pos' : Pos} (hC : Cls X.K (Y.ca c)) (hn : NoAttr X.K (Y.ca c) f) (ho : SE X Y W o ta ma) (he : SE X Y W e te me) (hK : X.K = Y.K := by rfl) (hs : swapsWith e (some (.Attribute o f pos')) pos.line X.env = pure false := by rfl) :
    SS X Y W (.Assign [.Attribute o f pos'] e pos) (sFld Y.K ta te f) (sFldC c f ma me) := ⟨hK ▸ ps_fld ho.pe he.pe hs, fun w0 H0 w H σ env S O Dn st p =>
  he.sim w0 H0 w H σ env S O _ st ((PostS.out p).imp fun y S1 w1 H1 st1 l1 p1 yv ry => ho.sim w0 H0 w1 H1 σ env S1 O _ st1 ((PostS.out p1).imp fun d S2 w2 H2 st2 l2 p2 v r => by
    split at p2
    · rename_i n
      split at p2
      · rename_i c' fs hS
        split at p2
        · rename_i hc
          obtain ⟨ec, hl⟩ := hc
          subst ec
          obtain ⟨a, e1, e2⟩ := rep_ref r
          obtain ⟨_, dx, gs, e3, e4⟩ := st2.ok.cells.at_ n a _ e1 hS
          refine ⟨a, _, dx, gs, e2, e3, hK ▸ hC, hK ▸ hn, by rw [← e4.len]; exact hl, ?_⟩
          obtain ⟨k3, f3⟩ := ok_cell (c' := .ins c' (putFD f y fs)) st2.ok e1 hS (o := .ins _ dx (putF f yv gs)) ⟨dx, _, upd_same, RepF.put (ry.mono l2) e4⟩ nt_ins
          exact p2 w2 _ σ O (st2.after f3 k3) (.refl w2)
        · exact False.elim p2
      · exact False.elim p2
    · exact False.elim p2))⟩
/-! ### methods -/
variable {k n : Nat} {fa C : Addr} {fd : FuncData} {ps : List Str} {mf : MFn} {dvs : List V} {ds : List Value} {dd : List D}
def tMethS (C : Addr) (m : Str) (sp : Sp) (dvs : List V) (E : L2.St → XK) (ta : TE) (t : TA) : TE := fun σ H Q => ta σ H fun x H1 => ∃ a dx fs, x = .ref a ∧ H1 a = some (.ins C dx fs) ∧ fs.lookup m = none ∧
  t σ H1 fun vs H2 => sp (x :: (vs ++ dvs)) H2 Q (E σ)
theorem pe_methS0 {CX : CXT} {sp : Sp} {E : L2.St → XK} {pl : Sem Bool} (he : PE X o ta) (c : Cls X.K C) (hm : Meth X.K C x fa) (F : FnOk X.prog X.w X.K X.mg X.base CX k fa fd ps sp) (hr : Room k X.A) (hb : Binds X.K fd ps ds) (hd : Vals dvs ds) (hx : ∀ σ, PassesAt CX X σ (E σ))
    (ht : eval (.Call (.Attribute o x apos) [] [] pos) X.env = (do
      let ov ← eval o X.env
      standAt apos.atName
      let (f, first) ← holding [ov] (getMethod ov x pl)
      callWith pos f first (backTo pos (starEach [] X.env)) (backToKw pos (keywordEach [] X.env)))) :
    PE X (.Call (.Attribute o x apos) [] [] pos) (tMethS C x sp dvs E ta tNil) := by
  refine ⟨fun pins s σ H Q I h => ?_⟩
  refine PySem.W.methodCall_KW (pl := pl) (thn (he.run pins s σ H _ I h) fun u s1 ⟨x, H1, I1, rx, a, dx, fs, ex, ea, l, q⟩ => ?_) ht
  subst ex
  obtain rfl : u = Value.ref a := rx
  refine getmeth_ok I1 ea c hm l ?_
  exact PySem.W.callWith_K0 (first := [.ref a]) I1.kIn hm.kp (run_fnSD (us := [.ref a]) (vs := [.ref a]) F hr hb hd (hx σ) I1 (.cons rfl .nil) q)
/-- the receiver, then the arguments; then the def -/
def mGo {α : Type} (c x : Str) (mf : MFn) (dd : List D) (mo : ME) (m : MA) (F : Ret → Sto → R α) : Envr → Sto → R α := fun env S => (mo env S).bind fun o S1 => match insOf c S1 o with
  | some fs => if fs.lookup x = none then (m env S1).bind fun ds S2 => (mf (o :: (ds ++ dd)) S2).bind F else .stuck
  | none => .stuck
def eMeth (c x : Str) (mf : MFn) (dd : List D) (mo : ME) (m : MA) : ME := mGo c x mf dd mo m fun r S => .ok r.d S
def fMeth (c x : Str) (mf : MFn) (dd : List D) (mo : ME) (m : MA) : MF := mGo c x mf dd mo m rOwn
theorem sim_methA {α : Type} {F : Ret → Sto → R α} {g : Gam} {c : Str} (hdv : ∀ w, RepL g w dd dvs) (ho : SimE g W ta ma) (ha : SimA g W t m) (hlen : ∀ env S ds S1, m env S = .ok ds S1 → ds.length + dd.length + 1 = n) {w0 w : Wd} {H0 H : Hp} {σ : L2.St} {env : Envr} {S : Sto} {O : List (Option Addr)} {kk : α → Sto → Wd → Hp → Prop} {Q : VK}
    (st : StR g w0 H0 w H σ env S O) (p : PostX g W w0 H0 w σ env O (mGo c x mf dd ma m F env S) kk)
    (fin : ∀ w1 H1 S1 r, StR g w0 H0 w1 H1 σ env S1 O → PostX g W w0 H0 w1 σ env O (r.bind F) kk → PostF g w1 H1 Q (WE W σ) r) : tMethS (g.ca c) x (spOf g n mf) dvs (WE W) ta t σ H Q := by
  refine ho w0 H0 w H σ env S O _ st ((PostX.bind p).imp fun od S1 w1 H1 st1 l1 p1 ov or => ?_)
  split at p1
  · rename_i fs hf
    split at p1
    · rename_i hx
      obtain ⟨a, dx, gs, e1, e2, e3⟩ := insOf_rep st1.ok or hf
      refine ⟨a, dx, gs, e1, e2, (RepF.look e3).2 hx, ?_⟩
      refine ha w0 H0 w1 H1 σ env S1 O _ st1 ?_
      have p2 := PostX.bind p1
      cases e : m env S1 with
      | stuck => rw [e] at p2; exact p2
      | exc c q S2 => rw [e] at p2; exact p2
      | ok ds S2 =>
        rw [e] at p2
        intro w2 H2 st2 l2 vs rs
        have p3 := p2 w2 H2 st2 l2
        have r2 := RepL.cons_ (or.mono l2) (rs.append_ (hdv w2))
        refine ⟨?_, w2, od :: (ds ++ dd), S2, st2.ok, r2, fin w2 H2 S2 _ st2 p3⟩
        rw [← r2.len, List.length_cons, List.length_append]
        exact hlen env S1 ds S2 e
    · exact False.elim p1
  · exact False.elim p1
theorem s_meth0 (c : Str) {pl : Sem Bool} (ho : SE X Y W o ta ma) (hC : Cls X.K (Y.ca c)) (hm : Meth X.K (Y.ca c) x fa) (F : FnOk X.prog X.w X.K X.mg X.base (L2N.CX X.prog X.w) k fa fd ps (spOf Y n mf)) (hr : Room k X.A) (hb : Binds X.K fd ps ds) (hd : Vals dvs ds) (hdv : ∀ w, RepL Y w dd dvs) (tk : L2N.Takes X W)
    (hn : dd.length + 1 = n := by rfl)
    (ht : eval (.Call (.Attribute o x apos) [] [] pos) X.env = (do
      let ov ← eval o X.env
      standAt apos.atName
      let (f, first) ← holding [ov] (getMethod ov x pl)
      callWith pos f first (backTo pos (starEach [] X.env)) (backToKw pos (keywordEach [] X.env))) := by rfl) :
    SE X Y W (.Call (.Attribute o x apos) [] [] pos) (tMethS (Y.ca c) x (spOf Y n mf) dvs (WE W) ta tNil) (eMeth c x mf dd ma aNil) :=
  ⟨pe_methS0 ho.pe hC hm F hr hb hd (fun σ => L2N.passAt tk σ) ht, fun w0 H0 w H σ env S O Q st p => sim_methA (g := Y) hdv ho.sim (a_nil (X := X) (Y := Y)).sim (fun env S ds S1 h => by cases h; rw [← hn, List.length_nil]; omega) st p fun w1 H1 S1 r st1 p1 => post_val st1 p1⟩
end
end Mm
namespace Mm
open PySem L2
/-! ### things below a count of cells -/
mutual
def D.under (n : Nat) : D → Prop
  | .lst ds => underL n ds
  | .tup ds => underL n ds
  | .ins _ fs => underF n fs
  | .ref m => m < n
  | .dic ks => underK n ks
  | _ => True
def underL (n : Nat) : List D → Prop
  | [] => True
  | d :: ds => d.under n ∧ underL n ds
def underF (n : Nat) : List (Str × D) → Prop
  | [] => True
  | (_, d) :: ds => d.under n ∧ underF n ds
def underK (n : Nat) : List (Key × D) → Prop
  | [] => True
  | (_, d) :: ds => d.under n ∧ underK n ds
end
theorem under_ints (n : Nat) : ∀ ns : List Int, underL n (ns.map D.int)
  | [] => by unfold List.map underL; trivial
  | i :: ns => by
    unfold List.map underL
    exact ⟨by unfold D.under; trivial, under_ints n ns⟩
mutual
theorem Rep.under {g : Gam} {w : Wd} : ∀ {d : D} {v : V}, Rep g w d v → d.under w.rho.length
  | .non, _, _ => by unfold D.under; trivial
  | .bl _, _, _ => by unfold D.under; trivial
  | .int _, _, _ => by unfold D.under; trivial
  | .str _, _, _ => by unfold D.under; trivial
  | .scr _, _, _ => by unfold D.under; trivial
  | .ty _, _, _ => by unfold D.under; trivial
  | .cls _, _, _ => by unfold D.under; trivial
  | .adr _, _, _ => by unfold D.under; trivial
  | .set _, _, _ => by unfold D.under; trivial
  | .tdc _, _, _ => by unfold D.under; trivial
  | .dic ds, v, h => by
    unfold Rep at h
    obtain ⟨a, vs, _, _, r⟩ := h
    unfold D.under
    exact RepK.under r
  | .lst ds, v, h => by
    obtain ⟨a, vs, _, _, r⟩ := rep_lst h
    unfold D.under
    exact RepL.under r
  | .tup ds, v, h => by
    obtain ⟨a, vs, _, _, r⟩ := rep_tup h
    unfold D.under
    exact RepL.under r
  | .ins c fs, v, h => by
    unfold Rep at h
    obtain ⟨a, dx, gs, _, _, r⟩ := h
    unfold D.under
    exact RepF.under r
  | .ref n, v, h => by
    obtain ⟨a, e, _⟩ := rep_ref h
    unfold D.under
    exact (List.getElem?_eq_some_iff.mp e).1
theorem RepL.under {g : Gam} {w : Wd} : ∀ {ds : List D} {vs : List V}, RepL g w ds vs → underL w.rho.length ds
  | [], _, _ => by unfold underL; trivial
  | d :: ds, vs, h => by
    unfold RepL at h
    obtain ⟨v, r, e, a, b⟩ := h
    unfold underL
    exact ⟨Rep.under a, RepL.under b⟩
theorem RepF.under {g : Gam} {w : Wd} : ∀ {ds : List (Str × D)} {vs : List (Str × V)}, RepF g w ds vs → underF w.rho.length ds
  | [], _, _ => by unfold underF; trivial
  | (f, d) :: ds, vs, h => by
    unfold RepF at h
    obtain ⟨v, r, e, a, b⟩ := h
    unfold underF
    exact ⟨Rep.under a, RepF.under b⟩
theorem RepK.under {g : Gam} {w : Wd} : ∀ {ds : List (Key × D)} {vs : List (Key × V)}, RepK g w ds vs → underK w.rho.length ds
  | [], _, _ => by unfold underK; trivial
  | (f, d) :: ds, vs, h => by
    unfold RepK at h
    obtain ⟨v, r, e, a, b⟩ := h
    unfold underK
    exact ⟨a.under, RepK.under b⟩
end
/-- the world without its last cells, with more that stands still -/
structure Wd.cut (w w' : Wd) (n : Nat) : Prop where
  pre : ∀ m a, m < n → w.rho[m]? = some a → w'.rho[m]? = some a
  ex : Same w.G w'.G
mutual
theorem Rep.cut {g : Gam} {w w' : Wd} {n : Nat} (l : w.cut w' n) : ∀ {d : D} {v : V}, Rep g w d v → d.under n → Rep g w' d v
  | .non, _, h, _ => h
  | .bl _, _, h, _ => h
  | .int _, _, h, _ => h
  | .str _, _, h, _ => h
  | .lst ds, v, h, k => by
    unfold Rep at h ⊢
    unfold D.under at k
    obtain ⟨a, vs, e, q, r⟩ := h
    exact ⟨a, vs, e, l.ex _ _ q, RepL.cut l r k⟩
  | .tup ds, v, h, k => by
    unfold Rep at h ⊢
    unfold D.under at k
    obtain ⟨a, vs, e, q, r⟩ := h
    exact ⟨a, vs, e, same_sqT l.ex q, RepL.cut l r k⟩
  | .ins c fs, v, h, k => by
    unfold Rep at h ⊢
    unfold D.under at k
    obtain ⟨a, dx, gs, e, q, r⟩ := h
    exact ⟨a, dx, gs, e, l.ex _ _ q, RepF.cut l r k⟩
  | .ref n, v, h, k => by
    unfold Rep at h ⊢
    unfold D.under at k
    obtain ⟨a, e, q⟩ := h
    exact ⟨a, l.pre _ _ k e, q⟩
  | .scr ns, v, h, _ => by
    unfold Rep at h ⊢
    obtain ⟨a, e, q⟩ := h
    exact ⟨a, e, l.ex.seq q⟩
  | .ty _, _, h, _ => h
  | .cls _, _, h, _ => h
  | .adr _, _, h, _ => h
  | .set xs, v, h, _ => by
    unfold Rep at h ⊢
    obtain ⟨a, q, e, r, s⟩ := h
    exact ⟨a, q, e, l.ex _ _ r, s⟩
  | .dic ds, v, h, k => by
    unfold Rep at h ⊢
    unfold D.under at k
    obtain ⟨a, vs, e, q, r⟩ := h
    exact ⟨a, vs, e, same_rd l.ex q, RepK.cut l r k⟩
  | .tdc ks, v, h, _ => by
    unfold Rep at h ⊢
    obtain ⟨a, e, q⟩ := h
    exact ⟨a, e, l.ex _ _ q⟩
theorem RepL.cut {g : Gam} {w w' : Wd} {n : Nat} (l : w.cut w' n) : ∀ {ds : List D} {vs : List V}, RepL g w ds vs → underL n ds → RepL g w' ds vs
  | [], _, h, _ => h
  | d :: ds, vs, h, k => by
    unfold RepL at h ⊢
    unfold underL at k
    obtain ⟨v, r, e, a, b⟩ := h
    exact ⟨v, r, e, Rep.cut l a k.1, RepL.cut l b k.2⟩
theorem RepF.cut {g : Gam} {w w' : Wd} {n : Nat} (l : w.cut w' n) : ∀ {ds : List (Str × D)} {vs : List (Str × V)}, RepF g w ds vs → underF n ds → RepF g w' ds vs
  | [], _, h, _ => h
  | (f, d) :: ds, vs, h, k => by
    unfold RepF at h ⊢
    unfold underF at k
    obtain ⟨v, r, e, a, b⟩ := h
    exact ⟨v, r, e, Rep.cut l a k.1, RepF.cut l b k.2⟩
theorem RepK.cut {g : Gam} {w w' : Wd} {n : Nat} (l : w.cut w' n) : ∀ {ds : List (Key × D)} {vs : List (Key × V)}, RepK g w ds vs → underK n ds → RepK g w' ds vs
  | [], _, h, _ => h
  | (f, d) :: ds, vs, h, k => by
    unfold RepK at h ⊢
    unfold underK at k
    obtain ⟨v, r, e, a, b⟩ := h
    exact ⟨v, r, e, a.cut l k.1, RepK.cut l b k.2⟩
end
def Cell.under (n : Nat) : Cell → Prop
  | .lst ds => underL n ds
  | .ins _ fs => underF n fs
  | .dic ks => underK n ks
  | .tdc _ => True
  | .lck ks => underK n ks
theorem CellR.under {g : Gam} {w : Wd} {H : Hp} {a : Addr} {c : Cell} (h : CellR g w H a c) : c.under w.rho.length := by
  cases c with
  | lst ds =>
    obtain ⟨vs, _, r⟩ := h
    exact r.under
  | ins c fs =>
    obtain ⟨dx, gs, _, r⟩ := h
    exact r.under
  | dic ks =>
    obtain ⟨gs, _, r⟩ := h
    exact r.under
  | tdc ks => trivial
  | lck ks =>
    obtain ⟨_, gs, _, r⟩ := h
    exact r.under
theorem CellR.cut {g : Gam} {w w' : Wd} {H : Hp} {a : Addr} {c : Cell} {n : Nat} (l : w.cut w' n) (h : CellR g w H a c) (k : c.under n) : CellR g w' H a c := by
  cases c with
  | lst ds =>
    obtain ⟨vs, e, r⟩ := h
    exact ⟨vs, e, r.cut l k⟩
  | ins c fs =>
    obtain ⟨dx, gs, e, r⟩ := h
    exact ⟨dx, gs, e, r.cut l k⟩
  | dic ks =>
    obtain ⟨gs, e, r⟩ := h
    exact ⟨gs, e, r.cut l k⟩
  | tdc ks => exact h
  | lck ks =>
    obtain ⟨o, gs, e, r⟩ := h
    exact ⟨o, gs, e, r.cut l k⟩
section
variable {X : Cx} {Y : Gam} {W : WX} {e a b c tg iter elt o : Expr} {es rest ifs : List Expr} {ta tb te : TE} {tt tu : TT} {ma mb me : ME} {mt mu : MT} {t : TA} {m : MA} {pos p apos : Pos} {x f : Str}
variable {k n : Nat} {fa C : Addr} {fd : FuncData} {ps : List Str} {mf : MFn} {dvs : List V} {ds : List Value} {dd : List D}
/-! ### a new thing of a class, which then stands still -/
open Classical in
noncomputable def popI (c : Str) (S : Sto) (r : R Ret) : R D := match r with
  | .ok (.val .non) S2 => (match S2.getLast? with
    | some (.ins c' fs) => if S2 = S ++ [.ins c fs] ∧ c' = c ∧ underF S.length fs then .ok (.ins c fs) S else .stuck
    | _ => .stuck)
  | .exc cc none S2 => (match S2.getLast? with
    | some q => if S2 = S ++ [q] then .exc cc none S else .stuck
    | _ => .stuck)
  | _ => .stuck
theorem popI_exc {c cc : Str} {S : Sto} {q : Cell} : popI c S (.exc cc none (S ++ [q])) = .exc cc none S := by
  unfold popI
  simp
noncomputable def eNew (c : Str) (mf : MFn) (dd : List D) (m : MA) : ME := fun env S => (m env S).bind fun ds S1 => popI c S1 (mf (.ref S1.length :: (ds ++ dd)) (S1 ++ [.ins c []]))
def tMakeS (C : Addr) (sp : Sp) (dvs : List V) (E : L2.St → XK) (t : TA) : TE := fun σ H Q => t σ H fun vs H1 => ∀ x dx, H1 x = none → H1 dx = none → dx ≠ x →
  sp (.ref x :: (vs ++ dvs)) (upd (upd H1 dx (.own x)) x (.ins C dx [])) (fun v H2 => v = .non ∧ Q (.ref x) H2) (E σ)
theorem run_makeS {CX : CXT} {sp : Sp} {E : L2.St → XK} {pins : List (Addr × Obj)} {σ : L2.St} {H : Hp} {s : Shared} {Q : VK} {us : List Value} {vs : List V} (M : Mk X.K C fa) (F : FnOk X.prog X.w X.K X.mg X.base CX k fa fd ps sp) (hr : Room (k + 1) X.A) (hb : Binds X.K fd ps ds) (hd : Vals dvs ds)
    (hx : ∀ (pins : List (Addr × Obj)) (H : Hp) (s : Shared) (e : Value) (s' : Shared), Inv X pins σ H s → CX X.stack H s (E σ) e s' → X.xe e s') (I : Inv X pins σ H s) (r : Vals vs us)
    (h : ∀ x dx, H x = none → H dx = none → dx ≠ x → sp (.ref x :: (vs ++ dvs)) (upd (upd H dx (.own x)) x (.ins C dx [])) (fun v H2 => v = .non ∧ Q (.ref x) H2) (E σ)) :
    wpAny (model X.prog X.w) X.A (call (.ref C) us) (EP X pins σ Q) X.xe s := by
  have hq := h (s.heap.objs.size + 1) s.heap.objs.size (I.hok.fresh (Nat.le_succ _)) (I.hok.fresh (Nat.le_refl _)) (Nat.ne_of_lt (Nat.lt_succ_self _))
  have I2 := Inv.made (C := C) I
  have r2 : Vals (V.ref (s.heap.objs.size + 1) :: (vs ++ dvs)) (Value.ref (s.heap.objs.size + 1) :: (us ++ ds)) := .cons rfl (r.append hd)
  have hl : (Value.ref (s.heap.objs.size + 1) :: us ++ ds).length = ps.length := by
    have e := r2.length
    rw [F.len _ _ _ _ hq] at e
    exact e.symm
  refine wpAny_call (make_map (f := fa) I.kIn M.makes M.init (beq_iff_eq.mp M.fn) (codeAny_mono (F.run _ X.stack _ _ ⟨Value.ref (s.heap.objs.size + 1) :: us, []⟩ (Value.ref (s.heap.objs.size + 1) :: (us ++ ds)) _ _ (E σ) (hr.make C us [])
    (I2.env0.make C us []) (hb _ (Value.ref (s.heap.objs.size + 1) :: us) I2.kIn hl) r2 hq) fun r s' hq' => ?_))
  cases r with
  | error e => exact hx pins _ _ e s' I2 hq'
  | ok fl =>
    cases fl with
    | ret u =>
      obtain ⟨v, H', I3, rv, ev, q3⟩ := I2.after hq'
      subst ev
      exact ⟨rv, ⟨V.ref (s.heap.objs.size + 1), H', I3, rfl, q3⟩⟩
    | next => exact False.elim hq'
    | brk => exact False.elim hq'
    | cont => exact False.elim hq'
theorem pe_makeS {CX : CXT} {sp : Sp} {E : L2.St → XK} (M : Mk X.K C fa) (F : FnOk X.prog X.w X.K X.mg X.base CX k fa fd ps sp) (hr : Room (k + 1) X.A) (hg : Gl X x) (hm : X.mg x = some (.ref C)) (hb : Binds X.K fd ps ds) (hd : Vals dvs ds) (hx : ∀ σ, PassesAt CX X σ (E σ))
    (ha : PA X (e :: es) t) (hdb : (x == ("__debug__" : Str)) = false) (he : starEach (e :: es) X.env = (false, eval e X.env) :: starEach es X.env) (hpl : (backTo pos (starEach es X.env)).any (·.1) = false) :
    PE X (.Call (.Name x p) (e :: es) [] pos) (tMakeS C sp dvs E t) := by
  refine ⟨fun pins s σ H Q I h => ?_⟩
  refine wpAny_Call_Name_kw (ld_glob I hg hm ?_ hdb)
  refine PySem.W.callWith_K (h₀ := X.base) I.ok.mod.kin M.kp (thn (ha.run pos pins s σ H _ I h) fun us s1 ⟨vs, H1, I1, r, q⟩ => ⟨I1.kIn, ?_⟩) he hpl
  exact run_makeS M F hr hb hd (hx σ) I1 r q
/-- the state with the new, empty instance as a cell -/
theorem ok_inst {g : Gam} {w : Wd} {H : Hp} {S : Sto} {c : Str} {x dx : Addr} (k : Ok g w H S) (hx : H x = none) (hdx : H dx = none) (ne : dx ≠ x) :
    Ok g ⟨w.rho ++ [x], w.G⟩ (upd (upd H dx (.own x)) x (.ins (g.ca c) dx [])) (S ++ [.ins c []]) ∧ w.le ⟨w.rho ++ [x], w.G⟩ := by
  have le : w.le ⟨w.rho ++ [x], w.G⟩ := ⟨⟨[x], rfl⟩, Same.refl _⟩
  obtain ⟨k1, f1⟩ := ok_lay (o := .own x) k hdx nt_own
  have hx1 : upd H dx (.own x) x = none := by rw [upd_ne (Ne.symm ne)]; exact hx
  obtain ⟨k2, f2⟩ := ok_lay (o := .ins (g.ca c) dx []) k1 hx1 nt_ins
  have nx : x ∉ w.rho := fun m => by
    obtain ⟨_, o, e⟩ := k.cells.in_ m
    rw [hx] at e
    cases e
  refine ⟨⟨k2.ex, ⟨fun i j a h1 h2 => ?_, ?_, fun m a q h1 h2 => ?_⟩, k2.tabs, k2.notab⟩, le⟩
  · have h1 : (w.rho ++ [x])[i]? = some a := h1
    have h2 : (w.rho ++ [x])[j]? = some a := h2
    by_cases hi : i < w.rho.length
    · by_cases hj : j < w.rho.length
      · rw [List.getElem?_append_left hi] at h1
        rw [List.getElem?_append_left hj] at h2
        exact k.cells.nd i j a h1 h2
      · rw [List.getElem?_append_left hi] at h1
        rw [List.getElem?_append_right (by omega)] at h2
        have : a = x := by
          cases z : j - w.rho.length with
          | zero => rw [z] at h2; simpa using h2.symm
          | succ q => rw [z] at h2; simp at h2
        exact absurd (this ▸ List.mem_of_getElem? h1) nx
    · by_cases hj : j < w.rho.length
      · rw [List.getElem?_append_right (by omega)] at h1
        rw [List.getElem?_append_left hj] at h2
        have : a = x := by
          cases z : i - w.rho.length with
          | zero => rw [z] at h1; simpa using h1.symm
          | succ q => rw [z] at h1; simp at h1
        exact absurd (this ▸ List.mem_of_getElem? h2) nx
      · have l1 := (List.getElem?_eq_some_iff.mp h1).1
        have l2 := (List.getElem?_eq_some_iff.mp h2).1
        simp only [List.length_append, List.length_cons, List.length_nil] at l1 l2
        omega
  · show (w.rho ++ [x]).length = (S ++ [Cell.ins c []]).length
    rw [List.length_append, List.length_append, k.cells.len]
    rfl
  · have h1 : (w.rho ++ [x])[m]? = some a := h1
    by_cases hm : m < w.rho.length
    · rw [List.getElem?_append_left hm] at h1
      rw [List.getElem?_append_left (by rw [← k.cells.len]; exact hm)] at h2
      obtain ⟨q1, q2⟩ := k2.cells.at_ m a q h1 h2
      exact ⟨q1, q2.move le rfl⟩
    · rw [List.getElem?_append_right (by omega)] at h1
      rw [List.getElem?_append_right (by rw [← k.cells.len]; omega), ← k.cells.len] at h2
      cases z : m - w.rho.length with
      | zero =>
        rw [z] at h1 h2
        have ea : x = a := by simpa using h1
        have eq' : Cell.ins c [] = q := by simpa using h2
        subst ea eq'
        exact ⟨none_of_same k.ex hx, dx, [], upd_same, by unfold RepF; rfl⟩
      | succ y => rw [z] at h1; simp at h1
theorem frame_inst {g : Gam} {w w' : Wd} {H H' : Hp} {c : Str} {x dx : Addr} (hx : H x = none) (hdx : H dx = none) (ne : dx ≠ x) (f : Frame ⟨w.rho ++ [x], w.G⟩ (upd (upd H dx (.own x)) x (.ins (g.ca c) dx [])) w' H') : Frame w H w' H' := by
  have le : w.le ⟨w.rho ++ [x], w.G⟩ := ⟨⟨[x], rfl⟩, Same.refl _⟩
  have at_ : ∀ a, H a ≠ none → upd (upd H dx (.own x)) x (.ins (g.ca c) dx []) a = H a := fun a h => by
    rw [upd_ne (fun z => h (by rw [z]; exact hx)), upd_ne (fun z => h (by rw [z]; exact hdx))]
  refine ⟨le.trans f.le, fun a o h n t => f.keep a o (by rw [at_ a (by rw [h]; exact fun z => nomatch z)]; exact h) (fun z => ?_) t, fun a h => f.newG a (by rw [at_ a h]; exact h), fun a h => ?_, fun a h => f.dom a (by rw [at_ a h]; exact h), fun a ps h => f.tb a ps (by rw [at_ a (by rw [h]; exact fun z => nomatch z)]; exact h), fun a x u h => f.fz a x u (by rw [at_ a (by rw [h]; exact fun z => nomatch z)]; exact h)⟩
  · rcases List.mem_append.mp z with z | z
    · exact n z
    · have : a = x := by simpa using z
      rw [this, hx] at h
      cases h
  · rcases f.rho a h with z | z
    · rcases List.mem_append.mp z with z | z
      · exact .inl z
      · refine .inr ?_
        have : a = x := by simpa using z
        rw [this]
        exact hx
    · refine .inr ?_
      cases e : H a with
      | none => rfl
      | some o =>
        rw [at_ a (by rw [e]; exact fun z => nomatch z), e] at z
        cases z
theorem post_new {g : Gam} {c : Str} {w0 w : Wd} {H0 H : Hp} {σ : L2.St} {env : Envr} {S : Sto} {O : List (Option Addr)} {Q : VK} {x dx : Addr} {r : R Ret} (st : StR g w0 H0 w H σ env S O) (hx : H x = none) (hdx : H dx = none) (ne : dx ≠ x)
    (p : PostX g W w0 H0 w σ env O (popI c S r) (fun d _ w' H' => ∀ v, Rep g w' d v → Q v H')) : PostF g ⟨w.rho ++ [x], w.G⟩ (upd (upd H dx (.own x)) x (.ins (g.ca c) dx [])) (fun v H2 => v = .non ∧ Q (.ref x) H2) (WE W σ) r := by
  obtain ⟨k0, le0⟩ := ok_inst (c := c) st.ok hx hdx ne
  have cutW : ∀ {w' : Wd} {H' : Hp} {q : Cell}, Frame ⟨w.rho ++ [x], w.G⟩ (upd (upd H dx (.own x)) x (.ins (g.ca c) dx [])) w' H' → Ok g w' H' (S ++ [q]) → w'.rho = w.rho ++ [x] := fun {w' H' q} f k => by
    obtain ⟨tl, et⟩ := f.le.pre
    have l1 := k.cells.len
    have et : w'.rho = (w.rho ++ [x]) ++ tl := et
    rw [et, List.length_append, List.length_append, List.length_append, st.ok.cells.len] at l1
    have : tl = [] := by
      cases tl with
      | nil => rfl
      | cons y ys => simp at l1
    rw [et, this, List.append_nil]
  have nx : x ∉ w.rho := fun m => by
    obtain ⟨_, o, e⟩ := st.ok.cells.in_ m
    rw [hx] at e
    cases e
  have okS : ∀ {w' : Wd} {H' : Hp} {q : Cell} {o : HO}, Frame ⟨w.rho ++ [x], w.G⟩ (upd (upd H dx (.own x)) x (.ins (g.ca c) dx [])) w' H' → Ok g w' H' (S ++ [q]) → H' x = some o → (∀ ps, o ≠ .tbl ps) → w'.G x = none →
      Ok g ⟨w.rho, upd w'.G x o⟩ H' S ∧ Frame w H ⟨w.rho, upd w'.G x o⟩ H' ∧ w'.cut ⟨w.rho, upd w'.G x o⟩ S.length := fun {w' H' q o} f k ho nt hg => by
    have er := cutW f k
    have cw : w'.cut ⟨w.rho, upd w'.G x o⟩ S.length := ⟨fun m a hm e => by
      rw [er, List.getElem?_append_left (by rw [st.ok.cells.len]; exact hm)] at e
      exact e, same_upd hg⟩
    have f2 : Frame w H w' H' := frame_inst hx hdx ne f
    refine ⟨⟨fun b u e => ?_, ⟨st.ok.cells.nd, st.ok.cells.len, fun m b q' e1 e2 => ?_⟩, k.tabs, fun b ps e => ?_⟩, ⟨⟨⟨[], by simp⟩, f2.le.ex.trans (same_upd hg)⟩, f2.keep, fun b h => ?_, fun b h => .inl h, f2.dom, f2.tb, f2.fz⟩, cw⟩
    · by_cases hb : b = x
      · have e : upd w'.G x o b = some u := e
        rw [hb, upd_same] at e
        rw [hb, ho, e]
      · have e : upd w'.G x o b = some u := e
        rw [upd_ne hb] at e
        exact k.ex b u e
    · have hm : m < S.length := (List.getElem?_eq_some_iff.mp e2).1
      have e1' : w'.rho[m]? = some b := by
        rw [er, List.getElem?_append_left (by rw [st.ok.cells.len]; exact hm)]
        exact e1
      obtain ⟨q1, q2⟩ := k.cells.at_ m b q' e1' (by rw [List.getElem?_append_left hm]; exact e2)
      have nb : b ≠ x := fun z => nx (by rw [← z]; exact List.mem_of_getElem? e1)
      refine ⟨(upd_ne nb).trans q1, q2.cut cw ?_⟩
      obtain ⟨_, q4⟩ := st.ok.cells.at_ m b q' e1 e2
      have q5 := q4.under
      rw [st.ok.cells.len] at q5
      exact q5
    · by_cases hb : b = x
      · have e : upd w'.G x o b = some (.tbl ps) := e
        rw [hb, upd_same] at e
        exact nt ps (Option.some.inj e)
      · have e : upd w'.G x o b = some (.tbl ps) := e
        rw [upd_ne hb] at e
        exact k.notab b ps e
    · have nb : b ≠ x := fun z => h (by rw [z]; exact hx)
      exact (upd_ne nb).trans (f2.newG b h)
  unfold popI at p
  split at p
  · rename_i S2
    split at p
    · rename_i c' fs hl
      split at p
      · rename_i hc
        obtain ⟨e1, e2, e3⟩ := hc
        subst e2
        intro w' H' v f k rv
        rw [e1] at k
        have er := cutW f k
        have hlast : w'.rho[S.length]? = some x := by
          rw [er, ← st.ok.cells.len]
          simp
        obtain ⟨q1, dx', gs, q2, q3⟩ := k.cells.at_ S.length x (.ins c' fs) hlast (by simp)
        obtain ⟨k3, f3, cw⟩ := okS f k q2 nt_ins q1
        refine ⟨rep_non (g := g) (w := w') rv, p _ H' (st.after f3 k3) f3.le _ ?_⟩
        unfold Rep
        exact ⟨x, dx', gs, rfl, upd_same, q3.cut cw e3⟩
      · exact False.elim p
    · exact False.elim p
  · rename_i cc S2
    split at p
    · rename_i q hl
      split at p
      · rename_i e1
        intro w' H' cls dd f k ex
        rw [e1] at k
        have er := cutW f k
        have hlast : w'.rho[S.length]? = some x := by
          rw [er, ← st.ok.cells.len]
          simp
        obtain ⟨q1, q2⟩ := k.cells.at_ S.length x q hlast (by simp)
        obtain ⟨o, q3, q4⟩ := q2.some_
        obtain ⟨k3, f3, cw⟩ := okS f k q3 q4 q1
        exact p _ H' cls dd (st.after f3 k3) f3.le ex
      · exact False.elim p
    · exact False.elim p
  · exact False.elim p
theorem s_new (M : Mk X.K (Y.ca x) fa) (F : FnOk X.prog X.w X.K X.mg X.base (L2N.CX X.prog X.w) k fa fd ps (spOf Y n mf)) (hr : Room (k + 1) X.A) (hm : X.mg x = some (.ref (Y.ca x))) (hb : Binds X.K fd ps ds) (hd : Vals dvs ds) (hdv : ∀ w, RepL Y w dd dvs) (tk : L2N.Takes X W)
    (ha : SA X Y W (e :: es) t m) (hn : (e :: es).length + dd.length + 1 = n := by rfl) (hg : Gl X x := by rfl) (hdb : (x == ("__debug__" : Str)) = false := by decide) (he : starEach (e :: es) X.env = (false, eval e X.env) :: starEach es X.env := by rfl) (hpl : (backTo pos (starEach es X.env)).any (·.1) = false := by rfl) :
    SE X Y W (.Call (.Name x p) (e :: es) [] pos) (tMakeS (Y.ca x) (spOf Y n mf) dvs (WE W) t) (eNew x mf dd m) :=
  ⟨pe_makeS M F hr hg hm hb hd (fun σ => L2N.passAt tk σ) ha.pa hdb he hpl, fun w0 H0 w H σ env S O Q st p => by
    refine ha.sim w0 H0 w H σ env S O _ st ?_
    have p2 := PostX.bind p
    cases e : m env S with
    | stuck => rw [e] at p2; exact p2
    | exc c q S2 => rw [e] at p2; exact p2
    | ok ds S1 =>
      rw [e] at p2
      intro w1 H1 st1 l1 vs rs y dy hy hdy ne
      have p3 := p2 w1 H1 st1 l1
      obtain ⟨k4, l4⟩ := ok_inst (c := x) st1.ok hy hdy ne
      have r4 : RepL Y ⟨w1.rho ++ [y], w1.G⟩ (.ref S1.length :: (ds ++ dd)) (.ref y :: (vs ++ dvs)) := RepL.cons_ (by
        unfold Rep
        refine ⟨y, ?_, rfl⟩
        show (w1.rho ++ [y])[S1.length]? = some y
        rw [← st1.ok.cells.len]
        simp) ((rs.mono l4).append_ (hdv _))
      refine ⟨?_, ⟨w1.rho ++ [y], w1.G⟩, _, S1 ++ [.ins x []], k4, r4, post_new st1 hy hdy ne p3⟩
      rw [← r4.len, List.length_cons, List.length_append, ha.len _ _ _ _ e]
      exact hn⟩
end
end Mm
namespace Mm
open PySem L2
/-! ### enumerate(tuple) -/
def Itet (K : PySem.W.Frag) (a : Addr) : It :=
  ⟨fun i H => ∃ (xs : List V) (x : V), SqT K H a xs ∧ xs[i]? = some x, fun i H v H' => ∃ T x, v = .ref T ∧ H T = none ∧ H' = upd H T (.tup [.int (i : Nat), x]) ∧ ∀ xs, SqT K H a xs → xs[i]? = some x, fun i H => ∃ xs : List V, SqT K H a xs ∧ xs.length ≤ i⟩
section
variable {X : Cx} {Y : Gam} {W : WX} {e a b c tg iter elt o : Expr} {es rest ifs : List Expr} {ta tb te : TE} {tt tu : TT} {ma mb me : ME} {mt mu : MT} {mf : MF} {t : TA} {m : MA} {pos p apos : Pos} {s : Stmt} {ss : List Stmt} {t1 t2 : TS} {m1 m2 : MS} {wi : TI} {mi : MI} {x f : Str}
def iEnumS (K : PySem.W.Frag) (ta : TA) : TI := fun σ H R => ta σ H fun vs H1 => ∃ a xs, vs = [.ref a] ∧ ((SqL K H1 a xs ∧ R (Ite K a) H1) ∨ (SqT K H1 a xs ∧ R (Itet K a) H1))
def itES (m : MA) : MI := fun env S => (m env S).bind fun ds S1 => match ds with
  | [.lst ds] => .ok (enumD 0 ds) S1
  | [.tup ds] => .ok (enumD 0 ds) S1
  | _ => .stuck
/-! ### a new thing becomes a cell -/
theorem own_cell {g : Gam} {w0 w : Wd} {H0 H : Hp} {σ : L2.St} {env : Envr} {S : Sto} {O : List (Option Addr)} {cc : Cell} {q : Addr} (st : StR g w0 H0 w H σ env S O) (a : OwnAt g w H0 H O cc q) :
    StR g w0 H0 ⟨w.rho ++ [q], w.G⟩ H σ env (S ++ [cc]) O ∧ w.le ⟨w.rho ++ [q], w.G⟩ ∧ Rep g ⟨w.rho ++ [q], w.G⟩ (.ref S.length) (.ref q) := by
  have le : w.le ⟨w.rho ++ [q], w.G⟩ := ⟨⟨[q], rfl⟩, Same.refl _⟩
  refine ⟨⟨⟨st.ok.ex, ⟨fun i j b h1 h2 => ?_, ?_, fun k b d h1 h2 => ?_⟩, st.ok.tabs, st.ok.notab⟩, ⟨st.fr.le.trans le, st.fr.keep, st.fr.newG, fun b h => ?_, st.fr.dom, st.fr.tb, st.fr.fz⟩, st.l1, st.l2, fun i s x o e1 e2 e3 => ?_, st.inj, fun i b e => ?_⟩, le, ?_⟩
  · have h1 : (w.rho ++ [q])[i]? = some b := h1
    have h2 : (w.rho ++ [q])[j]? = some b := h2
    have one : ∀ k, ¬ k < w.rho.length → (w.rho ++ [q])[k]? = some b → b = q := fun k hk h => by
      rw [List.getElem?_append_right (by omega)] at h
      cases z : k - w.rho.length with
      | zero => rw [z] at h; simpa using h.symm
      | succ y => rw [z] at h; simp at h
    by_cases hi : i < w.rho.length
    · by_cases hj : j < w.rho.length
      · rw [List.getElem?_append_left hi] at h1
        rw [List.getElem?_append_left hj] at h2
        exact st.ok.cells.nd i j b h1 h2
      · rw [List.getElem?_append_left hi] at h1
        exact absurd (one j hj h2 ▸ List.mem_of_getElem? h1) a.nr
    · by_cases hj : j < w.rho.length
      · rw [List.getElem?_append_left hj] at h2
        exact absurd (one i hi h1 ▸ List.mem_of_getElem? h2) a.nr
      · have l1 := (List.getElem?_eq_some_iff.mp h1).1
        have l2 := (List.getElem?_eq_some_iff.mp h2).1
        simp only [List.length_append, List.length_cons, List.length_nil] at l1 l2
        omega
  · show (w.rho ++ [q]).length = (S ++ [cc]).length
    rw [List.length_append, List.length_append, st.ok.cells.len]
    rfl
  · have h1 : (w.rho ++ [q])[k]? = some b := h1
    by_cases hm : k < w.rho.length
    · rw [List.getElem?_append_left hm] at h1
      rw [List.getElem?_append_left (by rw [← st.ok.cells.len]; exact hm)] at h2
      obtain ⟨q1, q2⟩ := st.ok.cells.at_ k b d h1 h2
      exact ⟨q1, q2.move le rfl⟩
    · rw [List.getElem?_append_right (by omega)] at h1
      rw [List.getElem?_append_right (by rw [← st.ok.cells.len]; omega), ← st.ok.cells.len] at h2
      cases z : k - w.rho.length with
      | zero =>
        rw [z] at h1 h2
        have ea : q = b := by simpa using h1
        have eq' : cc = d := by simpa using h2
        subst ea eq'
        exact ⟨a.ng, a.at_.move le rfl⟩
      | succ y => rw [z] at h1; simp at h1
  · rcases List.mem_append.mp (show b ∈ w.rho ++ [q] from h) with z | z
    · exact st.fr.rho b z
    · have : b = q := by simpa using z
      rw [this]
      exact .inr a.n0
  · have q' := st.sl i s x o e1 e2 e3
    cases s with
    | no => exact q'
    | v d =>
      obtain ⟨z1, v, z2, z3⟩ := q'
      exact ⟨z1, v, z2, z3.mono le⟩
    | o c' =>
      obtain ⟨p', z1, z2, z3, z4⟩ := q'
      exact ⟨p', z1, z2, z3, z4.move le rfl⟩
  · obtain ⟨z1, z2, z3⟩ := st.fresh i b e
    refine ⟨z1, fun h => ?_, z3⟩
    rcases List.mem_append.mp (show b ∈ w.rho ++ [q] from h) with z | z
    · exact z2 z
    · have : b = q := by simpa using z
      exact a.no i (by rw [← this]; exact e)
  · unfold Rep
    refine ⟨q, ?_, rfl⟩
    show (w.rho ++ [q])[S.length]? = some q
    rw [← st.ok.cells.len]
    simp
def sCell (i : Nat) (mf : MF) : MS := fun env S => (mf env S).out env fun c S1 => .nx (env.set i (.v (.ref S1.length))) (S1 ++ [c])
theorem sim_cell {g : Gam} {i : Nat} (h : SimF g W te mf) : SimS g W (tAsg te (gName i)) (sCell i mf) := fun w0 H0 w H σ env S O Dn st p =>
  h w0 H0 w H σ env S O _ st ((PostS.out p).imp fun c S1 w1 H1 st1 l1 p1 q ow => by
    obtain ⟨st2, l2, r2⟩ := own_cell st1 ow
    exact p1 _ H1 _ _ (st2.set_v i r2) l2)
theorem t_cell {i : Nat} {x : Str} {pos' : Pos} (hN : X.N.Nodup) (hi : X.N[i]? = some x) (hx : Loc X.env.scope x) (he : SF X Y W e te mf) (hs : swapsWith e (some (.Name x pos')) pos.line X.env = pure false := by rfl) (hf : X.fn x = true ∨ X.env.scope.names.lookup x = some .local := by first | exact .inl rfl | exact .inr rfl | assumption) :
    SS X Y W (.Assign [.Name x pos'] e pos) (tAsg te (gName i)) (sCell i mf) := ⟨ps_set hN hi hx he.pe hs hf, sim_cell he.sim⟩
/-! ### a slot's own thing stands still from here on -/
def frzAt (i : Nat) (env : Envr) : Envr := match env[i]? with
  | some (.o c) => env.set i (.v c.d)
  | _ => env
def sFrz (i : Nat) (m : MS) : MS := fun env S => m (frzAt i env) S
theorem set_get_self {α : Type} (l : List α) (i : Nat) (x : α) (h : l[i]? = some x) : l.set i x = l := by
  refine List.ext_getElem? fun k => ?_
  rw [List.getElem?_set]
  split
  · rename_i e
    subst e
    split
    · exact h.symm
    · rename_i hl
      rw [List.getElem?_eq_none_iff.mpr (by omega)] at h
      cases h
  · rfl
theorem StR.frz {g : Gam} {w0 w : Wd} {H0 H : Hp} {σ : L2.St} {env : Envr} {S : Sto} {O : List (Option Addr)} (st : StR g w0 H0 w H σ env S O) (i : Nat) : ∃ w' O', StR g w0 H0 w' H σ (frzAt i env) S O' ∧ w.le w' := by
  unfold frzAt
  split
  · rename_i c hs
    obtain ⟨q, e1, e2, e3, e4, e5, e6, hi⟩ := st.own_at hs
    have sl : ∀ (j : Nat) (z : Sl), (env.set i .no)[j]? = some z → (j = i ∧ z = .no) ∨ (j ≠ i ∧ env[j]? = some z) := fun j z h => by
      rw [List.getElem?_set] at h
      split at h
      · rename_i e
        split at h
        · exact .inl ⟨e.symm, (Option.some.inj h).symm⟩
        · cases h
      · rename_i e
        exact .inr ⟨Ne.symm e, h⟩
    have st1 : StR g w0 H0 w H σ (env.set i .no) S (O.set i none) := by
      refine ⟨st.ok, st.fr, by rw [List.length_set]; exact st.l1, by rw [List.length_set]; exact st.l2, fun j s x o h1 h2 h3 => ?_, fun j k r h1 h2 => ?_, fun j r h => ?_⟩
      · rcases sl j s h1 with ⟨z1, z2⟩ | ⟨z1, z2⟩
        · rw [z2]
          rw [List.getElem?_set, if_pos z1.symm] at h3
          split at h3
          · exact (Option.some.inj h3).symm
          · cases h3
        · rw [List.getElem?_set, if_neg (Ne.symm z1)] at h3
          exact st.sl j s x o z2 h2 h3
      · rw [List.getElem?_set] at h1 h2
        split at h1
        · split at h1 <;> cases h1
        · split at h2
          · split at h2 <;> cases h2
          · exact st.inj j k r h1 h2
      · rw [List.getElem?_set] at h
        split at h
        · split at h <;> cases h
        · rename_i hn
          obtain ⟨y1, y2, y3, y4⟩ := st.fresh j r h
          exact ⟨y1, y2, y3, by rw [List.getElem?_set, if_neg hn]; exact y4⟩
    have ow : OwnAt g w H0 H (O.set i none) c q := ⟨e5, e3, e6, fun j h => by
      rw [List.getElem?_set] at h
      split at h
      · split at h <;> cases h
      · rename_i hn
        exact hn (st.inj i j q e2 h), e4⟩
    obtain ⟨w2, st2, l2, r2⟩ := own_freeze st1 ow
    have st3 := st2.set_v i r2
    rw [List.set_set, List.set_set] at st3
    refine ⟨w2, O.set i none, ?_, l2⟩
    have es : σ.set i (some (.ref q)) = σ := set_get_self σ i _ e1
    rw [es] at st3
    exact st3
  · exact ⟨w, O, st, .refl w⟩
theorem sim_sfrz {g : Gam} {i : Nat} (h : SimS g W t1 m1) : SimS g W t1 (sFrz i m1) := fun w0 H0 w H σ env S O Dn st p => by
  obtain ⟨w', O', st', l'⟩ := st.frz i
  exact h w0 H0 w' H σ _ S O' Dn st' (PostS.mono p l')
theorem b_frz (i : Nat) (h : SB X Y W ss t1 m1) : SB X Y W ss t1 (sFrz i m1) := ⟨h.pss, sim_sfrz h.sim⟩
end
end Mm
namespace Mm
open PySem L2
section
variable {X : Cx} {Y : Gam} {W : WX} {e a b c tg iter elt o : Expr} {es rest ifs : List Expr} {ta tb te : TE} {tt tu : TT} {ma mb me : ME} {mt mu : MT} {mf : MF} {t : TA} {m : MA} {pos p apos : Pos} {s : Stmt} {ss : List Stmt} {t1 t2 : TS} {m1 m2 : MS} {wi : TI} {mi : MI} {x f : Str}
/-! ### reading an own list -/
def eLenO (i : Nat) : ME := fun env S => match env[i]? with
  | some (.o (.lst ds)) => .ok (.int ds.length) S
  | _ => .stuck
theorem s_lenO (i : Nat) {x : Str} {p1 : Pos} (hm : X.mg "len" = none) (hK : X.K = Y.K := by rfl) (hN : X.N[i]? = some x := by rfl) (hv : Vis X.env.scope x := by first | exact Or.inl rfl | exact Or.inr (Or.inl rfl) | exact Or.inr (Or.inr rfl)) (hd : (x == ("__debug__" : Str)) = false := by decide)
    (hcd : (x == ("__classdict__" : Str)) = false := by decide) (hg : Gl X "len" := by rfl) (he : starEach [.Name x p1] X.env = (false, eval (.Name x p1) X.env) :: starEach [] X.env := by rfl) (hpl : (backTo pos (starEach [] X.env)).any (·.1) = false := by rfl) :
    SE X Y W (.Call (.Name "len" p) [.Name x p1] [] pos) (tCB (rLn Y.K) (tCons (tVar i) tNil)) (eLenO i) := ⟨hK ▸ pe_callB cr_len hg hm PySem.boot_len (pa_cons (pv i hN hv hd hcd) pa_nil he) (by decide) (by decide) he hpl, fun w0 H0 w H σ env S O Q st p => by
  unfold eLenO at p
  split at p
  · rename_i ds hs
    obtain ⟨q, e1, e2, e3, ⟨vs, e4, e4'⟩, e5, e6, hi⟩ := st.own_at hs
    exact ⟨.ref q, e1, .inl ⟨q, vs, rfl, .inl (.inl (.inl e4)), p w H st (.refl w) _ (by rw [e4'.len]; exact rep_int')⟩⟩
  · exact p.elim⟩
def eIxO (i : Nat) (mk : ME) : ME := fun env S => match env[i]? with
  | some (.o (.lst ds)) => (mk env S).bind fun k S1 => (match k with
    | .int k => opt (atI ds k) S1
    | _ => .stuck)
  | _ => .stuck
/-! ### xs[k] += e, xs a cell -/
def rGetL (K : PySem.W.Frag) : V → V → Hp → VK → Prop := rIxL K
theorem get_list : PGet X (rIxL X.K) := by
  intro pins s σ H x y v u Q I rx ry h
  obtain ⟨p, xs, i, z, rfl, rfl, hq, he, q⟩ := h
  cases rx
  obtain ⟨t, rfl⟩ := ry
  obtain ⟨its, r, pl, hz⟩ := I.list hq
  obtain ⟨j, h1, h2, h3, h4, h5⟩ := atI_get he
  obtain ⟨w, ew, rw'⟩ := r.get h2
  have hl := r.length
  have hn := line63
  have fin : EP X pins σ Q w s := ⟨z, H, I, rw', q⟩
  by_cases h0 : 0 ≤ i
  · have hj : i.toNat = j := by
      rw [seqIndex_of h0 h5] at h1
      exact Option.some.inj h1
    exact wpAny_getItem_list pl.isList h0 (by omega) (by rw [hj]; simpa using ew) fin
  · have hj : (i + (its.toArray.size : Int)).toNat = j := by
      rw [seqIndex_neg (by omega) h4] at h1
      rw [List.size_toArray, ← hl]
      exact Option.some.inj h1
    exact wpAny_getItem_list_neg pl.isList (by omega) (by rw [List.size_toArray] <;> omega) (by omega) (by rw [hj]; simpa using ew) fin
def sAugC (mo mk : ME) (f : Int → Int → Int) (me : ME) : MS := fun env S => (mo env S).out env fun o S1 => (mk env S1).out env fun k S2 => match o, k with
  | .ref n, .int k => (match S2[n]? with
    | some (.lst ds) => (match atI ds k with
      | some (.int x) => (me env S2).out env fun d S3 => (match d, S3[n]? with
        | .int y, some (.lst ds') => (match ixN ds'.length k with
          | some j => .nx env (S3.set n (.lst (ds'.set j (.int (f x y)))))
          | none => .stuck)
        | _, _ => .stuck)
      | _ => .stuck)
    | _ => .stuck)
  | _, _ => .stuck
theorem t_augC {op : Operator} {f : Int → Int → Int} {p2 : Pos} (hp : PIp X op (ipI f)) (ho : SE X Y W o ta ma) (hk : SE X Y W b tb mb) (he : SE X Y W e te me) (hK : X.K = Y.K := by rfl)
    (ha : ∀ ov iv new, augStore b ov iv new = (do holding [new, ov, iv] (setItem ov iv new); release [new, ov, iv] []; pure .next) := by intros; rfl) :
    SS X Y W (.AugAssign (.Subscript o b p2) op e pos) (tAugS ta tb te (rIxL Y.K) (ipI f) rSetL) (sAugC ma mb f me) := ⟨hK ▸ ps_augS ho.pe hk.pe get_list he.pe hp set_list ha, fun w0 H0 w H σ env S O Dn st p =>
  ho.sim w0 H0 w H σ env S O _ st ((PostS.out p).imp fun od S1 w1 H1 st1 l1 p1 ov or => hk.sim w0 H0 w1 H1 σ env S1 O _ st1 ((PostS.out p1).imp fun k S2 w2 H2 st2 l2 p2 kv kr => by
    split at p2
    · rename_i n k
      split at p2
      · rename_i ds hS
        split at p2
        · rename_i x hx
          obtain ⟨q, us, x1, x2, x3, x4⟩ := cell_lst st2.ok (or.mono l2) hS
          obtain ⟨v, g1, g2⟩ := x4.atI_ hx
          refine ⟨q, us, k, v, x1, rep_int kr, .inl (.inl x3), g1, ?_⟩
          refine he.sim w0 H0 w2 H2 σ env S2 O _ st2 ((PostS.out p2).imp fun d S3 w3 H3 st3 l3 p3 dv dr => ?_)
          split at p3
          · rename_i y ds' hS3
            split at p3
            · rename_i j hj
              obtain ⟨q', us', y1, y2, y3, y4⟩ := cell_lst st3.ok (or.mono (l2.trans l3)) hS3
              refine ⟨x, y, rep_int g2, rep_int dr, q', us', k, j, y1, rep_int kr, y3, by rw [← y4.len]; exact hj, ?_⟩
              obtain ⟨k4, f4⟩ := ok_cell (c' := .lst (ds'.set j (.int (f x y)))) st3.ok y2 hS3 (o := .lst (us'.set j (.int (f x y)))) ⟨_, upd_same, y4.set_ rep_int' j⟩ nt_lst
              exact p3 w3 _ σ O (st3.after f4 k4) (.refl w3)
            · exact False.elim p3
          · exact False.elim p3
        · exact False.elim p2
      · exact False.elim p2
    · exact False.elim p2))⟩
/-! ### own == -/
variable {k n : Nat} {fa C : Addr} {fd : FuncData} {ps : List Str} {mfn : MFn} {ds : List Value}
def rEqI (C : Addr) (sp : Sp) (E : XK) : R2 := fun x y H Q => ∃ a b dx dy fs gs, x = .ref a ∧ y = .ref b ∧ H a = some (.ins C dx fs) ∧ H b = some (.ins C dy gs) ∧ sp [x, y] H (fun v H' => ∃ k, v = .bl k ∧ Q v H') E
theorem op_eqI {CX : CXT} {sp : Sp} {E : XK} (F : FnOk X.prog X.w X.K X.mg X.base CX n fa fd ps sp) (hr : Room n X.A)
    (hs : PySem.W.findIn X.K (.ref C) "__eq__" = some (some (.ref fa))) (hf : PySem.W.isFn X.K (.ref fa) = true) (hb : Binds X.K fd ps []) (hx : Passes CX X E) : OpR X (compareOp .Eq) (rEqI C sp E) := by
  intro pins s σ H x y u v Q I rx ry d
  obtain ⟨a, b, dx, dy, fs, gs, rfl, rfl, ha, hb', hsp⟩ := d
  cases rx
  cases ry
  obtain ⟨mA, J, _⟩ := ins_get I.hok ha
  obtain ⟨mB, J', _⟩ := ins_get I.hok hb'
  obtain ⟨od, J, _⟩ := J.look
  obtain ⟨od', J', _⟩ := J'.look
  obtain ⟨m, hF⟩ := I.fr
  show wpAny (model X.prog X.w) X.A (richCompare .Eq (.ref a) (.ref b)) (EP X pins σ Q) X.xe s
  refine PySem.W.cmp_K (op := .Eq) (tb := .ref C) hr.units0 hF I.ok.mod.kin J J'.type (by simp [PySem.W.notFirst]) hs hf ?_
  have hl := F.len _ _ _ _ hsp
  have r2 : Vals [V.ref a, V.ref b] [Value.ref a, Value.ref b] := .cons rfl (.cons rfl .nil)
  refine wpAny_call (codeAny_mono (F.run X.A X.stack s H ⟨[.ref a, .ref b], []⟩ [.ref a, .ref b] [.ref a, .ref b] _ E hr I.env0 (by
    have := hb s [.ref a, .ref b] I.kIn (by simpa using hl)
    simpa using this) r2 hsp) fun r s' hq => ?_)
  cases r with
  | error e => exact hx pins σ H s e s' I hq
  | ok fl =>
    cases fl with
    | ret w =>
      obtain ⟨z, H', I', rz, kk, ez, q⟩ := I.after hq
      subst ez
      cases rz
      exact ⟨.bl kk, H', I', rfl, q⟩
    | next => exact False.elim hq
    | brk => exact False.elim hq
    | cont => exact False.elim hq
theorem passN {X : Cx} : Passes (L2N.CX X.prog X.w) X E0 := fun _ _ _ _ _ _ _ z => (show False by
  obtain ⟨_, _, _, _, _, _, _, _, _, _, _, _, q⟩ := z
  exact q).elim
theorem takesN {X : Cx} : L2N.Takes X (fun _ _ _ _ => False) := fun _ _ z => (show False by
  obtain ⟨_, _, _, _, _, _, _, _, _, _, _, _, _, _, _, _, q⟩ := z
  exact q).elim
def eEqI (c : Str) (f : MFn) (ma mb : ME) : ME := fun env S => (ma env S).bind fun d1 S1 => (mb env S1).bind fun d2 S2 => match insOf c S2 d1, insOf c S2 d2, f [d1, d2] S2 with
  | some _, some _, .ok (.val (.bl k)) S3 => .ok (.bl k) S3
  | _, _, _ => .stuck
theorem s_eqI (c : Str) (F : FnOk X.prog X.w X.K X.mg X.base (L2N.CX X.prog X.w) n fa fd ps (spOf Y 2 mfn)) (hr : Room n X.A) (hM : Meth X.K (Y.ca c) "__eq__" fa) (hb : Binds X.K fd ps []) (ha : SE X Y W a ta ma) (hb' : SE X Y W b tb mb) :
    SE X Y W (.Compare a [.Eq] [b] pos) (tOp (rEqI (Y.ca c) (spOf Y 2 mfn) E0) ta tb) (eEqI c mfn ma mb) := ⟨pe_cmpR (op_eqI F hr hM.at_ hM.fn hb passN) ha.pe hb'.pe (nobehind _ (by decide) (by decide)), fun w0 H0 w H σ env S O Q st p =>
  ha.sim w0 H0 w H σ env S O _ st ((PostX.bind p).imp fun d1 S1 w1 H1 st1 l1 p1 v1 r1 => hb'.sim w0 H0 w1 H1 σ env S1 O _ st1 ((PostX.bind p1).imp fun d2 S2 w2 H2 st2 l2 p2 v2 r2 => by
    split at p2
    · rename_i fs gs kk S3 h1 h2 h3
      obtain ⟨q1, dx, fv, x1, x2, x3⟩ := insOf_rep st2.ok (r1.mono l2) h1
      obtain ⟨q2, dy, gv, y1, y2, y3⟩ := insOf_rep st2.ok r2 h2
      refine ⟨q1, q2, dx, dy, fv, gv, x1, y1, x2, y2, rfl, w2, [d1, d2], S2, st2.ok, RepL.cons_ (r1.mono l2) (RepL.cons_ r2 RepL.nil_), ?_⟩
      rw [h3]
      intro w' H' v f k rv
      have ev : v = .bl kk := rep_bl (g := Y) (w := w') rv
      exact ⟨kk, ev, p2 w' H' (st2.after f k) f.le v (by rw [ev]; exact rep_bl')⟩
    · exact False.elim p2))⟩
/-! ### isinstance(x, C) of a thing of that class -/
def eIsC (c : Str) (m : MA) : ME := fun env S => (m env S).bind fun ds S1 => match ds with
  | [d, .cls c'] => if c' = c then (match insOf c S1 d with
    | some _ => .ok (.bl true) S1
    | none => .stuck) else .stuck
  | _ => .stuck
theorem s_gcls {x : Str} (hm : X.mg x = some (.ref (Y.ca x))) (hg : Gl X x := by rfl) (hd : (x == ("__debug__" : Str)) = false := by decide) : SE X Y W (.Name x pos) (tC (.ref (Y.ca x))) (eC (.cls x)) :=
  ⟨pe_glob hg hm rfl hd, sim_c fun _ => by unfold Rep; rfl⟩
/-! ### a, b = a list -/
def gU (b : MGs) : MG := fun d env => match d with
  | .lst ds => b ds env
  | _ => none
end
end Mm
namespace Mm
open PySem L2
/-! ### what is known of the text's defs and classes -/
section
variable (P : Program) (w : World) (K : PySem.W.Frag) (mg : Str → Option Value) (base : Heap) (Y : Gam)
/-- a def of the module: k its level, n its parameters, dvs, dd the defaults that fill up -/
def Kn (k : Nat) (x : Str) (n : Nat) (mf : MFn) (dvs : List V) (dd : List D) : Prop := ∃ f fd ps ds, FnOk P w K mg base (L2N.CX P w) k f fd ps (spOf Y n mf) ∧ mg x = some (.ref f) ∧ PySem.W.keepIn K (.ref f) = true ∧ Binds K fd ps ds ∧ Vals dvs ds ∧ ∀ w, RepL Y w dd dvs
/-- a method -/
def KnM (k : Nat) (c x : Str) (n : Nat) (mf : MFn) (dvs : List V) (dd : List D) : Prop := ∃ f fd ps ds, FnOk P w K mg base (L2N.CX P w) k f fd ps (spOf Y n mf) ∧ Cls K (Y.ca c) ∧ Meth K (Y.ca c) x f ∧ Binds K fd ps ds ∧ Vals dvs ds ∧ ∀ w, RepL Y w dd dvs
/-- a class by its __init__ -/
def KnC (k : Nat) (x : Str) (n : Nat) (mf : MFn) (dvs : List V) (dd : List D) : Prop := ∃ f fd ps ds, FnOk P w K mg base (L2N.CX P w) k f fd ps (spOf Y n mf) ∧ Mk K (Y.ca x) f ∧ mg x = some (.ref (Y.ca x)) ∧ Binds K fd ps ds ∧ Vals dvs ds ∧ ∀ w, RepL Y w dd dvs
end
/-- an own exception class without fields -/
structure KnX (K : PySem.W.Frag) (mg : Str → Option Value) (Y : Gam) (x : Str) : Prop where
  xP : PySem.W.excIn K (Y.ca x) [.type "ValueError", .type "Exception", .type "BaseException", .type "object"] "ValueError.__new__" = true
  gP : mg x = some (.ref (Y.ca x))
  kP : PySem.W.keepIn K (.ref (Y.ca x)) = true
  bP : PySem.W.subIn K (.ref (Y.ca x)) (.type "BaseException") = some true
  tP : PySem.W.typeIn K (.ref (Y.ca x)) = some (.type "type")
/-- built-in names that the module leaves alone -/
structure Bl (mg : Str → Option Value) : Prop where
  len : mg "len" = none
  range : mg "range" = none
  enumerate : mg "enumerate" = none
  zip : mg "zip" = none
  sorted : mg "sorted" = none
  sum : mg "sum" = none
  all : mg "all" = none
  any : mg "any" = none
  list : mg "list" = none
  tuple : mg "tuple" = none
  int : mg "int" = none
  isinstance : mg "isinstance" = none
  min : mg "min" = none
  max : mg "max" = none
  set : mg "set" = none
  abs : mg "abs" = none
  bool : mg "bool" = none
  str : mg "str" = none
  repr : mg "repr" = none
  dict : mg "dict" = none
section
variable {X : Cx} {Y : Gam} {W : WX} {e a b c tg iter elt o : Expr} {es rest ifs : List Expr} {ta tb te : TE} {tt tu : TT} {ma mb me : ME} {mt mu : MT} {mf : MF} {t : TA} {m : MA} {pos p apos : Pos} {s : Stmt} {ss : List Stmt} {t1 t2 : TS} {m1 m2 : MS} {wi : TI} {mi : MI} {x f : Str}
variable {k n : Nat} {mfn : MFn} {dvs : List V} {dd : List D}
theorem u_call (h : Kn X.prog X.w X.K X.mg X.base Y k x n mfn dvs dd) (hr : Room k X.A) (tk : L2N.Takes X W)
    (ha : SA X Y W (e :: es) t m) (hn : (e :: es).length + dd.length = n := by rfl) (hg : Gl X x := by rfl) (hdb : (x == ("__debug__" : Str)) = false := by decide) (he : starEach (e :: es) X.env = (false, eval e X.env) :: starEach es X.env := by rfl) (hpl : (backTo pos (starEach es X.env)).any (·.1) = false := by rfl) :
    SE X Y W (.Call (.Name x p) (e :: es) [] pos) (tCallSD (spOf Y n mfn) dvs (WE W) t) (eCall mfn dd m) := by
  obtain ⟨f, fd, ps, ds, F, hm, hk, hb, hd, hdv⟩ := h
  exact s_call F hr hm hk hb hd hdv tk ha hn hg hdb he hpl
theorem v_call (h : Kn X.prog X.w X.K X.mg X.base Y k x n mfn dvs dd) (hr : Room k X.A) (tk : L2N.Takes X W)
    (ha : SA X Y W (e :: es) t m) (hn : (e :: es).length + dd.length = n := by rfl) (hg : Gl X x := by rfl) (hdb : (x == ("__debug__" : Str)) = false := by decide) (he : starEach (e :: es) X.env = (false, eval e X.env) :: starEach es X.env := by rfl) (hpl : (backTo pos (starEach es X.env)).any (·.1) = false := by rfl) :
    SF X Y W (.Call (.Name x p) (e :: es) [] pos) (tCallSD (spOf Y n mfn) dvs (WE W) t) (fCall mfn dd m) := by
  obtain ⟨f, fd, ps, ds, F, hm, hk, hb, hd, hdv⟩ := h
  exact f_call F hr hm hk hb hd hdv tk ha hn hg hdb he hpl
theorem u_meth0 (c : Str) {pl : Sem Bool} (h : KnM X.prog X.w X.K X.mg X.base Y k c x n mfn dvs dd) (hr : Room k X.A) (tk : L2N.Takes X W) (ho : SE X Y W o ta ma)
    (hn : dd.length + 1 = n := by rfl)
    (ht : eval (.Call (.Attribute o x apos) [] [] pos) X.env = (do
      let ov ← eval o X.env
      standAt apos.atName
      let (f, first) ← holding [ov] (getMethod ov x pl)
      callWith pos f first (backTo pos (starEach [] X.env)) (backToKw pos (keywordEach [] X.env))) := by rfl) :
    SE X Y W (.Call (.Attribute o x apos) [] [] pos) (tMethS (Y.ca c) x (spOf Y n mfn) dvs (WE W) ta tNil) (eMeth c x mfn dd ma aNil) := by
  obtain ⟨f, fd, ps, ds, F, hC, hm, hb, hd, hdv⟩ := h
  exact s_meth0 c ho hC hm F hr hb hd hdv tk hn ht
theorem u_new (h : KnC X.prog X.w X.K X.mg X.base Y k x n mfn dvs dd) (hr : Room (k + 1) X.A) (tk : L2N.Takes X W)
    (ha : SA X Y W (e :: es) t m) (hn : (e :: es).length + dd.length + 1 = n := by rfl) (hg : Gl X x := by rfl) (hdb : (x == ("__debug__" : Str)) = false := by decide) (he : starEach (e :: es) X.env = (false, eval e X.env) :: starEach es X.env := by rfl) (hpl : (backTo pos (starEach es X.env)).any (·.1) = false := by rfl) :
    SE X Y W (.Call (.Name x p) (e :: es) [] pos) (tMakeS (Y.ca x) (spOf Y n mfn) dvs (WE W) t) (eNew x mfn dd m) := by
  obtain ⟨f, fd, ps, ds, F, M, hm, hb, hd, hdv⟩ := h
  exact s_new M F hr hm hb hd hdv tk ha hn hg hdb he hpl
theorem u_eq (c : Str) (h : KnM X.prog X.w X.K X.mg X.base Y k c "__eq__" 2 mfn [] []) (hr : Room k X.A) (ha : SE X Y W a ta ma) (hb' : SE X Y W b tb mb) :
    SE X Y W (.Compare a [.Eq] [b] pos) (tOp (rEqI (Y.ca c) (spOf Y 2 mfn) E0) ta tb) (eEqI c mfn ma mb) := by
  obtain ⟨f, fd, ps, ds, F, hC, hm, hb, hd, hdv⟩ := h
  cases hd
  exact s_eqI c F hr hm hb ha hb'
theorem u_int {x : Str} {i : Int} (hm : ∃ u, X.mg x = some (.int i u)) (hg : Gl X x := by rfl) (hd : (x == ("__debug__" : Str)) = false := by decide) : SE X Y W (.Name x pos) (tC (.int i)) (eC (.int i)) := by
  obtain ⟨u, hm⟩ := hm
  exact s_gint hm hg hd
theorem u_raise {x : Str} {pos' : Pos} (h : KnX X.K X.mg Y x) (tk : L2N.Takes X W) (hc : X.calm = true := by rfl) (hg : Gl X x := by rfl) (hdb : (x == ("__debug__" : Str)) = false := by decide) :
    SS X Y W (.Raise (some (.Call (.Name x p) [] [] pos)) none pos') (fun _ σ H => W (.ref (Y.ca x)) none σ H) (sRaise x) := t_raise h.xP h.gP h.kP h.bP h.tP tk hc hg hdb
/-! ### slots, told by their place -/
theorem u_set (i : Nat) {x : Str} {pos' : Pos} (he : SE X Y W e te me) (hN : X.N.Nodup) (hi : X.N[i]? = some x := by rfl) (hx : Loc X.env.scope x := by first | exact Or.inl rfl | exact Or.inr rfl) (hs : swapsWith e (some (.Name x pos')) pos.line X.env = pure false := by rfl) (hf : X.fn x = true ∨ X.env.scope.names.lookup x = some .local := by first | exact .inl rfl | exact .inr rfl | assumption) :
    SS X Y W (.Assign [.Name x pos'] e pos) (tAsg te (gName i)) (sAsg me (gN i)) := t_set hN hi hx he hs hf
theorem u_own (i : Nat) {x : Str} {pos' : Pos} (he : SF X Y W e te mf) (hN : X.N.Nodup) (hi : X.N[i]? = some x := by rfl) (hx : Loc X.env.scope x := by first | exact Or.inl rfl | exact Or.inr rfl) (hs : swapsWith e (some (.Name x pos')) pos.line X.env = pure false := by rfl) (hf : X.fn x = true ∨ X.env.scope.names.lookup x = some .local := by first | exact .inl rfl | exact .inr rfl | assumption) :
    SS X Y W (.Assign [.Name x pos'] e pos) (tAsg te (gName i)) (sOwn i mf) := t_own hN hi hx he hs hf
theorem u_cell (i : Nat) {x : Str} {pos' : Pos} (he : SF X Y W e te mf) (hN : X.N.Nodup) (hi : X.N[i]? = some x := by rfl) (hx : Loc X.env.scope x := by first | exact Or.inl rfl | exact Or.inr rfl) (hs : swapsWith e (some (.Name x pos')) pos.line X.env = pure false := by rfl) (hf : X.fn x = true ∨ X.env.scope.names.lookup x = some .local := by first | exact .inl rfl | exact .inr rfl | assumption) :
    SS X Y W (.Assign [.Name x pos'] e pos) (tAsg te (gName i)) (sCell i mf) := t_cell hN hi hx he hs hf
theorem u_g (i : Nat) {x : Str} (hN : X.N.Nodup) (hi : X.N[i]? = some x := by rfl) (hx : Loc X.env.scope x := by first | exact Or.inl rfl | exact Or.inr rfl) (hf : X.fn x = true ∨ X.env.scope.names.lookup x = some .local := by first | exact .inl rfl | exact .inr rfl | assumption) : SG X Y [i] (.Name x pos) (gName i) (gN i) := g_name hN hi hx hf
/-- len and items of a slot's list, of one's own or not -/
def eLenA (i : Nat) : ME := fun env S => match env[i]? with
  | some (.o (.lst ds)) => .ok (.int ds.length) S
  | some (.v d) => opt (fLen S [d]) S
  | _ => .stuck
theorem u_lenA (i : Nat) {x : Str} {p1 : Pos} (hm : X.mg "len" = none) (hK : X.K = Y.K := by rfl) (hN : X.N[i]? = some x := by rfl) (hv : Vis X.env.scope x := by first | exact Or.inl rfl | exact Or.inr (Or.inl rfl) | exact Or.inr (Or.inr rfl)) (hd : (x == ("__debug__" : Str)) = false := by decide)
    (hcd : (x == ("__classdict__" : Str)) = false := by decide) (hg : Gl X "len" := by rfl) (he : starEach [.Name x p1] X.env = (false, eval (.Name x p1) X.env) :: starEach [] X.env := by rfl) (hpl : (backTo pos (starEach [] X.env)).any (·.1) = false := by rfl) :
    SE X Y W (.Call (.Name "len" p) [.Name x p1] [] pos) (tCB (rLn Y.K) (tCons (tVar i) tNil)) (eLenA i) := ⟨(s_lenO (Y := Y) (W := W) i hm hK hN hv hd hcd hg he hpl).pe, fun w0 H0 w H σ env S O Q st pp => by
  unfold eLenA at pp
  split at pp
  · rename_i ds hs
    exact (s_lenO (X := X) (Y := Y) (W := W) (p := p) i hm hK hN hv hd hcd hg he hpl).sim w0 H0 w H σ env S O Q st (by
      unfold eLenO
      rw [hs]
      exact pp)
  · rename_i d hs
    exact sim_cb (g := Y) (cd_len (g := Y)) ((a_cons (Y := Y) (W := W) (sv i (X := X) hN hv hd hcd) a_nil he).sim) w0 H0 w H σ env S O Q st (by
      unfold eCB aCons aNil eV
      rw [hs]
      exact pp)
  · exact pp.elim⟩
def eIxA (i : Nat) (mk : ME) : ME := fun env S => match env[i]? with
  | some (.o (.lst ds)) => (mk env S).bind fun k S1 => (match k with
    | .int k => opt (atI ds k) S1
    | _ => .stuck)
  | some (.v d) => (mk env S).bind fun k S1 => opt (fIx S1 d k) S1
  | _ => .stuck
end
/-! ### a def, told by its place in the text -/
section
variable {P : Program} {w : World} {K : PySem.W.Frag} {mg : Str → Option Value} {base : Heap} {Y : Gam}
abbrev FnP (K : PySem.W.Frag) (x qual : Str) (st : Stmt) (dvs : List V) (f : Addr) (fd : FuncData) : Prop := FunD K x qual (defArgs st) (defBody st) (defScope st) dvs [] f fd
theorem kn_of {k n : Nat} {x : Str} {st : Stmt} {f : Addr} {fd : FuncData} {ps : List Str} {mf : MFn} (F : FnP K x x st [] f fd) (g : mg x = some (.ref f)) (b : Binds K fd ps []) (h : FnOk P w K mg base (L2N.CX P w) k f fd ps (spOf Y n mf)) : Kn P w K mg base Y k x n mf [] [] :=
  ⟨f, fd, ps, [], h, g, F.kp, b, .nil, fun _ => RepL.nil_⟩
theorem knM_of {k n : Nat} {c x qual : Str} {st : Stmt} {f : Addr} {fd : FuncData} {ps : List Str} {mf : MFn} (F : FnP K x qual st [] f fd) (C : Cls K (Y.ca c)) (M : Meth K (Y.ca c) x f) (b : Binds K fd ps []) (h : FnOk P w K mg base (L2N.CX P w) k f fd ps (spOf Y n mf)) : KnM P w K mg base Y k c x n mf [] [] :=
  ⟨f, fd, ps, [], h, C, M, b, .nil, fun _ => RepL.nil_⟩
theorem knC_of {k n : Nat} {x qual : Str} {st : Stmt} {f : Addr} {fd : FuncData} {ps : List Str} {mf : MFn} (F : FnP K "__init__" qual st [] f fd) (M : Mk K (Y.ca x) f) (g : mg x = some (.ref (Y.ca x))) (b : Binds K fd ps []) (h : FnOk P w K mg base (L2N.CX P w) k f fd ps (spOf Y n mf)) : KnC P w K mg base Y k x n mf [] [] :=
  ⟨f, fd, ps, [], h, M, g, b, .nil, fun _ => RepL.nil_⟩
end
end Mm
namespace Mm
open PySem L2
section
variable {X : Cx} {Y : Gam} {W : WX} {a b e : Expr} {pos p : Pos} {ta tb te : TE} {ma mb me : ME} {k : Nat} {mfn : MFn}
theorem uc_eq (c : Str) (h : KnM X.prog X.w X.K X.mg X.base Y k c "__eq__" 2 mfn [] []) (hr : Room k X.A) (ha : SE X Y W a ta ma) (hb' : SE X Y W b tb mb) :
    SC X Y W (.Compare a [.Eq] [b] pos) (tTest (tOp (rEqI (Y.ca c) (spOf Y 2 mfn) E0) ta tb)) (cB (eEqI c mfn ma mb)) := by
  obtain ⟨f, fd, ps, ds, F, hC, hm, hb, hd, hdv⟩ := h
  cases hd
  exact ⟨pt_cmpR (op_eqI F hr hm.at_ hm.fn hb passN) ha.pe hb'.pe (nobehind _ (by decide) (by decide)), sim_test (s_eqI (pos := pos) c F hr hm hb ha hb').sim⟩
end
/-- the reading's names, with the program's part in sight -/
abbrev GY (K : PySem.W.Frag) (ca : Str → Addr) (T : List (Addr × Str)) : Gam := ⟨K, ca, T⟩
end Mm
namespace Mm
open PySem L2
/-- the heap without its tables -/
noncomputable def plainH (H : Hp) : Hp := fun a => match H a with
  | some (.tbl _) => none
  | o => o
theorem plainH_same (H : Hp) : Same (plainH H) H := fun a o h => by
  unfold plainH at h
  split at h
  · cases h
  · exact h
theorem plainH_notab (H : Hp) (a : Addr) (ps : Array Value) : plainH H a ≠ some (.tbl ps) := fun h => by
  unfold plainH at h
  split at h
  · cases h
  · rename_i z
    exact z ps h
theorem plainH_of {H : Hp} {a : Addr} {o : HO} (h : H a = some o) (n : ∀ ps, o ≠ .tbl ps) : plainH H a = some o := by
  unfold plainH
  rw [h]
  split
  · rename_i q z
    exact absurd (Option.some.inj z) (n _)
  · rfl
theorem plainH_sql {K : PySem.W.Frag} {H : Hp} {a : Addr} {xs : List V} (h : SqL K H a xs) : SqL K (plainH H) a xs := by
  rcases h with (h | ⟨o, h⟩) | h
  · exact .inl (.inl (plainH_of h fun _ z => by cases z))
  · exact .inl (.inr ⟨o, plainH_of h fun _ z => by cases z⟩)
  · exact .inr h
/-- the law's promise from the machine's word -/
theorem law_sp {K : PySem.W.Frag} {ca : Str → Addr} {T : List (Addr × Str)} {H : Hp} {a : Addr} {ns : List Int} {m : MFn} {S : Sto} (hT : ∀ p ∈ T, H p.1 = some (.tbl #[]))
    (hS : SqL K H a (ns.map V.int)) (hm : m [.scr ns] [] = .ok (.val (.bl true)) S) : spOf (GY K ca T) 1 m [.ref a] H (fun v _ => v = .bl true) fun _ _ _ => False := by
  refine ⟨rfl, ⟨[], plainH H⟩, [.scr ns], [], ⟨plainH_same H, ⟨fun i j b h _ => by simp at h, rfl, fun n b c h _ => by simp at h⟩, fun p hp => LamX.TabS.nil (hT p hp), plainH_notab H⟩, RepL.cons_ ?_ RepL.nil_, ?_⟩
  · unfold Rep
    exact ⟨a, rfl, plainH_sql hS⟩
  · rw [hm]
    intro w' H' v _ _ r
    exact rep_bl (g := GY K ca T) (w := w') r
/-! ### own facts by a Bool -/
def insB (K : PySem.W.Frag) (x : Str) : Bool := He.eqO (PySem.W.findIn K (.ref (He.ga K x)) "__class__") (some (some (.builtin "object.__class__"))) && (He.eqO (PySem.W.specialIn K (.builtin "object.__class__") "__get__") (some (some (.builtin "getset_descriptor.__get__"))) &&
  (decide (PySem.W.takesIn K (.builtin "object.__class__") = some true) && (decide (PySem.W.mroIn K (He.ga K x) (.type "object") = some true) && decide (PySem.W.kitOne K (.ref (He.ga K x)) (.ref (He.ga K x)) = some true))))
theorem insB_ok {K : PySem.W.Frag} {x : Str} (C : Cls K (He.ga K x)) (h : insB K x = true) : C8.InsC K (He.ga K x) := by
  obtain ⟨h1, h⟩ := He.ba h
  obtain ⟨h2, h⟩ := He.ba h
  obtain ⟨h3, h⟩ := He.ba h
  obtain ⟨h4, h5⟩ := He.ba h
  exact ⟨C, He.eqO_ok h1, He.eqO_ok h2, of_decide_eq_true h3, of_decide_eq_true h4, of_decide_eq_true h5⟩
theorem exAt {es : List (PySem.W.Frag → Bool)} {K : PySem.W.Frag} (h : (es.all fun f => f K) = true) (i : Nat) {f : PySem.W.Frag → Bool} (e : es[i]? = some f) : f K = true := List.all_eq_true.mp h f (List.mem_of_getElem? e)
theorem cx_none (P : Program) (w : World) (H : Hp) (s : Shared) (e : Value) (s' : Shared) (h : L2N.CX P w [] H s (fun _ _ _ => False) e s') : False := by
  obtain ⟨_, _, _, _, _, _, _, _, _, _, _, _, z⟩ := h
  exact z
def blFa : List He.Fa := [.free "len", .free "range", .free "enumerate", .free "zip", .free "sorted", .free "sum", .free "all", .free "any", .free "list", .free "tuple", .free "int", .free "isinstance", .free "min", .free "max", .free "set", .free "abs", .free "bool", .free "str", .free "repr", .free "dict"]
theorem bl_of {K : PySem.W.Frag} {h : Heap} {mg : Str → Option Value} (X : K.In h) (G : h.Ns mainGlobals mg) (c : ∀ f ∈ blFa, f.ok K = true) : Bl mg := by
  have g : ∀ x : Str, He.Fa.free x ∈ blFa → mg x = none := fun x hx => He.free_ok X G (c _ hx)
  constructor <;> exact g _ (by simp [blFa])
theorem knX_of {K : PySem.W.Frag} {h : Heap} {mg : Str → Option Value} {T : List (Addr × Str)} (X : K.In h) (G : h.Ns mainGlobals mg) {x : Str} (c1 : (He.Fa.glo x).ok K = true) (c2 : (He.Fa.exc x).ok K = true) : KnX K mg (GY K (He.ga K) T) x := by
  obtain ⟨e1, e2, e3, e4⟩ := He.exc_ok c2
  exact ⟨e1, He.glo_ok X G c1, e2, e3, e4⟩
end Mm
namespace Mm
open PySem L2
section
variable {X : Cx} {Y : Gam} {W : WX} {e a b c tg iter elt : Expr} {es rest ifs : List Expr} {ta tb te : TE} {tt tu : TT} {ma mb me : ME} {mt mu : MT} {mf : MF} {t : TA} {m : MA} {pos p : Pos} {s : Stmt} {ss : List Stmt} {t1 t2 : TS} {m1 m2 : MS} {wi : TI} {mi : MI} {x : Str}
/-! ### tuples put together, cut -/
def fCatT : Sto → D → D → Option D
  | _, .tup xs, .tup ys => if szB (xs.length + ys.length) then some (.tup (xs ++ ys)) else none
  | _, _, _ => none
end
end Mm
namespace Mm
open PySem PySem.Spec PyProof.Rows L2 HotX
/-! ### the end of a walk while an exception is handled -/
section
variable {prog : Program} {w : World} {A : Around} {E : Value → Shared → Prop} {s : Shared}
theorem endH_list {it l x1 : Addr} {i : Nat} {items} {Q : Option Value → Shared → Prop} (hot : HotAt A x1 s.heap) (ne1 : x1 ≠ it) (hit : s.heap.IsListIter it l i) (hl : s.heap.IsList l items) (hx : items[i]? = none)
    (hQ : ∀ h', Heap.ExtBut it s.heap h' → Q none { s with heap := h' }) : wpAny (model prog w) A (pyNext (.ref it)) Q E s := by
  obtain ⟨⟨o, ho, hc, hd⟩, ⟨ol, hol, _, nl, hdl⟩, hh, o1, vs1, h1, d1, c1⟩ := And.intro (id hit) (And.intro hl hot)
  unfold pyNext; refine wpAny_bind (wpAny_attempt (wpAny_callSpecial?_slot (name := Str.ofString "__next__") hit.typeIs slot_listiter_next (wpAny_call_entry slot_listiter_next hit.typeIs entry_listiter_next ?_ (args_listiter_next _))))
  show wpAny _ _ (field (.ref it) 0 >>= _) _ _ s; refine wpAny_bind (wpAny_field ho hd (x := .ref l) rfl ?_)
  show wpAny _ _ (if (Value.ref l == Value.none) = true then _ else _) _ _ s; rw [if_neg (show ¬ ((Value.ref l == Value.none) = true) from Bool.false_ne_true)]
  show wpAny _ _ (field (.ref it) 1 >>= _) _ _ s; refine wpAny_bind (wpAny_field ho hd (x := .int i 0) rfl ?_)
  show wpAny _ _ (seqItems? (.ref l) >>= _) _ _ s; refine wpAny_bind (wpAny_seqItems hol hdl ?_)
  simp only [Int.toNat_natCast, hx]; refine wpAny_bind (wpAny_rule (wpAny_bind (wpAny_setField ho hd (by simp) ?_)))
  show wpAny _ _ (newExc (.type "StopIteration") [] >>= _) _ _ _; refine wpAny_bind ?_; simp only [newExc, newTuple]
  refine wpAny_bind (wpAny_newObj_type ?_ (by size_fits)); refine wpAny_bind (m := firstArgMember _ _) (wpAny_of_eq (a := Value.none) (by first | rfl | (simp only [firstArgMember]; rfl)) ?_); refine wpAny_newObj_type ?_ (by size_fits)
  have g1 := Heap.get?_push_of_some { cls := Value.type "tuple", data := .seq #[] } ((Heap.get?_update_other s.heap (Obj.mapFields (·.setIfInBounds 0 .none)) ne1.symm).trans h1)
  refine raiseNew_hot ⟨hh, o1, vs1, Heap.get?_push_of_some _ g1, d1, c1⟩ (Nat.ne_of_lt (Heap.lt_size g1)) (Heap.get?_push_size _ rfl) rfl (by first | (simp; done) | (simp; omega)) ?_
  refine wpAny_bind (wpAny_isInstance (T := "StopIteration") (b := true) ⟨_, Heap.get?_update_self _ (Heap.get?_push_size _ rfl) rfl, rfl⟩ isSubtype_stop ?_)
  refine wpAny_pure (hQ _ fun b u hb e => ?_)
  have g2 := Heap.get?_push_of_some { cls := Value.type "tuple", data := .seq #[] } ((Heap.get?_update_other s.heap (Obj.mapFields (·.setIfInBounds 0 .none)) (Ne.symm hb)).trans e)
  rw [Heap.get?_update_other _ _ (Nat.ne_of_gt (Heap.lt_size g2))]
  exact Heap.get?_push_of_some _ g2
theorem endH_tup {it l x1 : Addr} {i : Nat} {items} {Q : Option Value → Shared → Prop} (hot : HotAt A x1 s.heap) (ne1 : x1 ≠ it) (hit : IsTupIter s.heap it l i) (hl : IsTup s.heap l items) (hx : items[i]? = none)
    (hQ : ∀ h', Heap.ExtBut it s.heap h' → Q none { s with heap := h' }) : wpAny (model prog w) A (pyNext (.ref it)) Q E s := by
  obtain ⟨⟨o, ho, hc, hd⟩, ⟨ol, hol, _, nl, hdl⟩, hh, o1, vs1, h1, d1, c1⟩ := And.intro (id hit) (And.intro hl hot)
  unfold pyNext; refine wpAny_bind (wpAny_attempt (wpAny_callSpecial?_slot (name := Str.ofString "__next__") hit.typeIs slot_tupleiter_next (wpAny_call_entry slot_tupleiter_next hit.typeIs entry_tupleiter_next ?_ (args_tupleiter_next _))))
  show wpAny _ _ (field (.ref it) 0 >>= _) _ _ s; refine wpAny_bind (wpAny_field ho hd (x := .ref l) rfl ?_)
  show wpAny _ _ (if (Value.ref l == Value.none) = true then _ else _) _ _ s; rw [if_neg (show ¬ ((Value.ref l == Value.none) = true) from Bool.false_ne_true)]
  show wpAny _ _ (field (.ref it) 1 >>= _) _ _ s; refine wpAny_bind (wpAny_field ho hd (x := .int i 0) rfl ?_)
  show wpAny _ _ (seqItems? (.ref l) >>= _) _ _ s; refine wpAny_bind (wpAny_seqItems hol hdl ?_)
  simp only [Int.toNat_natCast, hx]; refine wpAny_bind (wpAny_rule (wpAny_bind (wpAny_setField ho hd (by simp) ?_)))
  show wpAny _ _ (newExc (.type "StopIteration") [] >>= _) _ _ _; refine wpAny_bind ?_; simp only [newExc, newTuple]
  refine wpAny_bind (wpAny_newObj_type ?_ (by size_fits)); refine wpAny_bind (m := firstArgMember _ _) (wpAny_of_eq (a := Value.none) (by first | rfl | (simp only [firstArgMember]; rfl)) ?_); refine wpAny_newObj_type ?_ (by size_fits)
  have g1 := Heap.get?_push_of_some { cls := Value.type "tuple", data := .seq #[] } ((Heap.get?_update_other s.heap (Obj.mapFields (·.setIfInBounds 0 .none)) ne1.symm).trans h1)
  refine raiseNew_hot ⟨hh, o1, vs1, Heap.get?_push_of_some _ g1, d1, c1⟩ (Nat.ne_of_lt (Heap.lt_size g1)) (Heap.get?_push_size _ rfl) rfl (by first | (simp; done) | (simp; omega)) ?_
  refine wpAny_bind (wpAny_isInstance (T := "StopIteration") (b := true) ⟨_, Heap.get?_update_self _ (Heap.get?_push_size _ rfl) rfl, rfl⟩ isSubtype_stop ?_)
  refine wpAny_pure (hQ _ fun b u hb e => ?_)
  have g2 := Heap.get?_push_of_some { cls := Value.type "tuple", data := .seq #[] } ((Heap.get?_update_other s.heap (Obj.mapFields (·.setIfInBounds 0 .none)) (Ne.symm hb)).trans e)
  rw [Heap.get?_update_other _ _ (Nat.ne_of_gt (Heap.lt_size g2))]
  exact Heap.get?_push_of_some _ g2
theorem unpackH {t x1 : Addr} {items : Array Value} {Q : List Value → Shared → Prop} (hot : HotAt A x1 s.heap) (ht : IsTup s.heap t items) (hQ : ∀ h', Heap.ExtBut s.heap.objs.size s.heap h' → Q items.toList { s with heap := h' }) : wpAny (model prog w) A (unpackItems (.ref t) items.size none) Q E s := by
  have hlt : t ≠ s.heap.objs.size := by
    obtain ⟨o, ho, _⟩ := ht
    exact Nat.ne_of_lt (Heap.lt_size ho)
  obtain ⟨hh, o1, vs1, h1, d1, c1⟩ := hot
  unfold unpackItems; refine wpAny_bind ?_; unfold notIterableAtAll; refine wpAny_bind (wpAny_specialOf ht.typeIs slot_tuple_iter.lookup ?_); refine wpAny_pure ?_
  simp only [Bool.false_eq_true, if_false]; refine wpAny_bind (wpAny_holding (iter_tuple ht ?_))
  refine wpAny_bind (wpAny_holding (draw_tuple hlt items.size 0 _ _ ⟨_, Heap.get?_push_size _ rfl, rfl, rfl⟩ (ht.push _) (by omega) fun h₁ hit₁ hs₁ => ?_))
  rw [List.drop_zero, List.take_of_length_le (by simp), if_neg (by simp)]
  have n1 : x1 ≠ s.heap.objs.size := Nat.ne_of_lt (Heap.lt_size h1)
  refine wpAny_bind (wpAny_holding (endH_tup ⟨hh, o1, vs1, hs₁.extBut _ _ n1 (Heap.get?_push_of_some _ h1), d1, c1⟩ n1 hit₁ ((ht.push _).extBut hs₁.extBut hlt) (by simp) fun h₂ he₂ => ?_))
  simp only [Option.isSome_none, Bool.false_eq_true, if_false]
  exact wpAny_pure (hQ h₂ fun b o hb e => he₂ b o hb (hs₁.extBut b o hb (Heap.get?_push_of_some _ e)))
theorem asgTupH {env : Env} {elts : List Expr} {k} {pos : Pos} {t x1 : Addr} {items : Array Value} {Q : Unit → Shared → Prop} (hot : HotAt A x1 s.heap) (ht : IsTup s.heap t items) (hn : (assignEach elts env).length = items.size) (hstar : (assignEach elts env).findIdx? (·.1) = none)
    (h : ∀ h', Heap.ExtBut s.heap.objs.size s.heap h' → wpAny (model prog w) A (assignInOrder ((assignEach elts env).map (·.2)) items.toList) Q E { s with heap := h' }) : wpAny (model prog w) A (assign (.Tuple elts k pos) env (.ref t)) Q E s := by
  rw [PyProof.Rows.assign_Tuple]; refine wpAny_bind (wpAny_standAt ?_); unfold unpack; rw [hn, hstar]
  exact wpAny_bind (wpAny_holding (unpackH hot ht h))
end
end Mm
namespace Mm
open PySem PySem.Spec PyProof.Rows L2 HotX
/-! ### a list comprehension over a list of tuples while an exception is handled (it is pinned) -/
def iLst (K : PySem.W.Frag) (tl : TE) : TI := fun σ H R => tl σ H fun x H1 => ∃ a xs, x = .ref a ∧ SqL K H1 a xs ∧ R (Itl K a) H1
section
variable {X : Cx}
theorem hot_of {pins : List (Addr × Obj)} {σ : L2.St} {H : Hp} {s : Shared} {p : Addr × Obj} (hp : L2H.Hot1 X.A p) (hm : p ∈ X.pn ++ pins) (I : Inv X pins σ H s) : HotAt X.A p.1 s.heap := by
  obtain ⟨h1, vs, h2, h3⟩ := hp
  exact ⟨h1, p.2, vs, (I.pin p hm).1, h2, h3⟩
theorem pe_lcH {p : Addr × Obj} {l elt : Expr} {es ifs : List Expr} {k : Nat} {tpos pos : Pos} {scope : Scope} {own : List (Str × Nat)} {tl te : TE} {tgs : TGs} {tt : TT} {n : Nat} (hp : L2H.Hot1 X.A p) (hpn : p ∈ X.pn) (hN : X.N.Nodup) (hl : PE X l tl) (ok : BlkOk X.N X.env.scope scope own)
    (hg : ∀ (s : Shared) (H : Hp) (C : Addr) (cl : List (Str × Addr)) (fp : List Addr), PGs (X.blk s H scope (compEnvC scope cl C X.env) fp) es tgs)
    (hlen : ∀ (C : Addr) (cl : List (Str × Addr)), (assignEach es (compEnvC scope cl C X.env)).length = n ∧ (assignEach es (compEnvC scope cl C X.env)).findIdx? (·.1) = none)
    (ht : ∀ (s : Shared) (H : Hp) (C : Addr) (cl : List (Str × Addr)) (fp : List Addr), PTs (X.blk s H scope (compEnvC scope cl C X.env) fp) ifs tt)
    (he : ∀ (s : Shared) (H : Hp) (C : Addr) (cl : List (Str × Addr)) (fp : List Addr), PE (X.blk s H scope (compEnvC scope cl C X.env) fp) elt te) (hs : ∀ x, foldedSetIterable l X.env x = pure x := by intro _; rfl) :
    PE X (.ListComp elt [⟨.Tuple es k tpos, l, ifs, 0⟩] scope pos) (tLc (iLst X.K tl) (gTup X.K n tgs) tt te (own.map (·.2))) := by
  refine ⟨fun pins s σ H Q I hw => ?_⟩
  rw [eval_ListComp]
  have clo : ∀ y ∈ scope.names, y.2 = .free → ∃ c, X.env.cells.lookup y.1 = some c := fun y hy e => I.ok.has _ (ok.free y hy e)
  refine wpAny_comprehension_free (use := none) rfl hs (closure_ok clo) ok.kind (fun y hy e => by rw [ok.uniq y hy, e]) (thn (hl.run pins s σ H _ I hw) fun xv s1 ⟨x, H1, I1, r1, a, xs, ex, hq, q⟩ => ?_)
  subst ex
  cases r1
  obtain ⟨its, rv, pl, hz⟩ := I1.list hq
  refine wpAny_pyIter_list pl.isList ?_
  have I2 : Inv X pins σ H1 { s1 with heap := s1.heap.push { cls := .type "list_iterator", data := .fields #[.ref a, .int 0 0] } } := I1.kept (t' := s1.toks) fun b o e => Heap.get?_push_of_some _ e
  have it2 : ({ s1 with heap := s1.heap.push { cls := .type "list_iterator", data := .fields #[.ref a, .int 0 0] } } : Shared).heap.IsListIter s1.heap.objs.size a 0 := ⟨_, Heap.get?_push_size _ rfl, rfl, rfl⟩
  have f2 : FpOk X pins H1 s1.heap.objs.size := I1.fpOk (Nat.le_refl _) (I1.hok.fresh (Nat.le_refl _))
  have p2 := (I2.pin p (List.mem_append_left _ hpn))
  have lt2 : s1.heap.objs.size < ({ s1 with heap := s1.heap.push { cls := .type "list_iterator", data := .fields #[.ref a, .int 0 0] } } : Shared).heap.objs.size := Heap.lt_size (Heap.get?_push_size _ rfl)
  generalize hs2 : ({ s1 with heap := s1.heap.push { cls := .type "list_iterator", data := .fields #[.ref a, .int 0 0] } } : Shared) = s2 at I2 it2 p2 lt2 ⊢
  generalize hit : s1.heap.objs.size = it at it2 f2 lt2 ⊢
  have np : p.1 ≠ it := f2.2.2.2.2.2 p (List.mem_append_left _ hpn)
  refine wpAny_newObj_type (newEnv_comp ?_) (by show 0 ≤ sizeLine; decide)
  have eD : ∃ D, s2.heap.objs.size = D := ⟨_, rfl⟩
  obtain ⟨D, hD⟩ := eD
  have hDn : H1 D = none := I2.hok.fresh (Nat.le_of_eq hD)
  obtain ⟨W, ⟨m0, w0⟩, turn⟩ := q D hDn
  have I3' : Inv X pins σ (upd H1 D (.lst [])) { s2 with heap := s2.heap.push { cls := .type "list", data := .seq ([] : List Value).toArray } } :=
    I2.laid (t' := s2.toks) (fun b o e => Heap.get?_push_of_some _ e) (Nat.le_of_eq hD) ⟨Nat.zero_le _, [], 0, .nil, by rw [← hD]; exact Heap.get?_push_size _ rfl⟩
  have k3 : ∀ b o, s2.heap.get? b = some o → ({ s2 with heap := s2.heap.push { cls := .type "list", data := .seq ([] : List Value).toArray } } : Shared).heap.get? b = some o := fun b o e => Heap.get?_push_of_some _ e
  rw [hD]
  generalize hs3 : ({ s2 with heap := s2.heap.push { cls := .type "list", data := .seq ([] : List Value).toArray } } : Shared) = s3 at I3' k3 ⊢
  have neD : it ≠ D := by rw [← hD]; exact Nat.ne_of_lt lt2
  have f3 : ∀ b ∈ [it], FpOk X pins (upd H1 D (.lst [])) b ∧ b < s3.heap.objs.size := fun b hb => by
    have eb : b = it := by simpa using hb
    subst eb
    obtain ⟨o, e, _⟩ := id it2
    exact ⟨⟨(upd_ne neD).trans f2.1, f2.2⟩, Heap.lt_size (k3 _ _ e)⟩
  have I4 := block_start I3' ok hN f3
  have p3 := I3'.pin p (List.mem_append_left _ hpn)
  have pg := hg s3 (upd H1 D (.lst [])) s3.heap.objs.size (cellsFrom (s3.heap.objs.size + 1) scope.names (cloFrom X.env.cells scope.names [])) [it]
  have pt := ht s3 (upd H1 D (.lst [])) s3.heap.objs.size (cellsFrom (s3.heap.objs.size + 1) scope.names (cloFrom X.env.cells scope.names [])) [it]
  have pe := he s3 (upd H1 D (.lst [])) s3.heap.objs.size (cellsFrom (s3.heap.objs.size + 1) scope.names (cloFrom X.env.cells scope.names [])) [it]
  have pl2 := hlen s3.heap.objs.size (cellsFrom (s3.heap.objs.size + 1) scope.names (cloFrom X.env.cells scope.names []))
  have k4 : ∀ b o, s3.heap.get? b = some o → ({ s3 with heap := pushCells (s3.heap.push { cls := .type "dict", data := .dict #[] }) scope.names } : Shared).heap.get? b = some o := fun b o e => pushCells_keeps _ _ _ _ (Heap.get?_push_of_some _ e)
  show codeAny _ _ (.compStart (.ListComp elt [⟨.Tuple es k tpos, l, ifs, 0⟩] scope pos) 0 (.ref it) (.ref D) (compEnvC scope (cellsFrom (s3.heap.objs.size + 1) scope.names (cloFrom X.env.cells scope.names [])) s3.heap.objs.size X.env)) (compPost (model X.prog X.w) X.A X.xe none (EP X pins σ Q) (.ref D) s3.heap.objs.size) { s3 with heap := pushCells (s3.heap.push { cls := .type "dict", data := .dict #[] }) scope.names }
  generalize hs4 : ({ s3 with heap := pushCells (s3.heap.push { cls := .type "dict", data := .dict #[] }) scope.names } : Shared) = s4 at I4 k4 ⊢
  generalize hce : compEnvC scope (cellsFrom (s3.heap.objs.size + 1) scope.names (cloFrom X.env.cells scope.names [])) s3.heap.objs.size X.env = ce at I4 pg pt pe pl2 ⊢
  have cL : ce.locals = s3.heap.objs.size := by rw [← hce]; rfl
  have nit3 : (upd H1 D (.lst [])) it = none := (f3 it (by simp)).1.1
  generalize hH3 : upd H1 D (.lst []) = H3 at I3' I4 pg pt pe w0 nit3 f3 p3
  have nfr : p.1 ∉ frs X.stack := fun z => by
    rcases List.mem_cons.mp (I3'.stkSub p.1 z) with e | e
    · exact p3.2.2.1 e
    · exact p3.2.2.2.1 e
  have I4p : Inv (X.blk s3 H3 scope ce [it]) [p] (wipe σ (own.map (·.2))) H3 s4 := I4.pins_of fun q hq => by
    have eq : q = p := by simpa using hq
    subst eq
    exact ⟨k4 _ _ p3.1, p3.2.1, by show q.1 ≠ ce.locals; rw [cL]; exact Nat.ne_of_lt (Heap.lt_size p3.1), nfr, p3.2.2.2.2⟩
  have it4 : s4.heap.IsListIter it a 0 := it2.at fun o e => k4 _ _ (k3 _ _ e)
  have stat : ∀ {σ' : L2.St} {H' : Hp} {s' : Shared}, Inv (X.blk s3 H3 scope ce [it]) [p] σ' H' s' → H' it = none → FpOk (X.blk s3 H3 scope ce [it]) [p] H' it := fun {σ' H' s'} I' hn =>
    ⟨hn, (I'.ok.exf it (by simp)).1, I'.ok.exfs it (by simp), .inl (by simp), fun x c e => (I'.ok.exf it (by simp)).2 x c e, fun q hq => by
      have eq : q = p := by simpa using (show q ∈ ([] : List (Addr × Obj)) ++ [p] from hq)
      rw [eq]
      exact np⟩
  have lp : codeAny (model X.prog X.w) X.A (.compLoop (.ListComp elt [⟨.Tuple es k tpos, l, ifs, 0⟩] scope pos) 0 (.ref it) (.ref D) ce) (compPost (model X.prog X.w) X.A X.xe none (EP X pins σ Q) (.ref D) s3.heap.objs.size) s4 := by
    refine compLoop_any (fun n s' => ∃ i H', Inv (X.blk s3 H3 scope ce [it]) [p] (wipe σ (own.map (·.2))) H' s' ∧ s'.heap.IsListIter it a i ∧ H' it = none ∧ W i n H') ?_ m0 ⟨0, H3, I4p, it4, nit3, w0⟩
    rintro nn s5 ⟨i, H5, I5, st5, n5, w5⟩
    have hot5 : HotAt X.A p.1 s5.heap := hot_of (X := X.blk s3 H3 scope ce [it]) hp (List.mem_append_right _ (by simp)) I5
    obtain ⟨g0, g1, g2, g3, g4, g5⟩ := stat I5 n5
    rcases turn i nn H5 w5 with ⟨stop, qq⟩ | ⟨go, Nx, hNx, step⟩
    · obtain ⟨ys, hy, hle⟩ := stop
      obtain ⟨its5, rv5, pl5, hz5⟩ := I5.list hy
      have hle5 := rv5.length
      refine endH_list hot5 np st5 pl5.isList (by simp; omega) fun h6 eb => ?_
      have I6 : Inv (X.blk s3 H3 scope ce [it]) [p] (wipe σ (own.map (·.2))) H5 { s5 with heap := h6 } := I5.turned (t' := s5.toks) (fun b o hb e => eb b o hb e) g0 g1 g3 g4 g5
      have I7 : Inv X pins σ H5 { s5 with heap := h6 } := I3'.call' (ch := [it]) I6.os I6.base I6.hok I6.bare fun b hb => ⟨(f3 b hb).1.2.2.2.1, (f3 b hb).1.2.1, (f3 b hb).1.2.2.2.2.1, (f3 b hb).1.2.2.2.2.2⟩
      obtain ⟨m, hn, _⟩ := I6.loc
      have hn : h6.Ns ce.locals m := hn
      have nC : H5 ce.locals = none := I6.free
      rw [cL] at hn nC
      refine ⟨m, hn, fun h'' sb => ?_⟩
      obtain ⟨c0, c1, c2, c3, c4, c5⟩ := I3'.fpOk (H' := H5) (Nat.le_refl _) nC
      exact ⟨.ref D, H5, I7.turned (t' := s5.toks) (fun b o hb e => (sb.2 b hb).trans e) c0 c1 c3 c4 c5, rfl, qq⟩
    · obtain ⟨ys, y, hy, hyi⟩ := go
      obtain ⟨its5, rv5, pl5, hz5⟩ := I5.list hy
      obtain ⟨u, hu, ru⟩ := rv5.get hyi
      refine wpAny_pyNext_list_item st5 pl5.isList (x := u) (by simpa using hu) fun h6 st6 sb => ?_
      have I6 : Inv (X.blk s3 H3 scope ce [it]) [p] (wipe σ (own.map (·.2))) H5 { s5 with heap := h6 } := I5.turned (t' := s5.toks) (fun b o hb e => (sb.2 b hb).trans e) g0 g1 g3 g4 g5
      obtain ⟨o6, e6, c6, d6⟩ := id st6
      refine go_of (s := { s5 with heap := h6 }) e6 c6 d6 (by decide) ?_
      have I6' : Inv (X.blk s3 H3 scope ce [it]) ([p] ++ pinsAt [it] h6) (wipe σ (own.map (·.2))) H5 { s5 with heap := h6 } := I6.pinned (fun b hb => by
        have eb : b = it := by simpa using hb
        rw [eb]
        exact stat I6 n5) (fun b hb => by
        have eb : b = it := by simpa using hb
        rw [eb]
        exact ⟨o6, e6, fun v z => by rw [d6] at z; cases z⟩)
      have st7 := step y H5 ⟨rfl, fun zs hzs => by rw [I5.list_inj hzs hy]; exact hyi⟩
      obtain ⟨ta, txs, ety, htq, htl, hw7⟩ := st7
      subst ety
      obtain rfl : u = Value.ref ta := ru
      obtain ⟨tits, trv, tht, _⟩ := I6'.tuple htq
      have hot6 : HotAt X.A p.1 h6 := hot_of (X := X.blk s3 H3 scope ce [it]) hp (List.mem_append_right _ (List.mem_append_left _ (by simp))) I6'
      refine asgTupH hot6 tht (by rw [pl2.1, ← htl, trv.length]; simp) pl2.2 fun h7 hx7 => ?_
      have I7 : Inv (X.blk s3 H3 scope ce [it]) ([p] ++ pinsAt [it] h6) (wipe σ (own.map (·.2))) H5 { s5 with heap := h7 } := I6'.kept (t' := s5.toks) fun b o e => hx7 b o (Nat.ne_of_lt (Heap.lt_size e)) e
      refine thnF (pg.run _ _ _ H5 txs _ _ I7 (by simpa using trv) hw7) fun _ s8 ⟨σ8, H8, I8, hw8, q8⟩ => ?_
      refine thnF (pt.run _ s8 σ8 H8 _ I8 q8) fun b s9 ⟨H9, I9, q9⟩ => ?_
      have fin : ∀ {s' : Shared} {H' : Hp}, Inv (X.blk s3 H3 scope ce [it]) ([p] ++ pinsAt [it] h6) σ8 H' s' → Nx H' → ∃ m, m < nn ∧ ∃ i H', Inv (X.blk s3 H3 scope ce [it]) [p] (wipe σ (own.map (·.2))) H' s' ∧ s'.heap.IsListIter it a i ∧ H' it = none ∧ W i m H' := fun {s' H'} I' nx => by
        obtain ⟨m', hm, w'⟩ := hNx H' nx
        have pin' := I'.pin (it, o6) (List.mem_append_right _ (List.mem_append_right _ (mem_pinsAt (by simp) e6)))
        have hl : (wipe σ (own.map (·.2))).length = σ8.length := by rw [← hw8, wipe_length]
        refine ⟨m', hm, i + 1, H', (I'.unpinned (pins := [p])).weak hl (fun j v e => ?_), st6.at fun o e => ?_, pin'.2.1, w'⟩
        · rw [← hw8] at e
          exact (wipe_some e).1
        · rw [e6] at e
          cases e
          exact pin'.1
      cases b with
      | false =>
        simp only [Bool.false_eq_true, if_false] at q9 ⊢
        exact fin I9 q9
      | true =>
        simp only [if_true] at q9 ⊢
        refine thnF (pe.run _ s9 σ8 H9 _ I9 q9) fun z s10 ⟨yv, H10, I10, r10, acc, hD10, hz10, nx⟩ => ?_
        exact app_ok (X := X.blk s3 H3 scope ce [it]) I10 hD10 hz10 r10 fun s11 I11 => fin I11 nx
  exact codeAny_compStart_list lp (wpAny_pyIter_listiter it4 lp)
end
end Mm
namespace Mm
open PySem PySem.Spec PyProof.Rows L2 HotX
/-! ### try with several clauses, named or not -/
inductive HdK where
  | as (c : Value) (i : Nat) (ts : Addr → Value → Option Addr → TS)
  | only (c : Value) (ts : Addr → Value → Option Addr → TS)
def goneD (i : Nat) (D : Ends) : Ends := { nx := fun σ' H' => D.nx (σ'.set i none) H', rt := D.rt, bk := fun σ' H' => D.bk (σ'.set i none) H', ct := fun σ' H' => D.ct (σ'.set i none) H' }
def wHds (K : PySem.W.Frag) (Wout : WX) (D : Ends) : List HdK → WX
  | [] => Wout
  | .as c i ts :: r => fun cls d σ H => ∃ b, PySem.W.exmOne K cls c = some b ∧ (b = true → ∀ a, H a = none → ts a cls d (goneD i D) (σ.set i (some (.ref a))) H) ∧ (b = false → wHds K Wout D r cls d σ H)
  | .only c ts :: r => fun cls d σ H => ∃ b, PySem.W.exmOne K cls c = some b ∧ (b = true → ∀ a, H a = none → ts a cls d D σ H) ∧ (b = false → wHds K Wout D r cls d σ H)
inductive HdsN (X : Cx) : List ExceptHandler → List HdK → Prop
  | nil : HdsN X [] []
  | as {x n : Str} {c : Value} {i : Nat} {ts : Addr → Value → Option Addr → TS} {b₀ : Stmt} {suite : List Stmt} {np pos' : Pos} {hds : List ExceptHandler} {l : List HdK} (hi : X.N[i]? = some n) (hln : X.env.kindOf n = some .local) (hc : Names X x c)
      (hsu : ∀ (a : Addr) (oe : Obj) (cls : Value) (d : Option Addr) (pn : List (Addr × Obj)), L2N.Zn cls d oe → (∃ vs, oe.data = .fields vs) → PSs (X.suite a ((a, oe) :: pn)) (b₀ :: suite) (ts a cls d)) (r : HdsN X hds l) :
      HdsN X (.ExceptHandler (some (.Name x np)) (some n) (b₀ :: suite) pos' :: hds) (.as c i ts :: l)
  | only {x : Str} {c : Value} {ts : Addr → Value → Option Addr → TS} {b₀ : Stmt} {suite : List Stmt} {np pos' : Pos} {hds : List ExceptHandler} {l : List HdK} (hc : Names X x c)
      (hsu : ∀ (a : Addr) (oe : Obj) (cls : Value) (d : Option Addr) (pn : List (Addr × Obj)), L2N.Zn cls d oe → (∃ vs, oe.data = .fields vs) → PSs (X.suite a ((a, oe) :: pn)) (b₀ :: suite) (ts a cls d)) (r : HdsN X hds l) :
      HdsN X (.ExceptHandler (some (.Name x np)) none (b₀ :: suite) pos' :: hds) (.only c ts :: l)
section
variable {X : Cx} {body : List Stmt} {h₀ : ExceptHandler} {hds : List ExceptHandler} {l : List HdK} {pos : Pos} {tb : WX → TS} {Wout : WX}
theorem ps_tryN (hs : X.stack = X.env :: X.outer) (hf : X.env.frame = some X.env.locals) (hN : X.N.Nodup) (tk : L2N.Takes X Wout)
    (hb : ∀ (W : WX) (pn : List (Addr × Obj)) (xe : Value → Shared → Prop), L2N.Takes (X.tr pn xe) W → PassesOwn (model X.prog X.w) X.A X.env xe → PSs (X.tr pn xe) body (tb W))
    (hh : HdsN X (h₀ :: hds) l) : PS X (.Try body (h₀ :: hds) [] [] pos) (fun D σ H => tb (wHds X.K Wout D l) D σ H) := by
  refine ⟨fun pins s σ H D I hw => ?_⟩
  obtain ⟨ok, hfr⟩ : X.Ok ∧ X.A.frames = some (X.env :: X.outer) := ⟨I.ok, by rw [I.ok.frames, hs]⟩
  refine wpAny_Try_except ?_
  refine wpAny_mono ((hb (wHds X.K Wout D l) (X.pn ++ pins) (fun e s₁ => wpAny (model X.prog X.w) X.A (noteFrame e X.env) (fun _ s₂ => wpAny (model X.prog X.w) X.A (setFlight e none) (fun _ s₃ => wpAny (model X.prog X.w) X.A (handleBy e X.env (h₀ :: hds)) (SP X pins D) X.xe s₃) X.xe s₂) X.xe s₁)
    (fun u s' xx => ?_) PassesOwn.looking).run [] s σ H D (I.toTry _) hw) (fun f s1 hsp => ?_) (fun e s1 he => he)
  · obtain ⟨a, B, sI, pins', σ', H', cls, d, rfl, J', nb, up, sky, na, os, ag, wish⟩ := xx
    have J : Inv X pins σ' H' sI := J'.ofTry ok
    refine L2N.Sky.land L2N.Zn.steady hfr hf (by rw [← hs]; exact sky) fun h3 fl3 up3 => ?_
    have J3 : Inv X pins σ' H' { s' with heap := h3 } := J.landed nb fl3.1 (up.trans up3) os ag
    obtain ⟨oe3, vs3, he3, hz3, hd3⟩ := fl3.there
    have nfr : a ∉ frs (X.env :: X.outer) := fun hm => by
      obtain ⟨_, o', e', hnf⟩ := fl3.2.2.1.mem hm
      rw [he3] at e'
      cases e'
      exact hnf _ hd3
    have nL : a ≠ X.env.locals := fun z => nfr (List.mem_filterMap.mpr ⟨X.env, List.mem_cons_self, by rw [hf, z]⟩)
    have nF : a ∉ X.fs := fun hm => nfr (by
      obtain ⟨e, he, q⟩ := List.mem_filterMap.mp hm
      exact List.mem_filterMap.mpr ⟨e, List.mem_cons_of_mem _ he, q⟩)
    have S3 := J3.suite he3 hd3 na nL nF
    have test : ∀ {x : Str} {c : Value} {np : Pos} {Q : Value → Shared → Prop} {E : Value → Shared → Prop}, Names X x c → Q c { s' with heap := h3 } → wpAny (model X.prog X.w) (X.A.mark (some (.ref a))) (eval (.Name x np) X.env) Q E { s' with heap := h3 } := fun {x c np Q E} hc q => by
      obtain ⟨hg, hdbg, hm | ⟨hm, hv, hnn⟩⟩ := hc
      · exact ld_glob (X := X.suite a ((a, oe3) :: (X.pn ++ pins))) S3 hg hm q hdbg
      · exact ld_blt (X := X.suite a ((a, oe3) :: (X.pn ++ pins))) S3 hg hm hv q hnn hdbg
    have LT : PySem.W.Looks (model X.prog X.w) h3 (typeOf (.ref a)) cls := fun A Q E s k q => wpAny_typeOf_ref (k _ _ he3) (by rw [hz3.1]; exact q)
    have go : ∀ {hds' : List ExceptHandler} {l' : List HdK}, HdsN X hds' l' → wHds X.K Wout D l' cls d σ' H' → wpAny (model X.prog X.w) X.A (handleBy (.ref a) X.env hds') (SP X pins D) X.xe { s' with heap := h3 } := by
      intro hds' l' hk
      induction hk with
      | nil =>
        intro wish
        refine wpAny_handleBy_nil ?_
        obtain ⟨_, _, _, oe, vs, T, oT, ts', he, hz, hd, h1, hr⟩ := id fl3
        unfold PySem.passOn; refine wpAny_bind (wpAny_field he hd h1 ?_); rw [if_neg (show ¬ ((Value.ref T == Value.none) = true) from by simp)]
        have out : wpAny (model X.prog X.w) X.A (setFlight (.ref a) X.env.frame) (fun _ s4 => wpAny (model X.prog X.w) X.A (throw (.ref a) : Sem Flow) (SP X pins D) X.xe s4) X.xe { s' with heap := h3 } := by
          rw [hf]; refine HandSPX.setFlight_upZ fl3 fun h4 hh4 up4 => wpAny_throw (tk _ _ ?_)
          exact ⟨a, B, sI, pins, σ', H', cls, d, rfl, J, nb, (up.trans up3).trans up4, .inr (.inr (by rw [hs]; exact hh4)), na, os, ag, wish⟩
        first | exact wpAny_bind (wpAny_pure (wpAny_bind out)) | exact wpAny_bind out
      | @only x c ts b₀ suite np pos' hds2 l2 hc hsu r ih =>
        rintro ⟨b, hb1, hyes, hno⟩
        refine wpAny_handleBy_cons (codeAny_handlers_test ?_) (by intro q; cases q)
        refine test hc ((PySem.W.exm_one (M := model X.prog X.w) (J3.kIn) LT hb1).here ?_)
        cases b with
        | false => exact ih (hno rfl)
        | true =>
          refine codeAny_handlers_suite (HandSPX.lands_againZ fl3 fun h4 fl4 up4 => ?_)
          have J4 : Inv X pins σ' H' { s' with heap := h4 } := J.landed nb fl4.1 ((up.trans up3).trans up4) os ag
          obtain ⟨oe4, vs4, he4, hz4, hd4⟩ := fl4.there
          refine wpAny_mono ((hsu a oe4 cls d (X.pn ++ pins) hz4 ⟨_, hd4⟩).run [] _ _ H' _ (J4.suite he4 hd4 na nL nF) (hyes rfl a na)) (fun f s6 hsp => ?_) (fun _ _ z => False.elim z)
          cases f with
          | ret u =>
            obtain ⟨v6, σ6, H6, S6, r6, q6⟩ := hsp
            exact ⟨_, _, _, S6.unsuite ok, r6, q6⟩
          | _ =>
            obtain ⟨σ6, H6, S6, q6⟩ := hsp
            exact ⟨_, _, S6.unsuite ok, q6⟩
      | @as x n c i ts b₀ suite np pos' hds2 l2 hi hln hc hsu r ih =>
        rintro ⟨b, hb1, hyes, hno⟩
        refine wpAny_handleBy_cons (codeAny_handlers_test ?_) (by intro q; cases q)
        refine test hc ((PySem.W.exm_one (M := model X.prog X.w) (J3.kIn) LT hb1).here ?_)
        cases b with
        | false => exact ih (hno rfl)
        | true =>
          refine codeAny_handlers_suite_as (HandSPX.lands_againZ fl3 fun h4 fl4 up4 => ?_)
          have J4 : Inv X pins σ' H' { s' with heap := h4 } := J.landed nb fl4.1 ((up.trans up3).trans up4) os ag
          obtain ⟨oe4, vs4, he4, hz4, hd4⟩ := fl4.there
          refine store_ok (X := X.suite a ((a, oe4) :: (X.pn ++ pins))) (v := .ref a) (J4.suite he4 hd4 na nL nF) hN hi (.inl hln) rfl (fun s5 S5 => ?_) (.inr hln)
          refine wpAny_mono ((hsu a oe4 cls d (X.pn ++ pins) hz4 ⟨_, hd4⟩).run [] s5 _ H' _ S5 (hyes rfl a na)) (fun f s6 hsp => ?_) (fun _ _ z => False.elim z)
          have fin : ∀ {σ6 : L2.St} {H6 : Hp} {Q : Shared → Prop}, Inv (X.suite a ((a, oe4) :: (X.pn ++ pins))) [] σ6 H6 s6 → (∀ s7, Inv X pins (σ6.set i none) H6 s7 → Q s7) → wpAny (model X.prog X.w) X.A (do bindName X.env n .none; unbindBehindTheSuite X.env n pos') (fun _ s7 => Q s7) X.xe s6 := fun {σ6 H6 Q} S6 hq => gone_ok (S6.unsuite ok) hN hi hln hq
          cases f with
          | ret u =>
            obtain ⟨v6, σ6, H6, S6, r6, q6⟩ := hsp
            exact fin S6 fun s7 J7 => ⟨_, _, _, J7, r6, q6⟩
          | _ =>
            obtain ⟨σ6, H6, S6, q6⟩ := hsp
            exact fin S6 fun s7 J7 => ⟨_, _, J7, q6⟩
    exact go hh wish
  · cases f with
    | next =>
      obtain ⟨σ', H', J', q⟩ := hsp
      exact wpAny_execs_nil ⟨σ', H', J'.ofTry ok, q⟩
    | ret u =>
      obtain ⟨v, σ', H', J', r, q⟩ := hsp
      exact ⟨v, σ', H', J'.ofTry ok, r, q⟩
    | _ =>
      obtain ⟨σ', H', J', q⟩ := hsp
      exact ⟨σ', H', J'.ofTry ok, q⟩
end
end Mm
namespace Mm
open PySem PySem.Spec PyProof.Rows L2
/-! ### xs += ys, lists -/
section
variable {prog : Program} {w : World} {A : Around} {E : Value → Shared → Prop} {s : Shared}
theorem iadd_lists {l b : Addr} {items items2 : Array Value} {n n2 : Nat} {Q : Value → Shared → Prop} (hl : s.heap.get? l = some { cls := .type "list", dict := none, data := .seq items n, slots := #[] }) (hb : s.heap.get? b = some { cls := .type "list", dict := none, data := .seq items2 n2, slots := #[] })
    (hsz : items.size + items2.size ≤ sizeLine) (h : Q (.ref l) { s with heap := s.heap.update l (Obj.mapSeq fun x => x ++ items2) }) : wpAny (model prog w) A (inplaceOp .Add (.ref l) (.ref b)) Q E s := by
  have ha' : s.TypeIs (.ref l) "list" := ⟨_, hl, rfl⟩
  have hb' : s.TypeIs (.ref b) "list" := ⟨_, hb, rfl⟩
  have look := F.slot_list_iadd.lookup
  have hfi : fillsInplaceSlot (.type "list") "add" (Operator.Add == .Add) = pure false := by
    unfold fillsInplaceSlot
    show (typeLookup (.type "list") (dunderI "add") >>= fun fi => pure (fi.isSome && !isSeqSlot fi)) = pure false
    rw [look]
    rfl
  have hsi : seqSlot? (.type "list") (dunderI "add") = pure (some (.builtin "list.__iadd__")) := by
    unfold seqSlot?
    rw [look]
    rfl
  unfold inplaceOp
  refine wpAny_holding (wpAny_bind (wpAny_typeOf ha' (wpAny_bind (wpAny_of_eq hfi ?_))))
  show wpAny _ A (if false = true then _ else _) Q E s
  rw [if_neg Bool.false_ne_true]
  refine wpAny_bind (wpAny_binaryOp1_none (nm := "add") ha' hb' noFill_list_add ?_)
  refine wpAny_bind (wpAny_of_eq hsi (wpAny_bind (wpAny_rule ?_)))
  have hlong : ¬ (!items.isEmpty && Builtin.List.listTooLong (items.size + items2.size)) = true := by
    rw [notLongL hsz, Bool.and_false]
    exact Bool.false_ne_true
  exact call_meets F.slot_list_iadd ha' F.entry_list_iadd (F.args_list_iadd_2 _ _) (AutoSeq1.list___iadd___list_list_0 l items n b items2 n2 hlong (by omega) (by omega)) ⟨hl, hb, h⟩
end
def ipL : TIp := fun x y H Q => ∃ l b xs zs, x = .ref l ∧ y = .ref b ∧ H l = some (.lst xs) ∧ H b = some (.lst zs) ∧ xs.length + zs.length ≤ sizeLine ∧ Q (.ref l) (upd H l (.lst (xs ++ zs)))
theorem ip_lists {X : Cx} : PIp X .Add ipL := by
  intro pins s σ H x y v u Q I rx ry h
  obtain ⟨l, b, xs, zs, rfl, rfl, hH, hB, hz, q⟩ := h
  cases rx
  cases ry
  obtain ⟨z, its, n, r, hl, e⟩ := I.lstM hH
  obtain ⟨z2, its2, n2, r2, hl2, e2⟩ := I.lstM hB
  refine iadd_lists e e2 (by rw [List.size_toArray, List.size_toArray]; omega) ⟨.ref l, _, I.lset (its' := its ++ its2) (t' := s.toks) hH e (by simp) (r.append r2) ?_, rfl, q⟩
  rw [List.length_append]
  omega
section
variable {X : Cx} {Y : Gam} {W : WX} {e a b c tg iter elt l : Expr} {es rest ifs : List Expr} {ta tb te tl : TE} {tt tu : TT} {ma mb me ml : ME} {mt mu : MT} {mf : MF} {t : TA} {m : MA} {pos p tpos : Pos} {s : Stmt} {ss : List Stmt} {t1 t2 : TS} {m1 m2 : MS} {wi : TI} {mi : MI} {x : Str}
/-- x += e, x a list of one's own -/
def sExt (i : Nat) (me : ME) : MS := fun env S => match env[i]? with
  | some (.o (.lst xs)) => (me env S).out env fun d S1 => (match d with
    | .lst ys => if szB (xs.length + ys.length) then .nx (env.set i (.o (.lst (xs ++ ys)))) S1 else .stuck
    | _ => .stuck)
  | _ => .stuck
theorem t_ext (i : Nat) {pos' : Pos} (he : SE X Y W e te me) (hN : X.N.Nodup) (hi : X.N[i]? = some x := by rfl) (hx : Loc X.env.scope x := by first | exact Or.inl rfl | exact Or.inr rfl) (hf : X.fn x = true ∨ X.env.scope.names.lookup x = some .local := by first | exact .inl rfl | exact .inr rfl | assumption) :
    SS X Y W (.AugAssign (.Name x pos') .Add e pos) (tAug i te ipL) (sExt i me) := ⟨ps_aug hN hi hx he.pe ip_lists hf, fun w0 H0 w H σ env S O Dn st p => by
  unfold sExt at p
  split at p
  · rename_i xs hs
    obtain ⟨q, e1, e2, e3, e4, e5, e6, hi⟩ := st.own_at hs
    refine ⟨.ref q, e1, ?_⟩
    refine he.sim w0 H0 w H σ env S O _ st ((PostS.out p).imp fun d S1 w1 H1 st1 l1 p1 v r => ?_)
    split at p1
    · rename_i ys
      split at p1
      · rename_i hz
        obtain ⟨q', f1, f2, f3, ⟨us, f4, f4'⟩, f5, f6, _⟩ := st1.own_at hs
        rw [e2] at f2
        cases f2
        obtain ⟨b, zs, g1, g2, g3⟩ := rep_lst r
        refine ⟨q, b, us, zs, rfl, g1, f4, st1.ok.ex _ _ g2, by rw [← f4'.len, ← g3.len]; exact szB_le hz, ?_⟩
        show Dn.nx (σ.set i (some (V.ref q))) _
        rw [set_get_self σ i _ e1]
        exact p1 w1 _ σ O (st1.mut hs e2 ⟨_, upd_same, f4'.append_ g3⟩ nt_lst) (.refl w1)
      · exact False.elim p1
    · exact False.elim p1
  · exact p.elim⟩
/-! ### the list comprehension of before, as a rule -/
def itLst (me : ME) : MI := fun env S => (me env S).bind fun d S1 => match d with
  | .lst ds => .ok ds S1
  | _ => .stuck
theorem sim_iLst (h : SimE Y W tl ml) : SimI Y W (iLst Y.K tl) (itLst ml) := fun w0 H0 w H σ env S O Q st p =>
  h w0 H0 w H σ env S O _ st ((PostX.bind p).imp fun d S1 w1 H1 st1 l1 p1 v r => by
    cases d with
    | lst ds =>
      obtain ⟨a, vs, e1, e2, e3⟩ := rep_lst r
      exact ⟨a, vs, e1, .inl (.inl (st1.ok.ex _ _ e2)), p1 w1 H1 st1 (.refl w1) _ (itR_list (g := Y) e2 e3)⟩
    | _ => exact False.elim p1)
variable {scope : Scope} {own : List (Str × Nat)} {is : List Nat} {tgs : TGs} {mgs : MGs} {k : Nat}
theorem f_lcH {q : Addr × Obj} (hp : L2H.Hot1 X.A q) (hpn : q ∈ X.pn) (hN : X.N.Nodup) (hl : SE X Y W l tl ml) (ok : BlkOk X.N X.env.scope scope own)
    (hg : ∀ (s : Shared) (H : Hp) (C : Addr) (cl : List (Str × Addr)) (fp : List Addr), SGs (X.blk s H scope (compEnvC scope cl C X.env) fp) Y is es tgs mgs)
    (hlen : ∀ (C : Addr) (cl : List (Str × Addr)), (assignEach es (compEnvC scope cl C X.env)).length = es.length ∧ (assignEach es (compEnvC scope cl C X.env)).findIdx? (·.1) = none)
    (ht : ∀ (s : Shared) (H : Hp) (C : Addr) (cl : List (Str × Addr)) (fp : List Addr), ST (X.blk s H scope (compEnvC scope cl C X.env) fp) Y W0 ifs tt mt)
    (he : ∀ (s : Shared) (H : Hp) (C : Addr) (cl : List (Str × Addr)) (fp : List Addr), SE (X.blk s H scope (compEnvC scope cl C X.env) fp) Y W0 elt te me) (hv : ∀ i ∈ is, i ∈ own.map (·.2) := by decide) (hK : X.K = Y.K := by rfl) (hs : ∀ x, foldedSetIterable l X.env x = pure x := by intro _; rfl) :
    SF X Y W (.ListComp elt [⟨.Tuple es k tpos, l, ifs, 0⟩] scope pos) (tLc (iLst Y.K tl) (gTup Y.K es.length tgs) tt te (own.map (·.2))) (fLc (itLst ml) (gT mgs) mt me (own.map (·.2))) := by
  have sg := (hg X.s_0 X.H_0 0 [] [])
  refine ⟨hK ▸ pe_lcH hp hpn hN hl.pe ok (fun s H C cl fp => (hg s H C cl fp).pg) hlen (fun s H C cl fp => (ht s H C cl fp).pts) (fun s H C cl fp => (he s H C cl fp).pe) hs,
    sim_lc (sim_iLst hl.sim) (is := is) (fun w0 H0 w H σ env S O d v Q e' st r h' q => ?_) hv (ht X.s_0 X.H_0 0 [] []).sim (he X.s_0 X.H_0 0 [] []).sim⟩
  unfold gT at h'
  split at h'
  · rename_i ds
    obtain ⟨a, vs, e1, e2, e3⟩ := rep_tup r
    exact ⟨a, vs, e1, same_sqT st.ok.ex e2, by rw [← e3.len]; exact sg.len ds env e' h', sg.sim w0 H0 w H σ env S O ds vs Q e' st e3 h' q⟩
  · cases h'
/-! ### isinstance of the exception that is handled -/
theorem call_isP {q : Addr × Obj} {D : Addr} (C : ExcC X.K D) (hz : Zc (.ref D) none q.2) (hf : ∃ vs, q.2.data = .fields vs) (hm : q ∈ X.pn) : CallR X (.builtin "isinstance") (rIsE X.K D q.1) := by
  intro pins s σ H xs us Q I r h
  obtain ⟨c, cv, b, rfl, hcv, e, k⟩ := h
  obtain ⟨u1, u2, rfl, rx, rt⟩ := vals2 r
  cases rx
  have ec := hcv _ rt
  subst ec
  obtain ⟨hget, _⟩ := I.pin q (List.mem_append_left _ hm)
  obtain ⟨vs, hv⟩ := hf
  have J : PySem.W.InstAt s.heap q.1 q.2 D none := by
    obtain ⟨qa, ⟨oc, od, oda, osl⟩⟩ := q
    obtain ⟨h1, h2⟩ := hz
    dsimp only at h1 h2 hv
    subst h1 h2 hv
    exact ⟨hget, rfl, rfl, trivial⟩
  exact PySem.W.kia_one (PySem.W.handS_kitx_exc C.hg C.hk C.hs C.hd C.ha C.hn C.ht C.hm) I.kIn J e (fun z => nomatch z) fun tk => ⟨.bl b, H, I.kept (t' := tk) fun _ _ z => z, rfl, k⟩
def eIsX (a : Addr) (c : Str) (m : MA) : ME := fun env S => (m env S).bind fun ds S1 => match ds with
  | [.adr a', .cls c'] => if a' = a then .ok (.bl (decide (c' = c))) S1 else .stuck
  | _ => .stuck
theorem s_isX {q : Addr × Obj} (c c' : Str) (C : ExcC X.K (Y.ca c)) (hz : Zc (.ref (Y.ca c)) none q.2) (hf : ∃ vs, q.2.data = .fields vs) (hpn : q ∈ X.pn) (hk : PySem.W.kitOne X.K (.ref (Y.ca c)) (.ref (Y.ca c')) = some (decide (c' = c))) (hm : X.mg "isinstance" = none) (hmc : X.mg c' = some (.ref (Y.ca c')))
    {p2 : Pos} (ha : SE X Y W a ta ma) (hgc : Gl X c' := by rfl) (hdb : (c' == ("__debug__" : Str)) = false := by decide) (hg : Gl X "isinstance" := by rfl) (he : starEach [a, .Name c' p2] X.env = (false, eval a X.env) :: starEach [.Name c' p2] X.env := by rfl) (he2 : starEach [.Name c' p2] X.env = (false, eval (.Name c' p2) X.env) :: starEach [] X.env := by rfl) (hpl : (backTo pos (starEach [.Name c' p2] X.env)).any (·.1) = false := by rfl) :
    SE X Y W (.Call (.Name "isinstance" p) [a, .Name c' p2] [] pos) (tCB (rIsE X.K (Y.ca c) q.1) (tCons ta (tCons (tC (.ref (Y.ca c'))) tNil))) (eIsX q.1 c (aCons ma (aCons (eC (.cls c')) aNil))) := by
  have sa : SA X Y W [a, .Name c' p2] (tCons ta (tCons (tC (.ref (Y.ca c'))) tNil)) (aCons ma (aCons (eC (.cls c')) aNil)) := a_cons ha (a_cons (s_gcls hmc hgc hdb) a_nil he2) he
  refine ⟨pe_callB (call_isP C hz hf hpn) hg hm (by decide +kernel : bootBuiltins "isinstance" = some (.builtin "isinstance")) sa.pa (by decide) (by decide) he hpl, fun w0 H0 w H σ env S O Q st p => ?_⟩
  refine ha.sim w0 H0 w H σ env S O _ st ?_
  have p : PostX Y W w0 H0 w σ env O (((ma env S).bind fun d S1 => R.ok [d, D.cls c'] S1).bind fun ds S1 => match ds with
    | [.adr a', .cls c'] => if a' = q.1 then R.ok (D.bl (decide (c' = c))) S1 else .stuck
    | _ => .stuck) _ := p
  cases z : ma env S with
  | stuck => rw [z] at p; exact p
  | exc cc pp SS => rw [z] at p; exact p
  | ok d S1 =>
    rw [z] at p
    intro w1 H1 st1 l1 v r
    cases d with
    | adr a' =>
      have p : PostX Y W w0 H0 w σ env O (if a' = q.1 then R.ok (D.bl (decide (c' = c))) S1 else .stuck) _ := p
      split at p
      · rename_i ea
        unfold Rep at r
        refine ⟨.ref (Y.ca c'), .ref (Y.ca c'), _, by rw [r, ea], fun u hu => hu, hk, p w1 H1 st1 l1 _ rep_bl'⟩
      · exact False.elim p
    | _ => exact False.elim p
end
end Mm
namespace Mm
open PySem PySem.Spec PyProof.Rows L2
/-! ### a def called with the exception that is handled -/
def tHot (Y : Gam) (a : Addr) (i n : Nat) (m : MS) : TE := fun σ H Q => σ[i]? = some (some (.ref a)) ∧ ∃ w S, Ok Y w H S ∧ PostF Y w H Q C8.E0 (mFn n m [.adr a] S)
section
variable {X : Cx} {Y : Gam} {a fw : Addr} {oe : Obj} {cls : Value} {d : Option Addr} {pn : List (Addr × Obj)} {i k : Nat} {x n y : Str} {st : Stmt} {fdw : FuncData} {Nw : List Str} {m1 : MS} {p1 p2 pos : Pos}
theorem hot1_suite (hz : L2N.Zn cls d oe) (hf : ∃ vs, oe.data = .fields vs) : L2H.Hot1 (X.suite a ((a, oe) :: pn)).A (a, oe) := by
  obtain ⟨vs, e⟩ := hf
  exact ⟨rfl, vs, e, hz.2.2 vs e⟩
theorem pe_hot (F : FnP X.K x x st [] fw fdw) (Sc : FnScope Nw [y] (defScope st)) (hb : Binds X.K fdw [y] []) (hm : X.mg x = some (.ref fw)) (hr : L2H.RoomH (k + 1) X.A) (hz : L2N.Zn cls d oe) (hf : ∃ vs, oe.data = .fields vs)
    (hbody : ∀ (cdv : Value) (A : Around) (outer : List Env) (s : Shared) (H : Hp), L2H.Hot1 A (a, oe) → L2H.RoomH k (A.deeper (envOfC x (defScope st) s.heap.objs.size fw cdv)) → ∃ t1, SB (L2H.cxH (L2N.CX X.prog X.w) X.prog X.w X.K X.mg X.base Nw x (defScope st) fw cdv A outer s H C8.E0 (a, oe)) Y W0 (defBody st) t1 m1)
    (hN : X.N[i]? = some n := by rfl) (hv : Vis X.env.scope n := by first | exact Or.inl rfl | exact Or.inr (Or.inl rfl) | exact Or.inr (Or.inr rfl)) (hg : Gl X x := by rfl) (hdb : (x == ("__debug__" : Str)) = false := by decide) (hd : (n == ("__debug__" : Str)) = false := by decide) (hcd : (n == ("__classdict__" : Str)) = false := by decide)
    (he : starEach [.Name n p2] X.env = (false, eval (.Name n p2) X.env) :: starEach [] X.env := by rfl) (hpl : (backTo pos (starEach [] X.env)).any (·.1) = false := by rfl) :
    PE (X.suite a ((a, oe) :: pn)) (.Call (.Name x p1) [.Name n p2] [] pos) (tHot Y a i Nw.length m1) := by
  refine ⟨fun pins s σ H Q I h => ?_⟩
  obtain ⟨hs, w, S, kk, pf⟩ := h
  refine wpAny_Call_Name_kw (ld_glob I hg hm ?_ hdb)
  have arg : PA (X.suite a ((a, oe) :: pn)) [.Name n p2] (tCons (tVar i) tNil) := pa_cons (pv i hN hv hd hcd) pa_nil he
  refine PySem.W.callWith_K (h₀ := X.base) I.ok.mod.kin F.kp (thn (arg.run pos pins s σ H (fun vs H1 => vs = [.ref a] ∧ H1 = H) I ⟨.ref a, hs, rfl, rfl⟩) fun us s1 ⟨vs, H1, I1, r, ev, eH⟩ => ⟨I1.kIn, ?_⟩) he hpl
  subst ev eH
  obtain ⟨u, rfl, ru⟩ := r.one
  obtain rfl : u = Value.ref a := ru
  have hot := hot1_suite (X := X) (a := a) (pn := pn) hz hf
  have pin1 := I1.pin (a, oe) (List.mem_append_left _ List.mem_cons_self)
  have pinK : L2H.PinOk X.stack H1 s1 (a, oe) := ⟨pin1.1, pin1.2.1, fun z => (List.mem_cons.mp (I1.stkSub a z)).elim pin1.2.2.1 pin1.2.2.2.1, pin1.2.2.2.2⟩
  have rc : codeAny (model X.prog X.w) (X.suite a ((a, oe) :: pn)).A (.call (.ref fw) ⟨[.ref a], []⟩) (CR (L2N.CX X.prog X.w) X.stack X.prog X.w H1 s1 Q C8.E0) s1 := by
    obtain ⟨oc, od, dV, kV, doc, pm, an, cdv, ct, osl, efd, lk, hcode, _, _⟩ := F.ex
    subst efd
    have e0 : Env0 X.prog X.w X.K X.mg X.base (X.suite a ((a, oe) :: pn)).A X.stack s1 H1 := I1.env0
    have rr : L2H.RoomH (k + 1) (X.suite a ((a, oe) :: pn)).A := ⟨hr.dp, hr.un⟩
    have bnd := hb s1 [.ref a] I1.kIn rfl
    have loc : ∀ z ∈ [y].zip [Value.ref a], (defScope st).names.lookup z.1 = some .local ∨ ((defScope st).names.lookup z.1 = some .cell ∧ ((cellsFrom (s1.heap.objs.size + 1) (defScope st).names []).lookup z.1).isSome = true) := fun ⟨z, v⟩ hy => by
      rcases Sc.par z (List.of_mem_zip hy).1 with q | q
      · exact .inl q
      · exact .inr ⟨q, PySem.W.cellsFrom_some _ _ _ (.inl q)⟩
    refine codeAny_call_function rr.depth (I1.kIn _ _ lk) rfl Sc.co Sc.gen rfl (PySem.W.codeRec_of I1.kIn hcode) (bnd _ _ _ _ ?_)
    refine wpAny_newFunctionEnv_cells Sc.kind loc fun env he s2 xx => ?_
    subst he
    refine ⟨I1.nolimit.keeps xx.toInCall.keep, codeAny_func ?_⟩
    obtain ⟨t1, B⟩ := hbody cdv (X.suite a ((a, oe) :: pn)).A X.stack s1 H1 hot (rr.deeper _)
    have J : Inv (L2H.cxH (L2N.CX X.prog X.w) X.prog X.w X.K X.mg X.base Nw x (defScope st) fw cdv (X.suite a ((a, oe) :: pn)).A X.stack s1 H1 C8.E0 (a, oe)) [] (L2.start Nw [.ref a]) H1 s2 := L2H.inv_startH Sc pinK e0 rfl (.cons rfl .nil) xx
    have hq := fn_post (N := Nw) (ds := [.adr a]) (vs := [.ref a]) (E := C8.E0) (Q := Q) kk (RepL.cons_ (by unfold Rep; rfl) RepL.nil_) B.sim pf
    refine wpAny_mono (B.pss.run [] s2 _ H1 _ J hq) (fun fl s' hs => ?_) fun e s' hs => hs
    cases fl with
    | ret u =>
      obtain ⟨v, σ', H', J, rv, q⟩ := hs
      exact ⟨v, H', J.os, J.bare, J.base, J.hok, rv, q⟩
    | next =>
      obtain ⟨σ', H', J, q⟩ := hs
      exact ⟨.non, H', J.os, J.bare, J.base, J.hok, rfl, q⟩
    | brk =>
      obtain ⟨_, _, _, q⟩ := hs
      exact False.elim q
    | cont =>
      obtain ⟨_, _, _, q⟩ := hs
      exact False.elim q
  refine wpAny_call (codeAny_mono rc fun r s' hq => ?_)
  cases r with
  | error e =>
    obtain ⟨_, _, _, _, _, _, _, _, _, _, _, _, z⟩ := (show L2N.CX X.prog X.w X.stack H1 s1 C8.E0 e s' from hq)
    exact False.elim z
  | ok fl =>
    cases fl with
    | ret u => exact I1.after hq
    | next => exact False.elim hq
    | brk => exact False.elim hq
    | cont => exact False.elim hq
end
end Mm
namespace Mm
open PySem PySem.Spec PyProof.Rows L2
/-! ### a lambda is made -/
section
variable {X : Cx} {pins : List (Addr × Obj)} {σ : L2.St} {H : Hp} {s : Shared}
/-- the object of a lambda -/
abbrev lamO (X : Cx) (params : Arguments) (body : Expr) (scope : Scope) (pm : Value) (c' : Addr) (ctv : Value) : Obj := PySem.W.kla_obj "<lambda>" (X.env.qual ++ "<lambda>") params body scope (cloFrom X.env.cells scope.names []) pm c' ctv
theorem lam_makeD {T : List (Addr × Str)} {c P : Addr} {params : Arguments} {body : Expr} {scope : Scope} {pos : Pos} {E : Value → Shared → Prop} {Q : Value → Shared → Prop} (I : Inv X pins σ H s) (TB : LamX.TabB X.base X.mg c P) (hcode : X.env.code = .ref c)
    (hm : (P, X.env.qual ++ "<lambda>") ∈ T) (hu : ∀ p ∈ T, p.1 = P → p.2 = X.env.qual ++ "<lambda>") (hT : LamX.Tabs T H) (hdef : defaultsOf params X.env = ([], [])) (hfree : ∀ y ∈ scope.names, y.2 = .free → ∃ c, X.env.cells.lookup y.1 = some c)
    (h : ∀ (f c' : Addr) (pm ctv : Value) (H1 : Hp) (s' : Shared), Inv X pins σ H1 s' → LamX.ExtN H H1 → (∀ b, H b ≠ none → H1 b ≠ none) → LamX.Tabs T H1 → s'.heap.get? f = some (lamO X params body scope pm c' ctv) → H1 f = none → f ∉ frs X.stack → H1 c' = some (LamX.CodeO c' (X.env.qual ++ "<lambda>")) → (∀ a ps, H a = some (.tbl ps) → ∃ qs, H1 a = some (.tbl qs)) → Q (.ref f) s') :
    wpAny (model X.prog X.w) X.A (eval (.Lambda params body scope pos) X.env) Q E s := by
  obtain ⟨ps, hP, ht, ha⟩ := hT _ hm
  have bP := TB.bm.keeps I.bk
  have hP' : s.heap.get? P = some { cls := .none, data := .fields ps } := I.hok P _ hP
  have out : ∀ f, s.heap.objs.size ≤ f → f ∉ frs X.stack := fun f hf z => by
    rcases List.mem_cons.mp (I.stkSub _ z) with e | e
    · exact Nat.lt_irrefl _ (Nat.lt_of_lt_of_le (e ▸ I.lt) hf)
    · exact I.nofs hf e
  refine PySem.W.kla_eval hdef ?_
  cases hc : codeAmong pos ps.toList with
  | some cv =>
    obtain ⟨c', e, hco⟩ := ha pos cv hc
    subst e
    refine PySem.W.kla_makeFunctionHit (mg := X.mg) (c := c) (P := P) (ps := ps) (closure_ok hfree) I.ok.glob (I.mod.glob.keeps I.bk) hcode (TB.code.keeps I.bk) hP' ht hc bP fun ctv h' tk hx hsz => ?_
    exact h h'.objs.size c' ((X.mg "__name__").getD .none) ctv H _ (I.kept (t' := tk) fun b o e => Heap.get?_push_of_some _ (hx b o e)) (LamX.ExtN.refl H) (fun _ z => z) hT (Heap.get?_push_size _ rfl) (I.hok.fresh hsz) (out _ hsz) hco (fun a ps e => ⟨ps, e⟩)
  | none =>
    refine PySem.W.kla_makeFunction (mg := X.mg) (c := c) (P := P) (ps := ps) (closure_ok hfree) I.ok.glob (I.mod.glob.keeps I.bk) hcode (TB.code.keeps I.bk) hP' ht hc TB.gP bP fun c' ctv h' tk hx hge hlt hrec htb => ?_
    obtain ⟨c2, oc, vs, t, e2, hoc, hd, hv⟩ := hrec
    cases e2
    have hsz : s.heap.objs.size ≤ h'.objs.size := Nat.le_trans hge (Nat.le_of_lt hlt)
    have nC : H c' = none := I.hok.fresh hge
    have nPc : P ≠ c' := ne_of_none hP nC
    have I1 := LamX.inv_table (t' := tk) (more := #[rawInt pos.line, rawInt pos.col, .ref c']) (h' := h'.push (lamO X params body scope ((X.mg "__name__").getD .none) c' ctv)) I hP (fun b o hb e => Heap.get?_push_of_some _ (hx b o hb e)) (Heap.get?_push_of_some _ htb) hge ⟨oc, vs, t, Heap.get?_push_of_some _ hoc, hd, hv⟩
    generalize hH1 : upd (upd H P (.tbl (ps ++ #[rawInt pos.line, rawInt pos.col, .ref c']))) c' (LamX.CodeO c' (X.env.qual ++ "<lambda>")) = H1 at I1
    have atC : H1 c' = some (LamX.CodeO c' (X.env.qual ++ "<lambda>")) := by rw [← hH1, upd_same]
    have atP : H1 P = some (.tbl (ps ++ #[rawInt pos.line, rawInt pos.col, .ref c'])) := by rw [← hH1, upd_ne nPc, upd_same]
    have at_ : ∀ b, b ≠ P → b ≠ c' → H1 b = H b := fun b h1 h2 => by rw [← hH1, upd_ne h2, upd_ne h1]
    have hE : LamX.ExtN H H1 := fun b o e n => by
      rw [at_ b (fun z => n ps (by rw [z, hP] at e; exact (Option.some.inj e).symm)) (ne_of_none e nC)]
      exact e
    have eL : (ps ++ #[rawInt pos.line, rawInt pos.col, .ref c']).toList = ps.toList ++ [rawInt pos.line, rawInt pos.col, .ref c'] := by simp
    refine h h'.objs.size c' ((X.mg "__name__").getD .none) ctv H1 _ I1 hE (fun b z => ?_) (fun p hp => ?_) (Heap.get?_push_size _ rfl) ?_ (out _ hsz) atC (fun a ps e => by
      by_cases h1 : a = P
      · exact ⟨_, by rw [h1]; exact atP⟩
      · exact ⟨ps, by rw [at_ a h1 (ne_of_none e nC)]; exact e⟩)
    · by_cases h1 : b = P
      · rw [h1, atP]
        exact fun z => nomatch z
      · by_cases h2 : b = c'
        · rw [h2, atC]
          exact fun z => nomatch z
        · rw [at_ b h1 h2]
          exact z
    · by_cases hb : p.1 = P
      · rw [hu p hp hb, hb]
        refine ⟨_, atP, by rw [eL]; exact PySem.TriplesOk_snoc _ _ _ _ ht, fun p' cv hcv => ?_⟩
        rw [eL] at hcv
        rcases LamX.among_app _ ht hcv with z | z
        · obtain ⟨c0, e1, e2⟩ := ha p' cv z
          exact ⟨c0, e1, hE _ _ e2 LamX.codeO_ne⟩
        · exact ⟨c', z, atC⟩
      · obtain ⟨ps', a1, a2, a3⟩ := hT p hp
        refine ⟨ps', by rw [at_ _ hb (ne_of_none a1 nC)]; exact a1, a2, fun p' cv hcv => ?_⟩
        obtain ⟨c0, e1, e2⟩ := a3 p' cv hcv
        exact ⟨c0, e1, hE _ _ e2 LamX.codeO_ne⟩
    · rw [at_ _ (Nat.ne_of_gt (Nat.lt_of_lt_of_le (Heap.lt_size hP') hsz)) (Nat.ne_of_gt hlt)]
      exact I.hok.fresh hsz
end
/-! ### its body -/
abbrev lamN (X : Cx) (A : Around) (outer : List Env) (s : Shared) (H : Hp) (E : XK) (scope : Scope) (f c' : Addr) : Cx :=
  (LamX.lamCx X A outer s H E scope f c').tr [] (fun e s' => wpAny (model X.prog X.w) (A.deeper (LamX.lamEnv X scope s.heap.objs.size f c')) (leaving (LamX.lamEnv X scope s.heap.objs.size f c') e) (fun _ s'' => L2N.CX X.prog X.w outer H s E e s'') (fun e' s'' => L2N.CX X.prog X.w outer H s E e' s'') s')
theorem lamN_takes {X : Cx} {A : Around} {outer : List Env} {s : Shared} {H : Hp} {E : XK} {scope : Scope} {f c' : Addr} : L2N.Takes (lamN X A outer s H E scope f c') (fun cls d _ H => E cls d H) := L2N.takes_of rfl rfl rfl rfl
theorem lamN_passes {X : Cx} {A : Around} {outer : List Env} {s : Shared} {H : Hp} {E : XK} {scope : Scope} {f c' : Addr} : PassesOwn (model X.prog X.w) (lamN X A outer s H E scope f c').A (lamN X A outer s H E scope f c').env (lamN X A outer s H E scope f c').xe := passes_of rfl
/-- what is called: the lambda's body, at the maker's slots -/
def tAct (Y : Gam) (f c' : Addr) (q : Str) (σ : L2.St) (me : ME) (W : WX) : TE := fun σZ HZ Q => σZ[0]? = some (some (.ref f)) ∧ HZ c' = some (LamX.CodeO c' q) ∧
  ∃ w0 H0 w env S O, StR Y w0 H0 w HZ σ env S O ∧ PostX Y (fun cls d _ H => W cls d σZ H) w0 H0 w σ env O (me env S) (fun d _ w' H' => ∀ v, Rep Y w' d v → Q v H')
section
variable {X : Cx} {pins : List (Addr × Obj)} {σ : L2.St} {H : Hp} {s : Shared} {Y : Gam}
theorem pe_actN {Ng : List Str} {qg : Str} {sg : Scope} {g f c' : Addr} {cdg pm ctv : Value} {params : Arguments} {body : Expr} {scope : Scope} {k : Nat} {a : Str} {pn : List (Addr × Obj)} {xe : Value → Shared → Prop} {W : WX} {p1 p2 : Pos} {me : ME}
    (I : Inv X pins σ H s) (L : LamX.LamS X.env.scope scope) (hf : s.heap.get? f = some (lamO X params body scope pm c' ctv)) (hfn : H f = none) (hfr : f ∉ frs X.stack)
    (hbind : bindArgs (PySem.W.kla_fn "<lambda>" (X.env.qual ++ "<lambda>") params body scope (cloFrom X.env.cells scope.names []) pm (.ref c') ctv) ⟨[], []⟩ = pure [])
    (tk : L2N.Takes ((cxOf (L2N.CX X.prog X.w) X.prog X.w X.K X.mg X.base Ng qg sg g cdg X.A X.stack s H C8.E0).tr pn xe) W) (hr : Room (k + 1) (X.A.deeper (envOfC qg sg s.heap.objs.size g cdg)))
    (hbody : ∀ (A : Around) (outer : List Env) (s : Shared) (H : Hp) (E : XK), Room k (A.deeper (LamX.lamEnv X scope s.heap.objs.size f c')) → ∃ te, SE (lamN X A outer s H E scope f c') Y (fun cls d _ H => E cls d H) body te me)
    (hN : Ng[0]? = some a) (hv : Vis sg a) (hd : (a == ("__debug__" : Str)) = false := by decide) (hcd : (a == ("__classdict__" : Str)) = false := by decide) :
    PE ((cxOf (L2N.CX X.prog X.w) X.prog X.w X.K X.mg X.base Ng qg sg g cdg X.A X.stack s H C8.E0).tr pn xe) (.Call (.Name a p1) [] [] p2) (tAct Y f c' (X.env.qual ++ "<lambda>") σ me W) := by
  refine ⟨fun pinsZ sZ σZ HZ Q IZ hw => ?_⟩
  obtain ⟨hs, hc, w0, H0, w, env, S, O, st, pst⟩ := hw
  refine wpAny_Call_Name_kw (thn ((pe_var (pos := p1) (i := 0) hN hv hd hcd).run pinsZ sZ σZ HZ (fun v H1 => v = .ref f ∧ H1 = HZ) IZ ⟨.ref f, hs, rfl, rfl⟩) fun u s1 ⟨v, H1, I1, r1, ev, eH⟩ => ?_)
  subst ev
  rw [eH] at I1
  obtain rfl : u = Value.ref f := r1
  have of1 : s1.heap.get? f = some (lamO X params body scope pm c' ctv) := I1.base.keep f _ hf hfn hfr (fun z => nomatch (show f ∈ ([] : List Addr) from z))
  have un : Un (frs X.stack) [] H HZ s.heap s1.heap := I1.base
  obtain ⟨⟨oc, vs, t, hoc, hdc, hvc⟩, _, _⟩ := I1.hok c' _ hc
  refine PySem.W.callWith_F0 ⟨_, _, _, _, of1⟩ ?_
  have rc : codeAny (model X.prog X.w) (X.A.deeper (envOfC qg sg s.heap.objs.size g cdg)) (.call (.ref f) ⟨[], []⟩) (CR (L2N.CX X.prog X.w) (envOfC qg sg s.heap.objs.size g cdg :: X.stack) X.prog X.w HZ s1 Q (WE W σZ)) s1 := by
    refine PySem.W.kla_callFunE hr.depth of1 rfl L.co L.gen rfl ⟨c', oc, vs, t, rfl, hoc, hdc, hvc⟩ ?_
    rw [hbind]
    refine wpAny_pure (wpAny_newFunctionEnv (fun y hy => (L.own y hy).2) (fun y hy => absurd hy (by simp)) (fun h₁ hns hsb => ⟨I1.nolimit.fresh _ hsb, ?_⟩) L.kind)
    show codeAny _ _ (.expr body (LamX.lamEnv X scope s1.heap.objs.size f c')) _ _
    have kp : ∀ b o, s1.heap.get? b = some o → h₁.get? b = some o := fun b o e => hsb.extBut b o (Nat.ne_of_lt (Heap.lt_size e)) (Heap.get?_push_of_some _ e)
    have J0 := LamX.lam_start2 (E := WE W σZ) (c' := c') (f := f) (tk := s1.toks + ([] : List (Str × Value)).length) I L I1.env0 hr.hd un hns kp
    obtain ⟨te, B⟩ := hbody (X.A.deeper (envOfC qg sg s.heap.objs.size g cdg)) (envOfC qg sg s.heap.objs.size g cdg :: X.stack) s1 HZ (WE W σZ) (hr.deeper _)
    have J := J0.toTry (fun e s' => wpAny (model X.prog X.w) ((X.A.deeper (envOfC qg sg s.heap.objs.size g cdg)).deeper (LamX.lamEnv X scope s1.heap.objs.size f c')) (leaving (LamX.lamEnv X scope s1.heap.objs.size f c') e) (fun _ s'' => L2N.CX X.prog X.w (envOfC qg sg s.heap.objs.size g cdg :: X.stack) HZ s1 (WE W σZ) e s'') (fun e' s'' => L2N.CX X.prog X.w (envOfC qg sg s.heap.objs.size g cdg :: X.stack) HZ s1 (WE W σZ) e' s'') s')
    refine PySem.W.kla_codeExpr (wpAny_mono (B.pe.run [] _ _ HZ Q J (B.sim w0 H0 w HZ σ env S O Q st pst)) (fun v s' hq => ?_) fun e s' hq => hq)
    obtain ⟨w', H', J', rv, q⟩ := hq
    exact ⟨w', H', J'.os, J'.bare, J'.base, J'.hok, rv, q⟩
  refine wpAny_call (codeAny_mono rc fun r s' hq => ?_)
  cases r with
  | error e => exact L2N.passAt tk σZ pinsZ HZ s1 e s' I1 hq
  | ok fl =>
    cases fl with
    | ret u => exact I1.after hq
    | next => exact False.elim hq
    | brk => exact False.elim hq
    | cont => exact False.elim hq
end
end Mm
namespace Mm
open PySem PySem.Spec PyProof.Rows L2
/-! ### what a refusal is told by -/
def wordL : List (Str × Str) := [("badnumber", "BadNumber"), ("badfold", "BadFold"), ("unfit", "Unfit"), ("notpart", "NotPart"), ("notonto", "NotOnto"), ("badsize", "BadSize"), ("noberth", "NoBerth"), ("badsides", "BadSides"), ("badrows", "BadRows")]
def wordsOf (c : Str) : List D := (wordL.filter fun p => decide (p.2 = c)).map fun p => .str p.1
def kE (a : Addr) (c w c' : Str) : ME := eTup (aCons (eC (.str w)) (aCons (eIsX a c (aCons (eV 0) (aCons (eC (.cls c')) aNil))) aNil))
def m_word (a : Addr) (c : Str) : MS :=
  sSeq (sOwn 1 (fLst (aCons (kE a c "badnumber" "BadNumber") (aCons (kE a c "badfold" "BadFold") aNil))))
  (sSeq (sExt 1 (mFrz (fLst (aCons (kE a c "unfit" "Unfit") (aCons (kE a c "notpart" "NotPart") aNil)))))
  (sSeq (sExt 1 (mFrz (fLst (aCons (kE a c "notonto" "NotOnto") (aCons (kE a c "badsize" "BadSize") aNil)))))
  (sSeq (sExt 1 (mFrz (fLst (aCons (kE a c "noberth" "NoBerth") (aCons (kE a c "badsides" "BadSides") aNil)))))
  (sFrz 1 (sRet (eCB fTupOf (aCons (mFrz (fLc (itLst (eOp dAdd (eV 1) (mFrz (fLst (aCons (kE a c "badrows" "BadRows") aNil))))) (gT (gNC (gN 2) (gNC (gN 3) gN0))) (cB (eV 3)) (eV 2) [2, 3])) aNil)))))))
theorem kE_run (a : Addr) (c w c' : Str) (env : Envr) (S : Sto) (h : env[0]? = some (.v (.adr a))) : kE a c w c' env S = .ok (.tup [.str w, .bl (decide (c' = c))]) S := by
  unfold kE eTup aCons aNil eIsX eC eV
  simp [R.bind, h, szB, aCons, aNil, eV, eC]
def kinds (c : Str) : List D := wordL.map fun p => .tup [.str p.1, .bl (decide (p.2 = c))]
theorem lc_kinds (c : Str) (env : Envr) (h : 3 < env.length) : ∀ (l : List (Str × Str)) (S : Sto), lcR (gT (gNC (gN 2) (gNC (gN 3) gN0))) (cB (eV 3)) (eV 2) env (l.map fun p => .tup [.str p.1, .bl (decide (p.2 = c))]) S = .ok ((l.filter fun p => decide (p.2 = c)).map fun p => .str p.1) S
  | [], S => rfl
  | p :: l, S => by
    have ih := lc_kinds c env h l S
    have e1 : ((env.set 2 (Sl.v (.str p.1))).set 3 (.v (.bl (decide (p.2 = c)))))[3]? = some (.v (.bl (decide (p.2 = c)))) := by
      rw [List.getElem?_set_self (by rw [List.length_set]; exact h)]
    have e2 : ((env.set 2 (Sl.v (.str p.1))).set 3 (.v (.bl (decide (p.2 = c)))))[2]? = some (.v (.str p.1)) := by
      rw [List.getElem?_set_ne (by decide), List.getElem?_set_self (by omega)]
    by_cases hp : p.2 = c
    · simp only [List.map_cons, hp, decide_true, lcR, gT, gNC, gN, gN0, Option.bind_some, cB, eV, List.filter_cons, if_true, R.bind] at e1 e2 ⊢
      rw [e1, e2]
      simp only []
      rw [ih]
    · simp only [List.map_cons, hp, decide_false, lcR, gT, gNC, gN, gN0, Option.bind_some, cB, eV, List.filter_cons, R.bind] at e1 e2 ⊢
      rw [e1]
      simp only [Bool.false_eq_true, if_false]
      exact ih
theorem word_run (a : Addr) (c : Str) (S : Sto) : mFn 4 (m_word a c) [.adr a] S = .ok (.val (.tup (wordsOf c))) S := by
  have st : startE 4 [.adr a] = [.v (.adr a), .no, .no, .no] := rfl
  have k : ∀ (w c' : Str) (x y z : Sl) (S : Sto), kE a c w c' [.v (.adr a), x, y, z] S = .ok (.tup [.str w, .bl (decide (c' = c))]) S := fun w c' x y z S => kE_run a c w c' _ S rfl
  have lk := lc_kinds c (wipeE [Sl.v (.adr a), .v (.lst ((kinds c).take 8)), .no, .no] [2, 3]) (Nat.lt_add_one 3) wordL S
  have e : (eOp dAdd (eV 1) (mFrz (fLst (aCons (kE a c "badrows" "BadRows") aNil)))) [Sl.v (.adr a), .v (.lst ((kinds c).take 8)), .no, .no] S = .ok (.lst (kinds c)) S := by
    unfold eOp eV mFrz fLst aCons aNil
    simp only [List.getElem?_cons_succ, List.getElem?_cons_zero, R.bind, k]
    rfl
  have f : (fLc (itLst (eOp dAdd (eV 1) (mFrz (fLst (aCons (kE a c "badrows" "BadRows") aNil))))) (gT (gNC (gN 2) (gNC (gN 3) gN0))) (cB (eV 3)) (eV 2) [2, 3]) [Sl.v (.adr a), .v (.lst ((kinds c).take 8)), .no, .no] S = .ok (.lst (wordsOf c)) S := by
    unfold fLc itLst
    rw [e]
    have hl : (wordsOf c).length ≤ 100000 := by
      have h1 := List.length_filter_le (fun p : Str × Str => decide (p.2 = c)) wordL
      unfold wordsOf
      rw [List.length_map]
      have h2 : wordL.length = 9 := rfl
      omega
    have lk2 : lcR (gT (gNC (gN 2) (gNC (gN 3) gN0))) (cB (eV 3)) (eV 2) (wipeE [Sl.v (.adr a), .v (.lst ((kinds c).take 8)), .no, .no] [2, 3]) (kinds c) S = .ok (wordsOf c) S := lk
    show ((lcR _ _ _ _ (kinds c) S).bind fin) = _
    rw [lk2]
    show fin (wordsOf c) S = _
    unfold fin szB
    rw [if_pos (by simpa using hl)]
  have g : (sRet (eCB fTupOf (aCons (mFrz (fLc (itLst (eOp dAdd (eV 1) (mFrz (fLst (aCons (kE a c "badrows" "BadRows") aNil))))) (gT (gNC (gN 2) (gNC (gN 3) gN0))) (cB (eV 3)) (eV 2) [2, 3])) aNil))) [Sl.v (.adr a), .v (.lst ((kinds c).take 8)), .no, .no] S = .rt (.val (.tup (wordsOf c))) S := by
    show (((((fLc (itLst (eOp dAdd (eV 1) (mFrz (fLst (aCons (kE a c "badrows" "BadRows") aNil))))) (gT (gNC (gN 2) (gNC (gN 3) gN0))) (cB (eV 3)) (eV 2) [2, 3]) [Sl.v (.adr a), .v (.lst ((kinds c).take 8)), .no, .no] S).bind fun c S1 => R.ok c.d S1).bind fun d S1 => (aNil [Sl.v (.adr a), .v (.lst ((kinds c).take 8)), .no, .no] S1).bind fun ds S2 => R.ok (d :: ds) S2).bind fun ds S1 => opt (fTupOf S1 ds) S1).out _ _ = _
    rw [f]
    rfl
  have h1 : (sOwn 1 (fLst (aCons (kE a c "badnumber" "BadNumber") (aCons (kE a c "badfold" "BadFold") aNil)))) [.v (.adr a), .no, .no, .no] S = .nx [.v (.adr a), .o (.lst ((kinds c).take 2)), .no, .no] S := by
    unfold sOwn fLst aCons aNil
    simp only [R.bind, R.out, k]
    rfl
  have h2 : (sExt 1 (mFrz (fLst (aCons (kE a c "unfit" "Unfit") (aCons (kE a c "notpart" "NotPart") aNil))))) [.v (.adr a), .o (.lst ((kinds c).take 2)), .no, .no] S = .nx [.v (.adr a), .o (.lst ((kinds c).take 4)), .no, .no] S := by
    unfold sExt mFrz fLst aCons aNil
    simp only [List.getElem?_cons_succ, List.getElem?_cons_zero, R.bind, R.out, k]
    rfl
  have h3 : (sExt 1 (mFrz (fLst (aCons (kE a c "notonto" "NotOnto") (aCons (kE a c "badsize" "BadSize") aNil))))) [.v (.adr a), .o (.lst ((kinds c).take 4)), .no, .no] S = .nx [.v (.adr a), .o (.lst ((kinds c).take 6)), .no, .no] S := by
    unfold sExt mFrz fLst aCons aNil
    simp only [List.getElem?_cons_succ, List.getElem?_cons_zero, R.bind, R.out, k]
    rfl
  have h4 : (sExt 1 (mFrz (fLst (aCons (kE a c "noberth" "NoBerth") (aCons (kE a c "badsides" "BadSides") aNil))))) [.v (.adr a), .o (.lst ((kinds c).take 6)), .no, .no] S = .nx [.v (.adr a), .o (.lst ((kinds c).take 8)), .no, .no] S := by
    unfold sExt mFrz fLst aCons aNil
    simp only [List.getElem?_cons_succ, List.getElem?_cons_zero, R.bind, R.out, k]
    rfl
  unfold mFn m_word
  rw [st]
  unfold sSeq
  rw [h1]
  show (match (sSeq _ _) _ _ with | .nx _ S1 => _ | .rt r S1 => _ | .exc c p _ S1 => _ | _ => _) = _
  unfold sSeq
  rw [h2]
  show (match (sSeq _ _) _ _ with | .nx _ S1 => _ | .rt r S1 => _ | .exc c p _ S1 => _ | _ => _) = _
  unfold sSeq
  rw [h3]
  show (match (sSeq _ _) _ _ with | .nx _ S1 => _ | .rt r S1 => _ | .exc c p _ S1 => _ | _ => _) = _
  unfold sSeq
  rw [h4]
  unfold sFrz
  show (match (sRet _) [Sl.v (.adr a), .v (.lst ((kinds c).take 8)), .no, .no] S with | .nx _ S1 => _ | .rt r S1 => _ | .exc c p _ S1 => _ | _ => _) = _
  rw [g]
end Mm
namespace Mm
open PySem PySem.Spec PyProof.Rows L2
/-! ### tried -/
/-- the reading that is the run itself -/
def tSem (X : Cx) (e : Expr) : TE := fun σ H Q => ∀ pins s, Inv X pins σ H s → wpAny (model X.prog X.w) X.A (eval e X.env) (EP X pins σ Q) X.xe s
theorem pe_sem {X : Cx} {e : Expr} : PE X e (tSem X e) := ⟨fun pins s σ H Q I h => h pins s I⟩
/-- the def makes lambdas: its code object and table are known -/
def Mkr (X : Cx) (Y : Gam) : Prop := ∃ c P, X.env.code = .ref c ∧ LamX.TabB X.base X.mg c P ∧ (P, X.env.qual ++ "<lambda>") ∈ Y.T ∧ ∀ p ∈ Y.T, p.1 = P → p.2 = X.env.qual ++ "<lambda>"
/-- what is known of a refusal's class -/
structure TriX (K : PySem.W.Frag) (Y : Gam) (c : Str) : Prop where
  ex : ExcC K (Y.ca c)
  bt : PySem.W.exmOne K (.ref (Y.ca c)) (.ref (Y.ca "BadText")) = some false
  fe : PySem.W.exmOne K (.ref (Y.ca c)) (.ref (Y.ca "FoldError")) = some true
  kit : ∀ p ∈ wordL, PySem.W.kitOne K (.ref (Y.ca c)) (.ref (Y.ca p.2)) = some (decide (p.2 = c))
abbrev Nt : List Str := ["_law_ask", "_law_e"]
def tBody (p0 p1 p2 p3 p4 p5 p6 p7 p8 p9 p10 p11 p12 p13 p14 p15 p16 p17 p18 : Pos) (j0 j1 j2 j3 : Nat) : List Stmt :=
  [.Try [.Return (some (.Tuple [.Constant (.str "told") j0 p0, .Call (.Name "_law_ask" p1) [] [] p2] j1 p3)) p4]
    [.ExceptHandler (some (.Name "BadText" p5)) (some "_law_e") [.Return (some (.Tuple [.Constant (.str "badtext") j2 p6, .Attribute (.Name "_law_e" p7) "at" p8] j3 p9)) p10] p11,
     .ExceptHandler (some (.Name "FoldError" p12)) (some "_law_e") [.Return (some (.Call (.Name "_law_fold_word" p13) [.Name "_law_e" p14] [] p15)) p16] p17] [] [] p18]
/-- what is known of the two defs -/
structure Tri (P : Program) (w : World) (K : PySem.W.Frag) (mg : Str → Option Value) (base : Heap) (Y : Gam) (cs : List Str) : Prop where
  ex : ∃ (g fw : Addr) (fdg fdw : FuncData) (sg sw : Stmt) (Nw : List Str),
    FnP K "_law_tried" "_law_tried" sg [] g fdg ∧ FnScope Nt ["_law_ask"] (defScope sg) ∧ Binds K fdg ["_law_ask"] [] ∧ mg "_law_tried" = some (.ref g) ∧ (∃ p0 p1 p2 p3 p4 p5 p6 p7 p8 p9 p10 p11 p12 p13 p14 p15 p16 p17 p18 j0 j1 j2 j3, defBody sg = tBody p0 p1 p2 p3 p4 p5 p6 p7 p8 p9 p10 p11 p12 p13 p14 p15 p16 p17 p18 j0 j1 j2 j3) ∧
    (defScope sg).names.lookup ("BadText" : Str) = some .globalImplicit ∧ (defScope sg).names.lookup ("FoldError" : Str) = some .globalImplicit ∧ (defScope sg).names.lookup ("_law_fold_word" : Str) = some .globalImplicit ∧ (defScope sg).names.lookup ("_law_ask" : Str) = some .local ∧ (defScope sg).names.lookup ("_law_e" : Str) = some .local ∧
    FnP K "_law_fold_word" "_law_fold_word" sw [] fw fdw ∧ FnScope Nw ["_law_e"] (defScope sw) ∧ Nw.length = 4 ∧ Binds K fdw ["_law_e"] [] ∧ mg "_law_fold_word" = some (.ref fw) ∧
    ∀ c ∈ cs, ∀ (a : Addr) (oe : Obj), L2N.Zn (.ref (Y.ca c)) none oe → (∃ vs, oe.data = .fields vs) → ∀ (cdv : Value) (A : Around) (outer : List Env) (s : Shared) (H : Hp), L2H.Hot1 A (a, oe) →
      ∃ t1, SB (L2H.cxH (L2N.CX P w) P w K mg base Nw "_law_fold_word" (defScope sw) fw cdv A outer s H C8.E0 (a, oe)) Y W0 (defBody sw) t1 (m_word a c)
  bt : mg "BadText" = some (.ref (Y.ca "BadText"))
  fe : mg "FoldError" = some (.ref (Y.ca "FoldError"))
  x : ∀ c ∈ cs, TriX K Y c
/-- told what it tells, or the refusal's words -/
def tryW (cs : List Str) : R D → R D
  | .ok d S => .ok (.tup [.str "told", d]) S
  | .exc c none S => if c ∈ cs then .ok (.tup (wordsOf c)) S else .stuck
  | _ => .stuck
def eTried (cs : List Str) (me : ME) : ME := fun env S => tryW cs (me (wipeE env []) S)
section
variable {X : Cx} {Y : Gam} {W : WX} {cs : List Str} {k : Nat} {params : Arguments} {body : Expr} {scope : Scope} {me : ME} {p0 lpos pos : Pos}
theorem s_tried (T : Tri X.prog X.w X.K X.mg X.base Y cs) (M : Mkr X Y) (L : LamX.LamS X.env.scope scope) (hr : Room (k + 2) X.A) (hk : 1 ≤ k)
    (hbody : ∀ (A : Around) (outer : List Env) (s : Shared) (H : Hp) (E : XK) (f c' : Addr), Room k (A.deeper (LamX.lamEnv X scope s.heap.objs.size f c')) → L2N.Takes (lamN X A outer s H E scope f c') (fun cls d _ H => E cls d H) → PassesOwn (model X.prog X.w) (lamN X A outer s H E scope f c').A (lamN X A outer s H E scope f c').env (lamN X A outer s H E scope f c').xe →
      ∃ te, SE (lamN X A outer s H E scope f c') Y (fun cls d _ H => E cls d H) body te me)
    (hK : X.K = Y.K := by rfl) (hg : Gl X "_law_tried" := by rfl) (hdef : defaultsOf params X.env = ([], []) := by rfl)
    (hbind : ∀ (q : Str) (cl : List (Str × Addr)) (pm cv ctv : Value), bindArgs (PySem.W.kla_fn "<lambda>" q params body scope cl pm cv ctv) ⟨[], []⟩ = pure [] := by intros; rfl) :
    SE X Y W (.Call (.Name "_law_tried" p0) [.Lambda params body scope lpos] [] pos) (tSem X (.Call (.Name "_law_tried" p0) [.Lambda params body scope lpos] [] pos)) (eTried cs me) := by
  refine ⟨pe_sem, fun w0 H0 w H σ env S O Q st pq pins s I => ?_⟩
  obtain ⟨⟨g, fw, fdg, fdw, sg, sw, Nw, Fg, Sg, Bg, hmg, ⟨q0, q1, q2, q3, q4, q5, q6, q7, q8, q9, q10, q11, q12, q13, q14, q15, q16, q17, q18, j0, j1, j2, j3, ebody⟩, l1, l2, l3, l4, l5, Fw, Sw, ew, Bw, hmw, wb⟩, hbt, hfe, hx⟩ := T
  obtain ⟨c, P, hcode, TB, hmT, hu⟩ := M
  refine wpAny_Call_Name_kw (ld_glob I hg hmg ?_ (by decide))
  refine PySem.W.callWith_K (h₀ := X.base) I.ok.mod.kin Fg.kp ?_ (by rfl) (by rfl)
  show wpAny _ _ (spliced ((false, eval (.Lambda params body scope lpos) X.env) :: backTo pos (starEach [] X.env))) _ _ s
  refine Calls.spliced_cons (lam_makeD I TB hcode hmT hu st.ok.tabs hdef (L.has I.ok) fun f c' pm' ctv H1 s' I1 eN dm T1 hf hfn hfr hco htb => ?_)
  refine Calls.spliced_nil ⟨I1.kIn, ?_⟩
  have k1 : Ok Y w H1 S := ⟨fun a o e => eN a o (st.ok.ex a o e) (fun ps z => st.ok.notab a ps (by rw [e, z])), ⟨st.ok.cells.nd, st.ok.cells.len, fun m a cc e1 e2 => by
    obtain ⟨q1, q2⟩ := st.ok.cells.at_ m a cc e1 e2
    obtain ⟨x, q3, q4⟩ := q2.some_
    exact ⟨q1, q2.move (.refl w) (by rw [q3, eN a x q3 q4])⟩⟩, T1, st.ok.notab⟩
  have f1 : Frame w H w H1 := ⟨.refl w, fun a o e _ nt => eN a o e nt, fun _ _ => rfl, fun _ z => .inl z, dm, htb, fun a o u e => eN a _ e (fun ps z => by cases z)⟩
  have st1 : StR Y w0 H0 w H1 σ env S O := st.after f1 k1
  have stb : StR Y w H1 w H1 σ (wipeE env []) S (List.replicate σ.length none) := st1.hide []
  have rc : codeAny (model X.prog X.w) X.A (.call (.ref g) ⟨[.ref f], []⟩) (CR (L2N.CX X.prog X.w) X.stack X.prog X.w H1 s' Q C8.E0) s' := by
    obtain ⟨oc, od, dV, kV, doc, pm, an, cdv, ct, osl, efd, lk, hcg, _, _⟩ := Fg.ex
    subst efd
    refine LamX.run_ofS (N := Nt) (ps := ["_law_ask"]) (us := [.ref f]) (vs := [.ref f]) lk hcg Sg hr I1.env0 (Bg s' [.ref f] I1.kIn rfl) (.cons rfl .nil) rfl fun hr' => ?_
    generalize hZ : cxOf (L2N.CX X.prog X.w) X.prog X.w X.K X.mg X.base Nt "_law_tried" (defScope sg) g cdv X.A X.stack s' H1 C8.E0 = Z
    rw [ebody]
    refine ⟨_, pss_one (ps_tryN (X := Z) (Wout := fun _ _ _ _ => False) (tb := fun W => tRet (tTup (tCons (tC (.str "told")) (tCons (tAct Y f c' (X.env.qual ++ "<lambda>") σ me W) tNil))))
      (l := [.as (.ref (Y.ca "BadText")) 1 (fun _ _ _ _ _ _ => False), .as (.ref (Y.ca "FoldError")) 1 (fun a cls d D σ H => ∃ cc ∈ cs, cls = .ref (Y.ca cc) ∧ d = none ∧ tRet (tHot Y a 1 Nw.length (m_word a cc)) D σ H)]) ?_ ?_ ?_ takesN (fun W pn xe tk _ => ?_) ?_), ?_⟩
    · subst hZ; rfl
    · subst hZ; rfl
    · subst hZ; exact Sg.nd
    · subst hZ
      refine pss_one (ps_ret (pe_tup (pa_cons pe_str (pa_cons (pe_actN (k := k) I1 L hf hfn hfr (hbind _ _ _ _ _) tk hr' (fun A outer s H E hr2 => hbody A outer s H E f c' hr2 lamN_takes lamN_passes) rfl (.inl l4)) pa_nil))))
    · subst hZ
      refine HdsN.as (n := "_law_e") rfl l5 ⟨l1, by decide, .inl hbt⟩ (fun a oe cls d pn _ _ => ⟨fun _ _ _ _ _ _ z => False.elim z⟩) (HdsN.as (n := "_law_e") rfl l5 ⟨l2, by decide, .inl hfe⟩ (fun a oe cls d pn hz hf => ?_) .nil)
      refine ⟨fun pins s σ H D I hw => ?_⟩
      obtain ⟨cc, hcc, e1, e2, hw⟩ := hw
      subst e1 e2
      have rr : L2H.RoomH (0 + 1) (cxOf (L2N.CX X.prog X.w) X.prog X.w X.K X.mg X.base Nt "_law_tried" (defScope sg) g cdv X.A X.stack s' H1 C8.E0).A := (L2H.roomH_of hr').mono (by omega)
      exact (pss_one (ps_ret (pe_hot (i := 1) (n := "_law_e") (x := "_law_fold_word") (X := cxOf (L2N.CX X.prog X.w) X.prog X.w X.K X.mg X.base Nt "_law_tried" (defScope sg) g cdv X.A X.stack s' H1 C8.E0) Fw Sw Bw hmw rr hz hf (fun cdv A outer s H hot _ => wb cc hcc a oe hz hf cdv A outer s H hot) rfl (.inl l5) l3))).run pins s σ H D I hw
    · refine ⟨rfl, hco, w, H1, w, wipeE env [], S, List.replicate σ.length none, stb, ?_⟩
      have pq : PostX Y W w0 H0 w σ env O (tryW cs (me (wipeE env []) S)) (fun d _ w' H' => ∀ v, Rep Y w' d v → Q v H') := pq
      cases z : me (wipeE env []) S with
      | stuck => rw [z] at pq; exact pq
      | ok d S2 =>
        rw [z] at pq
        intro w' H' st' l' v rv
        refine ⟨by show 2 ≤ sizeLine; decide, fun q hq => ?_⟩
        have st2 : StR Y w0 H0 w' H' σ env S2 O := st1.after st'.fr st'.ok
        have G := Grow.one (w := w') (o := .tup [.str "told", v]) hq nt_tup
        exact pq _ _ (st2.grow G) (l'.trans (G.le st2.ok)) _ (rep_tup_new st2.ok hq (RepL.cons_ rep_str' (RepL.cons_ rv RepL.nil_)))
      | exc cc pp S2 =>
        rw [z] at pq
        cases pp with
        | some d => exact False.elim pq
        | none =>
          have pq : PostX Y W w0 H0 w σ env O (if cc ∈ cs then R.ok (.tup (wordsOf cc)) S2 else .stuck) (fun d _ w' H' => ∀ v, Rep Y w' d v → Q v H') := pq
          split at pq
          · rename_i hcc
            intro w' H' cls dd st' l' xr
            obtain ⟨e1, e2⟩ := xr
            have e2 : dd = none := e2
            subst e1 e2
            have eK : Z.K = X.K := by subst hZ; rfl
            rw [eK]
            refine ⟨false, (hx cc hcc).bt, fun z => Bool.noConfusion z, fun _ => ⟨true, (hx cc hcc).fe, fun _ a ha => ?_, fun z => Bool.noConfusion z⟩⟩
            refine ⟨cc, hcc, rfl, rfl, rfl, w', S2, st'.ok, ?_⟩
            rw [ew, word_run]
            intro w2 H2 v fr ok rv
            exact pq w2 H2 ((st1.after st'.fr st'.ok).after fr ok) (l'.trans fr.le) v rv
          · exact False.elim pq
  refine wpAny_call (codeAny_mono rc fun r s2 hq => ?_)
  cases r with
  | error e =>
    obtain ⟨_, _, _, _, _, _, _, _, _, _, _, _, z⟩ := (show L2N.CX X.prog X.w X.stack H1 s' C8.E0 e s2 from hq)
    exact False.elim z
  | ok fl =>
    cases fl with
    | ret u => exact I1.after hq
    | next => exact False.elim hq
    | brk => exact False.elim hq
    | cont => exact False.elim hq
end
end Mm
namespace Mm
open PySem L2
section
variable {X : Cx} {Y : Gam} {W : WX} {e a b c tg iter elt l : Expr} {es rest ifs : List Expr} {ta tb tc te tl : TE} {tt tu : TT} {ma mb mc me ml : ME} {mt mu : MT} {mf : MF} {t : TA} {m : MA} {pos p tpos : Pos} {s : Stmt} {ss : List Stmt} {t1 t2 : TS} {m1 m2 : MS} {wi : TI} {mi : MI} {x : Str}
/-! ### built-in types as values; isinstance -/
theorem s_bty {n : String} (hm : X.mg x = none) (hv : bootBuiltins x = some (.type n)) (hg : Gl X x := by rfl) (hn : x ≠ "__name__" := by decide) (hd : (x == ("__debug__" : Str)) = false := by decide) : SE X Y W (.Name x pos) (tC (.ty n)) (eC (.ty n)) :=
  ⟨pe_bltn hg hm hv rfl hn hd, sim_c fun _ => by unfold Rep; rfl⟩
def D.tyN : D → Option String
  | .non => some "NoneType"
  | .bl _ => some "bool"
  | .int _ => some "int"
  | .str _ => some "str"
  | .lst _ => some "list"
  | .tup _ => some "tuple"
  | _ => none
theorem sqT_ty {K : PySem.W.Frag} {H : Hp} {a : Addr} {xs : List V} (h : SqT K H a xs) : TyX K H (.ref a) (.type "tuple") := by
  rcases h with (h | ⟨o, h⟩) | h
  · exact .base (.tup h)
  · exact .fTuple h
  · obtain ⟨o, its, n, e1, e2, _⟩ := h
    exact .kTuple e1 e2
theorem rep_ty {g : Gam} {w : Wd} {H : Hp} {d : D} {v : V} {n : String} (ex : Same w.G H) (r : Rep g w d v) (h : d.tyN = some n) : TyX g.K H v (.type n) := by
  cases d with
  | non => cases h; rw [rep_non r]; exact .base .non
  | bl b => cases h; rw [rep_bl r]; exact .base (.bl b)
  | int b => cases h; rw [rep_int r]; exact .base (.int b)
  | str b => cases h; rw [rep_str r]; exact .base (.str b)
  | lst ds =>
    cases h
    obtain ⟨a, vs, e1, e2, _⟩ := rep_lst r
    rw [e1]
    exact .base (.lst (ex _ _ e2))
  | tup ds =>
    cases h
    obtain ⟨a, vs, e1, e2, _⟩ := rep_tup r
    rw [e1]
    exact sqT_ty (same_sqT ex e2)
  | _ => cases h
def fIsi : Sto → List D → Option D
  | _, [d, .ty n] => match d.tyN with
    | some t => (kitB t n).map D.bl
    | none => none
  | _, _ => none
theorem cd_isi {g : Gam} : CallD g (rIsi g.K) fIsi := fun w H S ds vs d Q k r e q => by
  unfold fIsi at e
  split at e
  · rename_i d1 n
    cases z : d1.tyN with
    | none => rw [z] at e; cases e
    | some tn =>
      rw [z] at e
      cases y : kitB tn n with
      | none => simp [y] at e
      | some b =>
        simp [y] at e
        subst e
        obtain ⟨v1, v2, e1, r1, r2⟩ := repL_two r
        unfold Rep at r2
        exact ⟨v1, .ty n, .type tn, .type n, b, by rw [e1, r2], .ty n, rep_ty k.ex r1 z, kit_ty y, q w H _ .refl rep_bl'⟩
  · cases e
def tysOf : List D → Option (List String)
  | [] => some []
  | .ty n :: ds => (tysOf ds).map (n :: ·)
  | _ => none
def kitL (t : String) : List String → Option Bool
  | [] => some false
  | n :: ns => match kitB t n with
    | some true => some true
    | some false => kitL t ns
    | none => none
theorem kitL_ok {K : PySem.W.Frag} {t : String} : ∀ {ns : List String} {b : Bool}, kitL t ns = some b → PySem.W.kitAny K (.type t) (ns.map Value.type) = some b
  | [], b, h => by
    cases h
    exact kitAny_nil
  | n :: ns, b, h => by
    unfold kitL at h
    cases z : kitB t n with
    | none => rw [z] at h; cases h
    | some y =>
      rw [z] at h
      cases y with
      | true =>
        cases h
        exact kitAny_cons (kit_ty z) (fun q => Bool.noConfusion q) (fun _ => rfl)
      | false => exact kitAny_cons (kit_ty z) (fun _ => kitL_ok h) (fun q => Bool.noConfusion q)
theorem tysOf_rep {g : Gam} {w : Wd} : ∀ {ds : List D} {ns : List String} {vs : List V}, tysOf ds = some ns → RepL g w ds vs → Paired ClsV vs (ns.map Value.type)
  | [], ns, vs, h, r => by
    cases h
    unfold RepL at r
    rw [r]
    exact .nil
  | d :: ds, ns, vs, h, r => by
    cases d with
    | ty n =>
      unfold tysOf at h
      cases q : tysOf ds with
      | none => rw [q] at h; cases h
      | some ns' =>
        rw [q] at h
        cases h
        unfold RepL at r
        obtain ⟨v, r', e1, a, b⟩ := r
        unfold Rep at a
        rw [e1, a]
        exact .cons (.ty n) (tysOf_rep q b)
    | _ => unfold tysOf at h; cases h
/-- isinstance(x, (C, ..)) -/
def eIsT (me : ME) (m : MA) : ME := fun env S => (me env S).bind fun d S1 => (m env S1).bind fun ds S2 => match d.tyN, tysOf ds with
  | some t, some ns => if szB ds.length then opt ((kitL t ns).map D.bl) S2 else .stuck
  | _, _ => .stuck
theorem s_isT {k : Nat} {p2 : Pos} (hm : X.mg "isinstance" = none) (he : SE X Y W e te me) (ha : SA X Y W es t m) (hK : X.K = Y.K := by rfl) (hg : Gl X "isinstance" := by rfl) (hs : starEach [e, .Tuple es k p2] X.env = (false, eval e X.env) :: starEach [.Tuple es k p2] X.env := by rfl)
    (hs2 : starEach [.Tuple es k p2] X.env = (false, eval (.Tuple es k p2) X.env) :: starEach [] X.env := by rfl) (hpl : (backTo pos (starEach [.Tuple es k p2] X.env)).any (·.1) = false := by rfl) :
    SE X Y W (.Call (.Name "isinstance" p) [e, .Tuple es k p2] [] pos) (tCB (rIsiT Y.K) (tCons te (tCons (tTup t) tNil))) (eIsT me m) :=
  ⟨hK ▸ pe_callB call_isiT hg hm (by decide +kernel : bootBuiltins "isinstance" = some (.builtin "isinstance")) (pa_cons he.pe (pa_cons (pe_tup ha.pa) pa_nil hs2) hs) (by decide) (by decide) hs hpl, fun w0 H0 w H σ env S O Q st pq =>
  he.sim w0 H0 w H σ env S O _ st ((PostX.bind pq).imp fun d S1 w1 H1 st1 l1 p1 v r => ha.sim w0 H0 w1 H1 σ env S1 O _ st1 ((PostX.bind p1).imp fun ds S2 w2 H2 st2 l2 p2 vs rs => by
    cases z1 : d.tyN with
    | none => rw [z1] at p2; exact False.elim p2
    | some tn =>
      cases z2 : tysOf ds with
      | none => rw [z1, z2] at p2; exact False.elim p2
      | some ns =>
        simp only [z1, z2] at p2
        split at p2
        · rename_i hz
          cases z3 : kitL tn ns with
          | none => rw [z3] at p2; exact False.elim p2
          | some b =>
            rw [z3] at p2
            refine ⟨by rw [← rs.len]; exact szB_le hz, fun q hq => ?_⟩
            have G := Grow.one (w := w2) (o := .tup vs) hq nt_tup
            refine ⟨v, q, vs, .type tn, ns.map Value.type, b, rfl, upd_same, tysOf_rep z2 rs, rep_ty (st2.ok.ex.trans (same_upd hq)) (r.mono l2) z1, kitL_ok z3, ?_⟩
            exact p2 _ _ (st2.grow G) (G.le st2.ok) _ rep_bl'
        · exact False.elim p2))⟩
/-! ### zip of two lists or two tuples -/
theorem itR_zipT {g : Gam} {w : Wd} {a b : Addr} {ds es : List D} {vs us : List V} (e : SqT g.K w.G a vs) (r : RepL g w ds vs) (e' : SqT g.K w.G b us) (r' : RepL g w es us) : ItR g w (RZ.ItzT g.K a b) (zipD ds es) := fun w2 H2 l x => by
  have q : SqT g.K H2 a vs := same_sqT (l.ex.trans x) e
  have q' : SqT g.K H2 b us := same_sqT (l.ex.trans x) e'
  refine ⟨fun i d hd => ?_, ⟨vs, us, q, q', by rw [zipD_len, r.len, r'.len]; omega⟩⟩
  obtain ⟨d1, d2, h1, h2, ed⟩ := zipD_at ds es i d hd
  obtain ⟨v, hv, rv⟩ := r.at_ h1
  obtain ⟨u, hu, ru⟩ := r'.at_ h2
  refine ⟨⟨vs, us, v, u, q, q', hv, hu⟩, fun y H' hy => ?_⟩
  obtain ⟨T, x', y', e1, e2, e3, e4, e5⟩ := hy
  have e6 := e4 vs q
  have e7 := e5 us q'
  rw [hv] at e6
  rw [hu] at e7
  cases e6
  cases e7
  rw [e1, e3, ed]
  refine ⟨_, Grow.one e2 nt_tup, ?_⟩
  unfold Rep
  have le : w2.le ⟨w2.rho, upd w2.G T (.tup [v, u])⟩ := ⟨⟨[], by simp⟩, same_upd (none_of_same x e2)⟩
  exact ⟨T, _, rfl, .inl (.inl upd_same), RepL.cons_ ((rv.mono l).mono le) (RepL.cons_ ((ru.mono l).mono le) RepL.nil_)⟩
def itZA (m : MA) : MI := fun env S => (m env S).bind fun ds S1 => match ds with
  | [.lst xs, .lst ys] => .ok (zipD xs ys) S1
  | [.tup xs, .tup ys] => .ok (zipD xs ys) S1
  | _ => .stuck
theorem i_zipA {e2 : Expr} {elts : List Expr} {kk : Nat} (hm : X.mg "zip" = none) (ha : SA X Y W [e, e2] t m) (hK : X.K = Y.K := by rfl) (hg : Gl X "zip" := by rfl) (hs : starEach [e, e2] X.env = (false, eval e X.env) :: starEach [e2] X.env := by rfl) (hpl : (backTo pos (starEach [e2] X.env)).any (·.1) = false := by rfl) :
    SI X Y W (.Tuple elts kk tpos) (.Call (.Name "zip" p) [e, e2] [] pos) (RZ.iZipA Y.K t) (itZA m) := ⟨hK ▸ RZ.pi_zipA hg hm ha.pa hs hpl, fun w0 H0 w H σ env S O Q st p =>
  ha.sim w0 H0 w H σ env S O _ st ((PostX.bind p).imp fun ds S1 w1 H1 st1 l1 p1 vs r => by
    split at p1
    · rename_i xs ys
      obtain ⟨v, u, e1, e2, e3⟩ := repL_two r
      obtain ⟨a, us, x1, x2, x3⟩ := rep_lst e2
      obtain ⟨b, ws, y1, y2, y3⟩ := rep_lst e3
      rw [x1, y1] at e1
      exact ⟨a, b, us, ws, e1, .inl ⟨.inl (.inl (st1.ok.ex _ _ x2)), .inl (.inl (st1.ok.ex _ _ y2)), p1 w1 H1 st1 (.refl w1) _ (itR_zip (g := Y) x2 x3 y2 y3)⟩⟩
    · rename_i xs ys
      obtain ⟨v, u, e1, e2, e3⟩ := repL_two r
      obtain ⟨a, us, x1, x2, x3⟩ := rep_tup e2
      obtain ⟨b, ws, y1, y2, y3⟩ := rep_tup e3
      rw [x1, y1] at e1
      exact ⟨a, b, us, ws, e1, .inr ⟨same_sqT st1.ok.ex x2, same_sqT st1.ok.ex y2, p1 w1 H1 st1 (.refl w1) _ (itR_zipT (g := Y) x2 x3 y2 y3)⟩⟩
    · exact False.elim p1)⟩
/-! ### a <= b < c -/
def eChain (f g : Sto → D → D → Option D) (ma mb mc : ME) : ME := fun env S => (ma env S).bind fun x S1 => (mb env S1).bind fun y S2 => match f S2 x y with
  | some (.bl true) => (mc env S2).bind fun z S3 => opt (g S3 y z) S3
  | some (.bl false) => .ok (.bl false) S2
  | _ => .stuck
theorem s_chain {op op' : CmpOp} {r r' : R2} {f f' : Sto → D → D → Option D} (hd : OpD Y r f) (hd' : OpD Y r' f') (ho : OpR X (compareOp op) r) (ho' : OpR X (compareOp op') r') (ha : SE X Y W a ta ma) (hb : SE X Y W b tb mb) (hc : SE X Y W c tc mc)
    (hm : lastMarks [op, op'] [b, c] = false := by with_unfolding_all rfl) : SE X Y W (.Compare a [op, op'] [b, c] pos) (tChain r r' ta tb tc) (eChain f f' ma mb mc) := ⟨pe_chain ho ho' ha.pe hb.pe hc.pe hm, fun w0 H0 w H σ env S O Q st p =>
  ha.sim w0 H0 w H σ env S O _ st ((PostX.bind p).imp fun d1 S1 w1 H1 st1 l1 p1 v1 r1 => hb.sim w0 H0 w1 H1 σ env S1 O _ st1 ((PostX.bind p1).imp fun d2 S2 w2 H2 st2 l2 p2 v2 r2 => by
    split at p2
    · rename_i z
      refine hd w2 H2 S2 d1 d2 v1 v2 _ _ st2.ok (r1.mono l2) r2 z fun w3 H3 v G rv => ⟨true, rep_bl rv, ?_⟩
      simp only [if_true]
      have st3 := st2.grow G
      have l3 := G.le st2.ok
      refine hc.sim w0 H0 w3 H3 σ env S2 O _ st3 ((PostX.bind (PostX.mono p2 l3)).imp fun d3 S3 w4 H4 st4 l4 p4 v3 r3 => ?_)
      obtain ⟨d, e, kk⟩ := PostX.opt_ p4 st4
      exact hd' w4 H4 S3 d2 d3 v2 v3 d Q st4.ok ((r2.mono l3).mono l4) r3 e fun w5 H5 v5 G5 r5 => kk w5 H5 (st4.grow G5) (G5.le st4.ok) v5 r5
    · rename_i z
      refine hd w2 H2 S2 d1 d2 v1 v2 _ _ st2.ok (r1.mono l2) r2 z fun w3 H3 v G rv => ⟨false, rep_bl rv, ?_⟩
      simp only [Bool.false_eq_true, if_false]
      exact p2 w3 H3 (st2.grow G) (G.le st2.ok) _ rep_bl'
    · exact False.elim p2))⟩
/-! ### min, max of two -/
def fMin2 : Sto → List D → Option D
  | _, [.int i, .int j] => some (.int (if j < i then j else i))
  | _, _ => none
def fMax2 : Sto → List D → Option D
  | _, [.int i, .int j] => some (.int (if j > i then j else i))
  | _, _ => none
theorem cd_min2 {g : Gam} : CallD g (fun xs H Q => ∃ i j, xs = [.int i, .int j] ∧ Q (.int (if j < i then j else i)) H) fMin2 := fun w H S ds vs d Q k r e q => by
  unfold fMin2 at e
  split at e
  · rename_i i j
    cases e
    obtain ⟨v1, v2, e1, r1, r2⟩ := repL_two r
    exact ⟨i, j, by rw [e1, rep_int r1, rep_int r2], q w H _ .refl rep_int'⟩
  · cases e
theorem cd_max2 {g : Gam} : CallD g (fun xs H Q => ∃ i j, xs = [.int i, .int j] ∧ Q (.int (if j > i then j else i)) H) fMax2 := fun w H S ds vs d Q k r e q => by
  unfold fMax2 at e
  split at e
  · rename_i i j
    cases e
    obtain ⟨v1, v2, e1, r1, r2⟩ := repL_two r
    exact ⟨i, j, by rw [e1, rep_int r1, rep_int r2], q w H _ .refl rep_int'⟩
  · cases e
/-! ### xs.count(k) -/
def eCnt (mo me : ME) : ME := fun env S => (mo env S).bind fun d S1 => match d with
  | .lst ds => (me env S1).bind fun k S2 => (match k with
    | .int k => opt ((intsOf ds).map fun ns => D.int (ns.count k : Nat)) S2
    | _ => .stuck)
  | _ => .stuck
end
end Mm
namespace Mm
open PySem L2
/-! ### own things are lent to a test that uses no cell -/
mutual
def noRef : D → Bool
  | .lst ds => noRefL ds
  | .tup ds => noRefL ds
  | .ins _ fs => noRefF fs
  | .dic ks => noRefK ks
  | .ref _ => false
  | _ => true
def noRefL : List D → Bool
  | [] => true
  | d :: ds => noRef d && noRefL ds
def noRefF : List (Str × D) → Bool
  | [] => true
  | (_, d) :: ds => noRef d && noRefF ds
def noRefK : List (Key × D) → Bool
  | [] => true
  | (_, d) :: ds => noRef d && noRefK ds
end
mutual
theorem noRef_under : ∀ {d : D}, noRef d = true → d.under 0
  | .lst ds, h => by unfold noRef at h; unfold D.under; exact noRefL_under h
  | .tup ds, h => by unfold noRef at h; unfold D.under; exact noRefL_under h
  | .ins c fs, h => by unfold noRef at h; unfold D.under; exact noRefF_under h
  | .tdc _, _ => by unfold D.under; trivial
  | .dic ks, h => by unfold noRef at h; unfold D.under; exact noRefK_under h
  | .ref n, h => by unfold noRef at h; cases h
  | .non, _ => by unfold D.under; trivial
  | .bl _, _ => by unfold D.under; trivial
  | .int _, _ => by unfold D.under; trivial
  | .str _, _ => by unfold D.under; trivial
  | .scr _, _ => by unfold D.under; trivial
  | .ty _, _ => by unfold D.under; trivial
  | .cls _, _ => by unfold D.under; trivial
  | .adr _, _ => by unfold D.under; trivial
  | .set _, _ => by unfold D.under; trivial
theorem noRefL_under : ∀ {ds : List D}, noRefL ds = true → underL 0 ds
  | [], _ => by unfold underL; trivial
  | d :: ds, h => by
    unfold noRefL at h
    rw [Bool.and_eq_true] at h
    unfold underL
    exact ⟨noRef_under h.1, noRefL_under h.2⟩
theorem noRefF_under : ∀ {ds : List (Str × D)}, noRefF ds = true → underF 0 ds
  | [], _ => by unfold underF; trivial
  | (_, d) :: ds, h => by
    unfold noRefF at h
    rw [Bool.and_eq_true] at h
    unfold underF
    exact ⟨noRef_under h.1, noRefF_under h.2⟩
theorem noRefK_under : ∀ {ds : List (Key × D)}, noRefK ds = true → underK 0 ds
  | [], _ => by unfold underK; trivial
  | (_, d) :: ds, h => by
    unfold noRefK at h
    rw [Bool.and_eq_true] at h
    unfold underK
    exact ⟨noRef_under h.1, noRefK_under h.2⟩
end
def lendV : Sl → Sl
  | .v d => if noRef d then .v d else .no
  | _ => .no
def frzL : List Nat → Envr → Envr
  | [], env => env
  | i :: is, env => frzAt i (frzL is env)
def lendE (is : List Nat) (env : Envr) : Envr := (frzL is env).map lendV
theorem StR.frzL {g : Gam} {w0 w : Wd} {H0 H : Hp} {σ : L2.St} {env : Envr} {S : Sto} {O : List (Option Addr)} (st : StR g w0 H0 w H σ env S O) : ∀ is : List Nat, ∃ w' O', StR g w0 H0 w' H σ (frzL is env) S O' ∧ w.le w'
  | [] => ⟨w, O, st, .refl w⟩
  | i :: is => by
    obtain ⟨w1, O1, st1, l1⟩ := st.frzL is
    obtain ⟨w2, O2, st2, l2⟩ := st1.frz i
    exact ⟨w2, O2, st2, l1.trans l2⟩
section
variable {X : Cx} {Y : Gam} {W : WX} {e : Expr} {te : TE} {tt : TT} {me : ME} {mt : MT}
def cLend (is : List Nat) (m : MT) : MT := fun env S => match m (lendE is env) [] with
  | .ok b _ => .ok b S
  | _ => .stuck
def scal : D → Bool
  | .non => true
  | .bl _ => true
  | .int _ => true
  | .str _ => true
  | _ => false
def eLend (is : List Nat) (m : ME) : ME := fun env S => match m (lendE is env) [] with
  | .ok d _ => if scal d then .ok d S else .stuck
  | _ => .stuck
end
/-! ### a def that makes lambdas -/
def CodeIs (K : PySem.W.Frag) (f c : Addr) : Prop := ∀ (oc : Value) (od : Option Addr) (fd : FuncData) (osl : Array (Option Value)), K.lookup f = some ⟨oc, od, .func fd, osl⟩ → fd.code = .ref c
abbrev lamQ (qual : Str) (scope : Scope) : Str := (PyProof.Rows.envOfC qual scope 0 0 .none).qual ++ "<lambda>"
def MkrF (K : PySem.W.Frag) (mg : Str → Option Value) (base : Heap) (Y : Gam) (f : Addr) (q : Str) : Prop := ∃ c P, CodeIs K f c ∧ LamX.TabB base mg c P ∧ (P, q) ∈ Y.T ∧ ∀ p ∈ Y.T, p.1 = P → p.2 = q
theorem fn_simL {P : Program} {w : World} {K : PySem.W.Frag} {mg : Str → Option Value} {base : Heap} {x qual : Str} {params : Arguments} {body : List Stmt} {scope : Scope} {dvs : List V} {kws : List (Str × V)} {f : Addr} {fd : FuncData} {N ps : List Str} {k n : Nat} {m1 : MS} (Y : Gam)
    (F : FunD K x qual params body scope dvs kws f fd) (S : FnScope N ps scope) (hn : n = ps.length) (M : MkrF K mg base Y f (lamQ qual scope))
    (hbody : ∀ (cdv : Value) (A : Around) (outer : List Env) (s : Shared) (H : Hp) (E : XK), Mkr (cxOf (L2N.CX P w) P w K mg base N qual scope f cdv A outer s H E) Y → Room k (A.deeper (PyProof.Rows.envOfC qual scope s.heap.objs.size f cdv)) → L2N.Takes (cxOf (L2N.CX P w) P w K mg base N qual scope f cdv A outer s H E) (fun cls d _ H => E cls d H) →
      PassesOwn (model P w) (A.deeper (PyProof.Rows.envOfC qual scope s.heap.objs.size f cdv)) (PyProof.Rows.envOfC qual scope s.heap.objs.size f cdv) (cxOf (L2N.CX P w) P w K mg base N qual scope f cdv A outer s H E).xe →
      ∃ t1, SB (cxOf (L2N.CX P w) P w K mg base N qual scope f cdv A outer s H E) Y (fun cls d _ H => E cls d H) body t1 m1) :
    FnOk P w K mg base (L2N.CX P w) (k + 1) f fd ps (spOf Y n (mFn N.length m1)) := by
  obtain ⟨oc, od, dV, kV, doc, pm, an, cdv, ct, osl, rfl, lk, hcd, _, _⟩ := F.ex
  refine fn_of lk hcd S (fun vs H Q E h => by rw [h.1, hn]) fun A outer s H vs Q E hr h => ?_
  obtain ⟨c, P1, M1, M2, M3, M4⟩ := M
  have ec : cdv = .ref c := M1 _ _ _ _ lk
  obtain ⟨_, w1, ds, S1, k1, r1, p1⟩ := h
  obtain ⟨t1, B⟩ := hbody cdv A outer s H E ⟨c, P1, ec, M2, M3, M4⟩ hr (L2N.takes_of rfl rfl rfl rfl) (passes_of rfl)
  exact ⟨_, B.pss, fn_post k1 r1 B.sim p1⟩
theorem codeIs_of {K : PySem.W.Frag} {p : Str × Option Str} {x qual : Str} {st : Stmt} {dvs : List V} {fd : FuncData} (F : FnP K x qual st dvs (He.fAd K p) fd) : CodeIs K (He.fAd K p) (He.codeOf K p) := fun oc od fd' osl h => by
  obtain ⟨oc, od, dV, kV, doc, pm, an, cdv, ct, osl, rfl, lk, hcd, _, _⟩ := F.ex
  obtain ⟨c, ec⟩ := He.codeIn_ref hcd
  rw [lk] at h
  cases h
  have e1 := He.codeOf_eq lk (show _ = Value.ref c from ec)
  rw [e1]
  exact ec
/-! ### a class of refusals, by a Bool -/
def triXB (K : PySem.W.Frag) (c : Str) : Bool :=
  He.eqO (PySem.W.findIn K (.ref (He.ga K c)) "__getattribute__") (some (some (.builtin "BaseException.__getattribute__"))) && (He.eqO (PySem.W.findIn K (.ref (He.ga K c)) "__getattr__") (some none) &&
  (decide (PySem.W.subIn K (.ref (He.ga K c)) (.type "BaseException") = some true) && (PySem.W.hasDictIn K (He.ga K c) &&
  (He.eqO (PySem.W.findIn K (.ref (He.ga K c)) "__class__") (some (some (.builtin "object.__class__"))) && (He.eqO (PySem.W.specialIn K (.builtin "object.__class__") "__get__") (some (some (.builtin "getset_descriptor.__get__"))) &&
  (decide (PySem.W.takesIn K (.builtin "object.__class__") = some true) && (decide (PySem.W.mroIn K (He.ga K c) (.type "object") = some true) &&
  (decide (PySem.W.exmOne K (.ref (He.ga K c)) (.ref (He.ga K "BadText")) = some false) && (decide (PySem.W.exmOne K (.ref (He.ga K c)) (.ref (He.ga K "FoldError")) = some true) &&
  wordL.all fun p => decide (PySem.W.kitOne K (.ref (He.ga K c)) (.ref (He.ga K p.2)) = some (decide (p.2 = c))))))))))))
theorem triXB_ok {K : PySem.W.Frag} {T : List (Addr × Str)} {c : Str} (h : triXB K c = true) : TriX K (GY K (He.ga K) T) c := by
  unfold triXB at h
  simp only [Bool.and_eq_true, decide_eq_true_eq, List.all_eq_true] at h
  obtain ⟨h1, h2, h3, h4, h5, h6, h7, h8, h9, h10, h11⟩ := h
  exact ⟨⟨He.eqO_ok h1, He.eqO_ok h2, h3, h4, He.eqO_ok h5, He.eqO_ok h6, h7, h8⟩, h9, h10, fun p hp => h11 p hp⟩
end Mm
namespace Mm
open PySem L2
/-! ### the tables of the defs that make lambdas -/
def Tof (K : PySem.W.Frag) (tf : List (He.Defn × Str)) : List (Addr × Str) := tf.map fun p => ((He.cT K p.1).2, p.2)
theorem mkrF_of {K : PySem.W.Frag} {mg : Str → Option Value} {base : Heap} {ca : Str → Addr} {x qual : Str} {st : Stmt} {dvs : List V} {fd : FuncData} {tf : List (He.Defn × Str)} {p : He.Defn × Str} (i : Nat) (h : tf[i]? = some p) (nd : (tf.map fun p => (He.cT K p.1).2).Nodup)
    (F : FnP K x qual st dvs (He.fAd K p.1) fd) (TB : ∀ q ∈ tf, LamX.TabB base mg (He.cT K q.1).1 (He.cT K q.1).2) : MkrF K mg base (GY K ca (Tof K tf)) (He.fAd K p.1) p.2 := by
  refine ⟨He.codeOf K p.1, (He.cT K p.1).2, codeIs_of F, TB p (List.mem_of_getElem? h), List.mem_map.mpr ⟨p, List.mem_of_getElem? h, rfl⟩, fun q hq e => ?_⟩
  obtain ⟨r, hr, er⟩ := List.mem_map.mp hq
  obtain ⟨j, hj, ej⟩ := List.mem_iff_getElem.mp hr
  obtain ⟨hi, ei⟩ := List.getElem?_eq_some_iff.mp h
  have e1 : (tf.map fun p => (He.cT K p.1).2)[j]'(by rw [List.length_map]; exact hj) = (tf.map fun p => (He.cT K p.1).2)[i]'(by rw [List.length_map]; exact hi) := by
    rw [List.getElem_map, List.getElem_map, ej, ei, ← e, ← er]
  have e2 := (List.getElem_inj nd).mp e1
  subst e2
  rw [ej] at ei
  rw [← er, ei]
theorem law_atT {l : PySem.W.OpenLaw} {w : World} {K : PySem.W.Frag} {k n : Nat} {x : Str} {mg : Str → Option Value} {fa : Addr} {h : Heap} {fd : FuncData} {ca : Str → Addr} {m : MFn} {facl : List He.Fa} {fns : List He.DefD} {ex : PySem.W.Frag → Bool} (tf : List (He.Defn × Str)) (c : He.SaysX facl fns [] (tf.map (·.1)) ex w h K) (KX : K.In h)
    (hb : ∀ (s : Shared) (u : Value), BindsTo s fd ⟨[u], []⟩ [(x, u)]) (hm : ∀ ns : List Int, ns.length ≤ n → (∀ z ∈ ns, Builtin.Int.intBits z ≤ 1048576) → ∃ S, m [.scr ns] [] = .ok (.val (.bl true)) S)
    (hF : ∀ base : Heap, (∀ q ∈ tf, LamX.TabB base mg (He.cT K q.1).1 (He.cT K q.1).2) → FnOk l.prog w K mg base (L2N.CX l.prog w) k fa fd [x] (spOf (GY K ca (Tof K tf)) 1 m)) : LamX.LawAtS l w K (L2N.CX l.prog w) k n x mg fa h := by
  have at_ : ∀ p ∈ tf.map (fun p => He.cT K p.1), ∃ q ∈ tf.map (·.1), He.cT K q = p := fun p hp => by
    obtain ⟨q, hq, e⟩ := List.mem_map.mp hp
    exact ⟨q.1, List.mem_map.mpr ⟨q, hq, rfl⟩, e⟩
  refine ⟨fd, tf.map (fun p => He.cT K p.1), spOf (GY K ca (Tof K tf)) 1 m, fun p hp => ?_, fun p hp => ?_, fun p hp => ?_, hb, fun H a ns hl hbt hT hS => ?_, fun base _ _ hTB => hF base fun q hq => hTB _ (List.mem_map.mpr ⟨q, hq, rfl⟩)⟩
  · obtain ⟨q, hq, e⟩ := at_ p hp
    rw [← e]
    exact c.empty q hq
  · obtain ⟨q, hq, e⟩ := at_ p hp
    rw [← e]
    exact c.out q hq
  · obtain ⟨q, hq, e⟩ := at_ p hp
    rw [← e]
    exact PySem.W.codeHd_of_K KX (c.hd q hq)
  · obtain ⟨S, e⟩ := hm ns hl hbt
    refine law_sp (fun p hp => ?_) hS e
    obtain ⟨q, hq, e⟩ := List.mem_map.mp hp
    rw [← e]
    exact hT _ (List.mem_map.mpr ⟨q, hq, rfl⟩)
end Mm
/-! Plain: blends of whole numbers digit by digit, spans, reduced bases. -/
namespace Gf
theorem xor_self_left (a b : Nat) : a ^^^ (a ^^^ b) = b := by rw [← Nat.xor_assoc, Nat.xor_self, Nat.zero_xor]
theorem xor_cancel_right (a b : Nat) : a ^^^ b ^^^ b = a := by rw [Nat.xor_assoc, Nat.xor_self, Nat.xor_zero]
theorem xor_eq_zero {a b : Nat} (h : a ^^^ b = 0) : a = b := by
  have := congrArg (· ^^^ b) h
  simpa [xor_cancel_right] using this
theorem bit_big {x w i : Nat} (h : x < 2 ^ w) (hi : w ≤ i) : x.testBit i = false := Nat.testBit_lt_two_pow (Nat.lt_of_lt_of_le h (Nat.pow_le_pow_right (by decide) hi))
theorem lt_of_bits {x w : Nat} (h : ∀ i, w ≤ i → x.testBit i = false) : x < 2 ^ w := Nat.lt_pow_two_of_testBit x fun i hi => h i hi
theorem log2_bit {n j : Nat} (h : n.log2 < j) : n.testBit j = false := by
  by_cases z : n = 0
  · subst z
    simp
  · exact Nat.testBit_lt_two_pow ((Nat.log2_lt z).mp h)
theorem log2_of {n i : Nat} (h : n.testBit i = true) (g : ∀ j, i < j → n.testBit j = false) : n.log2 = i := by
  have z : n ≠ 0 := by
    intro z
    subst z
    simp at h
  have a : ¬ n.log2 < i := fun l => by
    rw [log2_bit l] at h
    cases h
  have b : ¬ i < n.log2 := fun l => by
    have := g _ l
    rw [Nat.testBit_log2 z] at this
    cases this
  omega
theorem log2_ge {n i : Nat} (h : n.testBit i = true) : i ≤ n.log2 := Nat.le_of_not_lt fun l => by
  rw [log2_bit l] at h
  cases h
theorem ne_of_bit {n i : Nat} (h : n.testBit i = true) : n ≠ 0 := fun z => by
  subst z
  simp at h
/-! ### rows picked by digits -/
def app : List Nat → Nat → Nat
  | [], _ => 0
  | r :: rs, x => (if x.testBit 0 then r else 0) ^^^ app rs (x / 2)
theorem app_cons (r : Nat) (rs : List Nat) (x : Nat) : app (r :: rs) x = (if x.testBit 0 then r else 0) ^^^ app rs (x / 2) := rfl
theorem app_zero : ∀ rs : List Nat, app rs 0 = 0
  | [] => rfl
  | r :: rs => by
    rw [app_cons]
    simp [app_zero rs]
theorem app_xor : ∀ (rs : List Nat) (x y : Nat), app rs (x ^^^ y) = app rs x ^^^ app rs y
  | [], _, _ => by simp [app]
  | r :: rs, x, y => by
    rw [app_cons, app_cons, app_cons, Nat.xor_div_two, app_xor rs, Nat.testBit_xor]
    cases x.testBit 0 <;> cases y.testBit 0 <;> simp <;> apply Nat.eq_of_testBit_eq <;> intro i <;> simp only [Nat.testBit_xor] <;> cases r.testBit i <;> cases (app rs (x / 2)).testBit i <;> cases (app rs (y / 2)).testBit i <;> rfl
theorem app_lt {w : Nat} : ∀ {rs : List Nat} (x : Nat), (∀ r ∈ rs, r < 2 ^ w) → app rs x < 2 ^ w
  | [], _, _ => Nat.two_pow_pos w
  | r :: rs, x, h => by
    rw [app_cons]
    refine Nat.xor_lt_two_pow ?_ (app_lt (x / 2) fun s hs => h s (List.mem_cons_of_mem _ hs))
    split
    · exact h r List.mem_cons_self
    · exact Nat.two_pow_pos w
/-- picked by the plain rows: the number itself -/
def plain (w : Nat) : List Nat := (List.range w).map (2 ^ ·)
theorem app_map2 (rs : List Nat) (x : Nat) : app (rs.map (2 * ·)) x = 2 * app rs x := by
  induction rs generalizing x with
  | nil => rfl
  | cons r rs ih =>
    rw [List.map_cons, app_cons, app_cons, ih]
    have e : ∀ a b : Nat, 2 * a ^^^ 2 * b = 2 * (a ^^^ b) := fun a b => by
      have := Nat.shiftLeft_xor_distrib (a := a) (b := b) (i := 1)
      simp only [Nat.shiftLeft_eq, Nat.pow_one] at this
      rw [Nat.mul_comm 2 a, Nat.mul_comm 2 b, Nat.mul_comm 2 (a ^^^ b)]
      exact this.symm
    rw [← e]
    split <;> rfl
theorem plain_succ (w : Nat) : plain (w + 1) = 1 :: (plain w).map (2 * ·) := by
  unfold plain
  rw [List.range_succ_eq_map, List.map_cons, List.map_map, List.map_map]
  congr 1
  apply List.map_congr_left
  intro i _
  show 2 ^ (i + 1) = 2 * 2 ^ i
  rw [Nat.pow_succ, Nat.mul_comm]
theorem tb_two (a i : Nat) : (2 * a).testBit i = (decide (1 ≤ i) && a.testBit (i - 1)) := by
  have e : 2 * a = a <<< 1 := by rw [Nat.shiftLeft_eq]; omega
  rw [e, Nat.testBit_shiftLeft]
theorem app_plain : ∀ (w x : Nat), x < 2 ^ w → app (plain w) x = x
  | 0, x, h => by
    have : x = 0 := by omega
    subst this
    rfl
  | w + 1, x, h => by
    rw [plain_succ, app_cons, app_map2, app_plain w (x / 2) (by rw [Nat.pow_succ] at h; omega)]
    apply Nat.eq_of_testBit_eq
    intro i
    rw [Nat.testBit_xor]
    cases i with
    | zero =>
      rw [tb_two]
      cases x.testBit 0 <;> simp
    | succ i =>
      rw [tb_two]
      have : (x / 2).testBit (i + 1 - 1) = x.testBit (i + 1) := Nat.testBit_div_two x i
      rw [this]
      have o : Nat.testBit 1 (i + 1) = false := by
        have := Nat.testBit_two_pow (n := 0) (m := i + 1)
        simpa using this
      split <;> simp [o]
theorem plain_len (w : Nat) : (plain w).length = w := by simp [plain]
theorem plain_mem {w x : Nat} : x ∈ plain w ↔ ∃ i, i < w ∧ x = 2 ^ i := by
  unfold plain
  simp only [List.mem_map, List.mem_range]
  constructor
  · rintro ⟨i, h, e⟩
    exact ⟨i, h, e.symm⟩
  · rintro ⟨i, h, e⟩
    exact ⟨i, h, e.symm⟩
/-- one behind the other -/
theorem app_map (f : Nat → Nat) (f0 : f 0 = 0) (fx : ∀ x y, f (x ^^^ y) = f x ^^^ f y) : ∀ (rs : List Nat) (x : Nat), app (rs.map f) x = f (app rs x)
  | [], _ => by simp [app, f0]
  | r :: rs, x => by
    rw [List.map_cons, app_cons, app_cons, fx, app_map f f0 fx rs]
    split
    · rfl
    · rw [f0]
/-! ### spans -/
def Sp (B : List Nat) (x : Nat) : Prop := ∃ m, app B m = x
theorem Sp.zero (B : List Nat) : Sp B 0 := ⟨0, app_zero B⟩
theorem Sp.xor {B : List Nat} {x y : Nat} (a : Sp B x) (b : Sp B y) : Sp B (x ^^^ y) := by
  obtain ⟨m, rfl⟩ := a
  obtain ⟨n, rfl⟩ := b
  exact ⟨m ^^^ n, app_xor B m n⟩
theorem Sp.nil {x : Nat} : Sp [] x ↔ x = 0 := ⟨fun ⟨_, h⟩ => h.symm, fun h => ⟨0, h.symm⟩⟩
theorem Sp.cons {a : Nat} {B : List Nat} {x : Nat} : Sp (a :: B) x ↔ Sp B x ∨ Sp B (x ^^^ a) := by
  constructor
  · rintro ⟨m, e⟩
    rw [app_cons] at e
    cases z : m.testBit 0 with
    | false =>
      rw [z] at e
      simp at e
      exact .inl ⟨_, e⟩
    | true =>
      rw [z] at e
      simp at e
      refine .inr ⟨m / 2, ?_⟩
      rw [← e, Nat.xor_comm a, xor_cancel_right]
  · rintro (⟨m, e⟩ | ⟨m, e⟩)
    · refine ⟨2 * m, ?_⟩
      rw [app_cons]
      have : (2 * m).testBit 0 = false := by simp
      rw [this, Nat.mul_div_cancel_left _ (by decide)]
      simpa using e
    · refine ⟨2 * m + 1, ?_⟩
      rw [app_cons]
      have : (2 * m + 1).testBit 0 = true := by simp
      have h2 : (2 * m + 1) / 2 = m := by omega
      rw [this, h2, e, if_pos rfl, Nat.xor_comm x, xor_self_left]
theorem Sp.head (a : Nat) (B : List Nat) : Sp (a :: B) a := Sp.cons.mpr (.inr (by rw [Nat.xor_self]; exact .zero B))
theorem Sp.tail {a : Nat} {B : List Nat} {x : Nat} (h : Sp B x) : Sp (a :: B) x := Sp.cons.mpr (.inl h)
theorem Sp.mem {a : Nat} : ∀ {B : List Nat}, a ∈ B → Sp B a
  | b :: B, h => by
    rcases List.mem_cons.mp h with e | h
    · rw [e]
      exact .head b B
    · exact (Sp.mem h).tail
theorem Sp.sub {C : List Nat} : ∀ {B : List Nat} {x : Nat}, (∀ b ∈ B, Sp C b) → Sp B x → Sp C x
  | [], x, _, h => by
    rw [Sp.nil.mp h]
    exact .zero C
  | b :: B, x, g, h => by
    rcases Sp.cons.mp h with h | h
    · exact Sp.sub (fun c hc => g c (List.mem_cons_of_mem _ hc)) h
    · have := (Sp.sub (fun c hc => g c (List.mem_cons_of_mem _ hc)) h).xor (g b List.mem_cons_self)
      rwa [xor_cancel_right] at this
theorem Sp.mono {B C : List Nat} {x : Nat} (s : ∀ b ∈ B, b ∈ C) (h : Sp B x) : Sp C x := h.sub fun b hb => .mem (s b hb)
theorem Sp.perm {B C : List Nat} (p : B.Perm C) {x : Nat} : Sp B x ↔ Sp C x := ⟨.mono fun b hb => p.mem_iff.mp hb, .mono fun b hb => p.mem_iff.mpr hb⟩
theorem Sp.lt {w : Nat} {B : List Nat} {x : Nat} (h : ∀ b ∈ B, b < 2 ^ w) (s : Sp B x) : x < 2 ^ w := by
  obtain ⟨m, rfl⟩ := s
  exact app_lt m h
theorem Sp.bit {i : Nat} : ∀ {B : List Nat} {x : Nat}, (∀ c ∈ B, c.testBit i = false) → Sp B x → x.testBit i = false
  | [], x, _, h => by
    rw [Sp.nil.mp h]
    simp
  | b :: B, x, g, h => by
    rcases Sp.cons.mp h with h | h
    · exact Sp.bit (fun c hc => g c (List.mem_cons_of_mem _ hc)) h
    · have := Sp.bit (fun c hc => g c (List.mem_cons_of_mem _ hc)) h
      rw [Nat.testBit_xor, g b List.mem_cons_self] at this
      simpa using this
/-! ### reduced bases -/
def RR (B : List Nat) : Prop := (∀ b ∈ B, b ≠ 0) ∧ B.Pairwise fun a b => a.testBit b.log2 = false ∧ b.testBit a.log2 = false
theorem RR.nil : RR [] := ⟨fun _ h => by simp at h, .nil⟩
theorem RR.cons {b : Nat} {B : List Nat} : RR (b :: B) ↔ b ≠ 0 ∧ (∀ c ∈ B, b.testBit c.log2 = false ∧ c.testBit b.log2 = false) ∧ RR B := by
  unfold RR
  rw [List.pairwise_cons]
  constructor
  · rintro ⟨h1, h2, h3⟩
    exact ⟨h1 b List.mem_cons_self, h2, fun c hc => h1 c (List.mem_cons_of_mem _ hc), h3⟩
  · rintro ⟨h1, h2, h3, h4⟩
    refine ⟨fun c hc => ?_, h2, h4⟩
    rcases List.mem_cons.mp hc with e | hc
    · rw [e]
      exact h1
    · exact h3 c hc
theorem RR.perm {B C : List Nat} (p : B.Perm C) (h : RR B) : RR C := ⟨fun c hc => h.1 c (p.mem_iff.mpr hc), (p.pairwise_iff fun z => ⟨z.2, z.1⟩).mp h.2⟩
theorem RR.nodup {B : List Nat} (h : RR B) : B.Nodup := by
  have h1 := h.1
  have h2 := h.2
  refine List.Pairwise.imp_of_mem (fun {a b} ha _ z e => ?_) h2
  rw [← e, Nat.testBit_log2 (h1 a ha)] at z
  cases z.1
/-- two of one basis: their tops -/
theorem RR.top {B : List Nat} (h : RR B) {a b : Nat} (ha : a ∈ B) (hb : b ∈ B) : a.testBit b.log2 = decide (a = b) := by
  by_cases e : a = b
  · subst e
    simp [Nat.testBit_log2 (h.1 a ha)]
  · rw [decide_eq_false e]
    revert ha hb
    induction B with
    | nil => intro ha; simp at ha
    | cons c B ih =>
      intro ha hb
      obtain ⟨_, h2, h3⟩ := RR.cons.mp h
      rcases List.mem_cons.mp ha with ea | ha <;> rcases List.mem_cons.mp hb with eb | hb
      · exact absurd (ea.trans eb.symm) e
      · rw [ea]
        exact (h2 b hb).1
      · rw [eb]
        exact (h2 a ha).2
      · exact ih h3 ha hb
def rst (l b : Nat) : Nat := if l.testBit b.log2 then l ^^^ b else l
def red (x : Nat) (B : List Nat) : Nat := B.foldl rst x
theorem red_cons (x b : Nat) (B : List Nat) : red x (b :: B) = red (rst x b) B := rfl
theorem red_keep {i : Nat} : ∀ {B : List Nat} (x : Nat), (∀ c ∈ B, c.testBit i = false) → (red x B).testBit i = x.testBit i
  | [], _, _ => rfl
  | b :: B, x, h => by
    rw [red_cons, red_keep _ fun c hc => h c (List.mem_cons_of_mem _ hc)]
    unfold rst
    split
    · rw [Nat.testBit_xor, h b List.mem_cons_self]
      simp
    · rfl
theorem red_top : ∀ {B : List Nat} (x : Nat), RR B → ∀ b ∈ B, (red x B).testBit b.log2 = false
  | b :: B, x, h, c, hc => by
    obtain ⟨h1, h2, h3⟩ := RR.cons.mp h
    rw [red_cons]
    rcases List.mem_cons.mp hc with e | hc
    · rw [e, red_keep _ fun d hd => (h2 d hd).2]
      unfold rst
      split
      · rename_i z
        rw [Nat.testBit_xor, z, Nat.testBit_log2 h1]
        rfl
      · rename_i z
        simpa using z
    · exact red_top _ h3 c hc
theorem red_sp : ∀ (B : List Nat) (x : Nat), Sp B (x ^^^ red x B)
  | [], x => by
    show Sp [] (x ^^^ x)
    rw [Nat.xor_self]
    exact .zero _
  | b :: B, x => by
    rw [red_cons]
    have h := (red_sp B (rst x b)).tail (a := b)
    by_cases z : x.testBit b.log2 = true
    · have e : rst x b = x ^^^ b := if_pos z
      rw [e] at h ⊢
      have := h.xor (Sp.head b B)
      have q : x ^^^ b ^^^ red (x ^^^ b) B ^^^ b = x ^^^ red (x ^^^ b) B := by
        rw [Nat.xor_assoc x b, Nat.xor_comm b, Nat.xor_assoc, xor_cancel_right]
      rwa [q] at this
    · have e : rst x b = x := if_neg z
      rw [e] at h ⊢
      exact h
theorem RR.indep : ∀ {B : List Nat} {y : Nat}, RR B → Sp B y → (∀ b ∈ B, y.testBit b.log2 = false) → y = 0
  | [], y, _, h, _ => Sp.nil.mp h
  | b :: B, y, h, s, t => by
    obtain ⟨h1, h2, h3⟩ := RR.cons.mp h
    rcases Sp.cons.mp s with s | s
    · exact RR.indep h3 s fun c hc => t c (List.mem_cons_of_mem _ hc)
    · have z := Sp.bit (i := b.log2) (fun c hc => (h2 c hc).2) s
      rw [Nat.testBit_xor, t b List.mem_cons_self, Nat.testBit_log2 h1] at z
      cases z
theorem red_zero {B : List Nat} (h : RR B) {x : Nat} : red x B = 0 ↔ Sp B x := by
  constructor
  · intro e
    have := red_sp B x
    rwa [e, Nat.xor_zero] at this
  · intro s
    have q := s.xor (red_sp B x)
    rw [xor_self_left] at q
    exact h.indep q (red_top x h)
theorem red_lt {w : Nat} {B : List Nat} {x : Nat} (h : ∀ b ∈ B, b < 2 ^ w) (hx : x < 2 ^ w) : red x B < 2 ^ w := by
  have := Nat.xor_lt_two_pow hx ((red_sp B x).lt h)
  rwa [xor_self_left] at this
theorem log2_xor {a b : Nat} (ha : a ≠ 0) (h : b.log2 < a.log2) : (a ^^^ b).log2 = a.log2 := log2_of (by rw [Nat.testBit_xor, Nat.testBit_log2 ha, log2_bit h]; rfl) fun j hj => by
  rw [Nat.testBit_xor, log2_bit hj, log2_bit (Nat.lt_trans h hj)]
  rfl
/-- the top of what a reduced basis spans is a top of it -/
theorem RR.spTop : ∀ {B : List Nat} {s : Nat}, RR B → Sp B s → s ≠ 0 → ∃ b ∈ B, s.log2 = b.log2
  | [], s, _, h, n => absurd (Sp.nil.mp h) n
  | b :: B, s, h, sp, n => by
    obtain ⟨h1, h2, h3⟩ := RR.cons.mp h
    rcases Sp.cons.mp sp with q | q
    · obtain ⟨c, hc, e⟩ := RR.spTop h3 q n
      exact ⟨c, List.mem_cons_of_mem _ hc, e⟩
    · by_cases z : s ^^^ b = 0
      · rw [xor_eq_zero z]
        exact ⟨b, List.mem_cons_self, rfl⟩
      · obtain ⟨c, hc, e⟩ := RR.spTop h3 q z
        have es : s = b ^^^ (s ^^^ b) := by rw [Nat.xor_comm s, xor_self_left]
        have ne : b.log2 ≠ c.log2 := fun q => by
          have := (h2 c hc).1
          rw [← q, Nat.testBit_log2 h1] at this
          cases this
        rcases Nat.lt_or_gt_of_ne ne with l | l
        · refine ⟨c, List.mem_cons_of_mem _ hc, ?_⟩
          rw [es, Nat.xor_comm, log2_xor z (by omega), e]
        · refine ⟨b, List.mem_cons_self, ?_⟩
          have := log2_xor h1 (b := s ^^^ b) (by omega)
          rw [← es] at this
          exact this
/-- one span, one reduced basis -/
theorem RR.uniq {B C : List Nat} (hB : RR B) (hC : RR C) (h : ∀ y, Sp B y ↔ Sp C y) : B.Perm C := by
  have half : ∀ {B C : List Nat}, RR B → RR C → (∀ y, Sp B y ↔ Sp C y) → ∀ a, a ∈ B → a ∈ C := fun {B C} hB hC h a ha => by
    obtain ⟨c, hc, e⟩ := hC.spTop ((h a).mp (.mem ha)) (hB.1 a ha)
    have q : a ^^^ c = 0 := hB.indep ((Sp.mem ha).xor ((h c).mpr (.mem hc))) fun b hb => by
      rw [Nat.testBit_xor, hB.top ha hb]
      obtain ⟨d, hd, e2⟩ := hC.spTop ((h b).mp (.mem hb)) (hB.1 b hb)
      rw [e2, hC.top hc hd]
      by_cases z : a = b
      · have : c = d := by
          subst z
          have := hC.top hc hd
          rw [← e2, e, Nat.testBit_log2 (hC.1 c hc)] at this
          exact of_decide_eq_true this.symm
        simp [z, this]
      · have : c ≠ d := fun y => by
          subst y
          have t := hB.top ha hb
          rw [e2, ← e, Nat.testBit_log2 (hB.1 a ha)] at t
          exact z (of_decide_eq_true t.symm)
        simp [z, this]
    rw [xor_eq_zero q]
    exact hc
  exact (List.perm_ext_iff_of_nodup hB.nodup hC.nodup).mpr fun a => ⟨half hB hC h a, half hC hB (fun y => (h y).symm) a⟩
/-! ### making one -/
def cst (l o : Nat) : Nat := if o.testBit l.log2 then o ^^^ l else o
def bst (F : List Nat) (x : Nat) : List Nat := if red x F = 0 then F else F.map (cst (red x F)) ++ [red x F]
def bas (xs : List Nat) : List Nat := xs.foldl bst []
theorem cst_log2 {l o : Nat} (hl : l ≠ 0) (ho : o ≠ 0) (h : l.testBit o.log2 = false) : (cst l o).log2 = o.log2 ∧ cst l o ≠ 0 := by
  unfold cst
  split
  · rename_i z
    have a := log2_ge z
    have b : l.log2 ≠ o.log2 := fun e => by
      rw [← e, Nat.testBit_log2 hl] at h
      cases h
    have c := log2_xor ho (b := l) (by omega)
    refine ⟨c, ne_of_bit (i := o.log2) ?_⟩
    rw [Nat.testBit_xor, Nat.testBit_log2 ho, h]
    rfl
  · exact ⟨rfl, ho⟩
theorem cst_top {l o : Nat} (hl : l ≠ 0) : (cst l o).testBit l.log2 = false := by
  unfold cst
  split
  · rename_i z
    rw [Nat.testBit_xor, z, Nat.testBit_log2 hl]
    rfl
  · rename_i z
    simpa using z
theorem RR.cst {F : List Nat} {l : Nat} (h : RR F) (hl : l ≠ 0) (ht : ∀ b ∈ F, l.testBit b.log2 = false) : RR (F.map (cst l) ++ [l]) := by
  refine ⟨fun b hb => ?_, ?_⟩
  · rcases List.mem_append.mp hb with hb | hb
    · obtain ⟨o, ho, rfl⟩ := List.mem_map.mp hb
      exact (cst_log2 hl (h.1 o ho) (ht o ho)).2
    · simp at hb
      rw [hb]
      exact hl
  · refine List.pairwise_append.mpr ⟨List.pairwise_map.mpr (List.Pairwise.imp_of_mem (fun {a b} ha hb z => ?_) h.2), List.pairwise_singleton _ _, fun a ha b hb => ?_⟩
    · rw [(cst_log2 hl (h.1 a ha) (ht a ha)).1, (cst_log2 hl (h.1 b hb) (ht b hb)).1]
      have q : ∀ u v : Nat, u.testBit v.log2 = false → l.testBit v.log2 = false → (Gf.cst l u).testBit v.log2 = false := fun u v h1 h2 => by
        unfold Gf.cst
        split
        · rw [Nat.testBit_xor, h1, h2]
          rfl
        · exact h1
      exact ⟨q a b z.1 (ht b hb), q b a z.2 (ht a ha)⟩
    · obtain ⟨o, ho, rfl⟩ := List.mem_map.mp ha
      simp at hb
      rw [hb, (cst_log2 hl (h.1 o ho) (ht o ho)).1]
      exact ⟨cst_top hl, ht o ho⟩
theorem sp_cst {F : List Nat} {l y : Nat} : Sp (F.map (cst l) ++ [l]) y ↔ Sp (l :: F) y := by
  constructor
  · refine .sub fun b hb => ?_
    rcases List.mem_append.mp hb with hb | hb
    · obtain ⟨o, ho, rfl⟩ := List.mem_map.mp hb
      unfold cst
      split
      · exact (Sp.mem ho).tail.xor (.head l F)
      · exact (Sp.mem ho).tail
    · simp at hb
      rw [hb]
      exact .head l F
  · refine .sub fun b hb => ?_
    have L : Sp (F.map (cst l) ++ [l]) l := .mem (by simp)
    rcases List.mem_cons.mp hb with e | hb
    · rw [e]
      exact L
    · have q : Sp (F.map (cst l) ++ [l]) (cst l b) := .mem (List.mem_append_left _ (List.mem_map_of_mem hb))
      unfold cst at q
      split at q
      · have := q.xor L
        rwa [xor_cancel_right] at this
      · exact q
theorem RR.bst {F : List Nat} (h : RR F) (x : Nat) : RR (bst F x) := by
  unfold Gf.bst
  split
  · exact h
  · rename_i z
    exact h.cst z (red_top x h)
theorem sp_bst {F : List Nat} (h : RR F) {x y : Nat} : Sp (bst F x) y ↔ Sp (x :: F) y := by
  unfold bst
  split
  · rename_i z
    refine ⟨.tail, .sub fun b hb => ?_⟩
    rcases List.mem_cons.mp hb with e | hb
    · rw [e]
      exact (red_zero h).mp z
    · exact .mem hb
  · rw [sp_cst]
    have q : Sp F (x ^^^ red x F) := red_sp F x
    constructor
    · refine .sub fun b hb => ?_
      rcases List.mem_cons.mp hb with e | hb
      · rw [e]
        have := q.tail (a := x) |>.xor (.head x F)
        have e2 : x ^^^ red x F ^^^ x = red x F := by rw [Nat.xor_comm x, xor_cancel_right]
        rwa [e2] at this
      · exact (Sp.mem hb).tail
    · refine .sub fun b hb => ?_
      rcases List.mem_cons.mp hb with e | hb
      · rw [e]
        have := q.tail (a := red x F) |>.xor (.head _ F)
        rwa [xor_cancel_right] at this
      · exact (Sp.mem hb).tail
theorem bas_go : ∀ (xs F : List Nat), RR F → RR (xs.foldl bst F) ∧ ∀ y, Sp (xs.foldl bst F) y ↔ Sp (xs ++ F) y
  | [], F, h => ⟨h, fun _ => .rfl⟩
  | x :: xs, F, h => by
    obtain ⟨h1, h2⟩ := bas_go xs (bst F x) (h.bst x)
    refine ⟨h1, fun y => ?_⟩
    rw [List.foldl_cons, h2]
    have up : ∀ b ∈ xs ++ bst F x, Sp (x :: xs ++ F) b := fun b hb => by
      rcases List.mem_append.mp hb with hb | hb
      · exact .mem (by simp [hb])
      · exact ((sp_bst h).mp (.mem hb)).mono fun c hc => by
          rcases List.mem_cons.mp hc with e | hc
          · simp [e]
          · simp [hc]
    have dn : ∀ b ∈ x :: xs ++ F, Sp (xs ++ bst F x) b := fun b hb => by
      have go : Sp (bst F x) b → Sp (xs ++ bst F x) b := .mono fun c hc => List.mem_append_right _ hc
      rcases List.mem_append.mp hb with hb | hb
      · rcases List.mem_cons.mp hb with e | hb
        · rw [e]
          exact .mono (fun c hc => List.mem_append_right _ hc) ((sp_bst h).mpr (.head x F))
        · exact .mem (List.mem_append_left _ hb)
      · exact go ((sp_bst h).mpr (Sp.mem hb).tail)
    exact ⟨.sub up, .sub dn⟩
theorem bas_rr (xs : List Nat) : RR (bas xs) := (bas_go xs [] .nil).1
theorem bas_sp (xs : List Nat) (y : Nat) : Sp (bas xs) y ↔ Sp xs y := by
  have := (bas_go xs [] .nil).2 y
  rwa [List.append_nil] at this
/-! ### all numbers of w digits -/
def All (w : Nat) (B : List Nat) : Prop := ∀ x, x < 2 ^ w → Sp B x
theorem plain_rr (w : Nat) : RR (plain w) := by
  refine ⟨fun b hb => ?_, ?_⟩
  · obtain ⟨i, _, e⟩ := plain_mem.mp hb
    rw [e]
    exact Nat.ne_of_gt (Nat.two_pow_pos i)
  · unfold plain
    refine List.pairwise_map.mpr (List.Pairwise.imp (fun {a b} h => ?_) (List.pairwise_lt_range (n := w)))
    rw [Nat.log2_two_pow, Nat.log2_two_pow, Nat.testBit_two_pow, Nat.testBit_two_pow]
    constructor <;> (apply decide_eq_false; omega)
theorem plain_all (w : Nat) : All w (plain w) := fun x h => ⟨x, app_plain w x h⟩
theorem plain_lt {w : Nat} : ∀ b ∈ plain w, b < 2 ^ w := fun b hb => by
  obtain ⟨i, h, e⟩ := plain_mem.mp hb
  rw [e]
  exact Nat.pow_lt_pow_right (by decide) h
theorem RR.full {w : Nat} {B : List Nat} (h : RR B) (lt : ∀ b ∈ B, b < 2 ^ w) (a : All w B) : B.length = w := by
  have := (h.uniq (plain_rr w) fun y => ⟨fun s => plain_all w y (s.lt lt), fun s => a y (s.lt plain_lt)⟩).length_eq
  rw [this, plain_len]
/-- the tops are apart -/
theorem RR.tops {B : List Nat} (h : RR B) : (B.map Nat.log2).Nodup := by
  refine List.pairwise_map.mpr (List.Pairwise.imp_of_mem (fun {a b} ha hb z e => ?_) h.2)
  rw [← e, Nat.testBit_log2 (h.1 a ha)] at z
  cases z.1
theorem cover {w : Nat} {l : List Nat} (hn : l.Nodup) (lt : ∀ x ∈ l, x < w) (hw : w ≤ l.length) : ∀ i, i < w → i ∈ l := fun i hi => by
  apply Classical.byContradiction
  intro n
  have : (i :: l).Nodup := List.nodup_cons.mpr ⟨n, hn⟩
  have := this.length_le_of_subset (l₂ := List.range w) fun x hx => by
    rcases List.mem_cons.mp hx with e | hx
    · rw [e]
      simpa using hi
    · simpa using lt x hx
  simp at this
  omega
theorem RR.all {w : Nat} {B : List Nat} (h : RR B) (lt : ∀ b ∈ B, b < 2 ^ w) (hw : w ≤ B.length) : All w B := fun x hx => by
  rw [← red_zero h]
  apply Nat.eq_of_testBit_eq
  intro i
  rw [Nat.zero_testBit]
  by_cases hi : i < w
  · have := cover h.tops (fun t ht => by
      obtain ⟨b, hb, rfl⟩ := List.mem_map.mp ht
      exact (Nat.log2_lt (h.1 b hb)).mpr (lt b hb)) (by simpa using hw) i hi
    obtain ⟨b, hb, e⟩ := List.mem_map.mp this
    rw [← e]
    exact red_top x h b hb
  · exact bit_big (red_lt lt hx) (by omega)
/-- no more than w of w digits -/
theorem RR.len_le {w : Nat} {B : List Nat} (h : RR B) (lt : ∀ b ∈ B, b < 2 ^ w) : B.length ≤ w := by
  have := h.tops.length_le_of_subset (l₂ := List.range w) fun x hx => by
    obtain ⟨b, hb, rfl⟩ := List.mem_map.mp hx
    simpa using (Nat.log2_lt (h.1 b hb)).mpr (lt b hb)
  simpa using this
end Gf
/-! The machine run by simp. -/
namespace Mm
open PySem L2
section
variable {α β : Type} {env : Envr} {S S1 S2 : Sto} {i j : Nat} {d d1 d2 : D} {a b : ME} {c t u : MT} {s s1 s2 : MS} {m : MA}
@[simp] theorem bind_ok' (x : α) (S : Sto) (f : α → Sto → R β) : (R.ok x S).bind f = f x S := rfl
@[simp] theorem bind_exc' (c : Str) (p : Option D) (S : Sto) (f : α → Sto → R β) : (R.exc c p S : R α).bind f = .exc c p S := rfl
@[simp] theorem out_ok' (x : α) (S : Sto) (env : Envr) (f : α → Sto → Out) : (R.ok x S).out env f = f x S := rfl
@[simp] theorem out_exc' (c : Str) (p : Option D) (S : Sto) (env : Envr) (f : α → Sto → Out) : (R.exc c p S : R α).out env f = .exc c p env S := rfl
@[simp] theorem opt_some' (x : α) (S : Sto) : opt (some x) S = .ok x S := rfl
@[simp] theorem mFrz_eq (mf : MF) (env : Envr) (S : Sto) : mFrz mf env S = (mf env S).bind fun c S1 => .ok c.d S1 := rfl
@[simp] theorem d_lst (xs : List D) : (Cell.lst xs).d = .lst xs := rfl
@[simp] theorem d_ins (c : Str) (xs : List (Str × D)) : (Cell.ins c xs).d = .ins c xs := rfl
@[simp] theorem r_val (d : D) : (Ret.val d).d = d := rfl
@[simp] theorem r_own (d : Cell) : (Ret.own d).d = d.d := rfl
@[simp] theorem eV_eq (i : Nat) (env : Envr) (S : Sto) : eV i env S = (match env[i]? with
  | some (.v d) => .ok d S
  | _ => .stuck) := rfl
@[simp] theorem eC_eq (d : D) (env : Envr) (S : Sto) : eC d env S = .ok d S := rfl
@[simp] theorem eOp_eq (f : Sto → D → D → Option D) (ma mb : ME) (env : Envr) (S : Sto) : eOp f ma mb env S = ((ma env S).bind fun d1 S1 => (mb env S1).bind fun d2 S2 => opt (f S2 d1 d2) S2) := rfl
@[simp] theorem eUn_eq (f : Sto → D → Option D) (ma : ME) (env : Envr) (S : Sto) : eUn f ma env S = ((ma env S).bind fun d1 S1 => opt (f S1 d1) S1) := rfl
@[simp] theorem fNeg_eq (S : Sto) (i : Int) : fNeg S (.int i) = some (.int (-i)) := rfl
@[simp] theorem cB_eq (me : ME) (env : Envr) (S : Sto) : cB me env S = ((me env S).bind fun d S1 => match d with
  | .bl k => .ok k S1
  | _ => .stuck) := rfl
@[simp] theorem cAnd_eq (a b : MT) (env : Envr) (S : Sto) : cAnd a b env S = ((a env S).bind fun k S1 => if k = true then b env S1 else .ok false S1) := rfl
@[simp] theorem cOr_eq (a b : MT) (env : Envr) (S : Sto) : cOr a b env S = ((a env S).bind fun k S1 => if k = true then .ok true S1 else b env S1) := rfl
@[simp] theorem cNot_eq (a : MT) (env : Envr) (S : Sto) : cNot a env S = ((a env S).bind fun k S1 => .ok (!k) S1) := rfl
@[simp] theorem cYes_eq (env : Envr) (S : Sto) : cYes env S = .ok true S := rfl
@[simp] theorem eIf_eq (t : MT) (a b : ME) (env : Envr) (S : Sto) : eIf t a b env S = ((t env S).bind fun k S1 => if k = true then a env S1 else b env S1) := rfl
@[simp] theorem eAnd_eq (a b : ME) (env : Envr) (S : Sto) : eAnd a b env S = ((a env S).bind fun d S1 => match d with
  | .bl true => b env S1
  | .bl false => .ok (.bl false) S1
  | _ => .stuck) := rfl
@[simp] theorem eOr_eq (a b : ME) (env : Envr) (S : Sto) : eOr a b env S = ((a env S).bind fun d S1 => match d with
  | .bl true => .ok (.bl true) S1
  | .bl false => b env S1
  | _ => .stuck) := rfl
@[simp] theorem eNot_eq (a : ME) (env : Envr) (S : Sto) : eNot a env S = ((a env S).bind fun d S1 => match d with
  | .bl k => .ok (.bl (!k)) S1
  | _ => .stuck) := rfl
@[simp] theorem aNil_eq (env : Envr) (S : Sto) : aNil env S = .ok [] S := rfl
@[simp] theorem aCons_eq (ma : ME) (mr : MA) (env : Envr) (S : Sto) : aCons ma mr env S = ((ma env S).bind fun d S1 => (mr env S1).bind fun ds S2 => .ok (d :: ds) S2) := rfl
@[simp] theorem eTup_eq (m : MA) (env : Envr) (S : Sto) : eTup m env S = ((m env S).bind fun ds S1 => if szB ds.length then .ok (.tup ds) S1 else .stuck) := rfl
@[simp] theorem fLst_eq (m : MA) (env : Envr) (S : Sto) : fLst m env S = ((m env S).bind fun ds S1 => if szB ds.length then .ok (.lst ds) S1 else .stuck) := rfl
@[simp] theorem eCall_eq (f : MFn) (dd : List D) (m : MA) (env : Envr) (S : Sto) : eCall f dd m env S = ((m env S).bind fun ds S1 => (f (ds ++ dd) S1).bind fun r S2 => .ok r.d S2) := rfl
@[simp] theorem fCall_eq (f : MFn) (dd : List D) (m : MA) (env : Envr) (S : Sto) : fCall f dd m env S = ((m env S).bind fun ds S1 => (f (ds ++ dd) S1).bind rOwn) := rfl
@[simp] theorem rOwn_own (c : Cell) (S : Sto) : rOwn (.own c) S = .ok c S := rfl
@[simp] theorem sNil_eq (env : Envr) (S : Sto) : sNil env S = .nx env S := rfl
@[simp] theorem sBrk_eq (env : Envr) (S : Sto) : sBrk env S = .bk env S := rfl
@[simp] theorem sCnt_eq (env : Envr) (S : Sto) : sCnt env S = .ct env S := rfl
@[simp] theorem sSeq_eq (a b : MS) (env : Envr) (S : Sto) : sSeq a b env S = (match a env S with
  | .nx e S1 => b e S1
  | o => o) := rfl
@[simp] theorem sExpr_eq (me : ME) (env : Envr) (S : Sto) : sExpr me env S = (me env S).out env fun _ S1 => .nx env S1 := rfl
@[simp] theorem sRet_eq (me : ME) (env : Envr) (S : Sto) : sRet me env S = (me env S).out env fun d S1 => .rt (.val d) S1 := rfl
@[simp] theorem sRetF_eq (mf : MF) (env : Envr) (S : Sto) : sRetF mf env S = (mf env S).out env fun c S1 => .rt (.own c) S1 := rfl
@[simp] theorem sRetO_eq (i : Nat) (env : Envr) (S : Sto) : sRetO i env S = (match env[i]? with
  | some (.o c) => .rt (.own c) S
  | some (.v d) => .rt (.val d) S
  | _ => .stuck) := rfl
@[simp] theorem sRetN_eq (env : Envr) (S : Sto) : sRetN env S = .rt (.val .non) S := rfl
@[simp] theorem sIf_eq (c : MT) (a b : MS) (env : Envr) (S : Sto) : sIf c a b env S = (c env S).out env fun k S1 => if k = true then a env S1 else b env S1 := rfl
@[simp] theorem gN_eq (i : Nat) (d : D) (env : Envr) : gN i d env = some (env.set i (.v d)) := rfl
@[simp] theorem gN0_eq (env : Envr) : gN0 [] env = some env := rfl
@[simp] theorem gNC_eq (a : MG) (b : MGs) (d : D) (ds : List D) (env : Envr) : gNC a b (d :: ds) env = (a d env).bind fun e => b ds e := rfl
@[simp] theorem gT_eq (b : MGs) (ds : List D) (env : Envr) : gT b (.tup ds) env = b ds env := rfl
@[simp] theorem gU_eq (b : MGs) (ds : List D) (env : Envr) : gU b (.lst ds) env = b ds env := rfl
@[simp] theorem sAsg_eq (me : ME) (mg : MG) (env : Envr) (S : Sto) : sAsg me mg env S = (me env S).out env fun d S1 => match mg d env with
  | some e => .nx e S1
  | none => .stuck := rfl
@[simp] theorem sOwn_eq (i : Nat) (mf : MF) (env : Envr) (S : Sto) : sOwn i mf env S = (mf env S).out env fun c S1 => if i < env.length then .nx (env.set i (.o c)) S1 else .stuck := rfl
@[simp] theorem sPar_eq (i j : Nat) (m : MA) (env : Envr) (S : Sto) : sPar i j m env S = (m env S).out env fun ds S1 => match ds with
  | [d1, d2] => .nx ((env.set i (.v d1)).set j (.v d2)) S1
  | _ => .stuck := rfl
@[simp] theorem sFor_eq (mi : MI) (g : MG) (b : MS) (env : Envr) (S : Sto) : sFor mi g b env S = (mi env S).out env fun ds S1 => forL g b ds env S1 := rfl
@[simp] theorem fLc_eq (mi : MI) (g : MG) (tt : MT) (te : ME) (vs : List Nat) (env : Envr) (S : Sto) : fLc mi g tt te vs env S = (mi env S).bind fun ds S1 => (lcR g tt te (wipeE env vs) ds S1).bind fin := rfl
@[simp] theorem fin_eq (ys : List D) (S : Sto) : fin ys S = if szB ys.length then .ok (.lst ys) S else .stuck := rfl
@[simp] theorem startE_eq (n : Nat) (ds : List D) : startE n ds = ds.map Sl.v ++ List.replicate (n - ds.length) .no := rfl
@[simp] theorem mFn_eq (n : Nat) (m : MS) (ds : List D) (S : Sto) : mFn n m ds S = (match m (startE n ds) S with
  | .nx _ S1 => .ok (.val .non) S1
  | .rt r S1 => .ok r S1
  | .exc c p _ S1 => .exc c p S1
  | _ => .stuck) := rfl
@[simp] theorem itL_eq (me : ME) (env : Envr) (S : Sto) : itL me env S = (me env S).bind fun d S1 => match d with
  | .lst ds => .ok ds S1
  | .tup ds => .ok ds S1
  | _ => .stuck := rfl
@[simp] theorem itR1_eq (m : MA) (env : Envr) (S : Sto) : itR1 m env S = (m env S).bind fun ds S1 => match ds with
  | [.int j] => if rgB j then .ok (rngD 0 j.toNat) S1 else .stuck
  | _ => .stuck := rfl
@[simp] theorem itR2_eq (m : MA) (env : Envr) (S : Sto) : itR2 m env S = (m env S).bind fun ds S1 => match ds with
  | [.int i, .int j] => if rgB i && rgB j then .ok (rngD i (j - i).toNat) S1 else .stuck
  | _ => .stuck := rfl
@[simp] theorem itES_eq (m : MA) (env : Envr) (S : Sto) : itES m env S = (m env S).bind fun ds S1 => match ds with
  | [.lst ds] => .ok (enumD 0 ds) S1
  | [.tup ds] => .ok (enumD 0 ds) S1
  | _ => .stuck := rfl
@[simp] theorem itZ_eq (m : MA) (env : Envr) (S : Sto) : itZ m env S = (m env S).bind fun ds S1 => match ds with
  | [.lst xs, .lst ys] => .ok (zipD xs ys) S1
  | _ => .stuck := rfl
@[simp] theorem eCB_eq (f : Sto → List D → Option D) (m : MA) (env : Envr) (S : Sto) : eCB f m env S = (m env S).bind fun ds S1 => opt (f S1 ds) S1 := rfl
@[simp] theorem fCB_eq (f : Sto → List D → Option Cell) (m : MA) (env : Envr) (S : Sto) : fCB f m env S = (m env S).bind fun ds S1 => opt (f S1 ds) S1 := rfl
@[simp] theorem fOp_eq (f : Sto → D → D → Option Cell) (ma mb : ME) (env : Envr) (S : Sto) : fOp f ma mb env S = (ma env S).bind fun d1 S1 => (mb env S1).bind fun d2 S2 => opt (f S2 d1 d2) S2 := rfl
@[simp] theorem fLen_lst (S : Sto) (ds : List D) : fLen S [.lst ds] = some (.int ds.length) := rfl
@[simp] theorem fLen_tup (S : Sto) (ds : List D) : fLen S [.tup ds] = some (.int ds.length) := rfl
@[simp] theorem fListOf_lst (S : Sto) (ds : List D) : fListOf S [.lst ds] = some (.lst ds) := rfl
@[simp] theorem fListOf_tup (S : Sto) (ds : List D) : fListOf S [.tup ds] = some (.lst ds) := rfl
@[simp] theorem fTupOf_lst (S : Sto) (ds : List D) : fTupOf S [.lst ds] = some (.tup ds) := rfl
@[simp] theorem fTupOf_tup (S : Sto) (ds : List D) : fTupOf S [.tup ds] = some (.tup ds) := rfl
theorem fSorted_lst (S : Sto) (ds : List D) : fSorted S [.lst ds] = (intsOf ds).map fun ns => .lst ((isrt ns).map D.int) := rfl
@[simp] theorem fInt_int (S : Sto) (i : Int) : fInt S [.int i] = some (.int i) := rfl
@[simp] theorem fInt_bl (S : Sto) (b : Bool) : fInt S [.bl b] = some (.int (if b then 1 else 0)) := rfl
@[simp] theorem eBits_eq (me : ME) (env : Envr) (S : Sto) : eBits me env S = (me env S).bind fun d S1 => match d with
  | .int i => .ok (.int (Builtin.Int.intBits i : Nat)) S1
  | _ => .stuck := rfl
@[simp] theorem iAdd_eq (S : Sto) (i j : Int) : iAdd S (.int i) (.int j) = some (.int (i + j)) := rfl
@[simp] theorem iSub_eq (S : Sto) (i j : Int) : iSub S (.int i) (.int j) = some (.int (i - j)) := rfl
@[simp] theorem iMul_eq (S : Sto) (i j : Int) : iMul S (.int i) (.int j) = if mulB i j then some (.int (i * j)) else none := rfl
@[simp] theorem iDiv_eq (S : Sto) (i j : Int) : iDiv S (.int i) (.int j) = if divB i j then some (.int (i.fdiv j)) else none := rfl
@[simp] theorem iMod_eq (S : Sto) (i j : Int) : iMod S (.int i) (.int j) = if decide (j ≠ 0) then some (.int (i.fmod j)) else none := rfl
@[simp] theorem iPow_eq (S : Sto) (i j : Int) : iPow S (.int i) (.int j) = if powB i j then some (.int (i ^ j.toNat)) else none := rfl
@[simp] theorem iShl_eq (S : Sto) (i j : Int) : iShl S (.int i) (.int j) = if powB i j then some (.int (i * 2 ^ j.toNat)) else none := rfl
@[simp] theorem iShr_eq (S : Sto) (i j : Int) : iShr S (.int i) (.int j) = if decide (0 ≤ j) then some (.int (i / 2 ^ j.toNat)) else none := rfl
@[simp] theorem iAnd_eq (S : Sto) (i j : Int) : iAnd S (.int i) (.int j) = some (.int (Builtin.bitAnd i j)) := rfl
@[simp] theorem iOr_eq (S : Sto) (i j : Int) : iOr S (.int i) (.int j) = some (.int (Builtin.bitOr i j)) := rfl
@[simp] theorem iXor_eq (S : Sto) (i j : Int) : iXor S (.int i) (.int j) = some (.int (Builtin.bitXor i j)) := rfl
@[simp] theorem iLt_eq (S : Sto) (i j : Int) : iLt S (.int i) (.int j) = some (.bl (decide (i < j))) := rfl
@[simp] theorem iLe_eq (S : Sto) (i j : Int) : iLe S (.int i) (.int j) = some (.bl (decide (i ≤ j))) := rfl
@[simp] theorem iGt_eq (S : Sto) (i j : Int) : iGt S (.int i) (.int j) = some (.bl (decide (j < i))) := rfl
@[simp] theorem iGe_eq (S : Sto) (i j : Int) : iGe S (.int i) (.int j) = some (.bl (decide (j ≤ i))) := rfl
@[simp] theorem dAdd_int (S : Sto) (i j : Int) : dAdd S (.int i) (.int j) = some (.int (i + j)) := rfl
@[simp] theorem dAdd_lst (S : Sto) (xs ys : List D) : dAdd S (.lst xs) (.lst ys) = if szB (xs.length + ys.length) then some (.lst (xs ++ ys)) else none := by
  show (none : Option D).or (fCatD S (.lst xs) (.lst ys)) = _
  show (none : Option D).or ((if szB (xs.length + ys.length) then some (Cell.lst (xs ++ ys)) else none).map Cell.d) = _
  cases szB (xs.length + ys.length) <;> rfl
@[simp] theorem fCat_lst (S : Sto) (xs ys : List D) : fCat S (.lst xs) (.lst ys) = if szB (xs.length + ys.length) then some (.lst (xs ++ ys)) else none := rfl
@[simp] theorem fCatT_eq (S : Sto) (xs ys : List D) : fCatT S (.tup xs) (.tup ys) = if szB (xs.length + ys.length) then some (.tup (xs ++ ys)) else none := rfl
@[simp] theorem eSlT_eq (me : ME) (ml mh : MO) (env : Envr) (S : Sto) : eSlT me ml mh env S = (me env S).bind fun d S1 => (ml env S1).bind fun lo S2 => (mh env S2).bind fun hi S3 => match d with
  | .tup ds => .ok (.tup (cutD ds lo hi)) S3
  | _ => .stuck := rfl
@[simp] theorem fIx_lst (S : Sto) (xs : List D) (i : Int) : fIx S (.lst xs) (.int i) = atI xs i := rfl
@[simp] theorem fIx_tup (S : Sto) (xs : List D) (i : Int) : fIx S (.tup xs) (.int i) = atI xs i := rfl
@[simp] theorem fIx_ref (S : Sto) (n : Nat) (i : Int) : fIx S (.ref n) (.int i) = (match S[n]? with
    | some (.lst xs) => atI xs i
    | _ => none) := rfl
@[simp] theorem fIs_non (S : Sto) (d : D) : fIs S d .non = some (.bl d.isN) := rfl
@[simp] theorem fIsNot_non (S : Sto) (d : D) : fIsNot S d .non = some (.bl (!d.isN)) := rfl
@[simp] theorem isN_non : D.isN .non = true := rfl
@[simp] theorem isN_int (i : Int) : D.isN (.int i) = false := rfl
@[simp] theorem oNone_eq (env : Envr) (S : Sto) : oNone env S = .ok none S := rfl
@[simp] theorem oSome_eq (me : ME) (env : Envr) (S : Sto) : oSome me env S = (me env S).bind fun d S1 => match d with
  | .int i => .ok (some i) S1
  | _ => .stuck := rfl
@[simp] theorem fSl_eq (me : ME) (ml mh : MO) (env : Envr) (S : Sto) : fSl me ml mh env S = (me env S).bind fun d S1 => (ml env S1).bind fun lo S2 => (mh env S2).bind fun hi S3 => match d with
  | .lst ds => .ok (.lst (cutD ds lo hi)) S3
  | .scr ns => .ok (.lst (cutD (ns.map D.int) lo hi)) S3
  | _ => .stuck := rfl
@[simp] theorem sApp_eq (i : Nat) (me : ME) (env : Envr) (S : Sto) : sApp i me env S = (match env[i]? with
  | some (.o (.lst ds)) => (me env S).out env fun d S1 => if szB (ds.length + 1) then .nx (env.set i (.o (.lst (ds ++ [d])))) S1 else .stuck
  | _ => .stuck) := rfl
@[simp] theorem sIns_eq (i : Nat) (mk me : ME) (env : Envr) (S : Sto) : sIns i mk me env S = (match env[i]? with
  | some (.o (.lst ds)) => (mk env S).out env fun k S1 => (me env S1).out env fun d S2 => match k with
    | .int k => if decide (0 ≤ k) && (bBnd k 9223372036854775807 && szB (ds.length + 1)) then .nx (env.set i (.o (.lst (ds.take k.toNat ++ [d] ++ ds.drop k.toNat)))) S2 else .stuck
    | _ => .stuck
  | _ => .stuck) := rfl
@[simp] theorem sPut_eq (i : Nat) (mk me : ME) (env : Envr) (S : Sto) : sPut i mk me env S = (me env S).out env fun d S1 => match env[i]? with
  | some (.o (.lst ds)) => (mk env S1).out env fun k S2 => (match k with
    | .int k => (match ixN ds.length k with
      | some j => .nx (env.set i (.o (.lst (ds.set j d)))) S2
      | none => .stuck)
    | _ => .stuck)
  | some (.v (.ref n)) => (mk env S1).out env fun k S2 => (match S2[n]?, k with
    | some (.lst ds), .int k => (match ixN ds.length k with
      | some j => .nx env (S2.set n (.lst (ds.set j d)))
      | none => .stuck)
    | _, _ => .stuck)
  | _ => .stuck := rfl
@[simp] theorem sAug_eq (i : Nat) (f : Int → Int → Int) (me : ME) (env : Envr) (S : Sto) : sAug i f me env S = (match env[i]? with
  | some (.v (.int k)) => (me env S).out env fun d S1 => (match d with
    | .int j => .nx (env.set i (.v (.int (f k j)))) S1
    | _ => .stuck)
  | _ => .stuck) := rfl
@[simp] theorem sRaise_eq (c : Str) (env : Envr) (S : Sto) : sRaise c env S = .exc c none env S := rfl
@[simp] theorem eFld_eq (c f : Str) (me : ME) (env : Envr) (S : Sto) : eFld c f me env S = (me env S).bind fun d S1 => match insOf c S1 d with
  | some fs => opt (fs.lookup f) S1
  | none => .stuck := rfl
@[simp] theorem insOf_ins (c c' : Str) (S : Sto) (fs : List (Str × D)) : insOf c S (.ins c' fs) = if c' = c then some fs else none := rfl
@[simp] theorem insOf_ref (c : Str) (S : Sto) (n : Nat) : insOf c S (.ref n) = (match S[n]? with
    | some (.ins c' fs) => if c' = c then some fs else none
    | _ => none) := rfl
@[simp] theorem sFldC_eq (c f : Str) (mo me : ME) (env : Envr) (S : Sto) : sFldC c f mo me env S = (me env S).out env fun y S1 => (mo env S1).out env fun d S2 => match d with
  | .ref n => (match S2[n]? with
    | some (.ins c' fs) => if c' = c ∧ fs.length < 1000 then .nx env (S2.set n (.ins c (putFD f y fs))) else .stuck
    | _ => .stuck)
  | _ => .stuck := rfl
@[simp] theorem mGo_eq (c x : Str) (mf : MFn) (dd : List D) (mo : ME) (m : MA) (F : Ret → Sto → R α) (env : Envr) (S : Sto) : mGo c x mf dd mo m F env S = (mo env S).bind fun o S1 => match insOf c S1 o with
  | some fs => if fs.lookup x = none then (m env S1).bind fun ds S2 => (mf (o :: (ds ++ dd)) S2).bind F else .stuck
  | none => .stuck := rfl
@[simp] theorem eMeth_eq (c x : Str) (mf : MFn) (dd : List D) (mo : ME) (m : MA) (env : Envr) (S : Sto) : eMeth c x mf dd mo m env S = mGo c x mf dd mo m (fun r S => .ok r.d S) env S := rfl
@[simp] theorem fMeth_eq (c x : Str) (mf : MFn) (dd : List D) (mo : ME) (m : MA) (env : Envr) (S : Sto) : fMeth c x mf dd mo m env S = mGo c x mf dd mo m rOwn env S := rfl
@[simp] theorem eNew_eq (c : Str) (mf : MFn) (dd : List D) (m : MA) (env : Envr) (S : Sto) : eNew c mf dd m env S = (m env S).bind fun ds S1 => popI c S1 (mf (.ref S1.length :: (ds ++ dd)) (S1 ++ [.ins c []])) := rfl
@[simp] theorem sCell_eq (i : Nat) (mf : MF) (env : Envr) (S : Sto) : sCell i mf env S = (mf env S).out env fun c S1 => .nx (env.set i (.v (.ref S1.length))) (S1 ++ [c]) := rfl
@[simp] theorem frzAt_eq (i : Nat) (env : Envr) : frzAt i env = (match env[i]? with
  | some (.o c) => env.set i (.v c.d)
  | _ => env) := rfl
@[simp] theorem sFrz_eq (i : Nat) (m : MS) (env : Envr) (S : Sto) : sFrz i m env S = m (frzAt i env) S := rfl
@[simp] theorem sAugC_eq (mo mk : ME) (f : Int → Int → Int) (me : ME) (env : Envr) (S : Sto) : sAugC mo mk f me env S = (mo env S).out env fun o S1 => (mk env S1).out env fun k S2 => match o, k with
  | .ref n, .int k => (match S2[n]? with
    | some (.lst ds) => (match atI ds k with
      | some (.int x) => (me env S2).out env fun d S3 => (match d, S3[n]? with
        | .int y, some (.lst ds') => (match ixN ds'.length k with
          | some j => .nx env (S3.set n (.lst (ds'.set j (.int (f x y)))))
          | none => .stuck)
        | _, _ => .stuck)
      | _ => .stuck)
    | _ => .stuck)
  | _, _ => .stuck := rfl
@[simp] theorem eEqI_eq (c : Str) (f : MFn) (ma mb : ME) (env : Envr) (S : Sto) : eEqI c f ma mb env S = (ma env S).bind fun d1 S1 => (mb env S1).bind fun d2 S2 => match insOf c S2 d1, insOf c S2 d2, f [d1, d2] S2 with
  | some _, some _, .ok (.val (.bl k)) S3 => .ok (.bl k) S3
  | _, _, _ => .stuck := rfl
@[simp] theorem eIsC_eq (c : Str) (m : MA) (env : Envr) (S : Sto) : eIsC c m env S = (m env S).bind fun ds S1 => match ds with
  | [d, .cls c'] => if c' = c then (match insOf c S1 d with
    | some _ => .ok (.bl true) S1
    | none => .stuck) else .stuck
  | _ => .stuck := rfl
@[simp] theorem eLenA_eq (i : Nat) (env : Envr) (S : Sto) : eLenA i env S = (match env[i]? with
  | some (.o (.lst ds)) => .ok (.int ds.length) S
  | some (.v d) => opt (fLen S [d]) S
  | _ => .stuck) := rfl
@[simp] theorem eIxA_eq (i : Nat) (mk : ME) (env : Envr) (S : Sto) : eIxA i mk env S = (match env[i]? with
  | some (.o (.lst ds)) => (mk env S).bind fun k S1 => (match k with
    | .int k => opt (atI ds k) S1
    | _ => .stuck)
  | some (.v d) => (mk env S).bind fun k S1 => opt (fIx S1 d k) S1
  | _ => .stuck) := rfl
end
/-! ### loops -/
theorem forL_inv {I : List D → Envr → Sto → Prop} {g : MG} {b : MS} (step : ∀ d ds env S, I (d :: ds) env S → ∃ e1, g d env = some e1 ∧ ∃ e2 S2, (b e1 S = .nx e2 S2 ∨ b e1 S = .ct e2 S2) ∧ I ds e2 S2) :
    ∀ (ds : List D) (env : Envr) (S : Sto), I ds env S → ∃ e' S', forL g b ds env S = .nx e' S' ∧ I [] e' S'
  | [], env, S, h => ⟨env, S, rfl, h⟩
  | d :: ds, env, S, h => by
    obtain ⟨e1, h1, e2, S2, h2, h3⟩ := step d ds env S h
    unfold forL
    rw [h1]
    rcases h2 with h2 | h2 <;> (simp only [h2]; exact forL_inv step ds e2 S2 h3)
/-- a comprehension whose parts leave the store alone -/
theorem lcR_map {g : MG} {tt : MT} {te : ME} {env : Envr} {S : Sto} (p : D → Bool) (f : D → D) : ∀ (ds : List D), (∀ d ∈ ds, ∃ e1, g d env = some e1 ∧ tt e1 S = .ok (p d) S ∧ (p d = true → te e1 S = .ok (f d) S)) →
    lcR g tt te env ds S = .ok ((ds.filter p).map f) S
  | [], _ => rfl
  | d :: ds, h => by
    obtain ⟨e1, h1, h2, h3⟩ := h d List.mem_cons_self
    have ih := lcR_map p f ds fun x hx => h x (List.mem_cons_of_mem _ hx)
    unfold lcR
    rw [h1]
    cases z : p d with
    | true => simp only [h2, z, h3 z, ih, bind_ok', List.filter_cons, if_true, List.map_cons]
    | false => simp [h2, z, ih, List.filter_cons]
/-- one whose parts change it -/
theorem lcR_inv {I : List D → List D → Sto → Prop} {g : MG} {te : ME} {env : Envr} (step : ∀ d ds ys S, I (d :: ds) ys S → ∃ e1, g d env = some e1 ∧ ∃ y S2, te e1 S = .ok y S2 ∧ I ds (ys ++ [y]) S2) :
    ∀ (ds ys : List D) (S : Sto), I ds ys S → ∃ zs S', lcR g cYes te env ds S = .ok zs S' ∧ I [] (ys ++ zs) S'
  | [], ys, S, h => ⟨[], S, rfl, by rwa [List.append_nil]⟩
  | d :: ds, ys, S, h => by
    obtain ⟨e1, h1, y, S2, h2, h3⟩ := step d ds ys S h
    obtain ⟨zs, S', h4, h5⟩ := lcR_inv step ds (ys ++ [y]) S2 h3
    refine ⟨y :: zs, S', ?_, by simpa using h5⟩
    unfold lcR
    rw [h1]
    simp [h2, h4]
/-! ### whole numbers -/
@[simp] theorem band_nat (a b : Nat) : Builtin.bitAnd (a : Int) (b : Int) = ((a &&& b : Nat) : Int) := by simp [Builtin.bitAnd]
@[simp] theorem bxor_nat (a b : Nat) : Builtin.bitXor (a : Int) (b : Int) = ((a ^^^ b : Nat) : Int) := Bits.bitXor_pp (Int.natCast_nonneg a) (Int.natCast_nonneg b) |>.trans (by simp)
@[simp] theorem bor_nat (a b : Nat) : Builtin.bitOr (a : Int) (b : Int) = ((a ||| b : Nat) : Int) := Bits.bitOr_pp (Int.natCast_nonneg a) (Int.natCast_nonneg b) |>.trans (by simp)
theorem bits_nat {n : Nat} (h : n ≠ 0) : Builtin.Int.intBits (n : Int) = n.log2 + 1 := by
  unfold Builtin.Int.intBits
  have : ((n : Int) == 0) = false := by simpa using h
  rw [this]
  simp
@[simp] theorem shr_nat (a k : Nat) : (a : Int) / 2 ^ k = ((a >>> k : Nat) : Int) := by
  rw [Nat.shiftRight_eq_div_pow]
  simp
abbrev nd (n : Nat) : D := .int (n : Int)
def nl (xs : List Nat) : List D := xs.map nd
@[simp] theorem nl_nil : nl [] = [] := rfl
@[simp] theorem nl_cons (x : Nat) (xs : List Nat) : nl (x :: xs) = .int (x : Int) :: nl xs := rfl
@[simp] theorem nl_len (xs : List Nat) : (nl xs).length = xs.length := by simp [nl]
@[simp] theorem nl_append (xs ys : List Nat) : nl xs ++ nl ys = nl (xs ++ ys) := by simp [nl]
theorem szB_of {n : Nat} (h : n ≤ 100000) : szB n = true := decide_eq_true h
end Mm
/-! Plain: numbers traced, kernels, backwards. -/
namespace Gf
theorem Sp.image (f : Nat → Nat) (f0 : f 0 = 0) (fx : ∀ x y, f (x ^^^ y) = f x ^^^ f y) {B : List Nat} {x : Nat} (h : Sp B x) : Sp (B.map f) (f x) := by
  obtain ⟨m, rfl⟩ := h
  exact ⟨m, app_map f f0 fx B m⟩
theorem Sp.append {A B : List Nat} {x : Nat} (h : Sp (A ++ B) x) : ∃ u v, Sp A u ∧ Sp B v ∧ x = u ^^^ v := by
  induction A generalizing x with
  | nil => exact ⟨0, x, .zero _, h, by simp⟩
  | cons a A ih =>
    rcases Sp.cons.mp h with h | h
    · obtain ⟨u, v, h1, h2, e⟩ := ih h
      exact ⟨u, v, h1.tail, h2, e⟩
    · obtain ⟨u, v, h1, h2, e⟩ := ih h
      refine ⟨u ^^^ a, v, h1.tail.xor (.head a A), h2, ?_⟩
      have := congrArg (· ^^^ a) e
      simp only [xor_cancel_right] at this
      rw [this, Nat.xor_assoc, Nat.xor_comm v a, ← Nat.xor_assoc]
theorem RR.inj : ∀ {B : List Nat} {c : Nat}, RR B → c < 2 ^ B.length → app B c = 0 → c = 0
  | [], c, _, hc, _ => by simpa using hc
  | b :: B, c, h, hc, e => by
    obtain ⟨h1, h2, h3⟩ := RR.cons.mp h
    rw [app_cons] at e
    rw [List.length_cons, Nat.pow_succ] at hc
    cases z : c.testBit 0 with
    | true =>
      rw [z] at e
      have e2 : b = app B (c / 2) := xor_eq_zero (by simpa using e)
      have : Sp B b := ⟨_, e2.symm⟩
      have := Sp.bit (i := b.log2) (fun d hd => (h2 d hd).2) this
      rw [Nat.testBit_log2 h1] at this
      cases this
    | false =>
      rw [z] at e
      have := RR.inj h3 (c := c / 2) (by omega) (by simpa using e)
      have : c % 2 = 0 := by
        have q := Nat.testBit_zero c
        rw [z] at q
        have := of_decide_eq_false q.symm
        omega
      omega
abbrev PP := Nat × Nat
def tst (s p : PP) : PP := if s.1.testBit p.1.log2 then (s.1 ^^^ p.1, s.2 ^^^ p.2) else s
def tred (s : PP) (F : List PP) : PP := F.foldl tst s
theorem tred_fst : ∀ (F : List PP) (s : PP), (tred s F).1 = red s.1 (F.map (·.1))
  | [], _ => rfl
  | p :: F, s => by
    show (tred (tst s p) F).1 = red (rst s.1 p.1) (F.map (·.1))
    rw [tred_fst F]
    unfold tst rst
    split <;> rfl
theorem tred_rel {rs : List Nat} : ∀ {F : List PP} {s : PP}, (∀ p ∈ F, app rs p.2 = p.1) → app rs (tred s F).2 ^^^ (tred s F).1 = app rs s.2 ^^^ s.1
  | [], _, _ => rfl
  | p :: F, s, h => by
    show app rs (tred (tst s p) F).2 ^^^ (tred (tst s p) F).1 = _
    rw [tred_rel fun q hq => h q (List.mem_cons_of_mem _ hq)]
    unfold tst
    split
    · show app rs (s.2 ^^^ p.2) ^^^ (s.1 ^^^ p.1) = _
      rw [app_xor, h p List.mem_cons_self]
      apply Nat.eq_of_testBit_eq
      intro i
      simp only [Nat.testBit_xor]
      cases (app rs s.2).testBit i <;> cases s.1.testBit i <;> cases p.1.testBit i <;> rfl
    · rfl
theorem tred_sp : ∀ (F : List PP) (s : PP), Sp (F.map (·.2)) (s.2 ^^^ (tred s F).2)
  | [], s => by
    show Sp [] (s.2 ^^^ s.2)
    rw [Nat.xor_self]
    exact .zero _
  | p :: F, s => by
    have h := (tred_sp F (tst s p)).tail (a := p.2)
    show Sp (p.2 :: F.map (·.2)) (s.2 ^^^ (tred (tst s p) F).2)
    by_cases z : s.1.testBit p.1.log2 = true
    · have e : (tst s p).2 = s.2 ^^^ p.2 := by
        unfold tst
        rw [if_pos z]
      rw [e] at h
      have := h.xor (Sp.head p.2 (F.map (·.2)))
      have q : ∀ a b c : Nat, a ^^^ b ^^^ c ^^^ b = a ^^^ c := fun a b c => by rw [Nat.xor_assoc a b c, Nat.xor_comm b c, ← Nat.xor_assoc, xor_cancel_right]
      rwa [q] at this
    · have e : tst s p = s := by
        unfold tst
        rw [if_neg z]
      rw [e] at h ⊢
      exact h
abbrev TS2 := List PP × List Nat
def wst (l p : PP) : PP := if p.1.testBit l.1.log2 then (p.1 ^^^ l.1, p.2 ^^^ l.2) else p
def tstep (st : TS2) (k x : Nat) : TS2 := if (tred (x, 2 ^ k) st.1).1 = 0 then (st.1, st.2 ++ [(tred (x, 2 ^ k) st.1).2]) else (tred (x, 2 ^ k) st.1 :: st.1.map (wst (tred (x, 2 ^ k) st.1)), st.2)
def tgo : List Nat → Nat → TS2 → TS2
  | [], _, st => st
  | x :: xs, k, st => tgo xs (k + 1) (tstep st k x)
def tra (rs : List Nat) : TS2 := tgo rs 0 ([], [])
structure TOk (rs : List Nat) (k : Nat) (st : TS2) : Prop where
  rr : RR (st.1.map (·.1))
  fs : ∀ p ∈ st.1, app rs p.2 = p.1 ∧ p.2 < 2 ^ k
  is_ : ∀ m ∈ st.2, app rs m = 0 ∧ m < 2 ^ k
  sp : ∀ x, x < 2 ^ k → Sp (st.1.map (·.2) ++ st.2) x
  len : st.1.length + st.2.length = k
theorem TOk.step {rs : List Nat} {k x : Nat} {st : TS2} (h : TOk rs k st) (hx : app rs (2 ^ k) = x) : TOk rs (k + 1) (tstep st k x) := by
  have kk : 2 ^ k < 2 ^ (k + 1) := Nat.pow_lt_pow_right (by decide) (by omega)
  have e1 := tred_fst st.1 (x, 2 ^ k)
  have e2 := tred_rel (rs := rs) (F := st.1) (s := (x, 2 ^ k)) fun p hp => (h.fs p hp).1
  have e3 := tred_sp st.1 (x, 2 ^ k)
  have l2 : (tred (x, 2 ^ k) st.1).2 < 2 ^ (k + 1) := by
    have q := Sp.lt (w := k + 1) (fun b hb => by
      obtain ⟨p, hp, rfl⟩ := List.mem_map.mp hb
      exact Nat.lt_trans (h.fs p hp).2 kk) e3
    have := Nat.xor_lt_two_pow kk q
    rwa [xor_self_left] at this
  have e4 : app rs (tred (x, 2 ^ k) st.1).2 = (tred (x, 2 ^ k) st.1).1 := by
    have : app rs (2 ^ k) ^^^ x = 0 := by rw [hx, Nat.xor_self]
    exact xor_eq_zero (e2.trans this)
  generalize hl : tred (x, 2 ^ k) st.1 = l at *
  have split' : ∀ (C : List Nat), (∀ c ∈ st.1.map (·.2) ++ st.2, Sp C c) → Sp C l.2 → ∀ y, y < 2 ^ (k + 1) → Sp C y := fun C hC hl2 y hy => by
    have hk : Sp C (2 ^ k) := by
      have := (Sp.sub (fun b hb => hC b (List.mem_append_left _ hb)) e3).xor hl2
      rwa [xor_cancel_right] at this
    have low : ∀ z, z < 2 ^ k → Sp C z := fun z hz => Sp.sub hC (h.sp z hz)
    by_cases b : y.testBit k = true
    · have : y ^^^ 2 ^ k < 2 ^ k := lt_of_bits fun i hi => by
        rw [Nat.testBit_xor, Nat.testBit_two_pow]
        by_cases ei : k = i
        · subst ei
          simp [b]
        · rw [bit_big hy (by omega)]
          simp [ei]
      have := (low _ this).xor hk
      rwa [xor_cancel_right] at this
    · refine low y (lt_of_bits fun i hi => ?_)
      by_cases ei : k = i
      · subst ei
        simpa using b
      · exact bit_big hy (by omega)
  unfold tstep
  rw [hl]
  split
  · rename_i z
    refine ⟨h.rr, fun p hp => ⟨(h.fs p hp).1, Nat.lt_trans (h.fs p hp).2 kk⟩, fun m hm => ?_, ?_, ?_⟩
    · rcases List.mem_append.mp hm with hm | hm
      · exact ⟨(h.is_ m hm).1, Nat.lt_trans (h.is_ m hm).2 kk⟩
      · simp at hm
        rw [hm, e4, z]
        exact ⟨rfl, l2⟩
    · refine split' _ (fun c hc => .mem ?_) (.mem ?_)
      · rw [← List.append_assoc]
        exact List.mem_append_left _ hc
      · simp
    · simp
      have := h.len
      omega
  · rename_i z
    have tops : ∀ b ∈ st.1.map (·.1), l.1.testBit b.log2 = false := by
      rw [e1]
      exact red_top x h.rr
    have mp : (st.1.map (wst l)).map (·.1) = (st.1.map (·.1)).map (cst l.1) := by
      rw [List.map_map, List.map_map]
      apply List.map_congr_left
      intro p _
      show (wst l p).1 = cst l.1 p.1
      unfold wst cst
      split <;> rfl
    refine ⟨?_, fun p hp => ?_, fun m hm => ⟨(h.is_ m hm).1, Nat.lt_trans (h.is_ m hm).2 kk⟩, ?_, ?_⟩
    · rw [List.map_cons, mp]
      exact (h.rr.cst z tops).perm (by simpa using List.perm_append_comm (l₁ := (st.1.map (·.1)).map (cst l.1)) (l₂ := [l.1]))
    · rcases List.mem_cons.mp hp with e | hp
      · rw [e]
        exact ⟨e4, l2⟩
      · obtain ⟨q, hq, rfl⟩ := List.mem_map.mp hp
        have a := h.fs q hq
        unfold wst
        split
        · refine ⟨?_, Nat.xor_lt_two_pow (Nat.lt_trans a.2 kk) l2⟩
          show app rs (q.2 ^^^ l.2) = q.1 ^^^ l.1
          rw [app_xor, a.1, e4]
        · exact ⟨a.1, Nat.lt_trans a.2 kk⟩
    · have L : Sp ((l :: st.1.map (wst l)).map (·.2) ++ st.2) l.2 := .mem (by simp)
      refine split' _ (fun c hc => ?_) L
      rcases List.mem_append.mp hc with hc | hc
      · obtain ⟨q, hq, rfl⟩ := List.mem_map.mp hc
        have m : Sp ((l :: st.1.map (wst l)).map (·.2) ++ st.2) (wst l q).2 := .mem (List.mem_append_left _ (List.mem_map.mpr ⟨_, List.mem_cons_of_mem _ (List.mem_map_of_mem hq), rfl⟩))
        unfold wst at m
        split at m
        · have := m.xor L
          have e : (q.1 ^^^ l.1, q.2 ^^^ l.2).2 ^^^ l.2 = q.2 := xor_cancel_right _ _
          rwa [e] at this
        · exact m
      · exact .mem (List.mem_append_right _ hc)
    · simp
      have := h.len
      omega
/-! ### the way back -/
def trail (rs : List Nat) (x : Nat) : Option Nat := if (tred (x, 0) (tra rs).1).1 = 0 then some (tred (x, 0) (tra rs).1).2 else none
end Gf
namespace Fb
open PySem L2 Mm
noncomputable def m__law_box : MFn := mFn 1 (sRetF (fLst (aCons (mFrz (fCB fListOf (aCons (mFrz (fSl (eV 0) oNone (oSome (eC (.int 63))))) aNil))) (aCons (eC (.int 0)) (aCons (eC (.int 0)) (aCons (eC (.int 41)) aNil))))))
noncomputable def m__law_take : MFn := mFn 5 (sSeq (sIf (cB (eOp iGt (eOp fIx (eV 0) (eC (.int 2))) (eC (.int 0)))) (sSeq (sAsg (eOp fIx (eV 0) (eC (.int 2))) (gN 2))
    (sSeq (sPut 0 (eC (.int 2)) (eOp iDiv (eV 2) (eV 1)))
    (sRet (eOp iMod (eV 2) (eV 1))))) sNil)
    (sSeq (sAsg (eC (.int 0)) (gN 3))
    (sSeq (sIf (cB (eOp iLt (eOp fIx (eV 0) (eC (.int 1))) (eCB fLen (aCons (eOp fIx (eV 0) (eC (.int 0))) aNil)))) (sSeq (sAsg (eOp fIx (eOp fIx (eV 0) (eC (.int 0))) (eOp fIx (eV 0) (eC (.int 1)))) (gN 3))
    (sAugC (eV 0) (eC (.int 1)) (fun i j => i + j) (eC (.int 1)))) sNil)
    (sSeq (sIf (cB (eOp iGe (eV 3) (eOp iPow (eC (.int 10)) (eC (.int 18))))) (sSeq (sPut 0 (eC (.int 2)) (eOp iDiv (eV 3) (eV 1)))
    (sRet (eOp iMod (eV 3) (eV 1)))) sNil)
    (sSeq (sAsg (eOp fIx (eV 0) (eC (.int 3))) (gN 4))
    (sSeq (sPut 0 (eC (.int 3)) (eOp iMod (eOp dAdd (eOp dAdd (eOp dAdd (eOp iPow (eV 4) (eC (.int 3))) (eOp iMul (eC (.int 69621)) (eV 4))) (eOp iMul (eC (.int 40693)) (eOp iMod (eV 3) (eC (.int 2147483549))))) (eC (.int 17))) (eC (.int 2147483549))))
    (sRet (eOp iMod (eOp iDiv (eOp fIx (eV 0) (eC (.int 3))) (eC (.int 64))) (eV 1)))))))))
noncomputable def m_FoldU_initU : MFn := mFn 4 (sSeq (sIf (cOr (cB (eOp iLt (eV 2) (eC (.int 0)))) (cOr (cB (eOp iGt (eV 2) (eC (.int 12)))) (cB (eOp iGt (eCB fLen (aCons (eV 1) aNil)) (eC (.int 12)))))) (sRaise "BadFold") sNil)
    (sSeq (sFor (itL (eV 1)) (gN 3) (sIf (cOr (cB (eOp iLt (eV 3) (eC (.int 0)))) (cB (eOp iGt (eOp iShr (eV 3) (eV 2)) (eC (.int 0))))) (sRaise "BadFold") sNil))
    (sSeq (sFldC "Fold" "lines" (eV 0) (eCB fTupOf (aCons (eV 1) aNil)))
    (sFldC "Fold" "wide" (eV 0) (eV 2)))))
noncomputable def m__law_shuffled : MFn := mFn 4 (sSeq (sOwn 2 (fLst aNil))
    (sSeq (sFor (itL (eV 1)) (gN 3) (sIns 2 (eCall m__law_take [] (aCons (eV 0) (aCons (eOp dAdd (eLenA 2) (eC (.int 1))) aNil))) (eV 3)))
    (sRetO 2)))
noncomputable def m__law_numbers : MFn := mFn 4 (sRetF (fLc (itR1 (aCons (eV 1) aNil)) (gN 3) cYes (eCall m__law_take [] (aCons (eV 0) (aCons (eOp iShl (eC (.int 1)) (eV 2)) aNil))) [3]))
noncomputable def m__law_lines : MFn := mFn 9 (sSeq (sOwn 3 (fLc (itR1 (aCons (eV 2) aNil)) (gN 7) cYes (eOp iShl (eC (.int 1)) (eV 7)) [7]))
    (sFrz 3 (sSeq (sOwn 3 (fCall m__law_shuffled [] (aCons (eV 0) (aCons (eOp dAdd (eV 3) (eCall m__law_numbers [] (aCons (eV 0) (aCons (eOp iSub (eV 1) (eV 2)) (aCons (eV 2) aNil))))) aNil))))
    (sSeq (sFor (itR1 (aCons (eOp iMul (eCall m__law_take [] (aCons (eV 0) (aCons (eC (.int 7)) aNil))) (eCB fInt (aCons (eOp iGt (eV 1) (eC (.int 1))) aNil))) aNil)) (gN 4) (sSeq (sAsg (eCall m__law_take [] (aCons (eV 0) (aCons (eV 1) aNil))) (gN 5))
    (sSeq (sAsg (eOp dAdd (eOp dAdd (eV 5) (eC (.int 1))) (eCall m__law_take [] (aCons (eV 0) (aCons (eOp iSub (eV 1) (eC (.int 1))) aNil)))) (gN 6))
    (sPut 3 (eV 5) (eOp iXor (eIxA 3 (eV 5)) (eIxA 3 (eOp iMod (eV 6) (eV 1))))))))
    (sSeq (sFor (itR1 (aCons (eOp iMul (eCall m__law_take [] (aCons (eV 0) (aCons (eC (.int 4)) aNil))) (eCB fInt (aCons (eOp iGt (eV 2) (eC (.int 1))) aNil))) aNil)) (gN 4) (sSeq (sAsg (eCall m__law_take [] (aCons (eV 0) (aCons (eV 2) aNil))) (gN 5))
    (sSeq (sAsg (eOp iMod (eOp dAdd (eOp dAdd (eV 5) (eC (.int 1))) (eCall m__law_take [] (aCons (eV 0) (aCons (eOp iSub (eV 2) (eC (.int 1))) aNil)))) (eV 2)) (gN 6))
    (sFrz 3 (sOwn 3 (fLc (itL (eV 3)) (gN 8) cYes (eOp iXor (eV 8) (eOp iShl (eOp iAnd (eOp iShr (eV 8) (eV 5)) (eC (.int 1))) (eV 6))) [8]))))))
    (sFrz 3 (sRet (eCB fTupOf (aCons (eV 3) aNil)))))))))
noncomputable def m_Fold_many : MFn := mFn 1 (sRet (eCB fLen (aCons (eFld "Fold" "lines" (eV 0)) aNil)))
noncomputable def m_Fold_size : MFn := mFn 1 (sRet (eFld "Fold" "wide" (eV 0)))
noncomputable def m_blended : MFn := mFn 3 (sSeq (sAsg (eC (.int 0)) (gN 1))
    (sSeq (sFor (itL (eV 0)) (gN 2) (sAsg (eOp iXor (eV 1) (eV 2)) (gN 1)))
    (sRet (eV 1))))
noncomputable def m_picked : MFn := mFn 4 (sRet (eCall m_blended [] (aCons (mFrz (fLc (itES (aCons (eV 0) aNil)) (gT (gNC (gN 2) (gNC (gN 3) gN0))) (cB (eOp fEq (eOp iAnd (eOp iShr (eV 1) (eV 2)) (eC (.int 1))) (eC (.int 1)))) (eV 3) [2, 3])) aNil)))
noncomputable def m_Fold_to : MFn := mFn 2 (sSeq (sIf (cOr (cB (eOp iLt (eV 1) (eC (.int 0)))) (cB (eOp iGt (eOp iShr (eV 1) (eCB fLen (aCons (eFld "Fold" "lines" (eV 0)) aNil))) (eC (.int 0))))) (sRaise "BadNumber") sNil)
    (sRet (eCall m_picked [] (aCons (eFld "Fold" "lines" (eV 0)) (aCons (eV 1) aNil)))))
noncomputable def m_Fold_then : MFn := mFn 3 (sSeq (sIf (cB (eOp fNe (eMeth "Fold" "many" m_Fold_many [] (eV 1) aNil) (eFld "Fold" "wide" (eV 0)))) (sRaise "Unfit") sNil)
    (sRet (eNew "Fold" m_FoldU_initU [] (aCons (mFrz (fLc (itL (eFld "Fold" "lines" (eV 0))) (gN 2) cYes (eMeth "Fold" "to" m_Fold_to [] (eV 1) (aCons (eV 2) aNil)) [2])) (aCons (eMeth "Fold" "size" m_Fold_size [] (eV 1) aNil) aNil)))))
noncomputable def m_top_of : MFn := mFn 1 (sRet (eOp iShl (eC (.int 1)) (eOp iSub (eBits (eV 0)) (eC (.int 1)))))
noncomputable def m_reduced : MFn := mFn 4 (sSeq (sAsg (eV 0) (gN 2))
    (sSeq (sFor (itL (eV 1)) (gN 3) (sIf (cB (eOp iGt (eOp iAnd (eV 2) (eCall m_top_of [] (aCons (eV 3) aNil))) (eC (.int 0)))) (sAsg (eOp iXor (eV 2) (eV 3)) (gN 2)) sNil))
    (sRet (eV 2))))
noncomputable def m_basis_of : MFn := mFn 6 (sSeq (sAsg (mFrz (fLst aNil)) (gN 1))
    (sSeq (sFor (itL (eV 0)) (gN 2) (sSeq (sAsg (eCall m_reduced [] (aCons (eV 2) (aCons (eV 1) aNil))) (gN 3))
    (sIf (cB (eOp iGt (eV 3) (eC (.int 0)))) (sSeq (sAsg (eCall m_top_of [] (aCons (eV 3) aNil)) (gN 4))
    (sAsg (eOp dAdd (mFrz (fLc (itL (eV 1)) (gN 5) cYes (eIf (cB (eOp iGt (eOp iAnd (eV 5) (eV 4)) (eC (.int 0)))) (eOp iXor (eV 5) (eV 3)) (eV 5)) [5])) (mFrz (fLst (aCons (eV 3) aNil)))) (gN 1))) sNil)))
    (sRetF (fCB fSorted (aCons (eV 1) aNil)))))
noncomputable def m_Fold_onto : MFn := mFn 1 (sRet (eOp fEq (eCB fLen (aCons (eCall m_basis_of [] (aCons (eFld "Fold" "lines" (eV 0)) aNil)) aNil)) (eFld "Fold" "wide" (eV 0))))
noncomputable def m_traced : MFn := mFn 11 (sSeq (sAsg (mFrz (fLst aNil)) (gN 1))
    (sSeq (sOwn 2 (fLst aNil))
    (sSeq (sFor (itES (aCons (eV 0) aNil)) (gT (gNC (gN 3) (gNC (gN 4) gN0))) (sSeq (sPar 5 6 (aCons (eV 4) (aCons (eOp iShl (eC (.int 1)) (eV 3)) aNil)))
    (sSeq (sFor (itL (eV 1)) (gT (gNC (gN 7) (gNC (gN 8) gN0))) (sIf (cB (eOp iGt (eOp iAnd (eV 5) (eCall m_top_of [] (aCons (eV 7) aNil))) (eC (.int 0)))) (sPar 5 6 (aCons (eOp iXor (eV 5) (eV 7)) (aCons (eOp iXor (eV 6) (eV 8)) aNil))) sNil))
    (sIf (cB (eOp fEq (eV 5) (eC (.int 0)))) (sApp 2 (eV 6)) (sSeq (sAsg (eCall m_top_of [] (aCons (eV 5) aNil)) (gN 9))
    (sSeq (sOwn 10 (fLst (aCons (eTup (aCons (eV 5) (aCons (eV 6) aNil))) aNil)))
    (sSeq (sFor (itL (eV 1)) (gT (gNC (gN 7) (gNC (gN 8) gN0))) (sApp 10 (eIf (cB (eOp iGt (eOp iAnd (eV 7) (eV 9)) (eC (.int 0)))) (eTup (aCons (eOp iXor (eV 7) (eV 5)) (aCons (eOp iXor (eV 8) (eV 6)) aNil))) (eTup (aCons (eV 7) (aCons (eV 8) aNil))))))
    (sFrz 10 (sAsg (eV 10) (gN 1))))))))))
    (sFrz 2 (sRet (eTup (aCons (eV 1) (aCons (eV 2) aNil))))))))
noncomputable def m_trail_to : MFn := mFn 6 (sSeq (sPar 2 3 (aCons (eV 1) (aCons (eC (.int 0)) aNil)))
    (sSeq (sFor (itL (eOp fIx (eCall m_traced [] (aCons (eV 0) aNil)) (eC (.int 0)))) (gT (gNC (gN 4) (gNC (gN 5) gN0))) (sIf (cB (eOp iGt (eOp iAnd (eV 2) (eCall m_top_of [] (aCons (eV 4) aNil))) (eC (.int 0)))) (sPar 2 3 (aCons (eOp iXor (eV 2) (eV 4)) (aCons (eOp iXor (eV 3) (eV 5)) aNil))) sNil))
    (sRet (eIf (cB (eOp fEq (eV 2) (eC (.int 0)))) (eV 3) (eC .non)))))
noncomputable def m_Fold_kernel : MFn := mFn 1 (sRetF (fCall m_basis_of [] (aCons (eOp fIx (eCall m_traced [] (aCons (eFld "Fold" "lines" (eV 0)) aNil)) (eC (.int 1))) aNil)))
noncomputable def m_Fold_least : MFn := mFn 3 (sSeq (sAsg (eCall m_trail_to [] (aCons (eFld "Fold" "lines" (eV 0)) (aCons (eV 1) aNil))) (gN 2))
    (sRet (eIf (cB (eOp fIs (eV 2) (eC .non))) (eC .non) (eCall m_reduced [] (aCons (eV 2) (aCons (eMeth "Fold" "kernel" m_Fold_kernel [] (eV 0) aNil) aNil))))))
noncomputable def m_Fold_back : MFn := mFn 2 (sSeq (sIf (cNot (cB (eMeth "Fold" "onto" m_Fold_onto [] (eV 0) aNil))) (sRaise "NotOnto") sNil)
    (sRet (eNew "Fold" m_FoldU_initU [] (aCons (mFrz (fLc (itR1 (aCons (eFld "Fold" "wide" (eV 0)) aNil)) (gN 1) cYes (eMeth "Fold" "least" m_Fold_least [] (eV 0) (aCons (eOp iShl (eC (.int 1)) (eV 1)) aNil)) [1])) (aCons (eCB fLen (aCons (eFld "Fold" "lines" (eV 0)) aNil)) aNil)))))
noncomputable def m_span_of : MFn := mFn 4 (sSeq (sAsg (mFrz (fLst (aCons (eC (.int 0)) aNil))) (gN 1))
    (sSeq (sFor (itL (eV 0)) (gN 2) (sAsg (eOp dAdd (eV 1) (mFrz (fLc (itL (eV 1)) (gN 3) cYes (eOp iXor (eV 3) (eV 2)) [3]))) (gN 1)))
    (sRetF (fCB fSorted (aCons (eV 1) aNil)))))
noncomputable def m_through : MFn := mFn 4 (sSeq (sIf (cB (eOp fNe (eMeth "Fold" "many" m_Fold_many [] (eV 0) aNil) (eMeth "Fold" "many" m_Fold_many [] (eV 1) aNil))) (sRaise "Unfit") sNil)
    (sSeq (sAsg (eMeth "Fold" "back" m_Fold_back [] (eV 0) aNil) (gN 2))
    (sSeq (sFor (itL (eCall m_span_of [] (aCons (eMeth "Fold" "kernel" m_Fold_kernel [] (eV 0) aNil) aNil))) (gN 3) (sIf (cB (eOp fNe (eMeth "Fold" "to" m_Fold_to [] (eV 1) (aCons (eV 3) aNil)) (eC (.int 0)))) (sRet (eTup (aCons (eC (.str "parted")) (aCons (eV 3) aNil)))) sNil))
    (sRet (eTup (aCons (eC (.str "through")) (aCons (eMeth "Fold" "then" m_Fold_then [] (eV 2) (aCons (eV 1) aNil)) aNil)))))))
noncomputable def m_FoldU_eqU : MFn := mFn 2 (sRet (eAnd (eIsC "Fold" (aCons (eV 1) (aCons (eC (.cls "Fold")) aNil))) (eAnd (eOp fEq (eFld "Fold" "lines" (eV 0)) (eFld "Fold" "lines" (eV 1))) (eOp fEq (eFld "Fold" "wide" (eV 0)) (eFld "Fold" "wide" (eV 1))))))
noncomputable def m_Fold_single : MFn := mFn 1 (sRet (eOp fEq (eOp fIx (eCall m_traced [] (aCons (eFld "Fold" "lines" (eV 0)) aNil)) (eC (.int 1))) (mFrz (fLst aNil))))
noncomputable def m_need_numbers : MFn := mFn 3 (sFor (itL (eV 0)) (gN 2) (sIf (cOr (cB (eOp iLt (eV 2) (eC (.int 0)))) (cB (eOp iGt (eOp iShr (eV 2) (eV 1)) (eC (.int 0))))) (sRaise "BadNumber") sNil))
noncomputable def m_basis : MFn := mFn 1 (sSeq (sExpr (eCall m_need_numbers [.int 12] (aCons (eV 0) aNil)))
    (sRetF (fCall m_basis_of [] (aCons (eV 0) aNil))))
noncomputable def m_Fold_rows : MFn := mFn 1 (sRet (eFld "Fold" "lines" (eV 0)))
end Fb
/-! What the machine's defs answer. -/
namespace Mm
open PySem L2
/-! ### comparing -/
theorem pyAll_ints : ∀ xs : List Int, pyAll (xs.map D.int) = some (xs.map PyData.int)
  | [] => by simp [pyAll]
  | x :: xs => by simp [pyAll, D.py, pyAll_ints xs]
theorem canLay_ints : ∀ xs : List Int, PyData.canLayAll0 (xs.map PyData.int) = true
  | [] => by simp [PyData.canLayAll0]
  | x :: xs => by simp [PyData.canLayAll0, PyData.canLay0, canLay_ints xs]
theorem depth_ints : ∀ xs : List Int, PyData.depthAll (xs.map PyData.int) = 0
  | [] => by simp [PyData.depthAll]
  | x :: xs => by simp [PyData.depthAll, PyData.depth, depth_ints xs]
theorem eqv_ints : ∀ xs ys : List Int, PyData.eqvAll (xs.map PyData.int) (ys.map PyData.int) = decide (xs = ys)
  | [], [] => by simp [PyData.eqvAll]
  | [], y :: ys => by simp [PyData.eqvAll]
  | x :: xs, [] => by simp [PyData.eqvAll]
  | x :: xs, y :: ys => by
    rw [List.map_cons, List.map_cons, PyData.eqvAll, eqv_ints xs ys, PyData.eqv]
    by_cases h : x = y <;> by_cases h2 : xs = ys <;> simp [h, h2]
theorem shaped_list (xs : List Int) : SeqAt.shaped (.list (xs.map PyData.int)) = true := by simp [SeqAt.shaped, PyData.canLay0, PyData.depth, canLay_ints, depth_ints]
theorem shaped_tup (xs : List Int) : SeqAt.shaped (.tuple (xs.map PyData.int)) = true := by simp [SeqAt.shaped, PyData.canLay0, PyData.depth, canLay_ints, depth_ints]
theorem shaped_int (x : Int) : SeqAt.shaped (.int x) = true := by simp [SeqAt.shaped, PyData.canLay0, PyData.depth]
theorem shaped_bool (x : Bool) : SeqAt.shaped (.bool x) = true := by simp [SeqAt.shaped, PyData.canLay0, PyData.depth]
@[simp] theorem fEq_int (S : Sto) (i j : Int) : fEq S (.int i) (.int j) = some (.bl (decide (i = j))) := by
  simp [fEq, D.py, shaped_int, PyData.eqv]
  rfl
@[simp] theorem fNe_int (S : Sto) (i j : Int) : fNe S (.int i) (.int j) = some (.bl (!decide (i = j))) := by
  simp [fNe, D.py, shaped_int, PyData.eqv]
  rfl
@[simp] theorem fEq_bl (S : Sto) (i j : Bool) : fEq S (.bl i) (.bl j) = some (.bl (i == j)) := by
  simp [fEq, D.py, shaped_bool, PyData.eqv]
@[simp] theorem fNe_bl (S : Sto) (i j : Bool) : fNe S (.bl i) (.bl j) = some (.bl (!(i == j))) := by
  simp [fNe, D.py, shaped_bool, PyData.eqv]
theorem fEq_lstI (S : Sto) (xs ys : List Int) : fEq S (.lst (xs.map D.int)) (.lst (ys.map D.int)) = some (.bl (decide (xs = ys))) := by
  simp [fEq, D.py, pyAll_ints, shaped_list, PyData.eqv, eqv_ints]
theorem fEq_tupI (S : Sto) (xs ys : List Int) : fEq S (.tup (xs.map D.int)) (.tup (ys.map D.int)) = some (.bl (decide (xs = ys))) := by
  simp [fEq, D.py, pyAll_ints, shaped_tup, PyData.eqv, eqv_ints]
theorem fNe_lstI (S : Sto) (xs ys : List Int) : fNe S (.lst (xs.map D.int)) (.lst (ys.map D.int)) = some (.bl (!decide (xs = ys))) := by
  simp [fNe, D.py, pyAll_ints, shaped_list, PyData.eqv, eqv_ints]
theorem fNe_tupI (S : Sto) (xs ys : List Int) : fNe S (.tup (xs.map D.int)) (.tup (ys.map D.int)) = some (.bl (!decide (xs = ys))) := by
  simp [fNe, D.py, pyAll_ints, shaped_tup, PyData.eqv, eqv_ints]
theorem nl_eq (xs : List Nat) : nl xs = (xs.map Int.ofNat).map D.int := by simp [nl]
theorem ofNat_inj {xs ys : List Nat} : xs.map Int.ofNat = ys.map Int.ofNat ↔ xs = ys := by
  constructor
  · intro h
    have := congrArg (List.map Int.toNat) h
    rw [List.map_map, List.map_map] at this
    have e : Int.toNat ∘ Int.ofNat = id := by funext x; rfl
    simpa [e] using this
  · rintro rfl
    rfl
@[simp] theorem fEq_lst (S : Sto) (xs ys : List Nat) : fEq S (.lst (nl xs)) (.lst (nl ys)) = some (.bl (decide (xs = ys))) := by
  rw [nl_eq, nl_eq, fEq_lstI]
  congr 2
  exact decide_eq_decide.mpr ofNat_inj
@[simp] theorem fEq_tup (S : Sto) (xs ys : List Nat) : fEq S (.tup (nl xs)) (.tup (nl ys)) = some (.bl (decide (xs = ys))) := by
  rw [nl_eq, nl_eq, fEq_tupI]
  congr 2
  exact decide_eq_decide.mpr ofNat_inj
@[simp] theorem fEq_lst0 (S : Sto) (xs : List Nat) : fEq S (.lst (nl xs)) (.lst []) = some (.bl (decide (xs = []))) := fEq_lst S xs []
@[simp] theorem fNe_lst (S : Sto) (xs ys : List Nat) : fNe S (.lst (nl xs)) (.lst (nl ys)) = some (.bl (!decide (xs = ys))) := by
  rw [nl_eq, nl_eq, fNe_lstI]
  congr 3
  exact decide_eq_decide.mpr ofNat_inj
@[simp] theorem fNe_tup (S : Sto) (xs ys : List Nat) : fNe S (.tup (nl xs)) (.tup (nl ys)) = some (.bl (!decide (xs = ys))) := by
  rw [nl_eq, nl_eq, fNe_tupI]
  congr 3
  exact decide_eq_decide.mpr ofNat_inj
/-! ### sorting -/
theorem intsOf_ints : ∀ xs : List Int, intsOf (xs.map D.int) = some xs
  | [] => rfl
  | x :: xs => by simp [intsOf, intsOf_ints xs]
@[simp] theorem intsOf_nl (xs : List Nat) : intsOf (nl xs) = some (xs.map Int.ofNat) := by
  rw [nl_eq, intsOf_ints]
def nins (x : Nat) : List Nat → List Nat
  | [] => [x]
  | y :: ys => if x ≤ y then x :: y :: ys else y :: nins x ys
def nsrt : List Nat → List Nat
  | [] => []
  | x :: xs => nins x (nsrt xs)
theorem ins1_nat (x : Nat) : ∀ ys : List Nat, ins1 (Int.ofNat x) (ys.map Int.ofNat) = (nins x ys).map Int.ofNat
  | [] => rfl
  | y :: ys => by
    rw [List.map_cons, ins1, nins, ins1_nat x ys]
    by_cases h : x ≤ y
    · rw [if_pos h, if_pos (by simpa using h)]
      rfl
    · rw [if_neg h, if_neg (by simpa using h)]
      rfl
theorem isrt_nat : ∀ xs : List Nat, isrt (xs.map Int.ofNat) = (nsrt xs).map Int.ofNat
  | [] => rfl
  | x :: xs => by rw [List.map_cons, isrt, isrt_nat xs, nsrt, ins1_nat]
@[simp] theorem fSorted_nl (S : Sto) (xs : List Nat) : fSorted S [.lst (nl xs)] = some (.lst (nl (nsrt xs))) := by
  rw [fSorted_lst, intsOf_nl, Option.map_some, isrt_nat, nl_eq]
theorem nins_perm (x : Nat) : ∀ ys : List Nat, (nins x ys).Perm (x :: ys)
  | [] => .refl _
  | y :: ys => by
    unfold nins
    split
    · exact .refl _
    · exact ((nins_perm x ys).cons y).trans (.swap x y ys)
theorem nsrt_perm : ∀ xs : List Nat, (nsrt xs).Perm xs
  | [] => .refl _
  | x :: xs => (nins_perm x _).trans ((nsrt_perm xs).cons x)
@[simp] theorem nsrt_len (xs : List Nat) : (nsrt xs).length = xs.length := (nsrt_perm xs).length_eq
end Mm
namespace Fb
open PySem L2 Mm Gf
theorem nl_map {xs : List Nat} {f : D → D} {g : Nat → Nat} (h : ∀ x ∈ xs, f (nd x) = nd (g x)) : (nl xs).map f = nl (xs.map g) := by
  simp only [nl, List.map_map]
  exact List.map_congr_left fun x hx => h x hx
theorem mem_nl {d : D} {xs : List Nat} : d ∈ nl xs ↔ ∃ x ∈ xs, d = nd x := by
  unfold nl
  rw [List.mem_map]
  constructor
  · rintro ⟨x, hx, e⟩
    exact ⟨x, hx, e.symm⟩
  · rintro ⟨x, hx, e⟩
    exact ⟨x, hx, e.symm⟩
theorem and_pow_pos (l k : Nat) : decide ((0 : Int) < ((l &&& 2 ^ k : Nat) : Int)) = l.testBit k := by
  cases z : l.testBit k with
  | true =>
    have : (l &&& 2 ^ k).testBit k = true := by rw [Nat.testBit_and, z, Nat.testBit_two_pow]; simp
    have := ne_of_bit this
    exact decide_eq_true (by omega)
  | false =>
    have : l &&& 2 ^ k = 0 := Nat.eq_of_testBit_eq fun i => by
      rw [Nat.testBit_and, Nat.testBit_two_pow]
      by_cases e : k = i
      · subst e
        simp [z]
      · simp [e]
    rw [this]
    rfl
theorem powB_of {i : Int} {j : Int} (h0 : 0 ≤ j) (h1 : j ≤ 1000000) (hi : i.natAbs < 2 ^ 64) : powB i j = true := by
  unfold powB
  rw [decide_eq_true h0, bBnd_iff.mpr (show j.natAbs ≤ 1000000 by omega), bBnd_iff.mpr (show i.natAbs ≤ 18446744073709551615 by omega)]
  rfl
theorem top_ok (S : Sto) {n : Nat} (h : n ≠ 0) (hb : n.log2 ≤ 1000) : m_top_of [.int n] S = .ok (.val (nd (2 ^ n.log2))) S := by
  have e : ((n.log2 + 1 : Nat) : Int) - 1 = ((n.log2 : Nat) : Int) := by omega
  simp [m_top_of, bits_nat h]
  rw [if_pos (powB_of (by omega) (by omega) (by decide))]
  simp
end Fb
namespace Mm
open PySem L2
/-- a loop that leaves the store alone -/
theorem forM {α β σ : Type} {g : MG} {b : MS} {S : Sto} (φ : β → D) (E : α → σ → Envr) (f : α → β → α) (P : α → Prop) : ∀ (xs : List β),
    (∀ a s x, x ∈ xs → P a → ∃ e1, g (φ x) (E a s) = some e1 ∧ ∃ s2, b e1 S = .nx (E (f a x) s2) S ∧ P (f a x)) →
    ∀ a s, P a → ∃ s2, forL g b (xs.map φ) (E a s) S = .nx (E (xs.foldl f a) s2) S ∧ P (xs.foldl f a)
  | [], _, a, s, h => ⟨s, rfl, h⟩
  | x :: xs, step, a, s, h => by
    obtain ⟨e1, h1, s2, h2, h3⟩ := step a s x List.mem_cons_self h
    obtain ⟨s3, h4, h5⟩ := forM φ E f P xs (fun a s y hy => step a s y (List.mem_cons_of_mem _ hy)) (f a x) s2 h3
    refine ⟨s3, ?_, h5⟩
    rw [List.map_cons, forL, h1]
    simp only [h2]
    exact h4
@[simp] theorem wipe_nil (env : Envr) : wipeE env [] = env.map hideS := rfl
@[simp] theorem wipe_cons (env : Envr) (v : Nat) (vs : List Nat) : wipeE env (v :: vs) = (wipeE env vs).set v .no := rfl
@[simp] theorem hide_v (d : D) : hideS (.v d) = .v d := rfl
@[simp] theorem hide_o (d : Cell) : hideS (.o d) = .no := rfl
@[simp] theorem hide_no : hideS .no = .no := rfl
end Mm
namespace Fb
open PySem L2 Mm Gf
@[simp] theorem gt_band (a k : Nat) : (0 < Builtin.bitAnd (a : Int) (2 ^ k)) ↔ a.testBit k = true := by
  have h := and_pow_pos a k
  have e : (2 : Int) ^ k = ((2 ^ k : Nat) : Int) := by simp
  rw [e, band_nat]
  rw [← h]
  simp
theorem reduced_ok (S : Sto) (x : Nat) (B : List Nat) (h : ∀ b ∈ B, b ≠ 0 ∧ b.log2 ≤ 1000) : m_reduced [.int x, .lst (nl B)] S = .ok (.val (nd (red x B))) S := by
  obtain ⟨s2, e, _⟩ := forM (S := S) (g := gN 3) (b := sIf (cB (eOp iGt (eOp iAnd (eV 2) (eCall m_top_of [] (aCons (eV 3) aNil))) (eC (.int 0)))) (sAsg (eOp iXor (eV 2) (eV 3)) (gN 2)) sNil)
    nd (fun (l : Nat) (s : Sl) => [.v (nd x), .v (.lst (nl B)), .v (nd l), s]) rst (fun _ => True) B (fun a s b hb _ => by
      refine ⟨[.v (nd x), .v (.lst (nl B)), .v (nd a), .v (nd b)], rfl, .v (nd b), ?_, trivial⟩
      simp [top_ok S (h b hb).1 (h b hb).2]
      unfold rst
      cases a.testBit b.log2 <;> simp) x .no trivial
  simp [m_reduced]
  have e' : forL (gN 3) (sIf (cB (eOp iGt (eOp iAnd (eV 2) (eCall m_top_of [] (aCons (eV 3) aNil))) (eC (.int 0)))) (sAsg (eOp iXor (eV 2) (eV 3)) (gN 2)) sNil) (nl B) [.v (.int x), .v (.lst (nl B)), .v (.int x), .no] S = _ := e
  rw [e']
  rfl

/-! ### rows picked -/
def sel (x : Nat) : Nat → List Nat → List Nat
  | _, [] => []
  | k, r :: rs => if x.testBit k then r :: sel x (k + 1) rs else sel x (k + 1) rs
@[simp] theorem bit_and_one (x k : Nat) : (Builtin.bitAnd ((x : Int) >>> k) 1 = 1) ↔ x.testBit k = true := by
  have e : ((x : Int) >>> k) = ((x >>> k : Nat) : Int) := rfl
  have : Builtin.bitAnd (((x >>> k : Nat) : Int)) 1 = ((x >>> k &&& 1 : Nat) : Int) := band_nat (x >>> k) 1
  rw [e, this, Nat.and_one_is_mod, Nat.testBit_eq_decide_div_mod_eq, Nat.shiftRight_eq_div_pow, decide_eq_true_eq]
  omega
/-! ### bases -/
theorem small_log {w b : Nat} (hw : w ≤ 1000) (h0 : b ≠ 0) (h : b < 2 ^ w) : b.log2 ≤ 1000 := by
  have := (Nat.log2_lt h0).mpr h
  omega
def Small (w : Nat) (F : List Nat) : Prop := RR F ∧ ∀ b ∈ F, b < 2 ^ w
theorem Small.bst {w x : Nat} {F : List Nat} (h : Small w F) (hx : x < 2 ^ w) : Small w (bst F x) := by
  refine ⟨h.1.bst x, fun b hb => ?_⟩
  have := (sp_bst h.1).mp (Sp.mem hb)
  exact this.lt fun c hc => by
    rcases List.mem_cons.mp hc with e | hc
    · rw [e]
      exact hx
    · exact h.2 c hc
theorem basis_of_ok (S : Sto) {w : Nat} (xs : List Nat) (hw : w ≤ 1000) (h : ∀ x ∈ xs, x < 2 ^ w) (a : D) (ha : a = .tup (nl xs) ∨ a = .lst (nl xs)) : m_basis_of [a] S = .ok (.own (.lst (nl (nsrt (bas xs))))) S := by
  obtain ⟨s2, e, _⟩ := forM (S := S) (g := gN 2) (b := (sSeq (sAsg (eCall m_reduced [] (aCons (eV 2) (aCons (eV 1) aNil))) (gN 3))
    (sIf (cB (eOp iGt (eV 3) (eC (.int 0)))) (sSeq (sAsg (eCall m_top_of [] (aCons (eV 3) aNil)) (gN 4))
    (sAsg (eOp dAdd (mFrz (fLc (itL (eV 1)) (gN 5) cYes (eIf (cB (eOp iGt (eOp iAnd (eV 5) (eV 4)) (eC (.int 0)))) (eOp iXor (eV 5) (eV 3)) (eV 5)) [5])) (mFrz (fLst (aCons (eV 3) aNil)))) (gN 1))) sNil)))
    nd (fun (F : List Nat) (s : Sl × Sl × Sl) => [.v a, .v (.lst (nl F)), s.1, s.2.1, s.2.2, .no]) bst (Small w) xs (fun F s x hx hF => by
      refine ⟨[.v a, .v (.lst (nl F)), .v (nd x), s.2.1, s.2.2, .no], rfl, ?_⟩
      have r := reduced_ok S x F fun b hb => ⟨hF.1.1 b hb, small_log hw (hF.1.1 b hb) (hF.2 b hb)⟩
      have l := hF.1.len_le hF.2
      have rl : red x F < 2 ^ w := red_lt hF.2 (h x hx)
      by_cases z : red x F = 0
      · refine ⟨(.v (nd x), .v (nd (red x F)), s.2.2), ?_, hF.bst (h x hx)⟩
        have e : bst F x = F := if_pos z
        rw [e]
        simp [r, z]
      · refine ⟨(.v (nd x), .v (nd (red x F)), .v (nd (2 ^ (red x F).log2))), ?_, hF.bst (h x hx)⟩
        have e : bst F x = F.map (cst (red x F)) ++ [red x F] := if_neg z
        have t := top_ok S z (small_log hw z rl)
        have lc := lcR_map (S := S) (g := gN 5) (tt := cYes) (te := eIf (cB (eOp iGt (eOp iAnd (eV 5) (eV 4)) (eC (.int 0)))) (eOp iXor (eV 5) (eV 3)) (eV 5)) (env := [.v a, .v (.lst (nl F)), .v (nd x), .v (nd (red x F)), .v (nd (2 ^ (red x F).log2)), .no]) (fun _ => true) (fun d => match d with
          | .int i => nd (cst (red x F) i.toNat)
          | d => d) (nl F) (fun d hd => by
            obtain ⟨y, hy, rfl⟩ := mem_nl.mp hd
            refine ⟨[.v a, .v (.lst (nl F)), .v (nd x), .v (nd (red x F)), .v (nd (2 ^ (red x F).log2)), .v (nd y)], rfl, rfl, fun _ => ?_⟩
            simp
            unfold cst
            cases y.testBit (red x F).log2 <;> simp)
        rw [List.filter_eq_self.mpr (fun _ _ => rfl), nl_map (g := cst (red x F)) (fun y _ => by simp)] at lc
        have s1 := szB_of (n := F.length) (by omega)
        have s2 := szB_of (n := F.length + 1) (by omega)
        have s3 := szB_of (n := 1) (by omega)
        have pos : 0 < red x F := Nat.pos_of_ne_zero z
        simp [r, t, lc, s1, s2, s3, e, pos]
        exact nl_append _ [_]) [] (.no, .no, .no) ⟨.nil, fun _ h => by simp at h⟩
  have e' := e
  have fl : xs.foldl bst [] = bas xs := rfl
  rw [fl] at e'
  have s0 := szB_of (n := 0) (by omega)
  rcases ha with rfl | rfl <;> (simp [m_basis_of, s0]; erw [e']; simp)
end Fb
namespace Mm
open PySem L2
theorem atI_nat {α : Type} (xs : List α) (k : Nat) : atI xs (k : Int) = xs[k]? := by
  unfold atI ixN
  rw [if_pos (Int.natCast_nonneg k)]
  by_cases h : k < xs.length
  · rw [if_pos (by omega)]
    simp
  · rw [if_neg (by omega)]
    simp
    omega
@[simp] theorem atI_0 {α : Type} (x : α) (xs : List α) : atI (x :: xs) 0 = some x := atI_nat (x :: xs) 0
@[simp] theorem atI_1 {α : Type} (x y : α) (xs : List α) : atI (x :: y :: xs) 1 = some y := atI_nat (x :: y :: xs) 1
@[simp] theorem atI_2 {α : Type} (x y z : α) (xs : List α) : atI (x :: y :: z :: xs) 2 = some z := atI_nat (x :: y :: z :: xs) 2
@[simp] theorem atI_3 {α : Type} (x y z u : α) (xs : List α) : atI (x :: y :: z :: u :: xs) 3 = some u := atI_nat (x :: y :: z :: u :: xs) 3
end Mm
namespace Gf
def spl (B : List Nat) : List Nat := B.foldl (fun s b => s ++ s.map (· ^^^ b)) [0]
end Gf
namespace Fb
open PySem L2 Mm Gf
/-! ### traced -/
def pd (p : PP) : D := .tup [nd p.1, nd p.2]
def enumN (k : Nat) : List Nat → List PP
  | [] => []
  | x :: xs => (k, x) :: enumN (k + 1) xs
noncomputable def tFor1 : MS := sFor (itL (eV 1)) (gT (gNC (gN 7) (gNC (gN 8) gN0))) (sIf (cB (eOp iGt (eOp iAnd (eV 5) (eCall m_top_of [] (aCons (eV 7) aNil))) (eC (.int 0)))) (sPar 5 6 (aCons (eOp iXor (eV 5) (eV 7)) (aCons (eOp iXor (eV 6) (eV 8)) aNil))) sNil)
noncomputable def tFor2 : MS := sFor (itL (eV 1)) (gT (gNC (gN 7) (gNC (gN 8) gN0))) (sApp 10 (eIf (cB (eOp iGt (eOp iAnd (eV 7) (eV 9)) (eC (.int 0)))) (eTup (aCons (eOp iXor (eV 7) (eV 5)) (aCons (eOp iXor (eV 8) (eV 6)) aNil))) (eTup (aCons (eV 7) (aCons (eV 8) aNil)))))
noncomputable def tBody : MS := sSeq (sPar 5 6 (aCons (eV 4) (aCons (eOp iShl (eC (.int 1)) (eV 3)) aNil)))
    (sSeq tFor1
    (sIf (cB (eOp fEq (eV 5) (eC (.int 0)))) (sApp 2 (eV 6)) (sSeq (sAsg (eCall m_top_of [] (aCons (eV 5) aNil)) (gN 9))
    (sSeq (sOwn 10 (fLst (aCons (eTup (aCons (eV 5) (aCons (eV 6) aNil))) aNil)))
    (sSeq tFor2
    (sFrz 10 (sAsg (eV 10) (gN 1))))))))
theorem Small.tstep {w k x : Nat} {F : List PP} {I : List Nat} (h : Small w (F.map (·.1))) (hx : x < 2 ^ w) : Small w ((tstep (F, I) k x).1.map (·.1)) := by
  unfold Gf.tstep
  split
  · exact h
  · rename_i z
    have e : ((tred (x, 2 ^ k) F :: F.map (wst (tred (x, 2 ^ k) F))).map (·.1)).Perm (Gf.bst (F.map (·.1)) x) := by
      have f1 := tred_fst F (x, 2 ^ k)
      have z' : red x (F.map (·.1)) ≠ 0 := by
        rw [← f1]
        exact z
      have mp : (F.map (wst (tred (x, 2 ^ k) F))).map (·.1) = (F.map (·.1)).map (cst (tred (x, 2 ^ k) F).1) := by
        rw [List.map_map, List.map_map]
        apply List.map_congr_left
        intro p _
        show (wst _ p).1 = cst _ p.1
        unfold wst cst
        split <;> rfl
      have eb : Gf.bst (F.map (·.1)) x = (F.map (·.1)).map (cst (red x (F.map (·.1)))) ++ [red x (F.map (·.1))] := if_neg z'
      rw [eb, List.map_cons, mp, f1]
      exact (List.perm_append_comm (l₁ := [red x (F.map (·.1))]) (l₂ := (F.map (·.1)).map (cst (red x (F.map (·.1))))))
    exact ⟨(h.bst hx).1.perm e.symm, fun b hb => (h.bst hx).2 b (e.mem_iff.mp hb)⟩
/-! ### folds -/
def ffs (rs : List Nat) (w : Nat) : List (Str × D) := [("lines", .tup (nl rs)), ("wide", nd w)]
def fold (rs : List Nat) (w : Nat) : D := .ins "Fold" (ffs rs w)
@[simp] theorem fold_ins (S : Sto) (rs : List Nat) (w : Nat) : insOf "Fold" S (fold rs w) = some (ffs rs w) := by
  unfold fold
  simp
@[simp] theorem ffs_lines (rs : List Nat) (w : Nat) : (ffs rs w).lookup ("lines" : Str) = some (D.tup (nl rs)) := rfl
@[simp] theorem ffs_wide (rs : List Nat) (w : Nat) : (ffs rs w).lookup ("wide" : Str) = some (nd w) := rfl
@[simp] theorem ffs_to (rs : List Nat) (w : Nat) : (ffs rs w).lookup ("to" : Str) = none := rfl
@[simp] theorem ffs_many (rs : List Nat) (w : Nat) : (ffs rs w).lookup ("many" : Str) = none := rfl
@[simp] theorem ffs_size (rs : List Nat) (w : Nat) : (ffs rs w).lookup ("size" : Str) = none := rfl
@[simp] theorem ffs_then (rs : List Nat) (w : Nat) : (ffs rs w).lookup ("then" : Str) = none := rfl
@[simp] theorem ffs_kernel (rs : List Nat) (w : Nat) : (ffs rs w).lookup ("kernel" : Str) = none := rfl
@[simp] theorem ffs_onto (rs : List Nat) (w : Nat) : (ffs rs w).lookup ("onto" : Str) = none := rfl
@[simp] theorem ffs_single (rs : List Nat) (w : Nat) : (ffs rs w).lookup ("single" : Str) = none := rfl
@[simp] theorem ffs_back (rs : List Nat) (w : Nat) : (ffs rs w).lookup ("back" : Str) = none := rfl
@[simp] theorem ffs_least (rs : List Nat) (w : Nat) : (ffs rs w).lookup ("least" : Str) = none := rfl
@[simp] theorem ffs_rows (rs : List Nat) (w : Nat) : (ffs rs w).lookup ("rows" : Str) = none := rfl
@[simp] theorem ffs_part (rs : List Nat) (w : Nat) : (ffs rs w).lookup ("part" : Str) = none := rfl
@[simp] theorem ffs_beside (rs : List Nat) (w : Nat) : (ffs rs w).lookup ("beside" : Str) = none := rfl
/-- a fold that was made -/
structure FOk (rs : List Nat) (w : Nat) : Prop where
  len : rs.length ≤ 12
  wide : w ≤ 12
  lt : ∀ r ∈ rs, r < 2 ^ w
end Fb
namespace Mm
open PySem L2
theorem set_last {α : Type} (S : List α) (x y : α) : (S ++ [x]).set S.length y = S ++ [y] := by
  rw [List.set_append_right _ _ (Nat.le_refl _)]
  simp
theorem under_nl (n : Nat) (xs : List Nat) : underL n (nl xs) := by
  rw [nl_eq]
  exact under_ints n _
end Mm
namespace Fb
open PySem L2 Mm Gf
end Fb
namespace Gf
open Mm
/-- the kernel's basis, ordered -/
def kerL (rs : List Nat) : List Nat := nsrt (bas (tra rs).2)
/-- the least number that is led to x -/
def lst (rs : List Nat) (x : Nat) : Option Nat := (trail rs x).map fun m => red m (kerL rs)
def bk (rs : List Nat) (x : Nat) : Nat := (lst rs x).getD 0
def backL (rs : List Nat) (w : Nat) : List Nat := (List.range w).map fun i => bk rs (2 ^ i)
end Gf
namespace Fb
open PySem L2 Mm Gf
theorem rng0 (n : Nat) : rngD 0 n = nl (List.range n) := by
  unfold rngD nl
  apply List.map_congr_left
  intro i _
  show D.int (0 + (i : Int)) = nd i
  rw [Int.zero_add]
theorem rgB_nat {n : Nat} (h : n ≤ 100000) : rgB (n : Int) = true := by
  exact bBnd_iff.mpr (by omega)
def od : Option Nat → D
  | some m => nd m
  | none => .non
/-- what through tells of two folds from one count of digits, the first one onto -/
inductive Thr (rs ss : List Nat) (v w : Nat) : D → Prop
  | yes (h : ∀ x, x < 2 ^ rs.length → app rs x = 0 → app ss x = 0) : Thr rs ss v w (.tup [.str "through", fold ((backL rs v).map (app ss)) w])
  | no (x : Nat) (hx : x < 2 ^ rs.length) (h1 : app rs x = 0) (h2 : app ss x ≠ 0) (least : ∀ y, y < x → app rs y = 0 → app ss y = 0) : Thr rs ss v w (.tup [.str "parted", nd x])
end Fb
namespace Fb
open PySem L2 Mm Gf
/-- the law's box -/
def bx (xs : List Int) (i : Nat) (t s : Int) : Cell := .lst [.lst (xs.map D.int), .int i, .int t, .int s]
def Bx (b : Cell) : Prop := ∃ (xs : List Int) (i : Nat) (t s : Int), b = bx xs i t s ∧ s.natAbs < 2147483549
theorem divB_of {i : Int} {k : Nat} (h0 : 0 < k) (h1 : k < 1073741824) : divB i (k : Int) = true := by
  unfold divB
  rw [decide_eq_true (show (k : Int) ≠ 0 by omega), decide_eq_true (show (k : Int).natAbs < 1073741824 by omega)]
  rfl
theorem fmod_nat (i : Int) {k : Nat} (h : 0 < k) : ∃ r : Nat, i.fmod (k : Int) = (r : Int) ∧ r < k := by
  have h1 : 0 ≤ i.fmod (k : Int) := Int.fmod_nonneg_of_pos i (by omega)
  have h2 : i.fmod (k : Int) < k := Int.fmod_lt_of_pos i (by omega)
  exact ⟨(i.fmod (k : Int)).toNat, by omega, by omega⟩
theorem mulB_l {i j : Int} (h : i.natAbs ≤ 18446744073709551615) : mulB i j = true := by
  unfold mulB
  rw [bBnd_iff.mpr h, Bool.true_or]
theorem powB_nat {i : Int} (h : i.natAbs ≤ 18446744073709551615) (j : Nat) (hj : j ≤ 1000000) : powB i (j : Int) = true := powB_of (by omega) (by omega) (by omega)
@[simp] theorem ixN41 : ixN 4 1 = some 1 := rfl
@[simp] theorem ixN42 : ixN 4 2 = some 2 := rfl
@[simp] theorem ixN43 : ixN 4 3 = some 3 := rfl
noncomputable def takeTail : MS := sSeq (sIf (cB (eOp iGe (eV 3) (eOp iPow (eC (.int 10)) (eC (.int 18))))) (sSeq (sPut 0 (eC (.int 2)) (eOp iDiv (eV 3) (eV 1)))
    (sRet (eOp iMod (eV 3) (eV 1)))) sNil)
    (sSeq (sAsg (eOp fIx (eV 0) (eC (.int 3))) (gN 4))
    (sSeq (sPut 0 (eC (.int 3)) (eOp iMod (eOp dAdd (eOp dAdd (eOp dAdd (eOp iPow (eV 4) (eC (.int 3))) (eOp iMul (eC (.int 69621)) (eV 4))) (eOp iMul (eC (.int 40693)) (eOp iMod (eV 3) (eC (.int 2147483549))))) (eC (.int 17))) (eC (.int 2147483549))))
    (sRet (eOp iMod (eOp iDiv (eOp fIx (eV 0) (eC (.int 3))) (eC (.int 64))) (eV 1)))))
theorem m_take_eq : m__law_take = mFn 5 (sSeq (sIf (cB (eOp iGt (eOp fIx (eV 0) (eC (.int 2))) (eC (.int 0)))) (sSeq (sAsg (eOp fIx (eV 0) (eC (.int 2))) (gN 2))
    (sSeq (sPut 0 (eC (.int 2)) (eOp iDiv (eV 2) (eV 1)))
    (sRet (eOp iMod (eV 2) (eV 1))))) sNil)
    (sSeq (sAsg (eC (.int 0)) (gN 3))
    (sSeq (sIf (cB (eOp iLt (eOp fIx (eV 0) (eC (.int 1))) (eCB fLen (aCons (eOp fIx (eV 0) (eC (.int 0))) aNil)))) (sSeq (sAsg (eOp fIx (eOp fIx (eV 0) (eC (.int 0))) (eOp fIx (eV 0) (eC (.int 1)))) (gN 3))
    (sAugC (eV 0) (eC (.int 1)) (fun i j => i + j) (eC (.int 1)))) sNil) takeTail))) := rfl
theorem pow1018 : powB 10 18 = true := powB_of (by omega) (by omega) (by decide)
theorem tail_ok {S : Sto} {n : Nat} {xs : List Int} {i : Nat} {t s : Int} (hS : S[n]? = some (bx xs i t s)) (hs : s.natAbs < 2147483549) {k : Nat} (h0 : 0 < k) (h1 : k < 1073741824) (c : Int) :
    ∃ b' r, takeTail [.v (.ref n), .v (.int k), .no, .v (.int c), .no] S = .rt (.val (nd r)) (S.set n b') ∧ Bx b' ∧ r < k := by
  have hn : n < S.length := (List.getElem?_eq_some_iff.mp hS).1
  have kz' : ¬ k = 0 := by omega
  have dv := fun i : Int => divB_of (i := i) h0 h1
  have dv64 := fun i : Int => divB_of (i := i) (k := 64) (by decide) (by decide)
  have p18 := pow1018
  by_cases hc : (10 : Int) ^ 18 ≤ c
  · obtain ⟨r, e1, e2⟩ := fmod_nat c h0
    refine ⟨bx xs i (c.fdiv k) s, r, ?_, ⟨xs, i, _, s, rfl, hs⟩, e2⟩
    have hc' : (1000000000000000000 : Int) ≤ c := hc
    simp [takeTail, hS, bx, p18, hc', dv, kz', e1]
  · have hc' : ¬ (1000000000000000000 : Int) ≤ c := hc
    obtain ⟨q, q1, q2⟩ := fmod_nat c (k := 2147483549) (by decide)
    have pw := powB_nat (i := s) (by omega) 3 (by decide)
    have m1 := mulB_l (i := 69621) (j := s) (by decide)
    have m2 := fun j : Int => mulB_l (i := 40693) (j := j) (by decide)
    obtain ⟨s', s1, s2⟩ := fmod_nat (s ^ 3 + 69621 * s + 40693 * c.fmod 2147483549 + 17) (k := 2147483549) (by decide)
    obtain ⟨r, e1, e2⟩ := fmod_nat ((s' : Int).fdiv 64) h0
    refine ⟨bx xs i t s', r, ?_, ⟨xs, i, t, s', rfl, by omega⟩, e2⟩
    have s1' : (s ^ 3 + 69621 * s + 40693 * c.fmod 2147483549 + 17).fmod 2147483549 = (s' : Int) := s1
    have pw' : powB s 3 = true := pw
    have d64 : ∀ i : Int, divB i 64 = true := dv64
    have gs : ∀ x, (S.set n x)[n]? = some x := fun x => List.getElem?_set_self hn
    simp [takeTail, hS, bx, p18, hc', dv, d64, kz', pw', m1, m2, s1', e1, gs]
theorem take_ok {S : Sto} {n : Nat} {b : Cell} (hS : S[n]? = some b) (hb : Bx b) {k : Nat} (h0 : 0 < k) (h1 : k < 1073741824) : ∃ b' r, m__law_take [.ref n, .int k] S = .ok (.val (nd r)) (S.set n b') ∧ Bx b' ∧ r < k := by
  obtain ⟨xs, i, t, s, rfl, hs⟩ := hb
  have hn : n < S.length := (List.getElem?_eq_some_iff.mp hS).1
  have kz' : ¬ k = 0 := by omega
  have dv := fun i : Int => divB_of (i := i) h0 h1
  rw [m_take_eq]
  by_cases ht : 0 < t
  · obtain ⟨r, e1, e2⟩ := fmod_nat t h0
    refine ⟨bx xs i (t.fdiv k) s, r, ?_, ⟨xs, i, _, s, rfl, hs⟩, e2⟩
    simp [hS, bx, ht, dv, kz', e1]
  · by_cases hi : i < xs.length
    · have e : atI (xs.map D.int) (i : Int) = some (.int (xs[i])) := by
        rw [Mm.atI_nat]
        simp [hi]
      obtain ⟨b', r, h3, h4, h5⟩ := tail_ok (S := S.set n (bx xs (i + 1) t s)) (n := n) (List.getElem?_set_self hn) hs h0 h1 xs[i]
      refine ⟨b', r, ?_, h4, h5⟩
      rw [List.set_set] at h3
      have h3' : takeTail [.v (.ref n), .v (.int k), .no, .v (.int xs[i]), .no] (S.set n (.lst [.lst (xs.map D.int), .int ((i : Int) + 1), .int t, .int s])) = _ := h3
      simp [hS, bx, hi, e, ht]
      rw [h3']
    · obtain ⟨b', r, h3, h4, h5⟩ := tail_ok hS hs h0 h1 0
      refine ⟨b', r, ?_, h4, h5⟩
      simp [hS, bx, hi, ht]
      rw [h3]
theorem cut_map (ns : List Int) (lo hi : Option Int) : ∃ xs : List Int, cutD (ns.map D.int) lo hi = xs.map D.int := by
  unfold cutD
  exact ⟨(ns.drop (HT.sIx (ns.map D.int).length 0 lo)).take (HT.sIx (ns.map D.int).length (ns.map D.int).length hi - HT.sIx (ns.map D.int).length 0 lo), by rw [List.map_take, List.map_drop]⟩
theorem box_ok (ns : List Int) (S : Sto) : ∃ b, m__law_box [.scr ns] S = .ok (.own b) S ∧ Bx b := by
  have s4 := szB_of (n := 4) (by omega)
  obtain ⟨xs, e⟩ := cut_map ns none (some 63)
  refine ⟨bx xs 0 0 41, ?_, ⟨_, 0, 0, 41, rfl, by decide⟩⟩
  simp [m__law_box, s4, bx, e]
/-! ### drawn rows -/
end Fb
namespace Gf
theorem all_row {w n : Nat} {ls : List Nat} {o j : Nat} (hl : ls.length = n) (ho : o < n) (hj : j < n) (ne : o ≠ j) (a : All w ls) : All w (ls.set o (ls.getD o 0 ^^^ ls.getD j 0)) := fun x hx => by
  refine .sub (fun b hb => ?_) (a x hx)
  obtain ⟨i, hi⟩ := List.getElem?_of_mem hb
  have lo : o < ls.length := by omega
  have lj : j < ls.length := by omega
  have mj : Sp (ls.set o (ls.getD o 0 ^^^ ls.getD j 0)) (ls.getD j 0) := .mem (List.mem_of_getElem? (i := j) (by
    rw [List.getElem?_set_ne ne]
    simp [List.getD_eq_getElem?_getD, lj]))
  by_cases e : o = i
  · subst e
    have mo : Sp (ls.set o (ls.getD o 0 ^^^ ls.getD j 0)) (ls.getD o 0 ^^^ ls.getD j 0) := .mem (List.mem_of_getElem? (i := o) (List.getElem?_set_self lo))
    have := mo.xor mj
    have eb : ls.getD o 0 = b := by rw [List.getD_eq_getElem?_getD, hi]; rfl
    rw [xor_cancel_right] at this
    rw [← eb]
    exact this
  · exact .mem (List.mem_of_getElem? (i := i) (by rw [List.getElem?_set_ne e]; exact hi))
def phi (o f l : Nat) : Nat := l ^^^ if l.testBit o then 2 ^ f else 0
theorem phi_bit (o f l i : Nat) : (phi o f l).testBit i = (l.testBit i ^^ (l.testBit o && decide (f = i))) := by
  unfold phi
  rw [Nat.testBit_xor]
  congr 1
  split
  · rename_i z
    rw [z, Nat.testBit_two_pow]
    simp
  · rename_i z
    simp at z
    simp [z]
theorem phi_zero (o f : Nat) : phi o f 0 = 0 := by simp [phi]
theorem phi_xor (o f x y : Nat) : phi o f (x ^^^ y) = phi o f x ^^^ phi o f y := Nat.eq_of_testBit_eq fun i => by
  simp only [phi_bit, Nat.testBit_xor]
  cases x.testBit i <;> cases y.testBit i <;> cases x.testBit o <;> cases y.testBit o <;> cases decide (f = i) <;> rfl
theorem phi_phi {o f : Nat} (h : f ≠ o) (x : Nat) : phi o f (phi o f x) = x := Nat.eq_of_testBit_eq fun i => by
  simp only [phi_bit]
  simp [h]
theorem phi_lt {o f w l : Nat} (hl : l < 2 ^ w) (hf : f < w) : phi o f l < 2 ^ w := by
  unfold phi
  refine Nat.xor_lt_two_pow hl ?_
  split
  · exact Nat.pow_lt_pow_right (by decide) hf
  · exact Nat.two_pow_pos w
theorem all_col {w : Nat} {ls : List Nat} {o f : Nat} (hf : f < w) (ne : f ≠ o) (a : All w ls) : All w (ls.map (phi o f)) := fun x hx => by
  have := Sp.image (phi o f) (phi_zero o f) (phi_xor o f) (a (phi o f x) (phi_lt hx hf))
  rwa [phi_phi ne] at this
/-- rows onto all numbers of w digits -/
structure Lin (n w : Nat) (ls : List Nat) : Prop where
  len : ls.length = n
  lt : ∀ l ∈ ls, l < 2 ^ w
  all : All w ls
theorem Lin.row {n w : Nat} {ls : List Nat} {o j : Nat} (h : Lin n w ls) (ho : o < n) (hj : j < n) (ne : o ≠ j) : Lin n w (ls.set o (ls.getD o 0 ^^^ ls.getD j 0)) where
  len := by rw [List.length_set]; exact h.len
  lt := fun l hl => by
    rcases List.mem_or_eq_of_mem_set hl with hl | e
    · exact h.lt l hl
    · rw [e]
      have lo : o < ls.length := by have := h.len; omega
      have lj : j < ls.length := by have := h.len; omega
      refine Nat.xor_lt_two_pow (h.lt _ ?_) (h.lt _ ?_)
      · simp [List.getD_eq_getElem?_getD, lo]
      · simp [List.getD_eq_getElem?_getD, lj]
  all := all_row h.len ho hj ne h.all
theorem Lin.col {n w : Nat} {ls : List Nat} {o f : Nat} (h : Lin n w ls) (hf : f < w) (ne : f ≠ o) : Lin n w (ls.map (phi o f)) where
  len := by rw [List.length_map]; exact h.len
  lt := fun l hl => by
    obtain ⟨x, hx, rfl⟩ := List.mem_map.mp hl
    exact phi_lt (h.lt x hx) hf
  all := all_col hf ne h.all
theorem Lin.perm {n w : Nat} {ls ks : List Nat} (p : ks.Perm ls) (h : Lin n w ls) : Lin n w ks where
  len := p.length_eq.trans h.len
  lt := fun l hl => h.lt l (p.mem_iff.mp hl)
  all := fun x hx => (Sp.perm p).mpr (h.all x hx)
theorem Lin.plain {n w : Nat} {ys : List Nat} (hl : ys.length = n - w) (hw : w ≤ n) (lt : ∀ y ∈ ys, y < 2 ^ w) : Lin n w (plain w ++ ys) where
  len := by rw [List.length_append, plain_len]; omega
  lt := fun l h => by
    rcases List.mem_append.mp h with h | h
    · exact plain_lt l h
    · exact lt l h
  all := fun x hx => (plain_all w x hx).mono fun b hb => List.mem_append_left _ hb
end Gf
namespace Fb
open PySem L2 Mm Gf
noncomputable def lBody1 : MS := sSeq (sAsg (eCall m__law_take [] (aCons (eV 0) (aCons (eV 1) aNil))) (gN 5))
    (sSeq (sAsg (eOp dAdd (eOp dAdd (eV 5) (eC (.int 1))) (eCall m__law_take [] (aCons (eV 0) (aCons (eOp iSub (eV 1) (eC (.int 1))) aNil)))) (gN 6))
    (sPut 3 (eV 5) (eOp iXor (eIxA 3 (eV 5)) (eIxA 3 (eOp iMod (eV 6) (eV 1))))))
noncomputable def lBody2 : MS := sSeq (sAsg (eCall m__law_take [] (aCons (eV 0) (aCons (eV 2) aNil))) (gN 5))
    (sSeq (sAsg (eOp iMod (eOp dAdd (eOp dAdd (eV 5) (eC (.int 1))) (eCall m__law_take [] (aCons (eV 0) (aCons (eOp iSub (eV 2) (eC (.int 1))) aNil)))) (eV 2)) (gN 6))
    (sFrz 3 (sOwn 3 (fLc (itL (eV 3)) (gN 8) cYes (eOp iXor (eV 8) (eOp iShl (eOp iAnd (eOp iShr (eV 8) (eV 5)) (eC (.int 1))) (eV 6))) [8]))))
end Fb
namespace Fb
open PySem L2 Mm Gf
abbrev lEnv (n w : Nat) (ls : List Nat) (s4 s5 s6 : Sl) : Envr := [.v (.ref 0), .v (nd n), .v (nd w), .o (.lst (nl ls)), s4, s5, s6, .no, .no]
end Fb
namespace Mm
open PySem L2
@[simp] theorem eIsT_eq (me : ME) (m : MA) (env : Envr) (S : Sto) : eIsT me m env S = (me env S).bind fun d S1 => (m env S1).bind fun ds S2 => match d.tyN, tysOf ds with
  | some t, some ns => if szB ds.length then opt ((kitL t ns).map D.bl) S2 else .stuck
  | _, _ => .stuck := rfl
@[simp] theorem itZA_eq (m : MA) (env : Envr) (S : Sto) : itZA m env S = (m env S).bind fun ds S1 => match ds with
  | [.lst xs, .lst ys] => .ok (zipD xs ys) S1
  | [.tup xs, .tup ys] => .ok (zipD xs ys) S1
  | _ => .stuck := rfl
@[simp] theorem eChain_eq (f g : Sto → D → D → Option D) (ma mb mc : ME) (env : Envr) (S : Sto) : eChain f g ma mb mc env S = (ma env S).bind fun x S1 => (mb env S1).bind fun y S2 => match f S2 x y with
  | some (.bl true) => (mc env S2).bind fun z S3 => opt (g S3 y z) S3
  | some (.bl false) => .ok (.bl false) S2
  | _ => .stuck := rfl
@[simp] theorem eCnt_eq (mo me : ME) (env : Envr) (S : Sto) : eCnt mo me env S = (mo env S).bind fun d S1 => match d with
  | .lst ds => (me env S1).bind fun k S2 => (match k with
    | .int k => opt ((intsOf ds).map fun ns => D.int (ns.count k : Nat)) S2
    | _ => .stuck)
  | _ => .stuck := rfl
@[simp] theorem fMin2_eq (S : Sto) (i j : Int) : fMin2 S [.int i, .int j] = some (.int (if j < i then j else i)) := rfl
@[simp] theorem fMax2_eq (S : Sto) (i j : Int) : fMax2 S [.int i, .int j] = some (.int (if j > i then j else i)) := rfl
@[simp] theorem eTried_eq (cs : List Str) (me : ME) (env : Envr) (S : Sto) : eTried cs me env S = tryW cs (me (wipeE env []) S) := rfl
@[simp] theorem tryW_ok (cs : List Str) (d : D) (S : Sto) : tryW cs (.ok d S) = .ok (.tup [.str "told", d]) S := rfl
theorem tryW_exc (cs : List Str) (c : Str) (S : Sto) : tryW cs (.exc c none S) = if c ∈ cs then .ok (.tup (wordsOf c)) S else .stuck := rfl
@[simp] theorem cLend_eq (is : List Nat) (m : MT) (env : Envr) (S : Sto) : cLend is m env S = (match m (lendE is env) [] with
  | .ok b _ => .ok b S
  | _ => .stuck) := rfl
theorem wordsOf_of {c w : Str} (h : (wordL.filter fun p => decide (p.2 = c)) = [(w, c)]) : wordsOf c = [.str w] := by
  unfold wordsOf
  rw [h]
  rfl
@[simp] theorem wordsOf_BadNumber : wordsOf "BadNumber" = [.str "badnumber"] := wordsOf_of (by decide +kernel)
@[simp] theorem wordsOf_BadFold : wordsOf "BadFold" = [.str "badfold"] := wordsOf_of (by decide +kernel)
@[simp] theorem wordsOf_Unfit : wordsOf "Unfit" = [.str "unfit"] := wordsOf_of (by decide +kernel)
@[simp] theorem wordsOf_NotPart : wordsOf "NotPart" = [.str "notpart"] := wordsOf_of (by decide +kernel)
@[simp] theorem wordsOf_NotOnto : wordsOf "NotOnto" = [.str "notonto"] := wordsOf_of (by decide +kernel)
@[simp] theorem wordsOf_BadSize : wordsOf "BadSize" = [.str "badsize"] := wordsOf_of (by decide +kernel)
@[simp] theorem wordsOf_NoBerth : wordsOf "NoBerth" = [.str "noberth"] := wordsOf_of (by decide +kernel)
@[simp] theorem wordsOf_BadSides : wordsOf "BadSides" = [.str "badsides"] := wordsOf_of (by decide +kernel)
@[simp] theorem wordsOf_BadRows : wordsOf "BadRows" = [.str "badrows"] := wordsOf_of (by decide +kernel)
@[simp] theorem tyN_non : D.tyN .non = some "NoneType" := rfl
@[simp] theorem tyN_bl (b : Bool) : D.tyN (.bl b) = some "bool" := rfl
@[simp] theorem tyN_int (b : Int) : D.tyN (.int b) = some "int" := rfl
@[simp] theorem tyN_str (b : Str) : D.tyN (.str b) = some "str" := rfl
@[simp] theorem tyN_lst (b : List D) : D.tyN (.lst b) = some "list" := rfl
@[simp] theorem tyN_tup (b : List D) : D.tyN (.tup b) = some "tuple" := rfl
end Mm
namespace Fb
open PySem L2 Mm Gf
noncomputable def m__law_same : Nat → MFn
  | 0 => fun _ _ => .stuck
  | n + 1 => mFn 4 (sSeq (sIf (cB (eIsT (eV 1) (aCons (eC (.ty "list")) (aCons (eC (.ty "tuple")) aNil)))) (sSeq (sIf (cOr (cB (eOp fNe (eCB fIsi (aCons (eV 0) (aCons (eC (.ty "list")) aNil))) (eCB fIsi (aCons (eV 1) (aCons (eC (.ty "list")) aNil))))) (cB (eOp fNe (eCB fIsi (aCons (eV 0) (aCons (eC (.ty "tuple")) aNil))) (eCB fIsi (aCons (eV 1) (aCons (eC (.ty "tuple")) aNil)))))) (sRet (eC (.bl false))) sNil)
    (sRet (eAnd (eOp fEq (eCB fLen (aCons (eV 0) aNil)) (eCB fLen (aCons (eV 1) aNil))) (eCB fAll (aCons (mFrz (fLc (itZA (aCons (eV 0) (aCons (eV 1) aNil))) (gT (gNC (gN 2) (gNC (gN 3) gN0))) cYes (eCall (m__law_same n) [] (aCons (eV 2) (aCons (eV 3) aNil))) [2, 3])) aNil))))) sNil)
    (sSeq (sIf (cOr (cB (eOp fNe (eOp fIs (eV 0) (eC .non)) (eOp fIs (eV 1) (eC .non)))) (cB (eOp fNe (eCB fIsi (aCons (eV 0) (aCons (eC (.ty "bool")) aNil))) (eCB fIsi (aCons (eV 1) (aCons (eC (.ty "bool")) aNil)))))) (sRet (eC (.bl false))) sNil)
    (sSeq (sIf (cB (eOp fNe (eCB fIsi (aCons (eV 0) (aCons (eC (.ty "int")) aNil))) (eCB fIsi (aCons (eV 1) (aCons (eC (.ty "int")) aNil))))) (sRet (eC (.bl false))) sNil)
    (sRet (eAnd (eOp fEq (eCB fIsi (aCons (eV 0) (aCons (eC (.ty "str")) aNil))) (eCB fIsi (aCons (eV 1) (aCons (eC (.ty "str")) aNil)))) (eOp fEq (eV 0) (eV 1)))))))
noncomputable def m__law_images : MFn := mFn 4 (sSeq (sAsg (mFrz (fLst (aCons (eC (.int 0)) aNil))) (gN 1))
    (sSeq (sFor (itL (eV 0)) (gN 2) (sAsg (eOp dAdd (eV 1) (mFrz (fLc (itL (eV 1)) (gN 3) cYes (eOp iXor (eV 3) (eV 2)) [3]))) (gN 1)))
    (sRet (eV 1))))
noncomputable def m__law_blend : MFn := mFn 3 (sSeq (sAsg (eC (.int 0)) (gN 1))
    (sSeq (sFor (itL (eV 0)) (gN 2) (sAsg (eOp iXor (eV 1) (eV 2)) (gN 1)))
    (sRet (eV 1))))
noncomputable def m__law_to : MFn := mFn 4 (sRet (eCall m__law_blend [] (aCons (mFrz (fLc (itES (aCons (eV 0) aNil)) (gT (gNC (gN 2) (gNC (gN 3) gN0))) (cB (eOp fEq (eOp iAnd (eOp iShr (eV 1) (eV 2)) (eC (.int 1))) (eC (.int 1)))) (eV 3) [2, 3])) aNil)))
noncomputable def m__law_of : MFn := mFn 2 (sRet (eOp fIx (eV 1) (eCall m__law_take [] (aCons (eV 0) (aCons (eCB fLen (aCons (eV 1) aNil)) aNil)))))
noncomputable def m_blend : MFn := mFn 1 (sSeq (sExpr (eCall m_need_numbers [.int 12] (aCons (eV 0) aNil)))
    (sRet (eCall m_blended [] (aCons (eV 0) aNil))))
noncomputable def m__law_span : MFn := mFn 4 (sSeq (sAsg (mFrz (fLst (aCons (eC (.int 0)) aNil))) (gN 1))
    (sSeq (sFor (itL (eV 0)) (gN 2) (sIf (cB (eOp (fIn true) (eV 2) (eV 1))) (sAsg (eOp dAdd (eV 1) (mFrz (fLc (itL (eV 1)) (gN 3) cYes (eOp iXor (eV 3) (eV 2)) [3]))) (gN 1)) sNil))
    (sRet (eV 1))))
noncomputable def m__law_top : MFn := mFn 2 (sSeq (sAsg (eC (.int 0)) (gN 1))
    (sSeq (whL (cB (eOp iGt (eOp iShr (eV 0) (eV 1)) (eC (.int 1)))) (sAug 1 (fun i j => i + j) (eC (.int 1))) 100)
    (sRet (eV 1))))
noncomputable def m__law_is_basis : MFn := mFn 5 (sSeq (sIf (cOr (cNot (cB (eCall (m__law_same 4) [] (aCons (eV 0) (aCons (mFrz (fCB fSorted (aCons (eV 0) aNil))) aNil))))) (cOr (cB (eOp (fIn false) (eC (.int 0)) (eV 0))) (cB (eOp fNe (mFrz (fCB fSorted (aCons (eCall m__law_span [] (aCons (eV 0) aNil)) aNil))) (mFrz (fCB fSorted (aCons (eV 1) aNil))))))) (sRet (eC (.bl false))) sNil)
    (sSeq (sIf (cB (eOp fNe (eCB fLen (aCons (eV 1) aNil)) (eOp iShl (eC (.int 1)) (eCB fLen (aCons (eV 0) aNil))))) (sRet (eC (.bl false))) sNil)
    (sSeq (sAsg (mFrz (fLc (itL (eV 0)) (gN 3) cYes (eCall m__law_top [] (aCons (eV 3) aNil)) [3])) (gN 2))
    (sRet (eCB fAll (aCons (mFrz (fLc (itL (eV 2)) (gN 4) cYes (eOp fEq (eCnt (mFrz (fLc (itL (eV 0)) (gN 3) cYes (eOp iAnd (eOp iShr (eV 3) (eV 4)) (eC (.int 1))) [3])) (eC (.int 1))) (eC (.int 1))) [4])) aNil))))))
noncomputable def m__law_far : MFn := mFn 1 (sRet (eOp fIx (mFrz (fLst (aCons (eUn fNeg (eC (.int 1))) (aCons (eC (.int 4096)) (aCons (eOp iPow (eC (.int 10)) (eC (.int 20))) (aCons (eUn fNeg (eOp iPow (eC (.int 10)) (eC (.int 30)))) aNil)))))) (eCall m__law_take [] (aCons (eV 0) (aCons (eC (.int 4)) aNil)))))
noncomputable def m_meet : MFn := mFn 5 (sSeq (sExpr (eCall m_need_numbers [.int 12] (aCons (eOp dAdd (mFrz (fCB fListOf (aCons (eV 0) aNil))) (mFrz (fCB fListOf (aCons (eV 1) aNil)))) aNil)))
    (sSeq (sAsg (eOp dAdd (mFrz (fLc (itL (eV 0)) (gN 3) cYes (eOp dAdd (eOp iMul (eV 3) (eC (.int 4096))) (eV 3)) [3])) (mFrz (fLc (itL (eV 1)) (gN 3) cYes (eOp iMul (eV 3) (eC (.int 4096))) [3]))) (gN 2))
    (sRetF (fLc (itL (eCall m_basis_of [] (aCons (eV 2) aNil))) (gN 4) (cB (eOp iLt (eV 4) (eC (.int 4096)))) (eV 4) [4]))))
end Fb
namespace Mm
open PySem L2
/-- comprehensions that leave the store alone, over any list -/
theorem lc_gen {β : Type} {g : MG} {tt : MT} {te : ME} {env : Envr} {S : Sto} (ψ : β → D) (p : β → Bool) (φ : β → D) : ∀ (xs : List β), (∀ y ∈ xs, ∃ e1, g (ψ y) env = some e1 ∧ tt e1 S = .ok (p y) S ∧ (p y = true → te e1 S = .ok (φ y) S)) → lcR g tt te env (xs.map ψ) S = .ok ((xs.filter p).map φ) S
  | [], _ => rfl
  | y :: xs, h => by
    obtain ⟨e1, h1, h2, h3⟩ := h y List.mem_cons_self
    have ih := lc_gen (g := g) (tt := tt) (te := te) (env := env) (S := S) ψ p φ xs fun z hz => h z (List.mem_cons_of_mem _ hz)
    rw [List.map_cons, lcR, h1]
    simp only [h2]
    cases hp : p y with
    | true =>
      simp only [h3 hp, ih, bind_ok']
      rw [List.filter_cons_of_pos hp, List.map_cons]
    | false =>
      simp only [ih]
      rw [List.filter_cons_of_neg (by simp [hp])]
theorem lc_all {β : Type} {g : MG} {te : ME} {env : Envr} {S : Sto} (ψ φ : β → D) (xs : List β) (h : ∀ y ∈ xs, ∃ e1, g (ψ y) env = some e1 ∧ te e1 S = .ok (φ y) S) : lcR g cYes te env (xs.map ψ) S = .ok (xs.map φ) S := by
  have := lc_gen (g := g) (tt := cYes) (te := te) (env := env) (S := S) ψ (fun _ => true) φ xs fun y hy => by
    obtain ⟨e1, h1, h2⟩ := h y hy
    exact ⟨e1, h1, rfl, fun _ => h2⟩
  rwa [List.filter_eq_self.mpr (fun _ _ => rfl)] at this
end Mm
namespace Fb
open PySem L2 Mm Gf
theorem lc_nl {te : ME} {k : Nat} {env : Envr} {S : Sto} (f : Nat → Nat) (xs : List Nat) (h : ∀ y ∈ xs, te (env.set k (.v (nd y))) S = .ok (nd (f y)) S) : lcR (gN k) cYes te env (nl xs) S = .ok (nl (xs.map f)) S := by
  have := lc_all (g := gN k) (te := te) (env := env) (S := S) nd (fun y => nd (f y)) xs fun y hy => ⟨_, rfl, h y hy⟩
  unfold nl
  rw [this, List.map_map]
  rfl
theorem lc_nlp {tt : MT} {te : ME} {k : Nat} {env : Envr} {S : Sto} (p : Nat → Bool) (f : Nat → Nat) (xs : List Nat) (h : ∀ y ∈ xs, tt (env.set k (.v (nd y))) S = .ok (p y) S ∧ (p y = true → te (env.set k (.v (nd y))) S = .ok (nd (f y)) S)) : lcR (gN k) tt te env (nl xs) S = .ok (nl ((xs.filter p).map f)) S := by
  have := lc_gen (g := gN k) (tt := tt) (te := te) (env := env) (S := S) nd p (fun y => nd (f y)) xs fun y hy => ⟨_, rfl, (h y hy).1, (h y hy).2⟩
  unfold nl
  rw [this, List.map_map]
  rfl
/-! ### same -/
@[simp] theorem kl_int : kitL "int" ["list", "tuple"] = some false := by decide +kernel
@[simp] theorem kl_bool : kitL "bool" ["list", "tuple"] = some false := by decide +kernel
@[simp] theorem kl_str : kitL "str" ["list", "tuple"] = some false := by decide +kernel
@[simp] theorem kl_non : kitL "NoneType" ["list", "tuple"] = some false := by decide +kernel
@[simp] theorem kl_list : kitL "list" ["list", "tuple"] = some true := by decide +kernel
@[simp] theorem kl_tuple : kitL "tuple" ["list", "tuple"] = some true := by decide +kernel
@[simp] theorem isi_non_list (S : Sto) : fIsi S [.non, .ty "list"] = some (.bl false) := congrArg (Option.map D.bl) (by decide +kernel : kitB "NoneType" "list" = some false)
@[simp] theorem isi_non_tuple (S : Sto) : fIsi S [.non, .ty "tuple"] = some (.bl false) := congrArg (Option.map D.bl) (by decide +kernel : kitB "NoneType" "tuple" = some false)
@[simp] theorem isi_non_bool (S : Sto) : fIsi S [.non, .ty "bool"] = some (.bl false) := congrArg (Option.map D.bl) (by decide +kernel : kitB "NoneType" "bool" = some false)
@[simp] theorem isi_non_int (S : Sto) : fIsi S [.non, .ty "int"] = some (.bl false) := congrArg (Option.map D.bl) (by decide +kernel : kitB "NoneType" "int" = some false)
@[simp] theorem isi_non_str (S : Sto) : fIsi S [.non, .ty "str"] = some (.bl false) := congrArg (Option.map D.bl) (by decide +kernel : kitB "NoneType" "str" = some false)
@[simp] theorem isi_bl_list (S : Sto) (b : Bool) : fIsi S [(.bl b), .ty "list"] = some (.bl false) := congrArg (Option.map D.bl) (by decide +kernel : kitB "bool" "list" = some false)
@[simp] theorem isi_bl_tuple (S : Sto) (b : Bool) : fIsi S [(.bl b), .ty "tuple"] = some (.bl false) := congrArg (Option.map D.bl) (by decide +kernel : kitB "bool" "tuple" = some false)
@[simp] theorem isi_bl_bool (S : Sto) (b : Bool) : fIsi S [(.bl b), .ty "bool"] = some (.bl true) := congrArg (Option.map D.bl) (by decide +kernel : kitB "bool" "bool" = some true)
@[simp] theorem isi_bl_int (S : Sto) (b : Bool) : fIsi S [(.bl b), .ty "int"] = some (.bl true) := congrArg (Option.map D.bl) (by decide +kernel : kitB "bool" "int" = some true)
@[simp] theorem isi_bl_str (S : Sto) (b : Bool) : fIsi S [(.bl b), .ty "str"] = some (.bl false) := congrArg (Option.map D.bl) (by decide +kernel : kitB "bool" "str" = some false)
@[simp] theorem isi_int_list (S : Sto) (b : Int) : fIsi S [(.int b), .ty "list"] = some (.bl false) := congrArg (Option.map D.bl) (by decide +kernel : kitB "int" "list" = some false)
@[simp] theorem isi_int_tuple (S : Sto) (b : Int) : fIsi S [(.int b), .ty "tuple"] = some (.bl false) := congrArg (Option.map D.bl) (by decide +kernel : kitB "int" "tuple" = some false)
@[simp] theorem isi_int_bool (S : Sto) (b : Int) : fIsi S [(.int b), .ty "bool"] = some (.bl false) := congrArg (Option.map D.bl) (by decide +kernel : kitB "int" "bool" = some false)
@[simp] theorem isi_int_int (S : Sto) (b : Int) : fIsi S [(.int b), .ty "int"] = some (.bl true) := congrArg (Option.map D.bl) (by decide +kernel : kitB "int" "int" = some true)
@[simp] theorem isi_int_str (S : Sto) (b : Int) : fIsi S [(.int b), .ty "str"] = some (.bl false) := congrArg (Option.map D.bl) (by decide +kernel : kitB "int" "str" = some false)
@[simp] theorem isi_str_list (S : Sto) (b : Str) : fIsi S [(.str b), .ty "list"] = some (.bl false) := congrArg (Option.map D.bl) (by decide +kernel : kitB "str" "list" = some false)
@[simp] theorem isi_str_tuple (S : Sto) (b : Str) : fIsi S [(.str b), .ty "tuple"] = some (.bl false) := congrArg (Option.map D.bl) (by decide +kernel : kitB "str" "tuple" = some false)
@[simp] theorem isi_str_bool (S : Sto) (b : Str) : fIsi S [(.str b), .ty "bool"] = some (.bl false) := congrArg (Option.map D.bl) (by decide +kernel : kitB "str" "bool" = some false)
@[simp] theorem isi_str_int (S : Sto) (b : Str) : fIsi S [(.str b), .ty "int"] = some (.bl false) := congrArg (Option.map D.bl) (by decide +kernel : kitB "str" "int" = some false)
@[simp] theorem isi_str_str (S : Sto) (b : Str) : fIsi S [(.str b), .ty "str"] = some (.bl true) := congrArg (Option.map D.bl) (by decide +kernel : kitB "str" "str" = some true)
@[simp] theorem isi_lst_list (S : Sto) (b : List D) : fIsi S [(.lst b), .ty "list"] = some (.bl true) := congrArg (Option.map D.bl) (by decide +kernel : kitB "list" "list" = some true)
@[simp] theorem isi_lst_tuple (S : Sto) (b : List D) : fIsi S [(.lst b), .ty "tuple"] = some (.bl false) := congrArg (Option.map D.bl) (by decide +kernel : kitB "list" "tuple" = some false)
@[simp] theorem isi_lst_bool (S : Sto) (b : List D) : fIsi S [(.lst b), .ty "bool"] = some (.bl false) := congrArg (Option.map D.bl) (by decide +kernel : kitB "list" "bool" = some false)
@[simp] theorem isi_lst_int (S : Sto) (b : List D) : fIsi S [(.lst b), .ty "int"] = some (.bl false) := congrArg (Option.map D.bl) (by decide +kernel : kitB "list" "int" = some false)
@[simp] theorem isi_lst_str (S : Sto) (b : List D) : fIsi S [(.lst b), .ty "str"] = some (.bl false) := congrArg (Option.map D.bl) (by decide +kernel : kitB "list" "str" = some false)
@[simp] theorem isi_tup_list (S : Sto) (b : List D) : fIsi S [(.tup b), .ty "list"] = some (.bl false) := congrArg (Option.map D.bl) (by decide +kernel : kitB "tuple" "list" = some false)
@[simp] theorem isi_tup_tuple (S : Sto) (b : List D) : fIsi S [(.tup b), .ty "tuple"] = some (.bl true) := congrArg (Option.map D.bl) (by decide +kernel : kitB "tuple" "tuple" = some true)
@[simp] theorem isi_tup_bool (S : Sto) (b : List D) : fIsi S [(.tup b), .ty "bool"] = some (.bl false) := congrArg (Option.map D.bl) (by decide +kernel : kitB "tuple" "bool" = some false)
@[simp] theorem isi_tup_int (S : Sto) (b : List D) : fIsi S [(.tup b), .ty "int"] = some (.bl false) := congrArg (Option.map D.bl) (by decide +kernel : kitB "tuple" "int" = some false)
@[simp] theorem isi_tup_str (S : Sto) (b : List D) : fIsi S [(.tup b), .ty "str"] = some (.bl false) := congrArg (Option.map D.bl) (by decide +kernel : kitB "tuple" "str" = some false)
@[simp] theorem tysOf_lt : tysOf [.ty "list", .ty "tuple"] = some ["list", "tuple"] := rfl
@[simp] theorem fAll_eq (S : Sto) (bs : List Bool) : fAll S [.lst (bs.map D.bl)] = some (.bl (bs.all id)) := by
  show Option.map _ (blsOf (bs.map D.bl)) = _
  rw [blsOf_map]
  rfl
@[simp] theorem isN_bl (b : Bool) : D.isN (.bl b) = false := rfl
@[simp] theorem isN_str (b : Str) : D.isN (.str b) = false := rfl
@[simp] theorem isN_lst (b : List D) : D.isN (.lst b) = false := rfl
@[simp] theorem isN_tup (b : List D) : D.isN (.tup b) = false := rfl
@[simp] theorem isN_ins (c : Str) (b : List (Str × D)) : D.isN (.ins c b) = false := rfl
theorem same_int (n : Nat) (x y : Int) (S : Sto) : m__law_same (n + 1) [.int x, .int y] S = .ok (.val (.bl (decide (x = y)))) S := by
  simp [m__law_same, szB]
theorem same_bl (n : Nat) (x y : Bool) (S : Sto) : m__law_same (n + 1) [.bl x, .bl y] S = .ok (.val (.bl (decide (x = y)))) S := by
  simp [m__law_same, szB]
  cases x <;> cases y <;> rfl
/-- lists of things that are the same by q -/
theorem same_lists {β : Type} (n : Nat) (φ ψ : β → D) (S : Sto) (xs ys : List β) (q : β → β → Bool) (hl : xs.length ≤ 100000) (h : ∀ x ∈ xs, ∀ y ∈ ys, m__law_same n [φ x, ψ y] S = .ok (.val (.bl (q x y))) S) (a b : D) (hab : (a = .lst (xs.map φ) ∧ b = .lst (ys.map ψ)) ∨ (a = .tup (xs.map φ) ∧ b = .tup (ys.map ψ))) :
    m__law_same (n + 1) [a, b] S = .ok (.val (.bl (decide (xs.length = ys.length) && (xs.zip ys).all fun p => q p.1 p.2))) S := by
  have lc : ∀ (xs ys : List β), (∀ x ∈ xs, ∀ y ∈ ys, m__law_same n [φ x, ψ y] S = .ok (.val (.bl (q x y))) S) → lcR (gT (gNC (gN 2) (gNC (gN 3) gN0))) cYes (eCall (m__law_same n) [] (aCons (eV 2) (aCons (eV 3) aNil))) [.v a, .v b, .no, .no] (zipD (xs.map φ) (ys.map ψ)) S = .ok (((xs.zip ys).map fun p => q p.1 p.2).map D.bl) S := by
    intro xs
    induction xs with
    | nil => intro ys _; rfl
    | cons x xs ih =>
      intro ys h
      cases ys with
      | nil => rfl
      | cons y ys =>
        have h1 := h x List.mem_cons_self y List.mem_cons_self
        have h2 := ih ys fun u hu v hv => h u (List.mem_cons_of_mem _ hu) v (List.mem_cons_of_mem _ hv)
        rw [List.map_cons, List.map_cons, zipD, lcR]
        simp [h1, h2]
  have key := lc xs ys h
  have z : ((xs.zip ys).map fun p => q p.1 p.2).length ≤ 100000 := by simp; omega
  have sz := szB_of (n := min xs.length ys.length) (by omega)
  have fa := fAll_eq S ((xs.zip ys).map fun p => q p.1 p.2)
  have al : ((xs.zip ys).map fun p => q p.1 p.2).all id = (xs.zip ys).all fun p => q p.1 p.2 := by simp [List.all_map, Function.comp_def]
  rw [al] at fa
  have two := szB_of (n := 2) (by decide)
  have body : (sRet (eAnd (eOp fEq (eCB fLen (aCons (eV 0) aNil)) (eCB fLen (aCons (eV 1) aNil))) (eCB fAll (aCons (mFrz (fLc (itZA (aCons (eV 0) (aCons (eV 1) aNil))) (gT (gNC (gN 2) (gNC (gN 3) gN0))) cYes (eCall (m__law_same n) [] (aCons (eV 2) (aCons (eV 3) aNil))) [2, 3])) aNil)))) [.v a, .v b, .no, .no] S = .rt (.val (.bl (decide (xs.length = ys.length) && (xs.zip ys).all fun p => q p.1 p.2))) S := by
    rcases hab with ⟨rfl, rfl⟩ | ⟨rfl, rfl⟩
    · by_cases hl : xs.length = ys.length
      · simp only [sRet_eq, eAnd_eq, eOp_eq, eCB_eq, aCons_eq, aNil_eq, eV_eq, List.getElem?_cons_zero, List.getElem?_cons_succ, bind_ok', fLen_lst, opt_some', List.length_map, mFrz_eq, fLc_eq, itZA_eq]
        simp [hl]
        erw [key]
        have ln : (((xs.zip ys).map fun p => q p.1 p.2).map D.bl).length = min xs.length ys.length := by simp
        simp only [bind_ok', fin_eq, ln, sz, if_true, d_lst, fa, opt_some', out_ok', decide_true, Bool.true_and]
      · have hl' : ¬ ((xs.length : Int) = (ys.length : Int)) := by omega
        simp [hl, hl']
    · by_cases hl : xs.length = ys.length
      · simp only [sRet_eq, eAnd_eq, eOp_eq, eCB_eq, aCons_eq, aNil_eq, eV_eq, List.getElem?_cons_zero, List.getElem?_cons_succ, bind_ok', fLen_tup, opt_some', List.length_map, mFrz_eq, fLc_eq, itZA_eq]
        simp [hl]
        erw [key]
        have ln : (((xs.zip ys).map fun p => q p.1 p.2).map D.bl).length = min xs.length ys.length := by simp
        simp only [bind_ok', fin_eq, ln, sz, if_true, d_lst, fa, opt_some', out_ok', decide_true, Bool.true_and]
      · have hl' : ¬ ((xs.length : Int) = (ys.length : Int)) := by omega
        simp [hl, hl']
  unfold m__law_same
  rw [mFn_eq, sSeq_eq]
  have st : startE 4 [a, b] = [.v a, .v b, .no, .no] := rfl
  rw [st]
  have i1 : (sIf (cB (eIsT (eV 1) (aCons (eC (.ty "list")) (aCons (eC (.ty "tuple")) aNil)))) (sSeq (sIf (cOr (cB (eOp fNe (eCB fIsi (aCons (eV 0) (aCons (eC (.ty "list")) aNil))) (eCB fIsi (aCons (eV 1) (aCons (eC (.ty "list")) aNil))))) (cB (eOp fNe (eCB fIsi (aCons (eV 0) (aCons (eC (.ty "tuple")) aNil))) (eCB fIsi (aCons (eV 1) (aCons (eC (.ty "tuple")) aNil)))))) (sRet (eC (.bl false))) sNil) (sRet (eAnd (eOp fEq (eCB fLen (aCons (eV 0) aNil)) (eCB fLen (aCons (eV 1) aNil))) (eCB fAll (aCons (mFrz (fLc (itZA (aCons (eV 0) (aCons (eV 1) aNil))) (gT (gNC (gN 2) (gNC (gN 3) gN0))) cYes (eCall (m__law_same n) [] (aCons (eV 2) (aCons (eV 3) aNil))) [2, 3])) aNil))))) sNil) [.v a, .v b, .no, .no] S = .rt (.val (.bl (decide (xs.length = ys.length) && (xs.zip ys).all fun p => q p.1 p.2))) S := by
    rw [sIf_eq]
    have c : (cB (eIsT (eV 1) (aCons (eC (.ty "list")) (aCons (eC (.ty "tuple")) aNil)))) [.v a, .v b, .no, .no] S = .ok true S := by
      rcases hab with ⟨rfl, rfl⟩ | ⟨rfl, rfl⟩ <;> simp [two]
    rw [c]
    simp only [out_ok', if_true, sSeq_eq]
    have c2 : (sIf (cOr (cB (eOp fNe (eCB fIsi (aCons (eV 0) (aCons (eC (.ty "list")) aNil))) (eCB fIsi (aCons (eV 1) (aCons (eC (.ty "list")) aNil))))) (cB (eOp fNe (eCB fIsi (aCons (eV 0) (aCons (eC (.ty "tuple")) aNil))) (eCB fIsi (aCons (eV 1) (aCons (eC (.ty "tuple")) aNil)))))) (sRet (eC (.bl false))) sNil) [.v a, .v b, .no, .no] S = .nx [.v a, .v b, .no, .no] S := by
      rcases hab with ⟨rfl, rfl⟩ | ⟨rfl, rfl⟩ <;> simp
    rw [c2]
    exact body
  rw [i1]
theorem zip_all_eq {β : Type} [DecidableEq β] : ∀ (xs ys : List β), (decide (xs.length = ys.length) && (xs.zip ys).all fun p => decide (p.1 = p.2)) = decide (xs = ys)
  | [], [] => rfl
  | [], y :: ys => by simp
  | x :: xs, [] => by simp
  | x :: xs, y :: ys => by
    have ih := zip_all_eq xs ys
    have e : decide ((x :: xs).length = (y :: ys).length) = decide (xs.length = ys.length) := by simp
    rw [e, List.zip_cons_cons, List.all_cons]
    have e2 : decide (x :: xs = y :: ys) = (decide (x = y) && decide (xs = ys)) := by simp
    rw [e2, ← ih]
    cases decide (xs.length = ys.length) <;> simp
/-- lists of answers -/
theorem same_bls (n : Nat) (xs ys : List Bool) (S : Sto) (hl : xs.length ≤ 100000) : m__law_same (n + 2) [.lst (xs.map D.bl), .lst (ys.map D.bl)] S = .ok (.val (.bl (decide (xs = ys)))) S := by
  have h := same_lists (n + 1) D.bl D.bl S xs ys (fun x y => decide (x = y)) hl (fun x _ y _ => same_bl n x y S) (.lst (xs.map D.bl)) (.lst (ys.map D.bl)) (.inl ⟨rfl, rfl⟩)
  rw [zip_all_eq] at h
  exact h
/-! ### blend, to, images -/
end Fb
namespace Gf
end Gf
namespace Fb
open PySem L2 Mm Gf
/-! ### texts compared -/
theorem shaped_str {x : Str} (h : PyData.strOk x = true) : SeqAt.shaped (.str x) = true := by simp [SeqAt.shaped, PyData.canLay0, PyData.depth, h]
theorem shaped_word {x : Str} (h : PyData.strOk x = true) : SeqAt.shaped (.tuple [.str x]) = true := by simp [SeqAt.shaped, PyData.canLay0, PyData.canLayAll0, PyData.depthAll, PyData.depth, h]
theorem fEq_str (S : Sto) {x y : Str} (hx : PyData.strOk x = true) (hy : PyData.strOk y = true) : fEq S (.str x) (.str y) = some (.bl (decide (x = y))) := by
  simp [fEq, D.py, shaped_str hx, shaped_str hy, PyData.eqv]
  rfl
theorem fNe_str (S : Sto) {x y : Str} (hx : PyData.strOk x = true) (hy : PyData.strOk y = true) : fNe S (.str x) (.str y) = some (.bl (!decide (x = y))) := by
  simp [fNe, D.py, shaped_str hx, shaped_str hy, PyData.eqv]
  rfl
theorem fNe_word (S : Sto) {x y : Str} (hx : PyData.strOk x = true) (hy : PyData.strOk y = true) : fNe S (.tup [.str x]) (.tup [.str y]) = some (.bl (!decide (x = y))) := by
  simp [fNe, D.py, pyAll, shaped_word hx, shaped_word hy, PyData.eqv, PyData.eqvAll]
  rfl
theorem fEq_word (S : Sto) {x y : Str} (hx : PyData.strOk x = true) (hy : PyData.strOk y = true) : fEq S (.tup [.str x]) (.tup [.str y]) = some (.bl (decide (x = y))) := by
  simp [fEq, D.py, pyAll, shaped_word hx, shaped_word hy, PyData.eqv, PyData.eqvAll]
  rfl
theorem sok_badnumber : PyData.strOk "badnumber" = true := by decide +kernel
theorem sok_badfold : PyData.strOk "badfold" = true := by decide +kernel
theorem sok_unfit : PyData.strOk "unfit" = true := by decide +kernel
theorem sok_notpart : PyData.strOk "notpart" = true := by decide +kernel
theorem sok_notonto : PyData.strOk "notonto" = true := by decide +kernel
theorem sok_badsize : PyData.strOk "badsize" = true := by decide +kernel
theorem sok_noberth : PyData.strOk "noberth" = true := by decide +kernel
theorem sok_told : PyData.strOk "told" = true := by decide +kernel
@[simp] theorem nw_badnumber (S : Sto) : fNe S (.tup [.str "badnumber"]) (.tup [.str "badnumber"]) = some (.bl false) := by rw [fNe_word S sok_badnumber sok_badnumber]; simp
@[simp] theorem ew_badnumber (S : Sto) : fEq S (.tup [.str "badnumber"]) (.tup [.str "badnumber"]) = some (.bl true) := by rw [fEq_word S sok_badnumber sok_badnumber]; simp
@[simp] theorem nw_badfold (S : Sto) : fNe S (.tup [.str "badfold"]) (.tup [.str "badfold"]) = some (.bl false) := by rw [fNe_word S sok_badfold sok_badfold]; simp
@[simp] theorem ew_badfold (S : Sto) : fEq S (.tup [.str "badfold"]) (.tup [.str "badfold"]) = some (.bl true) := by rw [fEq_word S sok_badfold sok_badfold]; simp
@[simp] theorem nw_unfit (S : Sto) : fNe S (.tup [.str "unfit"]) (.tup [.str "unfit"]) = some (.bl false) := by rw [fNe_word S sok_unfit sok_unfit]; simp
@[simp] theorem ew_unfit (S : Sto) : fEq S (.tup [.str "unfit"]) (.tup [.str "unfit"]) = some (.bl true) := by rw [fEq_word S sok_unfit sok_unfit]; simp
@[simp] theorem nw_notpart (S : Sto) : fNe S (.tup [.str "notpart"]) (.tup [.str "notpart"]) = some (.bl false) := by rw [fNe_word S sok_notpart sok_notpart]; simp
@[simp] theorem ew_notpart (S : Sto) : fEq S (.tup [.str "notpart"]) (.tup [.str "notpart"]) = some (.bl true) := by rw [fEq_word S sok_notpart sok_notpart]; simp
@[simp] theorem nw_notonto (S : Sto) : fNe S (.tup [.str "notonto"]) (.tup [.str "notonto"]) = some (.bl false) := by rw [fNe_word S sok_notonto sok_notonto]; simp
@[simp] theorem ew_notonto (S : Sto) : fEq S (.tup [.str "notonto"]) (.tup [.str "notonto"]) = some (.bl true) := by rw [fEq_word S sok_notonto sok_notonto]; simp
@[simp] theorem nw_badsize (S : Sto) : fNe S (.tup [.str "badsize"]) (.tup [.str "badsize"]) = some (.bl false) := by rw [fNe_word S sok_badsize sok_badsize]; simp
@[simp] theorem ew_badsize (S : Sto) : fEq S (.tup [.str "badsize"]) (.tup [.str "badsize"]) = some (.bl true) := by rw [fEq_word S sok_badsize sok_badsize]; simp
@[simp] theorem nw_noberth (S : Sto) : fNe S (.tup [.str "noberth"]) (.tup [.str "noberth"]) = some (.bl false) := by rw [fNe_word S sok_noberth sok_noberth]; simp
@[simp] theorem ew_noberth (S : Sto) : fEq S (.tup [.str "noberth"]) (.tup [.str "noberth"]) = some (.bl true) := by rw [fEq_word S sok_noberth sok_noberth]; simp
@[simp] theorem ns_told (S : Sto) : fNe S (.str "told") (.str "told") = some (.bl false) := by rw [fNe_str S sok_told sok_told]; simp
@[simp] theorem es_told (S : Sto) : fEq S (.str "told") (.str "told") = some (.bl true) := by rw [fEq_str S sok_told sok_told]; simp
/-! ### refusals -/
/-- a number that has not so many digits -/
def Far (k : Nat) (x : Int) : Prop := x < 0 ∨ ((2 ^ k : Nat) : Int) ≤ x
/-! ### comprehensions at their place -/
theorem flc_nlp {mi : MI} {tt : MT} {te : ME} {k : Nat} {vs : List Nat} {env : Envr} {S : Sto} (p : Nat → Bool) (f : Nat → Nat) (xs : List Nat) (h1 : mi env S = .ok (nl xs) S) (hz : xs.length ≤ 100000) (h2 : ∀ y ∈ xs, tt ((wipeE env vs).set k (.v (nd y))) S = .ok (p y) S ∧ (p y = true → te ((wipeE env vs).set k (.v (nd y))) S = .ok (nd (f y)) S)) : fLc mi (gN k) tt te vs env S = .ok (.lst (nl ((xs.filter p).map f))) S := by
  have lc := lc_nlp p f xs h2
  have l := List.length_filter_le p xs
  rw [fLc_eq, h1, bind_ok', lc, bind_ok', fin_eq, if_pos (szB_of (by simp; omega))]
theorem flc_of {β : Type} {mi : MI} {te : ME} {k : Nat} {vs : List Nat} {env : Envr} {S : Sto} (ψ φ : β → D) (xs : List β) (h1 : mi env S = .ok (xs.map ψ) S) (hz : xs.length ≤ 100000) (h2 : ∀ y ∈ xs, te ((wipeE env vs).set k (.v (ψ y))) S = .ok (φ y) S) : fLc mi (gN k) cYes te vs env S = .ok (.lst (xs.map φ)) S := by
  have lc := lc_all (g := gN k) (te := te) (env := wipeE env vs) (S := S) ψ φ xs fun y hy => ⟨_, rfl, h2 y hy⟩
  rw [fLc_eq, h1, bind_ok', lc, bind_ok', fin_eq, if_pos (szB_of (by simpa using hz))]
theorem itR1_nat {m : MA} {env : Envr} {S : Sto} {n : Nat} (h : m env S = .ok [.int n] S) (hn : n ≤ 100000) : itR1 m env S = .ok (nl (List.range n)) S := by
  rw [itR1_eq, h]
  simp [rgB_nat hn, rng0]
/-! ### drawing, by written numbers -/
end Fb
namespace Gf
/-! ### spans listed -/
def lstep (F : List Nat) (x : Nat) : List Nat := if x ∈ F then F else F ++ F.map (· ^^^ x)
def lsp (xs : List Nat) : List Nat := xs.foldl lstep [0]
/-- each top stands in one number alone -/
theorem RR.count {B : List Nat} (h : RR B) {b : Nat} (hb : b ∈ B) : (B.map fun a => if a.testBit b.log2 then 1 else 0).count 1 = 1 := by
  have e : (B.map fun a => if a.testBit b.log2 then 1 else 0) = B.map fun a => if a = b then 1 else 0 := List.map_congr_left fun a ha => by
    rw [h.top ha hb]
    by_cases z : a = b <;> simp [z]
  rw [e]
  have n := h.nodup
  have c : ∀ (B : List Nat), (B.map fun a => if a = b then 1 else 0).count 1 = B.count b := fun B => by
    induction B with
    | nil => rfl
    | cons a B ih =>
      rw [List.map_cons, List.count_cons, List.count_cons, ih]
      by_cases z : a = b <;> simp [z]
  rw [c]
  rw [n.count, if_pos hb]
/-- what lies below, of a reduced basis -/
theorem RR.low {B : List Nat} {k : Nat} (h : RR B) (x : Nat) : Sp (B.filter fun b => decide (b < 2 ^ k)) x ↔ Sp B x ∧ x < 2 ^ k := by
  constructor
  · intro s
    refine ⟨s.mono fun b hb => (List.mem_filter.mp hb).1, s.lt fun b hb => ?_⟩
    simpa using (List.mem_filter.mp hb).2
  · rintro ⟨s, hx⟩
    have hr : RR (B.filter fun b => decide (b < 2 ^ k)) := ⟨fun b hb => h.1 b (List.mem_filter.mp hb).1, h.2.filter _⟩
    -- what is left of x lies in the span and has no top of the basis
    have l1 := red_sp (B.filter fun b => decide (b < 2 ^ k)) x
    have z : red x (B.filter fun b => decide (b < 2 ^ k)) = 0 := by
      refine h.indep ?_ fun b hb => ?_
      · have := s.xor (l1.mono fun b hb => (List.mem_filter.mp hb).1)
        rwa [xor_self_left] at this
      · by_cases hk : b < 2 ^ k
        · exact red_top x hr b (List.mem_filter.mpr ⟨hb, by simpa using hk⟩)
        · have hl : k ≤ b.log2 := (Nat.le_log2 (h.1 b hb)).mpr (by omega)
          exact bit_big (red_lt (w := k) (fun c hc => by simpa using (List.mem_filter.mp hc).2) hx) hl
    rw [z, Nat.xor_zero] at l1
    exact l1
theorem RR.filter {B : List Nat} (h : RR B) (p : Nat → Bool) : RR (B.filter p) := ⟨fun b hb => h.1 b (List.mem_filter.mp hb).1, h.2.filter _⟩
end Gf
namespace Fb
open PySem L2 Mm Gf
/-! ### need_numbers -/
def farB (k : Nat) (x : Int) : Bool := decide (x < 0) || decide (0 < x / 2 ^ k)
theorem farB_nat {k x : Nat} (h : x < 2 ^ k) : farB k (x : Int) = false := by
  have e : ((x : Int) / 2 ^ k) = ((x / 2 ^ k : Nat) : Int) := by simp
  have n0 : ¬ (x : Int) < 0 := by omega
  unfold farB
  rw [e, Nat.div_eq_of_lt h]
  simp [n0]
noncomputable def needB : MS := sIf (cOr (cB (eOp iLt (eV 2) (eC (.int 0)))) (cB (eOp iGt (eOp iShr (eV 2) (eV 1)) (eC (.int 0))))) (sRaise "BadNumber") sNil
theorem needB_ok (a : D) (k : Nat) (x : Int) (S : Sto) : needB [.v a, .v (.int k), .v (.int x)] S = if farB k x then .exc "BadNumber" none [.v a, .v (.int k), .v (.int x)] S else .nx [.v a, .v (.int k), .v (.int x)] S := by
  unfold needB farB
  by_cases h0 : x < 0
  · simp [h0]
  · by_cases h1 : 0 < x / 2 ^ k <;> simp [h0, h1]
theorem need_go (a : D) (k : Nat) (S : Sto) : ∀ (xs : List Int) (s : Sl), (xs.all (fun x => !farB k x) = true → ∃ s', forL (gN 2) needB (xs.map D.int) [.v a, .v (.int k), s] S = .nx [.v a, .v (.int k), s'] S) ∧ (xs.all (fun x => !farB k x) = false → ∃ e, forL (gN 2) needB (xs.map D.int) [.v a, .v (.int k), s] S = .exc "BadNumber" none e S)
  | [], s => ⟨fun _ => ⟨s, rfl⟩, fun h => by simp at h⟩
  | x :: xs, s => by
    have b := needB_ok a k x S
    have e : forL (gN 2) needB ((x :: xs).map D.int) [.v a, .v (.int k), s] S = match needB [.v a, .v (.int k), .v (.int x)] S with
      | .nx e S1 => forL (gN 2) needB (xs.map D.int) e S1
      | .ct e S1 => forL (gN 2) needB (xs.map D.int) e S1
      | .bk e S1 => .nx e S1
      | o => o := rfl
    rw [b] at e
    obtain ⟨h1, h2⟩ := need_go a k S xs (.v (.int x))
    cases f : farB k x with
    | true =>
      rw [f] at e
      exact ⟨fun h => by simp [f] at h, fun _ => ⟨_, e⟩⟩
    | false =>
      rw [f] at e
      refine ⟨fun h => ?_, fun h => ?_⟩
      · obtain ⟨s', q⟩ := h1 (by simpa [f] using h)
        exact ⟨s', e.trans q⟩
      · obtain ⟨s', q⟩ := h2 (by rw [List.all_cons, f] at h; simpa using h)
        exact ⟨s', e.trans q⟩
theorem need_eq : m_need_numbers = mFn 3 (sFor (itL (eV 0)) (gN 2) needB) := rfl
theorem need_good (S : Sto) (xs : List Int) (k : Nat) (h : ∀ x ∈ xs, farB k x = false) (a : D) (ha : a = .tup (xs.map D.int) ∨ a = .lst (xs.map D.int)) : m_need_numbers [a, .int k] S = .ok (.val .non) S := by
  obtain ⟨s', e⟩ := (need_go a k S xs .no).1 (List.all_eq_true.mpr fun x hx => by rw [h x hx]; rfl)
  rw [need_eq]
  rcases ha with rfl | rfl <;> (simp; rw [e])
theorem need_ok (S : Sto) {rs : List Nat} {k : Nat} (h : ∀ r ∈ rs, r < 2 ^ k) (a : D) (ha : a = .tup (nl rs) ∨ a = .lst (nl rs)) : m_need_numbers [a, .int k] S = .ok (.val .non) S := by
  rw [nl_eq] at ha
  refine need_good S (rs.map Int.ofNat) k (fun x hx => ?_) a ha
  obtain ⟨r, hr, rfl⟩ := List.mem_map.mp hx
  exact farB_nat (h r hr)
/-! ### the law's span, top -/
@[simp] theorem fIn_nl (S : Sto) (neg : Bool) (x : Nat) (xs : List Nat) : fIn neg S (.int x) (.lst (nl xs)) = some (.bl (if neg then !decide (x ∈ xs) else decide (x ∈ xs))) := by
  have e : decide ((x : Int) ∈ xs.map Int.ofNat) = decide (x ∈ xs) := decide_eq_decide.mpr (by
    rw [List.mem_map]
    constructor
    · rintro ⟨y, hy, e⟩
      have : y = x := by have e : (y : Int) = x := e; omega
      rw [← this]
      exact hy
    · exact fun h => ⟨x, h, rfl⟩)
  show (intsOf (nl xs)).map _ = _
  rw [intsOf_nl]
  show some (D.bl (if neg then !decide ((x : Int) ∈ xs.map Int.ofNat) else decide ((x : Int) ∈ xs.map Int.ofNat))) = _
  rw [e]
end Fb
namespace Fb
open PySem L2 Mm Gf
@[simp] theorem fSorted_nl (S : Sto) (xs : List Nat) : fSorted S [.lst (nl xs)] = some (.lst (nl (nsrt xs))) := by
  rw [fSorted_lst, intsOf_nl]
  show some (Cell.lst ((isrt (xs.map Int.ofNat)).map D.int)) = _
  rw [isrt_nat, ← nl_eq]
end Fb
namespace Gf
open Fb Mm
/-! ### meets -/
def mRows (xs ys : List Nat) : List Nat := xs.map (fun x => x * 4096 + x) ++ ys.map (fun x => x * 4096)
def meetL (xs ys : List Nat) : List Nat := (nsrt (bas (mRows xs ys))).filter fun b => decide (b < 4096)
theorem Sp.map {f : Nat → Nat} (f0 : f 0 = 0) (fx : ∀ x y, f (x ^^^ y) = f x ^^^ f y) : ∀ {B : List Nat} {y : Nat}, Sp (B.map f) y ↔ ∃ x, Sp B x ∧ y = f x := fun {B y} => by
  constructor
  · rintro ⟨m, rfl⟩
    exact ⟨app B m, ⟨m, rfl⟩, app_map f f0 fx B m⟩
  · rintro ⟨x, ⟨m, rfl⟩, rfl⟩
    exact ⟨m, app_map f f0 fx B m⟩
def up (k x : Nat) : Nat := x * 2 ^ k
def dbl (k x : Nat) : Nat := up k x ^^^ x
end Gf
namespace Fb
open PySem L2 Mm Gf
/-! ### numbers beyond -/
end Fb
namespace Fb
open PySem L2 Mm Gf
/-! ### lists of two lists -/
end Fb
namespace Fb
open PySem L2 Mm Gf
/-! ### shuffles of anything -/
theorem insert_permG {α : Type} (xs : List α) (k : Nat) (x : α) : (xs.take k ++ [x] ++ xs.drop k).Perm (x :: xs) := by
  rw [List.append_assoc]
  have := List.perm_middle (l₁ := xs.take k) (l₂ := xs.drop k) (a := x)
  simpa using this
theorem ints_of_perm {xs : List Int} {ys : List D} (p : ys.Perm (xs.map D.int)) : ∃ zs : List Int, ys = zs.map D.int ∧ zs.Perm xs := by
  obtain ⟨zs, hz, e⟩ : ∃ zs : List Int, zs.Perm xs ∧ ys = zs.map D.int := by
    let f : D → Int := fun d => match d with
      | .int i => i
      | _ => 0
    refine ⟨ys.map f, ?_, ?_⟩
    · have := p.map f
      rw [List.map_map] at this
      have e : f ∘ D.int = id := rfl
      rwa [e, List.map_id] at this
    · rw [List.map_map]
      have h : ∀ d ∈ ys, (D.int ∘ f) d = d := fun d hd => by
        obtain ⟨i, _, rfl⟩ := List.mem_map.mp (p.mem_iff.mp hd)
        rfl
      exact (List.map_congr_left h |>.trans (List.map_id ys)).symm
  exact ⟨zs, e, hz⟩
/-! ### blends -/
/-! ### one of two -/
/-! ### same, item by item -/
theorem same_each (n : Nat) (S : Sto) : ∀ (xs ys : List D) (a b : D), (∀ p ∈ xs.zip ys, m__law_same n [p.1, p.2] S = .ok (.val (.bl true)) S) →
    lcR (gT (gNC (gN 2) (gNC (gN 3) gN0))) cYes (eCall (m__law_same n) [] (aCons (eV 2) (aCons (eV 3) aNil))) [.v a, .v b, .no, .no] (zipD xs ys) S = .ok ((xs.zip ys).map fun _ => D.bl true) S
  | [], _, _, _, _ => rfl
  | _ :: _, [], _, _, _ => rfl
  | x :: xs, y :: ys, a, b, h => by
    have h1 : m__law_same n [x, y] S = _ := h (x, y) List.mem_cons_self
    have h2 := same_each n S xs ys a b fun p hp => h p (List.mem_cons_of_mem _ hp)
    rw [zipD, lcR]
    simp [h1, h2]
theorem same_listsT (n : Nat) (S : Sto) (xs ys : List D) (hl : xs.length = ys.length) (hz : xs.length ≤ 100000) (h : ∀ p ∈ xs.zip ys, m__law_same n [p.1, p.2] S = .ok (.val (.bl true)) S) : m__law_same (n + 1) [.lst xs, .lst ys] S = .ok (.val (.bl true)) S := by
  have lc := same_each n S xs ys (.lst xs) (.lst ys) h
  have sz := szB_of (n := min xs.length ys.length) (by omega)
  have two := szB_of (n := 2) (by decide)
  have fa : fAll S [.lst ((xs.zip ys).map fun _ => D.bl true)] = some (.bl true) := by
    have := fAll_eq S ((xs.zip ys).map fun _ => true)
    rw [List.map_map] at this
    have this : fAll S [.lst ((xs.zip ys).map fun _ => D.bl true)] = _ := this
    rw [this]
    simp
  have e : (itZA (aCons (eV 0) (aCons (eV 1) aNil))) [.v (.lst xs), .v (.lst ys), .no, .no] S = .ok (zipD xs ys) S := rfl
  have body : (fLc (itZA (aCons (eV 0) (aCons (eV 1) aNil))) (gT (gNC (gN 2) (gNC (gN 3) gN0))) cYes (eCall (m__law_same n) [] (aCons (eV 2) (aCons (eV 3) aNil))) [2, 3]) [.v (.lst xs), .v (.lst ys), .no, .no] S = .ok (.lst ((xs.zip ys).map fun _ => D.bl true)) S := by
    rw [fLc_eq, e, bind_ok']
    erw [lc]
    rw [bind_ok', fin_eq, if_pos (by simpa using sz)]
  unfold m__law_same
  simp [-fLc_eq, two, hl, body, fa]
/-! ### lending -/
theorem noRefL_nl (xs : List Nat) : noRefL (nl xs) = true := by
  induction xs with
  | nil => rfl
  | cons x xs ih =>
    rw [nl_cons, noRefL, ih]
    rfl
@[simp] theorem noRef_lst (xs : List Nat) : noRef (.lst (nl xs)) = true := by
  unfold noRef
  exact noRefL_nl xs
@[simp] theorem noRef_tup (xs : List Nat) : noRef (.tup (nl xs)) = true := by
  unfold noRef
  exact noRefL_nl xs
@[simp] theorem lendV_no : lendV .no = .no := rfl
@[simp] theorem lendV_ref (n : Nat) : lendV (.v (.ref n)) = .no := rfl
@[simp] theorem lendV_scr (n : List Int) : lendV (.v (.scr n)) = .v (.scr n) := rfl
@[simp] theorem lendV_int (n : Int) : lendV (.v (.int n)) = .v (.int n) := rfl
@[simp] theorem lendV_lst (xs : List Nat) : lendV (.v (.lst (nl xs))) = .v (.lst (nl xs)) := if_pos (noRef_lst xs)
@[simp] theorem lendV_tup (xs : List Nat) : lendV (.v (.tup (nl xs))) = .v (.tup (nl xs)) := if_pos (noRef_tup xs)
end Fb
namespace Fb
open PySem L2 Mm Gf
noncomputable def m__law_fold : MFn := mFn 3 (sRet (eNew "Fold" m_FoldU_initU [] (aCons (eCall m__law_numbers [] (aCons (eV 0) (aCons (eV 1) (aCons (eV 2) aNil)))) (aCons (eV 2) aNil))))
noncomputable def m_Fold_beside : MFn := mFn 3 (sSeq (sIf (cOr (cB (eOp iGt (eOp dAdd (eCB fLen (aCons (eFld "Fold" "lines" (eV 0)) aNil)) (eMeth "Fold" "many" m_Fold_many [] (eV 1) aNil)) (eC (.int 12)))) (cB (eOp iGt (eOp dAdd (eFld "Fold" "wide" (eV 0)) (eMeth "Fold" "size" m_Fold_size [] (eV 1) aNil)) (eC (.int 12))))) (sRaise "Unfit") sNil)
    (sRet (eNew "Fold" m_FoldU_initU [] (aCons (eOp fCatT (eFld "Fold" "lines" (eV 0)) (eCB fTupOf (aCons (mFrz (fLc (itL (eMeth "Fold" "rows" m_Fold_rows [] (eV 1) aNil)) (gN 2) cYes (eOp iShl (eV 2) (eFld "Fold" "wide" (eV 0))) [2])) aNil))) (aCons (eOp dAdd (eFld "Fold" "wide" (eV 0)) (eMeth "Fold" "size" m_Fold_size [] (eV 1) aNil)) aNil)))))
noncomputable def m_Fold_part : MFn := mFn 6 (sSeq (sAsg (eTup (aCons (eMeth "Fold" "many" m_Fold_many [] (eV 1) aNil) (aCons (eMeth "Fold" "size" m_Fold_size [] (eV 1) aNil) aNil))) (gT (gNC (gN 2) (gNC (gN 3) gN0))))
    (sSeq (sAsg (eSlT (eFld "Fold" "lines" (eV 0)) (oSome (eV 2)) oNone) (gN 4))
    (sSeq (sIf (cOr (cB (eOp iGt (eV 3) (eFld "Fold" "wide" (eV 0)))) (cB (eOp fNe (eSlT (eFld "Fold" "lines" (eV 0)) oNone (oSome (eV 2))) (eMeth "Fold" "rows" m_Fold_rows [] (eV 1) aNil)))) (sRaise "NotPart") sNil)
    (sSeq (sIf (cB (eCB fAny (aCons (mFrz (fLc (itL (eV 4)) (gN 5) cYes (eOp fNe (eV 5) (eOp iShl (eOp iShr (eV 5) (eV 3)) (eV 3))) [5])) aNil))) (sRaise "NotPart") sNil)
    (sRet (eNew "Fold" m_FoldU_initU [] (aCons (mFrz (fLc (itL (eV 4)) (gN 5) cYes (eOp iShr (eV 5) (eV 3)) [5])) (aCons (eOp iSub (eFld "Fold" "wide" (eV 0)) (eV 3)) aNil))))))))
end Fb
namespace Fb
open PySem L2 Mm Gf
def bes (rs ss : List Nat) (v : Nat) : List Nat := rs ++ ss.map (· <<< v)
theorem cut_hiA (xs : List D) (k : Nat) : cutD xs (some (k : Int)) none = xs.drop k := by
  unfold cutD
  rw [HT.sIx_nat, HT.sIx_none]
  rw [List.take_of_length_le (by simp)]
  by_cases h : k ≤ xs.length
  · rw [Nat.min_eq_left h]
  · rw [Nat.min_eq_right (by omega), List.drop_of_length_le (by omega), List.drop_of_length_le (by omega)]
def lowB (w : Nat) (ls : List Nat) : Bool := ls.all fun y => decide (y % 2 ^ w = 0)
end Fb
namespace Mm
open PySem PySem.Spec PyProof.Rows L2 PpSet
section
variable {X : Cx}
/-! ### set comprehensions of numbers -/
/-- {elt for target in iter if ..}, elt a number: D the new set -/
def tScI (wi : TI) (g : TG) (tt : TT) (te : TE) (vs : List Nat) : TE := fun σ H Q => wi σ H fun J H1 => ∀ D, H1 D = none → ∃ W : Nat → Nat → Hp → Prop, (∃ m, W 0 m (upd H1 D (.set (fun _ => false) 0))) ∧ ∀ i m H, W i m H →
  (J.stop i H ∧ Q (.ref D) H) ∨ (J.go i H ∧ ∃ Nx : Hp → Prop, (∀ H', Nx H' → ∃ m', m' < m ∧ W (i + 1) m' H') ∧ ∀ x H', J.yld i H x H' → g x (wipe σ vs) H' fun σ2 H2 => wipe σ2 vs = wipe σ vs ∧ tt σ2 H2 fun b H3 =>
    if b = true then te σ2 H3 fun y H4 => ∃ (c : Int) (S : Int → Bool) (n : Nat), y = .int c ∧ H4 D = some (.set S n) ∧ n + 1 < scanBound ∧ Nx (upd H4 D (.set (fun j => S j || decide (j = c)) (if S c = true then n else n + 1))) else Nx H3)
/-! ### in, of sets of numbers -/
def rInS (neg : Bool) : V → V → Hp → VK → Prop := fun x y H Q => ∃ (k : Int) (a : Addr) (S : Int → Bool) (n : Nat), x = .int k ∧ y = V.ref a ∧ H a = some (.set S n) ∧ Q (.bl (if neg then !S k else S k)) H
end
/-! ### their mirrors -/
def ddp (l : List Int) : List Int := l.foldl (fun xs i => if i ∈ xs then xs else xs ++ [i]) []
theorem ddp_go (l : List Int) : ∀ xs : List Int, xs.Nodup → (l.foldl (fun xs i => if i ∈ xs then xs else xs ++ [i]) xs).Nodup ∧ (∀ i, i ∈ l.foldl (fun xs i => if i ∈ xs then xs else xs ++ [i]) xs ↔ i ∈ xs ∨ i ∈ l) ∧ (l.foldl (fun xs i => if i ∈ xs then xs else xs ++ [i]) xs).length ≤ xs.length + l.length := by
  induction l with
  | nil => exact fun xs h => ⟨h, fun i => by simp, by simp⟩
  | cons c l ih =>
    intro xs h
    rw [List.foldl_cons]
    by_cases hc : c ∈ xs
    · rw [if_pos hc]
      obtain ⟨a, b, d⟩ := ih xs h
      refine ⟨a, fun i => ?_, by simp; omega⟩
      rw [b i, List.mem_cons]
      constructor
      · rintro (z | z)
        · exact .inl z
        · exact .inr (.inr z)
      · rintro (z | z | z)
        · exact .inl z
        · exact .inl (z ▸ hc)
        · exact .inr z
    · rw [if_neg hc]
      obtain ⟨a, b, d⟩ := ih (xs ++ [c]) (by
        rw [List.nodup_append]
        exact ⟨h, by simp, fun x hx y hy e => hc (by simp at hy; rw [← hy, ← e]; exact hx)⟩)
      refine ⟨a, fun i => ?_, by simp at d ⊢; omega⟩
      rw [b i, List.mem_cons, List.mem_append, List.mem_singleton, or_assoc]
theorem mem_ddp {l : List Int} {i : Int} : i ∈ ddp l ↔ i ∈ l := ((ddp_go l [] List.nodup_nil).2.1 i).trans (by simp)
theorem ddp_len (l : List Int) : (ddp l).length ≤ l.length := by
  have := (ddp_go l [] List.nodup_nil).2.2
  unfold ddp
  simpa using this
def eInt (me : ME) : ME := fun env S => (me env S).bind fun d S1 => match d with
  | .int i => .ok (.int i) S1
  | _ => .stuck
def finS (ys : List D) (S : Sto) : R D := match intsOf ys with
  | some ns => if decide ((ddp ns).length ≤ 4000) then .ok (.set (ddp ns)) S else .stuck
  | none => .stuck
def eSc (mi : MI) (g : MG) (tt : MT) (te : ME) (vs : List Nat) : ME := fun env S => (mi env S).bind fun ds S1 => (lcR g tt (eInt te) (wipeE env vs) ds S1).bind finS
section
variable {X : Cx} {Y : Gam} {W : WX} {e a b c tg iter elt : Expr} {es rest ifs : List Expr} {ta tb te : TE} {tt tu : TT} {ma mb me : ME} {mt mu : MT} {mf : MF} {t : TA} {m : MA} {pos : Pos} {wi : TI} {mi : MI} {scope : Scope} {own : List (Str × Nat)} {is : List Nat} {g : TG} {mg : MG}
def fInS (neg : Bool) : Sto → D → D → Option D
  | _, .int i, .set ns => some (.bl (if neg then !decide (i ∈ ns) else decide (i ∈ ns)))
  | _, _, _ => none
end
end Mm
namespace Mm
open PySem L2
@[simp] theorem eSc_eq (mi : MI) (g : MG) (tt : MT) (te : ME) (vs : List Nat) (env : Envr) (S : Sto) : eSc mi g tt te vs env S = (mi env S).bind fun ds S1 => (lcR g tt (eInt te) (wipeE env vs) ds S1).bind finS := rfl
@[simp] theorem eInt_eq (me : ME) (env : Envr) (S : Sto) : eInt me env S = (me env S).bind fun d S1 => match d with
  | .int i => .ok (.int i) S1
  | _ => .stuck := rfl
@[simp] theorem fInS_eq (neg : Bool) (S : Sto) (i : Int) (ns : List Int) : fInS neg S (.int i) (.set ns) = some (.bl (if neg then !decide (i ∈ ns) else decide (i ∈ ns))) := rfl
theorem finS_of (ns : List Int) (S : Sto) (h : ns.length ≤ 4000) : finS (ns.map D.int) S = .ok (.set (ddp ns)) S := by
  unfold finS
  rw [intsOf_map]
  simp only []
  rw [if_pos (decide_eq_true (Nat.le_trans (ddp_len ns) h))]
end Mm
namespace Fb
open PySem L2 Mm Gf
noncomputable def m_lies : MFn := mFn 4 (sSeq (sExpr (eCall m_need_numbers [.int 12] (aCons (eOp dAdd (mFrz (fCB fListOf (aCons (eV 0) aNil))) (mFrz (fLst (aCons (eV 1) aNil)))) aNil)))
    (sSeq (sAsg (eCall m_trail_to [] (aCons (eV 0) (aCons (eV 1) aNil))) (gN 2))
    (sSeq (sIf (cB (eOp fIs (eV 2) (eC .non))) (sRet (eC .non)) sNil)
    (sRetF (fLc (itR1 (aCons (eCB fLen (aCons (eV 0) aNil)) aNil)) (gN 3) (cB (eOp fEq (eOp iAnd (eOp iShr (eV 2) (eV 3)) (eC (.int 1))) (eC (.int 1)))) (eV 3) [3])))))
noncomputable def m_probe : MFn := mFn 6 (sSeq (sExpr (eCall m_need_numbers [.int 12] (aCons (eOp dAdd (mFrz (fCB fListOf (aCons (eV 0) aNil))) (mFrz (fLst (aCons (eV 1) aNil)))) aNil)))
    (sSeq (sAsg (eCall m_basis_of [] (aCons (eV 0) aNil)) (gN 2))
    (sSeq (sAsg (eCall m_reduced [] (aCons (eV 1) (aCons (eV 2) aNil))) (gN 3))
    (sSeq (sIf (cB (eOp fEq (eV 3) (eC (.int 0)))) (sRet (eC .non)) sNil)
    (sSeq (sAsg (eCall m_top_of [] (aCons (eV 3) aNil)) (gN 4))
    (sRet (eOp dAdd (eV 4) (eCB fSum (aCons (mFrz (fLc (itL (eV 2)) (gN 5) (cB (eOp iGt (eOp iAnd (eV 5) (eV 4)) (eC (.int 0)))) (eCall m_top_of [] (aCons (eV 5) aNil)) [5])) aNil)))))))))
noncomputable def m_rest : MFn := mFn 5 (sSeq (sIf (cOr (cB (eOp iLt (eV 1) (eC (.int 0)))) (cB (eOp iGt (eV 1) (eC (.int 12))))) (sRaise "BadNumber") sNil)
    (sSeq (sExpr (eCall m_need_numbers [] (aCons (eV 0) (aCons (eV 1) aNil))))
    (sSeq (sAsg (eSc (itL (eCall m_basis_of [] (aCons (eV 0) aNil))) (gN 3) cYes (eCall m_top_of [] (aCons (eV 3) aNil)) [3]) (gN 2))
    (sRetF (fLc (itR1 (aCons (eV 1) aNil)) (gN 4) (cB (eOp (fInS true) (eOp iShl (eC (.int 1)) (eV 4)) (eV 2))) (eOp iShl (eC (.int 1)) (eV 4)) [4])))))
end Fb
namespace Gf
/-! ### the rest of a span -/
def tops (xs : List Nat) : List Nat := (bas xs).map Nat.log2
def restL (xs : List Nat) (k : Nat) : List Nat := ((List.range k).filter fun i => !decide (i ∈ tops xs)).map (2 ^ ·)
end Gf
namespace Fb
open PySem L2 Mm Gf
theorem two_pow_inj {i j : Nat} : ((2 : Int) ^ i = ((2 ^ j : Nat) : Int)) ↔ i = j := by
  constructor
  · intro h
    have h : ((2 ^ i : Nat) : Int) = ((2 ^ j : Nat) : Int) := by rw [← h]; simp
    have h : 2 ^ i = 2 ^ j := by exact_mod_cast h
    have := congrArg Nat.log2 h
    rwa [Nat.log2_two_pow, Nat.log2_two_pow] at this
  · rintro rfl
    simp
theorem mem_topset {xs : List Nat} {i : Nat} : (2 : Int) ^ i ∈ ddp (((nsrt (bas xs)).map fun b => 2 ^ b.log2).map Int.ofNat) ↔ i ∈ tops xs := by
  rw [mem_ddp, List.map_map, List.mem_map]
  unfold tops
  rw [List.mem_map]
  constructor
  · rintro ⟨b, hb, e⟩
    exact ⟨b, (nsrt_perm _).mem_iff.mp hb, (two_pow_inj.mp e.symm).symm⟩
  · rintro ⟨b, hb, e⟩
    exact ⟨b, (nsrt_perm _).mem_iff.mpr hb, (two_pow_inj.mpr e.symm).symm⟩
theorem rest_ok (S : Sto) {xs : List Nat} {k : Nat} (hk : k ≤ 12) (h : ∀ x ∈ xs, x < 2 ^ k) (a : D) (ha : a = .tup (nl xs) ∨ a = .lst (nl xs)) : m_rest [a, .int k] S = .ok (.own (.lst (nl (restL xs k)))) S := by
  have N := need_ok S h a ha
  have B := basis_of_ok S (w := k) xs (by omega) h a ha
  have bl : ∀ b ∈ nsrt (bas xs), b ≠ 0 ∧ b.log2 ≤ 1000 := fun b hb => by
    have hb := (nsrt_perm _).mem_iff.mp hb
    have n0 := (bas_rr xs).1 b hb
    have lt : b < 2 ^ k := ((bas_sp xs b).mp (.mem hb)).lt h
    refine ⟨n0, ?_⟩
    have := (Nat.log2_lt n0).mpr lt
    omega
  have ln := (bas_rr xs).len_le (w := k) fun b hb => ((bas_sp xs b).mp (.mem hb)).lt h
  have c1 : ¬ ((k : Int) < 0) := by omega
  have c2 : ¬ ((12 : Int) < k) := by omega
  have sc : (eSc (itL (eCall m_basis_of [] (aCons (eV 0) aNil))) (gN 3) cYes (eCall m_top_of [] (aCons (eV 3) aNil)) [3]) [.v a, .v (nd k), .no, .no, .no] S = .ok (.set (ddp (((nsrt (bas xs)).map fun b => 2 ^ b.log2).map Int.ofNat))) S := by
    have lc := lc_nl (te := eInt (eCall m_top_of [] (aCons (eV 3) aNil))) (k := 3) (env := [.v a, .v (nd k), .no, .no, .no]) (S := S) (fun b => 2 ^ b.log2) (nsrt (bas xs)) fun b hb => by
      obtain ⟨n0, l0⟩ := bl b hb
      have t := top_ok S n0 l0
      simp [t]
    have fs := finS_of (((nsrt (bas xs)).map fun b => 2 ^ b.log2).map Int.ofNat) S (by rw [List.length_map, List.length_map, (nsrt_perm _).length_eq]; omega)
    rw [← nl_eq] at fs
    generalize ((nsrt (bas xs)).map fun b => 2 ^ b.log2) = YY at *
    simp [B, lc, fs]
  have hm : ∀ i, decide ((2 : Int) ^ i ∈ ddp (((nsrt (bas xs)).map fun b => 2 ^ b.log2).map Int.ofNat)) = decide (i ∈ tops xs) := fun i => decide_eq_decide.mpr mem_topset
  generalize hT : ddp (((nsrt (bas xs)).map fun b => 2 ^ b.log2).map Int.ofNat) = T at *
  have it := itR1_nat (m := aCons (eV 1) aNil) (env := [.v a, .v (nd k), .v (.set T), .no, .no]) (S := S) (n := k) (by simp) (by omega)
  have lc2 := flc_nlp (mi := itR1 (aCons (eV 1) aNil)) (tt := cB (eOp (fInS true) (eOp iShl (eC (.int 1)) (eV 4)) (eV 2))) (te := eOp iShl (eC (.int 1)) (eV 4)) (k := 4) (vs := [4]) (env := [.v a, .v (nd k), .v (.set T), .no, .no]) (S := S) (fun i => !decide (i ∈ tops xs)) (2 ^ ·) (List.range k) it (by simp; omega) fun i hi => by
    have hi := List.mem_range.mp hi
    have pw := powB_nat (i := 1) (by decide) i (by omega)
    refine ⟨?_, fun _ => ?_⟩
    · simp [pw, hm i]
    · simp [pw]
  unfold m_rest
  simp [-fLc_eq, -eSc_eq, c1, c2, N, sc, lc2]
  rfl
end Fb
namespace Gf
open Mm
/-! ### canonical bases -/
def can (xs : List Nat) : List Nat := nsrt (bas xs)
end Gf
namespace Fb
open PySem L2 Mm Gf
/-! ### lies, probe -/
end Fb
namespace Mm
open PySem PySem.Spec PyProof.Rows L2
/-! ### min(xs, default=d) of a list of numbers -/
section
variable {prog : Program} {w : World} {A : Around} {R : Result → Shared → Prop} {I : Addr} {fp wr : List Addr} {n : Nat} {P : Nat → Value → Prop} {St : Nat → Heap → Prop}
end
section
variable {prog : Program} {w : World} {A : Around} {E : Value → Shared → Prop} {s : Shared}
end
section
variable {X : Cx}
def rMinD (K : PySem.W.Frag) : List V → List V → Hp → VK → Prop := fun vs zs H Q => ∃ (a : Addr) (ns : List Int) (d : V), vs = [V.ref a] ∧ zs = [d] ∧ SqL K H a (ns.map V.int) ∧ (ns = [] → Q d H) ∧ ∀ m, m ∈ ns → (∀ y, y ∈ ns → m ≤ y) → Q (.int m) H
end
def fMinN : Sto → List D → Option D
  | _, [.lst ds] => (intsOf ds).map fun ns => match ns.min? with
    | some m => .int m
    | none => .non
  | _, _ => none
section
variable {X : Cx} {Y : Gam} {W : WX} {e : Expr} {p pos kp cp : Pos} {t : TA} {m : MA}
end
end Mm
namespace Mm
open PySem L2
/-! ### a list so many times -/
theorem repL_rep {g : Gam} {w : Wd} {ds : List D} {vs : List V} (r : RepL g w ds vs) : ∀ k : Nat, RepL g w (List.replicate k ds).flatten (List.replicate k vs).flatten
  | 0 => RepL.nil_
  | k + 1 => by
    rw [List.replicate_succ, List.replicate_succ, List.flatten_cons, List.flatten_cons]
    exact r.append_ (repL_rep r k)
theorem oo_rep {g : Gam} : OpO g rRep fRep := fun w H S d1 d2 v1 v2 c Q k r1 r2 e q => by
  unfold fRep at e
  split at e
  · rename_i xs i
    split at e
    · rename_i hc
      cases e
      rw [Bool.and_eq_true] at hc
      have h1 : i.natAbs ≤ 9223372036854775807 := bBnd_iff.mp hc.1
      obtain ⟨a, vs, e1, e2, e3⟩ := rep_lst r1
      exact ⟨a, i, vs, e1, rep_int r2, k.ex _ _ e2, by omega, by omega, by rw [← e3.len]; exact szB_le hc.2, fun p hp => q p _ hp nt_lst ⟨_, upd_same, repL_rep e3 _⟩⟩
    · cases e
  · cases e
end Mm
namespace Mm
open PySem L2
theorem fRep_of (S : Sto) (x : D) (k : Nat) (h : k ≤ 1000) : fRep S (.lst [x]) (.int k) = some (.lst (List.replicate k x)) := by
  have h1 : bBnd (k : Int) 9223372036854775807 = true := bBnd_iff.mpr (by omega)
  have h2 := szB_of (n := k) (by omega)
  have h3 : (List.replicate k [x]).flatten = List.replicate k x := by simp
  simp [fRep, h1, h2, h3]
end Mm
/-! What holds behind a statement (it goes on), behind a def's call. -/
namespace Mm
open PySem L2
def NX (o : Out) (Q : Envr → Sto → Prop) : Prop := match o with
  | .nx e S => Q e S
  | _ => False
@[simp] theorem NX_nx (e : Envr) (S : Sto) (Q : Envr → Sto → Prop) : NX (.nx e S) Q = Q e S := rfl
/-- a def's call that ends with a value -/
def RX {α : Type} (o : R α) (Q : α → Sto → Prop) : Prop := match o with
  | .ok r S => Q r S
  | _ => False
@[simp] theorem RX_ok {α : Type} (e : α) (S : Sto) (Q : α → Sto → Prop) : RX (.ok e S) Q = Q e S := rfl
/-- a def whose body goes on to its end, or gives back -/
def EX (o : Out) (Q : Ret → Sto → Prop) : Prop := match o with
  | .nx _ S => Q (.val .non) S
  | .rt r S => Q r S
  | _ => False
@[simp] theorem EX_nx (e : Envr) (S : Sto) (Q : Ret → Sto → Prop) : EX (.nx e S) Q = Q (.val .non) S := rfl
@[simp] theorem EX_rt (r : Ret) (S : Sto) (Q : Ret → Sto → Prop) : EX (.rt r S) Q = Q r S := rfl
end Mm
namespace Mm
open PySem L2
section
variable {X : Cx} {Y : Gam} {W : WX} {e : Expr} {te : TE} {me : ME}
/-! ### xs.index(k), of a number that is there -/
def eIdx (mo me : ME) : ME := fun env S => (mo env S).bind fun d S1 => match d with
  | .lst ds => (me env S1).bind fun k S2 => (match k with
    | .int k => (match intsOf ds with
      | some ns => if k ∈ ns then .ok (.int (ns.idxOf k : Nat)) S2 else .stuck
      | none => .stuck)
    | _ => .stuck)
  | _ => .stuck
end
end Mm
namespace Mm
open PySem PySem.Spec PyProof.Rows L2
/-! ### set(xs) of a list of numbers; sorted, len of it -/
section
variable {P : Program} {w : World} {A : Around} {E : Value → Shared → Prop} {s : Shared}
end
section
variable {P : Program} {w : World} {A : Around} {E : Value → Shared → Prop} {s : Shared}
end
section
variable {X : Cx}
/-- set(xs) -/
def rSetI (w : World) (K : PySem.W.Frag) : List V → Hp → VK → Prop := fun vs H Q => ∃ (a : Addr) (ns : List Int), vs = [V.ref a] ∧ SqL K H a (ns.map V.int) ∧ ns.length + 1 < scanBound ∧
  ∀ p, H p = none → Q (.ref p) (upd H p (SetO w p (fun j => decide (j ∈ ns)) (ddp ns).length))
/-- sorted(s) -/
def rSortedS (w : World) : List V → Hp → VK → Prop := fun vs H Q => ∃ (a : Addr) (S : Int → Bool) (n : Nat), vs = [V.ref a] ∧ H a = some (SetO w a S n) ∧ n ≤ 100000 ∧
  ∀ (ns : List Int) (p : Addr), ns.Pairwise (· < ·) → (∀ k : Int, k ∈ ns ↔ S k = true) → ns.length = n → H p = none → Q (.ref p) (upd H p (.lst (ns.map V.int)))
/-- len(s) -/
def rLenS (w : World) : List V → Hp → VK → Prop := fun vs H Q => ∃ (a : Addr) (S : Int → Bool) (n : Nat), vs = [V.ref a] ∧ H a = some (SetO w a S n) ∧ Q (.int n) H
end
end Mm
namespace Mm
open PySem L2
def fSet (m : ME) : Envr → Sto → R (List Int) := fun env S => (m env S).bind fun d S1 => match d with
  | .lst ds => (match intsOf ds with
    | some ns => if decide (ns.length ≤ 4000) then .ok ns S1 else .stuck
    | none => .stuck)
  | _ => .stuck
def srtS (ns : List Int) : List Int := isrt (ddp ns)
def fSortedSet (m : ME) : MF := fun env S => (fSet m env S).bind fun ns S1 => .ok (.lst ((srtS ns).map D.int)) S1
def eLenSet (m : ME) : ME := fun env S => (fSet m env S).bind fun ns S1 => .ok (.int (ddp ns).length) S1
section
variable {X : Cx} {Y : Gam} {W : WX} {e : Expr} {te : TE} {me : ME} {p p2 pos pos2 : Pos}
end
end Mm
namespace Mm
open PySem PySem.Spec PyProof.Rows L2
/-! ### f(e, .., k = v, ..) -/
section
variable {X : Cx} {CX : CXT} {k n : Nat} {f : Addr} {fd : FuncData} {ps ks : List Str} {sp : Sp} {E : L2.St → XK} {x : Str} {p pos : Pos} {e : Expr} {es : List Expr} {kws : List Keyword} {t tk : TA} {g : List Value → List Value → List Value} {gV : List V → List V → List V}
end
def aCat (m mk : MA) : MA := fun env S => (m env S).bind fun ds S1 => (mk env S1).bind fun es S2 => .ok (ds ++ es) S2
structure SK (X : Cx) (Y : Gam) (W : WX) (kws : List Keyword) (t : TA) (m : MA) : Prop where
  pk : PK X kws t
  sim : SimA Y W t m
  len : ∀ env S ds S1, m env S = .ok ds S1 → ds.length = kws.length
section
variable {X : Cx} {Y : Gam} {W : WX} {e : Expr} {es : List Expr} {te : TE} {me : ME} {p pos kpos : Pos} {kws : List Keyword} {t tk : TA} {m mk : MA} {nm : Str} {x : Str} {k n nk : Nat} {mf : MFn} {ks : List Str}
end
/-- a def called with n values and the keywords ks, in its parameters' order; dvs, dd fill up behind -/
def KnK (P : Program) (w : World) (K : PySem.W.Frag) (mg : Str → Option Value) (base : Heap) (Y : Gam) (k : Nat) (x : Str) (n : Nat) (ks : List Str) (mf : MFn) (dvs : List V) (dd : List D) : Prop :=
  ∃ (f : Addr) (fd : FuncData) (ps : List Str) (ds : List Value), FnOk P w K mg base (L2N.CX P w) k f fd ps (spOf Y (n + ks.length + dd.length) mf) ∧ mg x = some (.ref f) ∧ PySem.W.keepIn K (.ref f) = true ∧ KBn K fd ps n ks (fun us ws => us ++ ws ++ ds) (fun vs zs => vs ++ zs ++ dvs) ∧ ∀ w, RepL Y w dd dvs
section
variable {X : Cx} {Y : Gam} {W : WX} {e : Expr} {es : List Expr} {te : TE} {me : ME} {p pos kpos : Pos} {kws : List Keyword} {t tk : TA} {m mk : MA} {nm : Str} {x : Str} {k n nk : Nat} {mf : MFn} {ks : List Str} {dvs : List V} {dd : List D}
end
end Mm
namespace Mm
open PySem L2
/-! ### dicts whose keys are numbers and texts -/
def keyD : D → Option Key
  | .int i => some (.inl i)
  | .str x => some (.inr x)
  | _ => none
def lookK (ks : List (Key × D)) (k : Key) : Option D := (ks.find? fun kv => decide (kv.1 = k)).map (·.2)
def putD (ks : List (Key × D)) (k : Key) (d : D) : List (Key × D) := if (ks.any fun kv => decide (kv.1 = k)) then ks.map fun kv => if kv.1 = k then (kv.1, d) else kv else ks ++ [(k, d)]
def dropD (ks : List (Key × D)) (k : Key) : List (Key × D) := ks.filter fun kv => decide (kv.1 ≠ k)
theorem RepK.nil_ {g : Gam} {w : Wd} : RepK g w [] [] := by unfold RepK; rfl
theorem RepK.cons_ {g : Gam} {w : Wd} {k : Key} {d : D} {ds : List (Key × D)} {v : V} {vs : List (Key × V)} (a : Rep g w d v) (b : RepK g w ds vs) : RepK g w ((k, d) :: ds) ((k, v) :: vs) := by
  unfold RepK
  exact ⟨v, vs, rfl, a, b⟩
theorem RepK.inv {g : Gam} {w : Wd} {k : Key} {d : D} {ds : List (Key × D)} {vs : List (Key × V)} (h : RepK g w ((k, d) :: ds) vs) : ∃ v r, vs = (k, v) :: r ∧ Rep g w d v ∧ RepK g w ds r := by
  unfold RepK at h
  exact h
theorem RepK.look {g : Gam} {w : Wd} (k : Key) : ∀ {ds : List (Key × D)} {vs : List (Key × V)}, RepK g w ds vs → (match lookK ds k with
    | some d => ∃ v, valV vs k = some v ∧ Rep g w d v
    | none => valV vs k = none)
  | [], vs, h => by
    unfold RepK at h
    subst h
    rfl
  | (k', d) :: ds, vs, h => by
    obtain ⟨v, r, rfl, a, b⟩ := h.inv
    have ih := RepK.look k b
    by_cases e : k' = k
    · have e1 : lookK ((k', d) :: ds) k = some d := by simp [lookK, e]
      rw [e1]
      exact ⟨v, valV_pos e, a⟩
    · have e1 : lookK ((k', d) :: ds) k = lookK ds k := by simp [lookK, e]
      rw [e1, valV_neg e]
      exact ih
theorem RepK.any_ {g : Gam} {w : Wd} (k : Key) : ∀ {ds : List (Key × D)} {vs : List (Key × V)}, RepK g w ds vs → (ds.any fun kv => decide (kv.1 = k)) = (vs.any fun kv => decide (kv.1 = k))
  | [], vs, h => by
    unfold RepK at h
    subst h
    rfl
  | (k', d) :: ds, vs, h => by
    obtain ⟨v, r, rfl, a, b⟩ := h.inv
    rw [List.any_cons, List.any_cons, RepK.any_ k b]
theorem RepK.app_ {g : Gam} {w : Wd} : ∀ {ds es : List (Key × D)} {vs us : List (Key × V)}, RepK g w ds vs → RepK g w es us → RepK g w (ds ++ es) (vs ++ us)
  | [], es, vs, us, h, k => by
    unfold RepK at h
    subst h
    exact k
  | (k', d) :: ds, es, vs, us, h, k => by
    obtain ⟨v, r, rfl, a, b⟩ := h.inv
    exact RepK.cons_ a (RepK.app_ b k)
theorem RepK.map_ {g : Gam} {w : Wd} {k : Key} {d : D} {v : V} (q : Rep g w d v) : ∀ {ds : List (Key × D)} {vs : List (Key × V)}, RepK g w ds vs → RepK g w (ds.map fun kv => if kv.1 = k then (kv.1, d) else kv) (vs.map fun kv => if kv.1 = k then (kv.1, v) else kv)
  | [], vs, h => by
    unfold RepK at h
    subst h
    exact RepK.nil_
  | (k', e) :: ds, vs, h => by
    obtain ⟨u, r, rfl, a, b⟩ := h.inv
    have ih := RepK.map_ (k := k) q b
    by_cases z : k' = k
    · simp only [List.map_cons, z, if_true]
      exact RepK.cons_ q ih
    · simp only [List.map_cons, z, if_false]
      exact RepK.cons_ a ih
theorem RepK.put_ {g : Gam} {w : Wd} {k : Key} {d : D} {v : V} (q : Rep g w d v) {ds : List (Key × D)} {vs : List (Key × V)} (h : RepK g w ds vs) : RepK g w (putD ds k d) (putK vs k v) := by
  unfold putD putK
  rw [h.any_ k]
  split
  · exact RepK.map_ q h
  · exact h.app_ (RepK.cons_ q RepK.nil_)
theorem RepK.drop_ {g : Gam} {w : Wd} (k : Key) : ∀ {ds : List (Key × D)} {vs : List (Key × V)}, RepK g w ds vs → RepK g w (dropD ds k) (dropK vs k)
  | [], vs, h => by
    unfold RepK at h
    subst h
    exact RepK.nil_
  | (k', e) :: ds, vs, h => by
    obtain ⟨u, r, rfl, a, b⟩ := h.inv
    have ih := RepK.drop_ k b
    unfold dropD dropK at ih ⊢
    by_cases z : k' = k
    · simpa [z] using ih
    · simp only [List.filter_cons, z, ne_eq, not_false_eq_true, decide_true, if_true]
      exact RepK.cons_ a ih
theorem RepK.len {g : Gam} {w : Wd} : ∀ {ds : List (Key × D)} {vs : List (Key × V)}, RepK g w ds vs → ds.length = vs.length
  | [], vs, h => by
    unfold RepK at h
    subst h
    rfl
  | (k', d) :: ds, vs, h => by
    obtain ⟨v, r, rfl, a, b⟩ := h.inv
    rw [List.length_cons, List.length_cons, RepK.len b]
/-- the dict that a value is -/
def dicOf (S : Sto) : D → Option (List (Key × D))
  | .dic ks => some ks
  | .ref n => (match S[n]? with
    | some (.dic ks) => some ks
    | some (.lck ks) => some ks
    | _ => none)
  | _ => none
/-- the dict in a slot, of one's own or not -/
def dicA (env : Envr) (S : Sto) (i : Nat) : Option (List (Key × D)) := match env[i]? with
  | some (.o (.dic ks)) => some ks
  | some (.v d) => dicOf S d
  | _ => none
def hasA (env : Envr) (i : Nat) : Bool := match env[i]? with
  | some (.o (.dic _)) => true
  | some (.v _) => true
  | _ => false
section
variable {g : Gam} {w0 w w1 : Wd} {H0 H H1 : Hp} {σ : L2.St} {env : Envr} {S S1 : Sto} {O : List (Option Addr)}
end
def eDGetA (i : Nat) (mk : ME) : ME := fun env S => if hasA env i then (mk env S).bind fun k S1 => (match keyD k, dicA env S1 i with
  | some k, some ks => opt (lookK ks k) S1
  | _, _ => .stuck) else .stuck
def eDGet (md mk : ME) : ME := fun env S => (md env S).bind fun d S1 => (mk env S1).bind fun k S2 => match keyD k, dicOf S2 d with
  | some k, some ks => opt (lookK ks k) S2
  | _, _ => .stuck
def eDInA (neg : Bool) (mk : ME) (i : Nat) : ME := fun env S => (mk env S).bind fun k S1 => match keyD k, dicA env S1 i with
  | some k, some ks => .ok (.bl (if neg then !(lookK ks k).isSome else (lookK ks k).isSome)) S1
  | _, _ => .stuck
def eDIn (neg : Bool) (mk md : ME) : ME := fun env S => (mk env S).bind fun k S1 => (md env S1).bind fun d S2 => match keyD k, dicOf S2 d with
  | some k, some ks => .ok (.bl (if neg then !(lookK ks k).isSome else (lookK ks k).isSome)) S2
  | _, _ => .stuck
def eDGet2A (i : Nat) (mk mx : ME) : ME := fun env S => (match dicA env S i with
  | some _ => (mk env S).bind fun k S1 => (mx env S1).bind fun x S2 => (match keyD k, dicA env S2 i with
    | some k, some ks => .ok ((lookK ks k).getD x) S2
    | _, _ => .stuck)
  | none => .stuck)
def sDPutA (i : Nat) (mk me : ME) : MS := fun env S => (me env S).out env fun d S1 => if hasA env i then (mk env S1).out env fun k S2 => (match keyD k, env[i]? with
    | some k, some (.o (.dic ks)) => if szB (ks.length + 1) then .nx (env.set i (.o (.dic (putD ks k d)))) S2 else .stuck
    | some k, some (.v (.ref n)) => (match S2[n]? with
      | some (.dic ks) => if szB (ks.length + 1) then .nx env (S2.set n (.dic (putD ks k d))) else .stuck
      | _ => .stuck)
    | _, _ => .stuck) else .stuck
def sDPut (md mk me : ME) : MS := fun env S => (me env S).out env fun d S1 => (md env S1).out env fun o S2 => (mk env S2).out env fun k S3 => (match keyD k, o with
    | some k, .ref n => (match S3[n]? with
      | some (.dic ks) => if szB (ks.length + 1) then .nx env (S3.set n (.dic (putD ks k d))) else .stuck
      | _ => .stuck)
    | _, _ => .stuck)
def fDic0 : MF := fun _ S => .ok (.dic []) S
/-- a thing of one's own becomes a cell -/
def eCellOf (mf : MF) : ME := fun env S => (mf env S).bind fun c S1 => .ok (.ref S1.length) (S1 ++ [c])
section
variable {X : Cx} {Y : Gam} {W : WX} {e o k f : Expr} {te td tk tx : TE} {me md mk mx : ME} {mf : MF} {pos pos' p1 apos cpos : Pos}
theorem nt_dK {vs : List (Key × V)} : ∀ ps, HO.dK vs ≠ .tbl ps := fun _ z => by cases z
end
end Mm
namespace Mm
open PySem PySem.Spec PyProof.Rows L2 HT
/-! ### t[::-1] of a tuple -/
section
variable {prog : Program} {w : World} {A : Around} {E : Value → Shared → Prop} {s : Shared}
end
section
variable {X : Cx}
def tRevT (K : PySem.W.Frag) (te : TE) : TE := fun σ H Q => te σ H fun x H1 => ∃ a xs, x = .ref a ∧ SqT K H1 a xs ∧ ∀ p, H1 p = none → Q (.ref p) (upd H1 p (.tup xs.reverse))
end
end Mm
namespace Mm
open PySem L2
def eRevT (m : ME) : ME := fun env S => (m env S).bind fun d S1 => match d with
  | .tup ds => .ok (.tup ds.reverse) S1
  | _ => .stuck
/-- xs.clear(), xs of one's own -/
def sClr (i : Nat) : MS := fun env S => match env[i]? with
  | some (.o (.lst _)) => .nx (env.set i (.o (.lst []))) S
  | _ => .stuck
section
variable {X : Cx} {Y : Gam} {W : WX} {e : Expr} {te : TE} {me : ME} {pos : Pos}
end
end Mm
namespace Mm
open PySem L2
@[simp] theorem eIdx_eq (mo me : ME) (env : Envr) (S : Sto) : eIdx mo me env S = (mo env S).bind fun d S1 => match d with
  | .lst ds => (me env S1).bind fun k S2 => (match k with
    | .int k => (match intsOf ds with
      | some ns => if k ∈ ns then .ok (.int (ns.idxOf k : Nat)) S2 else .stuck
      | none => .stuck)
    | _ => .stuck)
  | _ => .stuck := rfl
@[simp] theorem fSortedSet_eq (m : ME) (env : Envr) (S : Sto) : fSortedSet m env S = (fSet m env S).bind fun ns S1 => .ok (.lst ((srtS ns).map D.int)) S1 := rfl
@[simp] theorem eLenSet_eq (m : ME) (env : Envr) (S : Sto) : eLenSet m env S = (fSet m env S).bind fun ns S1 => .ok (.int (ddp ns).length) S1 := rfl
@[simp] theorem aCat_eq (m mk : MA) (env : Envr) (S : Sto) : aCat m mk env S = (m env S).bind fun ds S1 => (mk env S1).bind fun es S2 => .ok (ds ++ es) S2 := rfl
@[simp] theorem eRevT_eq (m : ME) (env : Envr) (S : Sto) : eRevT m env S = (m env S).bind fun d S1 => match d with
  | .tup ds => .ok (.tup ds.reverse) S1
  | _ => .stuck := rfl
@[simp] theorem sClr_eq (i : Nat) (env : Envr) (S : Sto) : sClr i env S = (match env[i]? with
  | some (.o (.lst _)) => .nx (env.set i (.o (.lst []))) S
  | _ => .stuck) := rfl
@[simp] theorem fDic0_eq (env : Envr) (S : Sto) : fDic0 env S = .ok (.dic []) S := rfl
@[simp] theorem d_dic (ks : List (Key × D)) : (Cell.dic ks).d = .dic ks := rfl
@[simp] theorem keyD_int (i : Int) : keyD (.int i) = some (.inl i) := rfl
@[simp] theorem keyD_str (x : Str) : keyD (.str x) = some (.inr x) := rfl
@[simp] theorem dicOf_dic (S : Sto) (ks : List (Key × D)) : dicOf S (.dic ks) = some ks := rfl
@[simp] theorem eDGetA_eq (i : Nat) (mk : ME) (env : Envr) (S : Sto) : eDGetA i mk env S = if hasA env i then (mk env S).bind fun k S1 => (match keyD k, dicA env S1 i with
  | some k, some ks => opt (lookK ks k) S1
  | _, _ => .stuck) else .stuck := rfl
@[simp] theorem eDGet_eq (md mk : ME) (env : Envr) (S : Sto) : eDGet md mk env S = (md env S).bind fun d S1 => (mk env S1).bind fun k S2 => match keyD k, dicOf S2 d with
  | some k, some ks => opt (lookK ks k) S2
  | _, _ => .stuck := rfl
@[simp] theorem eDInA_eq (neg : Bool) (mk : ME) (i : Nat) (env : Envr) (S : Sto) : eDInA neg mk i env S = (mk env S).bind fun k S1 => match keyD k, dicA env S1 i with
  | some k, some ks => .ok (.bl (if neg then !(lookK ks k).isSome else (lookK ks k).isSome)) S1
  | _, _ => .stuck := rfl
@[simp] theorem eDIn_eq (neg : Bool) (mk md : ME) (env : Envr) (S : Sto) : eDIn neg mk md env S = (mk env S).bind fun k S1 => (md env S1).bind fun d S2 => match keyD k, dicOf S2 d with
  | some k, some ks => .ok (.bl (if neg then !(lookK ks k).isSome else (lookK ks k).isSome)) S2
  | _, _ => .stuck := rfl
@[simp] theorem eDGet2A_eq (i : Nat) (mk mx : ME) (env : Envr) (S : Sto) : eDGet2A i mk mx env S = (match dicA env S i with
  | some _ => (mk env S).bind fun k S1 => (mx env S1).bind fun x S2 => (match keyD k, dicA env S2 i with
    | some k, some ks => .ok ((lookK ks k).getD x) S2
    | _, _ => .stuck)
  | none => .stuck) := rfl
@[simp] theorem sDPutA_eq (i : Nat) (mk me : ME) (env : Envr) (S : Sto) : sDPutA i mk me env S = (me env S).out env fun d S1 => if hasA env i then (mk env S1).out env fun k S2 => (match keyD k, env[i]? with
    | some k, some (.o (.dic ks)) => if szB (ks.length + 1) then .nx (env.set i (.o (.dic (putD ks k d)))) S2 else .stuck
    | some k, some (.v (.ref n)) => (match S2[n]? with
      | some (.dic ks) => if szB (ks.length + 1) then .nx env (S2.set n (.dic (putD ks k d))) else .stuck
      | _ => .stuck)
    | _, _ => .stuck) else .stuck := rfl
@[simp] theorem dicA_eq (env : Envr) (S : Sto) (i : Nat) : dicA env S i = (match env[i]? with
  | some (.o (.dic ks)) => some ks
  | some (.v d) => dicOf S d
  | _ => none) := rfl
@[simp] theorem hasA_eq (env : Envr) (i : Nat) : hasA env i = (match env[i]? with
  | some (.o (.dic _)) => true
  | some (.v _) => true
  | _ => false) := rfl
end Mm
namespace Fb
open PySem L2 Mm Gf
end Fb
namespace Fb
open PySem L2 Mm Gf
end Fb
namespace Mm
open PySem L2 Fb
/-- a law that goes so many rounds: ss the names' slots, c those of comprehensions -/
abbrev LE (ns : List Int) (ss : List Sl) (c : Nat) : Envr := .v (.scr ns) :: .v (.ref 0) :: (ss ++ List.replicate c .no)
def LI (ns : List Int) (k c : Nat) (P : List Sl → Prop) (e : Envr) (S : Sto) : Prop := ∃ b ss, S = [b] ∧ Bx b ∧ e = LE ns ss c ∧ ss.length = k ∧ P ss
theorem LI.mk {ns : List Int} {k c : Nat} {P : List Sl → Prop} {b : Cell} (ss : List Sl) (hb : Bx b) (hl : ss.length = k) (p : P ss) : LI ns k c P (LE ns ss c) [b] := ⟨b, ss, rfl, hb, rfl, hl, p⟩
end Mm
/-! Ways from one spread to another, in plain numbers. -/
namespace Gf
open Fb Mm
/-- the fold to a berth of the first spread that holds the cell -/
def fstL (A B : List Nat) (v : Nat) : List Nat := B.map (app (backL A v))
def swL (A : List Nat) (m : Nat) : List Nat := (kerL A).map (· >>> m)
def frL (A : List Nat) (m : Nat) : List Nat := can (swL A m)
def sw (A B : List Nat) (v m x : Nat) : Nat := red ((x ^^^ app (fstL A B v) x) >>> m) (frL A m)
section
variable {A B : List Nat} {v m l : Nat} (hA : Lin (m + l) v A) (hB : Lin (m + l) v B)
include hA hB
/-- t is a turning of x -/
def Tng (A B : List Nat) (m x t : Nat) : Prop := ∃ h, h < 2 ^ A.length ∧ app A h = app B x ∧ t = (x ^^^ h) >>> m
end
/-! ### sources -/
def stL (A : List Nat) (m : Nat) : List Nat := (kerL A).filter fun b => decide (b < 2 ^ m)
def nee (A B : List Nat) (v m x : Nat) : Nat := (x ^^^ app (fstL A B v) x) >>> m ^^^ sw A B v m x
def mkk (A B : List Nat) (v m x : Nat) : Nat := (trail (swL A m) (nee A B v m x)).getD 0
def src (A B : List Nat) (v m x : Nat) : Nat := red (app (fstL A B v) x ^^^ app (kerL A) (mkk A B v m x)) (stL A m)
section
variable {A B : List Nat} {v m l : Nat} (hA : Lin (m + l) v A) (hB : Lin (m + l) v B)
include hA hB
end
/-! ### linear ones by their rows -/
def rowsOf (f : Nat → Nat) (d : Nat) : List Nat := (List.range d).map fun i => f (2 ^ i)
def trnL (A B : List Nat) (v m d : Nat) : List Nat := rowsOf (sw A B v m) d
def srcL (A B : List Nat) (v m d : Nat) : List Nat := rowsOf (src A B v m) d
/-- a span, rising -/
def spn (B : List Nat) : List Nat := nsrt (spl B)
def rndL (T : List Nat) : List Nat := (spn (can T)).drop 1
end Gf
namespace Fb
open PySem L2 Mm Gf
noncomputable def m__law_two_spreads : MFn := mFn 8 (sSeq (sAsg (eCall m__law_of [] (aCons (eV 0) (aCons (mFrz (fLst (aCons (eC (.int 7)) (aCons (eC (.int 5)) (aCons (eC (.int 4)) (aCons (eC (.int 3)) (aCons (eC (.int 6)) (aCons (eC (.int 2)) (aCons (eC (.int 1)) (aCons (eC (.int 0)) aNil)))))))))) aNil))) (gN 1))
    (sSeq (sAsg (mFrz (fLst (aCons (eV 1) (aCons (eV 1) (aCons (eCB fMax2 (aCons (eC (.int 0)) (aCons (eOp iSub (eV 1) (eC (.int 1))) aNil))) (aCons (eCall m__law_take [] (aCons (eV 0) (aCons (eOp dAdd (eV 1) (eC (.int 1))) aNil))) aNil)))))) (gN 2))
    (sSeq (sAsg (eCall m__law_of [] (aCons (eV 0) (aCons (eV 2) aNil))) (gN 3))
    (sSeq (sAsg (eCall m__law_lines [] (aCons (eV 0) (aCons (eV 1) (aCons (eV 3) aNil)))) (gN 4))
    (sSeq (sAsg (eCall m__law_take [] (aCons (eV 0) (aCons (eC (.int 4)) aNil))) (gN 5))
    (sSeq (sAsg (eCall m__law_lines [] (aCons (eV 0) (aCons (eV 1) (aCons (eV 3) aNil)))) (gN 6))
    (sSeq (sIf (cB (eOp fEq (eV 5) (eC (.int 0)))) (sAsg (eCB fTupOf (aCons (eCall m__law_shuffled [] (aCons (eV 0) (aCons (mFrz (fCB fListOf (aCons (eV 4) aNil))) aNil))) aNil)) (gN 6)) sNil)
    (sSeq (sIf (cAnd (cB (eOp fEq (eV 5) (eC (.int 1)))) (cB (eOp iGt (eV 1) (eC (.int 1))))) (sSeq (sAsg (eCall m__law_take [] (aCons (eV 0) (aCons (eOp iSub (eV 1) (eC (.int 1))) aNil))) (gN 7))
    (sAsg (eOp fCatT (eOp fCatT (eSlT (eV 4) oNone (oSome (eV 7))) (eRevT (eSlT (eV 4) (oSome (eV 7)) (oSome (eOp dAdd (eV 7) (eC (.int 2))))))) (eSlT (eV 4) (oSome (eOp dAdd (eV 7) (eC (.int 2)))) oNone)) (gN 6))) sNil)
    (sRet (eTup (aCons (eV 1) (aCons (eV 3) (aCons (eCall m__law_take [] (aCons (eV 0) (aCons (eOp dAdd (eV 1) (eC (.int 1))) aNil))) (aCons (eV 4) (aCons (eV 6) aNil)))))))))))))))
noncomputable def m__law_homes : MFn := mFn 4 (sSeq (sOwn 1 fDic0)
    (sSeq (sFor (itES (aCons (eCall m__law_images [] (aCons (eV 0) aNil)) aNil)) (gT (gNC (gN 2) (gNC (gN 3) gN0))) (sDPutA 1 (eV 3) (eOp dAdd (eDGet2A 1 (eV 3) (mFrz (fLst aNil))) (mFrz (fLst (aCons (eV 2) aNil))))))
    (sRetO 1)))
noncomputable def m__law_choices : MFn := mFn 8 (sSeq (sAsg (eCall m__law_homes [] (aCons (eV 0) aNil)) (gN 3))
    (sSeq (sOwn 4 (fLst aNil))
    (sSeq (sFor (itES (aCons (eCall m__law_images [] (aCons (eV 1) aNil)) aNil)) (gT (gNC (gN 5) (gNC (gN 6) gN0))) (sApp 4 (mFrz (fSortedSet (mFrz (fLc (itL (eDGetA 3 (eV 6))) (gN 7) cYes (eOp iShr (eOp iXor (eV 5) (eV 7)) (eV 2)) [7]))))))
    (sRetO 4))))
noncomputable def m_need_lanes : MFn := mFn 2 (sIf (cOr (cB (eOp iLt (eV 1) (eC (.int 0)))) (cB (eOp iGt (eV 1) (eMeth "Fold" "many" m_Fold_many [] (eV 0) aNil)))) (sRaise "BadSize") sNil)
noncomputable def m_need_spreads : MFn := mFn 3 (sSeq (sExpr (eCall m_need_lanes [] (aCons (eV 0) (aCons (eV 2) aNil))))
    (sSeq (sIf (cOr (cB (eOp fNe (eMeth "Fold" "many" m_Fold_many [] (eV 0) aNil) (eMeth "Fold" "many" m_Fold_many [] (eV 1) aNil))) (cB (eOp fNe (eMeth "Fold" "size" m_Fold_size [] (eV 0) aNil) (eMeth "Fold" "size" m_Fold_size [] (eV 1) aNil)))) (sRaise "Unfit") sNil)
    (sIf (cOr (cNot (cB (eMeth "Fold" "onto" m_Fold_onto [] (eV 0) aNil))) (cNot (cB (eMeth "Fold" "onto" m_Fold_onto [] (eV 1) aNil)))) (sRaise "NotOnto") sNil)))
noncomputable def m_LeadU_initU : MFn := mFn 5 (sSeq (sFldC "Lead" "low" (eV 0) (eOp iSub (eMeth "Fold" "many" m_Fold_many [] (eV 1) aNil) (eV 3)))
    (sSeq (sFldC "Lead" "lanes" (eV 0) (eV 3))
    (sSeq (sFldC "Lead" "first" (eV 0) (eMeth "Fold" "then" m_Fold_then [] (eV 2) (aCons (eMeth "Fold" "back" m_Fold_back [] (eV 1) aNil) aNil)))
    (sSeq (sFldC "Lead" "idle" (eV 0) (eMeth "Fold" "kernel" m_Fold_kernel [] (eV 1) aNil))
    (sSeq (sFldC "Lead" "swings" (eV 0) (mFrz (fLc (itL (eFld "Lead" "idle" (eV 0))) (gN 4) cYes (eOp iShr (eV 4) (eFld "Lead" "low" (eV 0))) [4])))
    (sFldC "Lead" "free" (eV 0) (eCall m_basis_of [] (aCons (eFld "Lead" "swings" (eV 0)) aNil))))))))
noncomputable def m_Lead_swing : MFn := mFn 2 (sRet (eCall m_reduced [] (aCons (eOp iShr (eOp iXor (eV 1) (eMeth "Fold" "to" m_Fold_to [] (eFld "Lead" "first" (eV 0)) (aCons (eV 1) aNil))) (eFld "Lead" "low" (eV 0))) (aCons (eFld "Lead" "free" (eV 0)) aNil))))
noncomputable def m_choices : MFn := mFn 7 (sSeq (sExpr (eCall m_need_spreads [] (aCons (eV 0) (aCons (eV 1) (aCons (eV 3) aNil)))))
    (sSeq (sIf (cOr (cB (eOp iLt (eV 2) (eC (.int 0)))) (cB (eOp iGt (eOp iShr (eV 2) (eMeth "Fold" "many" m_Fold_many [] (eV 0) aNil)) (eC (.int 0))))) (sRaise "NoBerth") sNil)
    (sSeq (sAsg (eNew "Lead" m_LeadU_initU [] (aCons (eV 0) (aCons (eV 1) (aCons (eV 3) aNil)))) (gN 4))
    (sSeq (sAsg (eMeth "Lead" "swing" m_Lead_swing [] (eV 4) (aCons (eV 2) aNil)) (gN 5))
    (sRetF (fCB fSorted (aCons (mFrz (fLc (itL (eCall m_span_of [] (aCons (eFld "Lead" "free" (eV 4)) aNil))) (gN 6) cYes (eOp iXor (eV 5) (eV 6)) [6])) aNil)))))))
noncomputable def m_Lead_still : MFn := mFn 4 (sSeq (sOwn 1 (fLst aNil))
    (sSeq (sAsg (eOp iShl (eC (.int 1)) (eFld "Lead" "low" (eV 0))) (gN 2))
    (sSeq (sFor (itL (eCall m_basis_of [] (aCons (eFld "Lead" "idle" (eV 0)) aNil))) (gN 3) (sIf (cB (eOp iLt (eV 3) (eV 2))) (sApp 1 (eV 3)) sNil))
    (sRetO 1))))
noncomputable def m_Lead_source : MFn := mFn 7 (sSeq (sAsg (eMeth "Fold" "to" m_Fold_to [] (eFld "Lead" "first" (eV 0)) (aCons (eV 1) aNil)) (gN 2))
    (sSeq (sAsg (eOp iXor (eOp iShr (eOp iXor (eV 1) (eV 2)) (eFld "Lead" "low" (eV 0))) (eMeth "Lead" "swing" m_Lead_swing [] (eV 0) (aCons (eV 1) aNil))) (gN 3))
    (sSeq (sAsg (eCall m_trail_to [] (aCons (eFld "Lead" "swings" (eV 0)) (aCons (eV 3) aNil))) (gN 4))
    (sSeq (sFor (itES (aCons (eFld "Lead" "idle" (eV 0)) aNil)) (gT (gNC (gN 5) (gNC (gN 6) gN0))) (sIf (cB (eOp fEq (eOp iAnd (eOp iShr (eV 4) (eV 5)) (eC (.int 1))) (eC (.int 1)))) (sAsg (eOp iXor (eV 2) (eV 6)) (gN 2)) sNil))
    (sRet (eCall m_reduced [] (aCons (eV 2) (aCons (eMeth "Lead" "still" m_Lead_still [] (eV 0) aNil) aNil))))))))
noncomputable def m_Lead_all_sources : MFn := mFn 5 (sSeq (sAsg (eOp dAdd (eFld "Lead" "low" (eV 0)) (eFld "Lead" "lanes" (eV 0))) (gN 1))
    (sSeq (sAsg (eNew "Fold" m_FoldU_initU [] (aCons (mFrz (fLc (itR1 (aCons (eV 1) aNil)) (gN 3) cYes (eMeth "Lead" "source" m_Lead_source [] (eV 0) (aCons (eOp iShl (eC (.int 1)) (eV 3)) aNil)) [3])) (aCons (eV 1) aNil))) (gN 2))
    (sRetF (fLc (itR1 (aCons (eOp iShl (eC (.int 1)) (eV 1)) aNil)) (gN 4) cYes (eMeth "Fold" "to" m_Fold_to [] (eV 2) (aCons (eV 4) aNil)) [4]))))
noncomputable def m_sources : MFn := mFn 3 (sSeq (sExpr (eCall m_need_spreads [] (aCons (eV 0) (aCons (eV 1) (aCons (eV 2) aNil)))))
    (sRetF (fMeth "Lead" "all_sources" m_Lead_all_sources [] (eNew "Lead" m_LeadU_initU [] (aCons (eV 0) (aCons (eV 1) (aCons (eV 2) aNil)))) aNil)))
noncomputable def m_Lead_turnings : MFn := mFn 2 (sRet (eNew "Fold" m_FoldU_initU [] (aCons (mFrz (fLc (itR1 (aCons (eOp dAdd (eFld "Lead" "low" (eV 0)) (eFld "Lead" "lanes" (eV 0))) aNil)) (gN 1) cYes (eMeth "Lead" "swing" m_Lead_swing [] (eV 0) (aCons (eOp iShl (eC (.int 1)) (eV 1)) aNil)) [1])) (aCons (eFld "Lead" "lanes" (eV 0)) aNil))))
noncomputable def m_rounds : MFn := mFn 3 (sSeq (sExpr (eCall m_need_spreads [] (aCons (eV 0) (aCons (eV 1) (aCons (eV 2) aNil)))))
    (sRetF (fSl (eCall m_span_of [] (aCons (eCall m_basis_of [] (aCons (eMeth "Fold" "rows" m_Fold_rows [] (eMeth "Lead" "turnings" m_Lead_turnings [] (eNew "Lead" m_LeadU_initU [] (aCons (eV 0) (aCons (eV 1) (aCons (eV 2) aNil)))) aNil) aNil) aNil)) aNil)) (oSome (eC (.int 1))) oNone)))
noncomputable def m_bound : MFn := mFn 5 (sSeq (sExpr (eCall m_need_spreads [] (aCons (eV 0) (aCons (eV 1) (aCons (eV 2) aNil)))))
    (sSeq (sAsg (eMeth "Lead" "turnings" m_Lead_turnings [] (eNew "Lead" m_LeadU_initU [] (aCons (eV 0) (aCons (eV 1) (aCons (eV 2) aNil)))) aNil) (gN 3))
    (sRetF (fCB fSorted (aCons (mFrz (fLc (itL (mFrz (fSl (eCall m_span_of [] (aCons (eCall m_basis_of [] (aCons (eMeth "Fold" "rows" m_Fold_rows [] (eV 3) aNil) aNil)) aNil)) (oSome (eC (.int 1))) oNone))) (gN 4) cYes (eMeth "Fold" "least" m_Fold_least [] (eV 3) (aCons (eV 4) aNil)) [4])) aNil)))))
noncomputable def m_boxes_of : MFn := mFn 2 (sRet (eNew "Fold" m_FoldU_initU [] (aCons (eSlT (eMeth "Fold" "rows" m_Fold_rows [] (eV 0) aNil) oNone (oSome (eOp iSub (eMeth "Fold" "many" m_Fold_many [] (eV 0) aNil) (eV 1)))) (aCons (eMeth "Fold" "size" m_Fold_size [] (eV 0) aNil) aNil))))
noncomputable def m_run : MFn := mFn 4 (sSeq (sExpr (eCall m_need_lanes [] (aCons (eV 0) (aCons (eV 1) aNil))))
    (sSeq (sAsg (eMeth "Fold" "rows" m_Fold_rows [] (eCall m_boxes_of [] (aCons (eV 0) (aCons (eV 1) aNil))) aNil) (gN 2))
    (sSeq (sAsg (eC (.int 0)) (gN 3))
    (sSeq (whL (cAnd (cB (eOp iLt (eV 3) (eCB fLen (aCons (eV 2) aNil)))) (cB (eOp fEq (eOp fIx (eV 2) (eV 3)) (eOp iShl (eC (.int 1)) (eV 3))))) (sAug 3 (fun i j => i + j) (eC (.int 1))) 100)
    (sRet (eV 3))))))
noncomputable def m_widest : MFn := mFn 6 (sSeq (sExpr (eCall m_need_lanes [] (aCons (eV 0) (aCons (eV 1) aNil))))
    (sSeq (sAsg (eCall m_boxes_of [] (aCons (eV 0) (aCons (eV 1) aNil))) (gN 2))
    (sSeq (sOwn 3 (fLst aNil))
    (sSeq (sAsg (eC (.int 0)) (gN 4))
    (sSeq (whL (cB (eOp iLt (eV 4) (eMeth "Fold" "size" m_Fold_size [] (eV 0) aNil))) (sSeq (sAsg (eMeth "Fold" "least" m_Fold_least [] (eV 2) (aCons (eOp iShl (eC (.int 1)) (eV 4)) aNil)) (gN 5))
    (sIf (cB (eOp fIs (eV 5) (eC .non))) (sAsg (eMeth "Fold" "size" m_Fold_size [] (eV 0) aNil) (gN 4)) (sSeq (sApp 3 (eV 5))
    (sAug 4 (fun i j => i + j) (eC (.int 1)))))) 100)
    (sFrz 3 (sRet (eTup (aCons (eLenA 3) (aCons (eNew "Fold" m_FoldU_initU [] (aCons (eOp dAdd (eV 3) (eCall m_rest [] (aCons (eV 3) (aCons (eMeth "Fold" "many" m_Fold_many [] (eV 2) aNil) aNil)))) (aCons (eMeth "Fold" "many" m_Fold_many [] (eV 2) aNil) aNil))) aNil))))))))))
noncomputable def m_steps_along : MFn := mFn 14 (sSeq (sAsg (eOp iSub (eMeth "Fold" "many" m_Fold_many [] (eV 0) aNil) (eV 2)) (gN 3))
    (sSeq (sAsg (eMeth "Fold" "kernel" m_Fold_kernel [] (eV 0) aNil) (gN 4))
    (sSeq (sAsg (mFrz (fLc (itL (eV 4)) (gN 13) cYes (eOp iShr (eV 13) (eV 3)) [13])) (gN 5))
    (sSeq (sAsg (eCall m_basis_of [] (aCons (eV 5) aNil)) (gN 6))
    (sSeq (sAsg (eMeth "Fold" "back" m_Fold_back [] (eV 0) aNil) (gN 7))
    (sSeq (sOwn 8 (fLst aNil))
    (sSeq (sFor (itL (eV 1)) (gN 9) (sSeq (sAsg (eMeth "Fold" "to" m_Fold_to [] (eV 7) (aCons (eOp iShl (eC (.int 1)) (eV 9)) aNil)) (gN 10))
    (sSeq (sAsg (eCall m_trail_to [] (aCons (eV 5) (aCons (eOp iXor (eOp iShr (eV 10) (eV 3)) (eCall m_reduced [] (aCons (eOp iShr (eV 10) (eV 3)) (aCons (eV 6) aNil)))) aNil))) (gN 11))
    (sSeq (sFor (itES (aCons (eV 4) aNil)) (gT (gNC (gN 12) (gNC (gN 13) gN0))) (sAsg (eIf (cB (eOp fEq (eOp iAnd (eOp iShr (eV 11) (eV 12)) (eC (.int 1))) (eC (.int 1)))) (eOp iXor (eV 10) (eV 13)) (eV 10)) (gN 10)))
    (sApp 8 (eV 10))))))
    (sRetO 8))))))))
noncomputable def m_gather : MFn := mFn 5 (sSeq (sExpr (eCall m_need_lanes [] (aCons (eV 0) (aCons (eV 2) aNil))))
    (sSeq (sIf (cNot (cB (eMeth "Fold" "onto" m_Fold_onto [] (eV 0) aNil))) (sRaise "NotOnto") sNil)
    (sSeq (sIf (cOr (cB (eOp iLt (eLenSet (eV 1)) (eCB fLen (aCons (eV 1) aNil)))) (cB (eCB fAny (aCons (mFrz (fLc (itL (eV 1)) (gN 3) cYes (eOr (eOp iLt (eV 3) (eC (.int 0))) (eOp iGe (eV 3) (eMeth "Fold" "size" m_Fold_size [] (eV 0) aNil))) [3])) aNil)))) (sRaise "BadDigits") sNil)
    (sRetF (fCall m_basis_of [] (aCons (mFrz (fLc (itL (eCall m_steps_along [] (aCons (eV 0) (aCons (eV 1) (aCons (eV 2) aNil))))) (gN 4) cYes (eOp iShr (eV 4) (eOp iSub (eMeth "Fold" "many" m_Fold_many [] (eV 0) aNil) (eV 2))) [4])) aNil))))))
noncomputable def m__law_reached : MFn := mFn 8 (sSeq (sOwn 4 fDic0)
    (sSeq (sFor (itL (eV 2)) (gN 5) (sSeq (sAsg (eOp iShl (eOp iXor (eV 1) (eV 5)) (eV 3)) (gN 6))
    (sFor (itL (mFrz (fSl (eV 0) (oSome (eV 6)) (oSome (eOp dAdd (eV 6) (eOp iShl (eC (.int 1)) (eV 3))))))) (gN 7) (sDPutA 4 (eV 7) (eC (.bl true))))))
    (sRetO 4)))
end Fb
namespace Fb
open PySem L2 Mm Gf
/-! ### class Lead -/
def lfs (A B : List Nat) (v m l : Nat) : List (Str × D) := [("low", nd m), ("lanes", nd l), ("first", fold (fstL A B v) (m + l)), ("idle", .lst (nl (kerL A))), ("swings", .lst (nl (swL A m))), ("free", .lst (nl (frL A m)))]
def lead (A B : List Nat) (v m l : Nat) : D := .ins "Lead" (lfs A B v m l)
@[simp] theorem lead_ins (S : Sto) (A B : List Nat) (v m l : Nat) : insOf "Lead" S (lead A B v m l) = some (lfs A B v m l) := by
  unfold lead
  simp
section
variable (A B : List Nat) (v m l : Nat)
@[simp] theorem lfs_low : (lfs A B v m l).lookup ("low" : Str) = some (nd m) := rfl
@[simp] theorem lfs_lanes : (lfs A B v m l).lookup ("lanes" : Str) = some (nd l) := rfl
@[simp] theorem lfs_first : (lfs A B v m l).lookup ("first" : Str) = some (fold (fstL A B v) (m + l)) := rfl
@[simp] theorem lfs_idle : (lfs A B v m l).lookup ("idle" : Str) = some (.lst (nl (kerL A))) := rfl
@[simp] theorem lfs_swings : (lfs A B v m l).lookup ("swings" : Str) = some (.lst (nl (swL A m))) := rfl
@[simp] theorem lfs_free : (lfs A B v m l).lookup ("free" : Str) = some (.lst (nl (frL A m))) := rfl
@[simp] theorem lfs_swing : (lfs A B v m l).lookup ("swing" : Str) = none := rfl
@[simp] theorem lfs_still : (lfs A B v m l).lookup ("still" : Str) = none := rfl
@[simp] theorem lfs_source : (lfs A B v m l).lookup ("source" : Str) = none := rfl
@[simp] theorem lfs_turnings : (lfs A B v m l).lookup ("turnings" : Str) = none := rfl
@[simp] theorem lfs_all : (lfs A B v m l).lookup ("all_sources" : Str) = none := rfl
end
theorem lk2 (a b c d : D) : List.lookup ("low" : Str) ([("low", a), ("lanes", b), ("first", c), ("idle", d)] : List (Str × D)) = some a := rfl
section
variable {A B : List Nat} {v m l : Nat} (hA : Lin (m + l) v A) (hB : Lin (m + l) v B) (hd : m + l ≤ 12)
include hA hB hd
end
end Fb
namespace Fb
open PySem L2 Mm Gf
section
variable {A B : List Nat} {v m l : Nat} (hA : Lin (m + l) v A) (hB : Lin (m + l) v B) (hd : m + l ≤ 12)
include hA hB hd
def bndL (T : List Nat) : List Nat := nsrt ((rndL T).map (bk T))
end
end Fb
namespace Mm
open PySem L2
end Mm
namespace Fb
open PySem L2 Mm Gf
end Fb
namespace Fb
open PySem L2 Mm Gf
/-! ### the law's homes and choices -/
def hmL (A : List Nat) (xs : List Nat) (c : Nat) : List Nat := xs.filter fun y => decide (app A y = c)
def HInv (A : List Nat) (ys : List Nat) (ks : List (Key × D)) : Prop := ks.length ≤ ys.length ∧ ∀ c : Nat, lookK ks (.inl (c : Int)) = if hmL A ys c = [] then none else some (.lst (nl (hmL A ys c)))
def chs (A B : List Nat) (v m x : Nat) : List Nat := nsrt ((spn (frL A m)).map (sw A B v m x ^^^ ·))
section
variable {A B : List Nat} {v m l : Nat} (hA : Lin (m + l) v A) (hB : Lin (m + l) v B) (hd : m + l ≤ 12)
include hA hB hd
end
end Fb
namespace Fb
open PySem L2 Mm Gf
end Fb
namespace Fb
open PySem L2 Mm Gf
end Fb
/-! Runs, in plain numbers. -/
namespace Gf
open Fb Mm
def runL : List Nat → Nat → Nat
  | [], _ => 0
  | r :: rs, k => if r = 2 ^ k then 1 + runL rs (k + 1) else 0
/-- 2 ** k, 2 ** (k + 1) .. -/
def plainF (k n : Nat) : List Nat := (List.range n).map fun i => 2 ^ (k + i)
/-! ### the widest run -/
def wfL (R : List Nat) : Nat → Nat → List Nat
  | _, 0 => []
  | k, n + 1 => match lst R (2 ^ k) with
    | none => []
    | some x => x :: wfL R (k + 1) n
def wdL (R : List Nat) (v : Nat) : List Nat := wfL R 0 v ++ restL (wfL R 0 v) R.length
end Gf
namespace Fb
open PySem L2 Mm Gf
noncomputable def wBody : MS := sSeq (sAsg (eMeth "Fold" "least" m_Fold_least [] (eV 2) (aCons (eOp iShl (eC (.int 1)) (eV 4)) aNil)) (gN 5)) (sIf (cB (eOp fIs (eV 5) (eC .non))) (sAsg (eMeth "Fold" "size" m_Fold_size [] (eV 0) aNil) (gN 4)) (sSeq (sApp 3 (eV 5)) (sAug 4 (fun i j => i + j) (eC (.int 1)))))
noncomputable def wTest : MT := cB (eOp iLt (eV 4) (eMeth "Fold" "size" m_Fold_size [] (eV 0) aNil))
end Fb
namespace Gf
open Fb Mm
def gsw (A : List Nat) (m s : Nat) : Nat := red (s >>> m) (frL A m)
def gmk (A : List Nat) (m s : Nat) : Nat := (trail (swL A m) (s >>> m ^^^ gsw A m s)).getD 0
def gst (A : List Nat) (m s : Nat) : Nat := s ^^^ app (kerL A) (gmk A m s)
/-- the turning of a digit -/
def gdg (A : List Nat) (m p : Nat) : Nat := gsw A m (bk A (2 ^ p))
def gthL (A : List Nat) (m : Nat) (ps : List Nat) : List Nat := can (ps.map (gdg A m))
end Gf
namespace Fb
open PySem L2 Mm Gf
section
variable {A : List Nat} {v m l : Nat} (hA : Lin (m + l) v A) (hd : m + l ≤ 12)
include hA hd
noncomputable def sIn : MS := sAsg (eIf (cB (eOp fEq (eOp iAnd (eOp iShr (eV 11) (eV 12)) (eC (.int 1))) (eC (.int 1)))) (eOp iXor (eV 10) (eV 13)) (eV 10)) (gN 10)
end
end Fb
namespace Fb
open PySem L2 Mm Gf
/-! ### what is reached, as the law looks at it -/
noncomputable def rBody : MS := sSeq (sAsg (eOp iShl (eOp iXor (eV 1) (eV 5)) (eV 3)) (gN 6)) (sFor (itL (mFrz (fSl (eV 0) (oSome (eV 6)) (oSome (eOp dAdd (eV 6) (eOp iShl (eC (.int 1)) (eV 3))))))) (gN 7) (sDPutA 4 (eV 7) (eC (.bl true))))
end Fb
namespace Gf
open Fb Mm
end Gf
namespace Mm
open PySem L2
/-! ### min(xs), max(xs) of a list of numbers -/
def fMin1 : Sto → List D → Option D
  | _, [.lst ds] => (intsOf ds).bind fun ns => ns.min?.map D.int
  | _, _ => none
def fMax1 : Sto → List D → Option D
  | _, [.lst ds] => (intsOf ds).bind fun ns => ns.max?.map D.int
  | _, _ => none
/-! ### list(range(..)) -/
def rgS (i j : Int) : Bool := rgB i && (rgB j && decide ((j - i).toNat ≤ 100000))
def fLstR1 (m : ME) : MF := fun env S => (m env S).bind fun d S1 => match d with
  | .int j => if rgS 0 j then .ok (.lst (rngD 0 (j - 0).toNat)) S1 else .stuck
  | _ => .stuck
def fLstR2 (m m2 : ME) : MF := fun env S => (m env S).bind fun d S1 => (m2 env S1).bind fun d2 S2 => match d, d2 with
  | .int i, .int j => if rgS i j then .ok (.lst (rngD i (j - i).toNat)) S2 else .stuck
  | _, _ => .stuck
section
variable {X : Cx} {Y : Gam} {W : WX} {e a b : Expr} {te ta tb : TE} {me ma mb : ME} {p pos p2 pos2 : Pos}
/-! ### xs[::-1] of a list -/
def fRevL (m : ME) : MF := fun env S => (m env S).bind fun d S1 => match d with
  | .lst ds => .ok (.lst ds.reverse) S1
  | _ => .stuck
/-! ### is, is not of truth values -/
def fIsB : Sto → D → D → Option D
  | _, .bl a, .bl b => some (.bl (decide (a = b)))
  | _, _, _ => none
def fIsNotB : Sto → D → D → Option D
  | _, .bl a, .bl b => some (.bl (!decide (a = b)))
  | _, _, _ => none
/-! ### a display of constants -/
def fDisp1 (k : Key) (d : D) : MF := fun _ S => .ok (.dic [(k, d)]) S
end
end Mm
namespace Mm
open PySem L2
@[simp] theorem fLstR1_eq (m : ME) (env : Envr) (S : Sto) : fLstR1 m env S = (m env S).bind fun d S1 => match d with
  | .int j => if rgS 0 j then .ok (.lst (rngD 0 (j - 0).toNat)) S1 else .stuck
  | _ => .stuck := rfl
@[simp] theorem fLstR2_eq (m m2 : ME) (env : Envr) (S : Sto) : fLstR2 m m2 env S = (m env S).bind fun d S1 => (m2 env S1).bind fun d2 S2 => match d, d2 with
  | .int i, .int j => if rgS i j then .ok (.lst (rngD i (j - i).toNat)) S2 else .stuck
  | _, _ => .stuck := rfl
@[simp] theorem fRevL_eq (m : ME) (env : Envr) (S : Sto) : fRevL m env S = (m env S).bind fun d S1 => match d with
  | .lst ds => .ok (.lst ds.reverse) S1
  | _ => .stuck := rfl
@[simp] theorem fIsB_eq (S : Sto) (a b : Bool) : fIsB S (.bl a) (.bl b) = some (.bl (decide (a = b))) := rfl
@[simp] theorem fIsNotB_eq (S : Sto) (a b : Bool) : fIsNotB S (.bl a) (.bl b) = some (.bl (!decide (a = b))) := rfl
@[simp] theorem fDisp1_eq (k : Key) (d : D) (env : Envr) (S : Sto) : fDisp1 k d env S = .ok (.dic [(k, d)]) S := rfl
end Mm
namespace Fb
open PySem L2 Mm Gf
noncomputable def m__law_swings : MFn := mFn 4 (sRetF (fLc (itL (eCall m__law_choices [] (aCons (eV 0) (aCons (eV 1) (aCons (eV 2) aNil))))) (gN 3) cYes (eOp fIx (eV 3) (eC (.int 0))) [3]))
noncomputable def m_walk : MFn := mFn 2 (sSeq (sExpr (eCall m_need_lanes [] (aCons (eV 0) (aCons (eV 1) aNil))))
    (sRetF (fCall m_basis_of [] (aCons (eSlT (eMeth "Fold" "rows" m_Fold_rows [] (eV 0) aNil) (oSome (eOp iSub (eMeth "Fold" "many" m_Fold_many [] (eV 0) aNil) (eV 1))) oNone) aNil))))
noncomputable def m__law_swings_along : MFn := mFn 8 (sSeq (sAsg (eCall m__law_images [] (aCons (eV 0) aNil)) (gN 3))
    (sSeq (sOwn 4 (fLst aNil))
    (sSeq (sFor (itL (eV 1)) (gN 5) (sApp 4 (eCB fMin1 (aCons (mFrz (fLc (itES (aCons (eV 3) aNil)) (gT (gNC (gN 6) (gNC (gN 7) gN0))) (cB (eOp fEq (eV 7) (eOp iShl (eC (.int 1)) (eV 5)))) (eOp iShr (eV 6) (eV 2)) [6, 7])) aNil))))
    (sRetO 4))))
noncomputable def m__law_each_count : MFn := mFn 17 (sSeq (sAsg (eMeth "Fold" "size" m_Fold_size [] (eOp fIx (eV 1) (eC (.int 0))) aNil) (gN 5))
    (sSeq (sFor (itL (eCall m__law_shuffled [] (aCons (eV 0) (aCons (mFrz (fLstR1 (eOp dAdd (eV 4) (eC (.int 1))))) aNil)))) (gN 6) (sSeq (sAsg (eOp iSub (eV 4) (eV 6)) (gN 7))
    (sSeq (sAsg (eCall m__law_swings [] (aCons (eV 2) (aCons (eV 3) (aCons (eV 7) aNil)))) (gN 8))
    (sSeq (sAsg (mFrz (fSortedSet (mFrz (fLc (itL (eV 8)) (gN 12) (cB (eOp iGt (eV 12) (eC (.int 0)))) (eV 12) [12])))) (gN 9))
    (sSeq (sAsg (eCall m_sources [] (aCat (aCons (eOp fIx (eV 1) (eC (.int 0))) (aCons (eOp fIx (eV 1) (eC (.int 1))) aNil)) (aCons (eV 6) aNil))) (gN 10))
    (sSeq (sIf (cB (eOp fNe (mFrz (fLc (itES (aCons (eV 10) aNil)) (gT (gNC (gN 13) (gNC (gN 14) gN0))) cYes (eOp iShr (eOp iXor (eV 14) (eV 13)) (eV 7)) [13, 14])) (eV 8))) (sRet (eC (.bl false))) sNil)
    (sSeq (sIf (cNot (cB (eCall (m__law_same 4) [] (aCons (eCall m_rounds [] (aCat (aCons (eOp fIx (eV 1) (eC (.int 0))) (aCons (eOp fIx (eV 1) (eC (.int 1))) aNil)) (aCons (eV 6) aNil))) (aCons (eV 9) aNil))))) (sRet (eC (.bl false))) sNil)
    (sSeq (sIf (cB (eOp fNe (eCB fLen (aCons (eCall m_bound [] (aCat (aCons (eOp fIx (eV 1) (eC (.int 0))) (aCons (eOp fIx (eV 1) (eC (.int 1))) aNil)) (aCons (eV 6) aNil))) aNil)) (eCB fLen (aCons (eV 9) aNil)))) (sRet (eC (.bl false))) sNil)
    (sSeq (sIf (cNot (cB (eCall m__law_is_basis [] (aCons (eCall m_walk [] (aCat (aCons (eOp fIx (eV 1) (eC (.int 0))) aNil) (aCons (eV 6) aNil))) (aCons (eCall m__law_span [] (aCons (eSlT (eV 2) (oSome (eV 7)) oNone) aNil)) aNil))))) (sRet (eC (.bl false))) sNil)
    (sSeq (sAsg (eOp fIx (mFrz (fLc (itR1 (aCons (eOp dAdd (eV 7) (eC (.int 1))) aNil)) (gN 15) (cB (eOp fEq (eSlT (eV 2) oNone (oSome (eV 15))) (eCB fTupOf (aCons (mFrz (fLc (itR1 (aCons (eV 15) aNil)) (gN 16) cYes (eOp iShl (eC (.int 1)) (eV 16)) [16])) aNil)))) (eV 15) [15])) (eUn fNeg (eC (.int 1)))) (gN 11))
    (sSeq (sIf (cB (eOp fNe (eCall m_run [] (aCat (aCons (eOp fIx (eV 1) (eC (.int 0))) aNil) (aCons (eV 6) aNil))) (eV 11))) (sRet (eC (.bl false))) sNil)
    (sSeq (sAsg (eCall m__law_span [] (aCons (eCall m__law_swings_along [] (aCons (eV 2) (aCons (mFrz (fLstR1 (eV 5))) (aCons (eV 7) aNil)))) aNil)) (gN 11))
    (sIf (cNot (cB (eCall m__law_is_basis [] (aCons (eCall m_gather [] (aCat (aCons (eOp fIx (eV 1) (eC (.int 0))) (aCons (mFrz (fLstR1 (eV 5))) aNil)) (aCons (eV 6) aNil))) (aCons (eV 11) aNil))))) (sRet (eC (.bl false))) sNil)))))))))))))
    (sRet (eC (.bl true)))))
noncomputable def m_bound_holds : MFn := mFn 9 (sSeq (sExpr (eCall m_need_spreads [] (aCons (eV 0) (aCons (eV 1) (aCons (eV 3) aNil)))))
    (sSeq (sAsg (eNew "Lead" m_LeadU_initU [] (aCons (eV 0) (aCons (eV 1) (aCons (eV 3) aNil)))) (gN 4))
    (sSeq (sOwn 5 (fDisp1 (.inl 0) (.bl true)))
    (sSeq (sAsg (eUn fNeg (eC (.int 1))) (gN 6))
    (sSeq (sFor (itL (eV 2)) (gN 7) (sSeq (sIf (cOr (cB (eOp iLe (eV 7) (eV 6))) (cB (eOp iGt (eOp iShr (eV 7) (eMeth "Fold" "many" m_Fold_many [] (eV 0) aNil)) (eC (.int 0))))) (sRet (eC (.bl false))) sNil)
    (sSeq (sAsg (eMeth "Lead" "swing" m_Lead_swing [] (eV 4) (aCons (eV 7) aNil)) (gN 8))
    (sSeq (sIf (cB (eDInA false (eV 8) 5)) (sRet (eC (.bl false))) sNil)
    (sSeq (sDPutA 5 (eV 8) (eC (.bl true)))
    (sAsg (eV 7) (gN 6)))))))
    (sRet (eC (.bl true))))))))
noncomputable def m__law_bent : MFn := mFn 6 (sSeq (sAsg (eCall m__law_take [] (aCons (eV 0) (aCons (eC (.int 6)) aNil))) (gN 3))
    (sSeq (sAsg (eCall m__law_take [] (aCons (eV 0) (aCons (eOp dAdd (eCB fLen (aCons (eV 1) aNil)) (eC (.int 1))) aNil))) (gN 4))
    (sSeq (sIf (cB (eOp fEq (eV 3) (eC (.int 0)))) (sRet (eOp dAdd (mFrz (fSl (eV 1) oNone (oSome (eV 4)))) (mFrz (fSl (eV 1) (oSome (eOp dAdd (eV 4) (eC (.int 1)))) oNone)))) sNil)
    (sSeq (sIf (cB (eOp fEq (eV 3) (eC (.int 1)))) (sRetF (fCB fSorted (aCons (eOp dAdd (eV 1) (mFrz (fLst (aCons (eCall m__law_take [] (aCons (eV 0) (aCons (eOp iShl (eC (.int 1)) (eV 2)) aNil))) aNil)))) aNil))) sNil)
    (sSeq (sIf (cB (eOp fEq (eV 3) (eC (.int 2)))) (sRetF (fRevL (eV 1))) sNil)
    (sSeq (sIf (cB (eOp fEq (eV 3) (eC (.int 3)))) (sRet (eOp dAdd (eV 1) (mFrz (fLst (aCons (eCall m__law_of [] (aCons (eV 0) (aCons (mFrz (fLst (aCons (eOp iShl (eC (.int 1)) (eV 2)) (aCons (eOp iPow (eC (.int 10)) (eC (.int 20))) aNil)))) aNil))) aNil))))) sNil)
    (sSeq (sIf (cB (eOp fEq (eV 3) (eC (.int 4)))) (sRet (eOp dAdd (mFrz (fLst (aCons (eCall m__law_of [] (aCons (eV 0) (aCons (mFrz (fLst (aCons (eUn fNeg (eC (.int 1))) (aCons (eUn fNeg (eOp iPow (eC (.int 10)) (eC (.int 20)))) (aCons (eC (.int 0)) aNil))))) aNil))) aNil))) (eV 1))) sNil)
    (sRetF (fCB fSorted (aCons (mFrz (fLc (itR1 (aCons (eCall m__law_take [] (aCons (eV 0) (aCons (eC (.int 5)) aNil))) aNil)) (gN 5) cYes (eCall m__law_take [] (aCons (eV 0) (aCons (eOp iShl (eC (.int 1)) (eV 2)) aNil))) [5])) aNil))))))))))
noncomputable def m__law_good : MFn := mFn 4 (sSeq (sIf (cOr (cB (eOp fNe (eV 1) (mFrz (fSortedSet (eV 1))))) (cNot (cB (eCB fAll (aCons (mFrz (fLc (itL (eV 1)) (gN 3) cYes (eChain iLe iLt (eC (.int 0)) (eV 3) (eCB fLen (aCons (eV 0) aNil))) [3])) aNil))))) (sRet (eC (.bl false))) sNil)
    (sSeq (sAsg (mFrz (fLst aNil)) (gN 2))
    (sSeq (sFor (itL (eV 1)) (gN 3) (sAsg (eOp dAdd (eV 2) (eOp fIx (eV 0) (eV 3))) (gN 2)))
    (sRet (eAnd (eOp (fIn true) (eC (.int 0)) (eV 2)) (eOp fEq (eLenSet (eV 2)) (eCB fLen (aCons (eV 2) aNil))))))))
noncomputable def m_turns_of : MFn := mFn 3 (sRet (eOp iShl (eC (.int 1)) (eOp iSub (eCB fLen (aCons (eV 0) aNil)) (eCB fLen (aCons (eCall m_basis_of [] (aCons (mFrz (fLc (itL (eV 0)) (gN 2) cYes (eCall m_picked [] (aCons (eV 1) (aCons (eV 2) aNil))) [2])) aNil)) aNil)))))
noncomputable def m_turns : MFn := mFn 2 (sSeq (sIf (cB (eOp iGt (eCB fLen (aCons (eV 1) aNil)) (eC (.int 12)))) (sRaise "BadNumber") sNil)
    (sSeq (sExpr (eCall m_need_numbers [] (aCons (eV 0) (aCons (eCB fLen (aCons (eV 1) aNil)) aNil))))
    (sSeq (sExpr (eCall m_need_numbers [] (aCons (eV 1) (aCons (eC (.int 3)) aNil))))
    (sRet (eCall m_turns_of [] (aCons (eCall m_basis_of [] (aCons (eV 0) aNil)) (aCons (eV 1) aNil)))))))
noncomputable def m__law_turns : MFn := mFn 6 (sSeq (sAsg (eCall m__law_span [] (aCons (eV 0) aNil)) (gN 2))
    (sSeq (sAsg (mFrz (fLc (itL (eV 2)) (gN 4) cYes (eCall m__law_to [] (aCons (eV 1) (aCons (eV 4) aNil))) [4])) (gN 3))
    (sRet (eCB fMax1 (aCons (mFrz (fLc (itL (eV 3)) (gN 5) cYes (eCnt (eV 3) (eV 5)) [5])) aNil)))))
end Fb
namespace Fb
open PySem L2 Mm Gf
section
variable {A B : List Nat} {v m l : Nat} (hA : Lin (m + l) v A) (hB : Lin (m + l) v B) (h7 : m + l ≤ 7)
include hA hB h7
end
section
variable {A : List Nat} {v m l : Nat} (hA : Lin (m + l) v A) (hd : m + l ≤ 12)
include hA hd
end
end Fb
namespace Fb
open PySem L2 Mm Gf
/-! bound_holds -/
def bhL (n : Nat) (f : Nat → Nat) : Int → List Nat → List Int → Bool
  | _, _, [] => true
  | p, seen, z :: zs => if z ≤ p ∨ (n : Int) ≤ z ∨ f z.toNat ∈ seen then false else bhL n f z (f z.toNat :: seen) zs
noncomputable def hk0 : MS := sExpr (eCall m_need_spreads [] (aCons (eV 0) (aCons (eV 1) (aCons (eV 3) aNil))))
noncomputable def hk1 : MS := sAsg (eNew "Lead" m_LeadU_initU [] (aCons (eV 0) (aCons (eV 1) (aCons (eV 3) aNil)))) (gN 4)
noncomputable def hk2 : MS := sOwn 5 (fDisp1 (.inl 0) (.bl true))
noncomputable def hk3 : MS := sAsg (eUn fNeg (eC (.int 1))) (gN 6)
noncomputable def hk4 : MS := sIf (cOr (cB (eOp iLe (eV 7) (eV 6))) (cB (eOp iGt (eOp iShr (eV 7) (eMeth "Fold" "many" m_Fold_many [] (eV 0) aNil)) (eC (.int 0))))) (sRet (eC (.bl false))) sNil
noncomputable def hk5 : MS := sAsg (eMeth "Lead" "swing" m_Lead_swing [] (eV 4) (aCons (eV 7) aNil)) (gN 8)
noncomputable def hk6 : MS := sIf (cB (eDInA false (eV 8) 5)) (sRet (eC (.bl false))) sNil
noncomputable def hk7 : MS := sDPutA 5 (eV 8) (eC (.bl true))
noncomputable def hk8 : MS := sAsg (eV 7) (gN 6)
noncomputable def hr9 : MS := sSeq hk7 hk8
noncomputable def hr10 : MS := sSeq hk6 hr9
noncomputable def hr11 : MS := sSeq hk5 hr10
noncomputable def hr12 : MS := sSeq hk4 hr11
noncomputable def hk13 : MS := sFor (itL (eV 2)) (gN 7) hr12
noncomputable def hk14 : MS := sRet (eC (.bl true))
noncomputable def hr15 : MS := sSeq hk13 hk14
noncomputable def hr16 : MS := sSeq hk3 hr15
noncomputable def hr17 : MS := sSeq hk2 hr16
noncomputable def hr18 : MS := sSeq hk1 hr17
noncomputable def hr19 : MS := sSeq hk0 hr18
end Fb
namespace Fb
open PySem L2 Mm Gf
/-! rank and kernel; turns -/
/-- how many turns: a basis, a folding -/
def trnN (B F : List Nat) : Nat := 2 ^ (B.length - (bas (B.map (app F))).length)
end Fb
namespace Mm
open PySem PySem.Spec PyProof.Rows L2
/-! ### why: a try with plain clauses, a word for each -/
inductive Hdl (sc : Scope) : List ExceptHandler → List (Str × Str) → Prop
  | nil : Hdl sc [] []
  | cons {c x : Str} {np p1 p2 p3 : Pos} {j : Nat} {hds : List ExceptHandler} {ws : List (Str × Str)} (hl : sc.names.lookup c = some .globalImplicit) (hd : (c == ("__debug__" : Str)) = false) (r : Hdl sc hds ws) :
    Hdl sc (.ExceptHandler (some (.Name c np)) none [.Return (some (.Constant (.str x) j p1)) p2] p3 :: hds) ((c, x) :: ws)
def whw : List (Str × Str) → Str → Option Str
  | [], _ => none
  | q :: r, c => if c = q.1 then some q.2 else whw r c
def hks (Y : Gam) (ws : List (Str × Str)) : List HdK := ws.map fun q => .only (.ref (Y.ca q.1)) (fun _ _ _ => tRet (tC (.str q.2)))
structure Whg (P : Program) (w : World) (K : PySem.W.Frag) (mg : Str → Option Value) (base : Heap) (Y : Gam) (fn : Str) (ws : List (Str × Str)) : Prop where
  ex : ∃ (g : Addr) (fdg : FuncData) (sg : Stmt), FnP K fn fn sg [] g fdg ∧ FnScope ["_law_ask"] ["_law_ask"] (defScope sg) ∧ Binds K fdg ["_law_ask"] [] ∧ mg fn = some (.ref g) ∧
    (defScope sg).names.lookup ("_law_ask" : Str) = some .local ∧
    ∃ (h0 : ExceptHandler) (hds : List ExceptHandler) (p1 p2 p3 p4 p5 p6 : Pos) (j0 : Nat), defBody sg = [.Try [.Expr (.Call (.Name "_law_ask" p1) [] [] p2) p3] (h0 :: hds) [] [] p4, .Return (some (.Constant (.str "told") j0 p5)) p6] ∧ Hdl (defScope sg) (h0 :: hds) ws
  glo : ∀ q ∈ ws, mg q.1 = some (.ref (Y.ca q.1))
  exm : ∀ q ∈ ws, ∀ r ∈ ws, PySem.W.exmOne K (.ref (Y.ca q.1)) (.ref (Y.ca r.1)) = some (decide (q.1 = r.1))
def whyW (ws : List (Str × Str)) : R D → R D
  | .ok _ S => .ok (.str "told") S
  | .exc c none S => (match whw ws c with
    | some x => .ok (.str x) S
    | none => .stuck)
  | _ => .stuck
def eWhy (ws : List (Str × Str)) (me : ME) : ME := fun env S => whyW ws (me (wipeE env []) S)
section
variable {X : Cx} {Y : Gam} {W : WX} {ws : List (Str × Str)} {fn : Str} {k : Nat} {params : Arguments} {body : Expr} {scope : Scope} {me : ME} {p0 lpos pos : Pos}
end
def whyB (K : PySem.W.Frag) (cs : List Str) : Bool := cs.all fun c => cs.all fun d => decide (PySem.W.exmOne K (.ref (He.ga K c)) (.ref (He.ga K d)) = some (decide (c = d)))
end Mm
namespace Mm
open PySem PySem.Spec PyProof.Rows L2
/-! ### set(xs) of a list or tuple of numbers; len of it -/
section
variable {P : Program} {w : World} {A : Around} {E : Value → Shared → Prop} {s : Shared}
end
end Mm
namespace Mm
open PySem PySem.Spec PyProof.Rows L2
section
variable {X : Cx}
def rSetA (w : World) (K : PySem.W.Frag) : List V → Hp → VK → Prop := fun vs H Q => ∃ (a : Addr) (ns : List Int), vs = [V.ref a] ∧ (SqL K H a (ns.map V.int) ∨ SqT K H a (ns.map V.int)) ∧ ns.length + 1 < scanBound ∧
  ∀ p, H p = none → Q (.ref p) (upd H p (SetO w p (fun j => decide (j ∈ ns)) (ddp ns).length))
end
end Mm
namespace Mm
open PySem L2
def fSetA (m : ME) : Envr → Sto → R (List Int) := fun env S => (m env S).bind fun d S1 => match d with
  | .lst ds => (match intsOf ds with
    | some ns => if decide (ns.length ≤ 4000) then .ok ns S1 else .stuck
    | none => .stuck)
  | .tup ds => (match intsOf ds with
    | some ns => if decide (ns.length ≤ 4000) then .ok ns S1 else .stuck
    | none => .stuck)
  | _ => .stuck
def eLenSetA (m : ME) : ME := fun env S => (fSetA m env S).bind fun ns S1 => .ok (.int (ddp ns).length) S1
section
variable {X : Cx} {Y : Gam} {W : WX} {e : Expr} {te : TE} {me : ME} {p p2 pos pos2 : Pos}
end
end Mm
namespace Mm
open PySem L2
@[simp] theorem eWhy_eq (ws : List (Str × Str)) (me : ME) (env : Envr) (S : Sto) : eWhy ws me env S = whyW ws (me (wipeE env []) S) := rfl
@[simp] theorem whyW_ok (ws : List (Str × Str)) (d : D) (S : Sto) : whyW ws (.ok d S) = .ok (.str "told") S := rfl
@[simp] theorem eLenSetA_eq (m : ME) (env : Envr) (S : Sto) : eLenSetA m env S = (fSetA m env S).bind fun ns S1 => .ok (.int (ddp ns).length) S1 := rfl
end Mm
namespace Mm
open PySem PySem.Spec PyProof.Rows L2
/-! ### (number, thing) == (number, thing), by the thing's own == -/
section
variable {X : Cx} {n : Nat} {fa C : Addr} {fd : FuncData} {ps : List Str}
def rEqP (K : PySem.W.Frag) (C : Addr) (sp : Sp) (E : XK) : R2 := fun x y H Q => ∃ a b i p q dx dy fs gs, x = .ref a ∧ y = .ref b ∧ SqT K H a [.int i, .ref p] ∧ SqT K H b [.int i, .ref q] ∧ H p = some (.ins C dx fs) ∧ H q = some (.ins C dy gs) ∧ Q (.bl true) H ∧ sp [.ref p, .ref q] H (fun v H' => v = .bl true ∧ Q v H') E
end
section
variable {X : Cx} {Y : Gam} {W : WX} {a b : Expr} {ta tb : TE} {ma mb : ME} {pos : Pos} {k n : Nat} {fa C : Addr} {fd : FuncData} {ps : List Str} {mfn : MFn}
open Classical in
noncomputable def eEqP (c : Str) (f : MFn) (ma mb : ME) : ME := fun env S => (ma env S).bind fun d1 S1 => (mb env S1).bind fun d2 S2 => match d1, d2 with
  | .tup [.int i, x], .tup [.int j, y] => if i = j ∧ (∃ fs, insOf c S2 x = some fs) ∧ (∃ gs, insOf c S2 y = some gs) ∧ f [x, y] S2 = .ok (.val (.bl true)) S2 then .ok (.bl true) S2 else .stuck
  | _, _ => .stuck
end
end Mm
namespace Mm
open PySem L2
end Mm
namespace Mm
open PySem L2
/-! ### dicts whose keys are tuples, their values numbers -/
def keysD : List D → Option (List Key)
  | [] => some []
  | d :: ds => match keyD d, keysD ds with
    | some k, some ks => some (k :: ks)
    | _, _ => none
def lookT (ks : List (List Key × Int)) (k : List Key) : Option Int := (ks.find? fun kv => decide (kv.1 = k)).map (·.2)
def putT (ks : List (List Key × Int)) (k : List Key) (z : Int) : List (List Key × Int) := if (ks.any fun kv => decide (kv.1 = k)) = true then ks.map (fun kv => if kv.1 = k then (kv.1, z) else kv) else ks ++ [(k, z)]
section
variable {X : Cx} {Y : Gam} {W : WX} {e : Expr} {es : List Expr} {te : TE} {me : ME} {t : TA} {ma : MA} {pos p1 pos' tpos : Pos} {x1 : Nat}
def fTd0 : MF := fun _ S => .ok (.tdc []) S
def eTGetA (i : Nat) (ma : MA) : ME := fun env S => match env[i]? with
  | some (.o (.tdc ks)) => (ma env S).bind fun ds S1 => (match keysD ds with
    | some kk => if szB ds.length then opt ((lookT ks kk).map D.int) S1 else .stuck
    | none => .stuck)
  | _ => .stuck
def sTPutA (i : Nat) (ma : MA) (me : ME) : MS := fun env S => (me env S).out env fun d S1 => match env[i]? with
  | some (.o (.tdc ks)) => (ma env S1).out env fun es S2 => (match d, keysD es with
    | .int z, some kk => if szB es.length && szB (ks.length + 1) then .nx (env.set i (.o (.tdc (putT ks kk z)))) S2 else .stuck
    | _, _ => .stuck)
  | _ => .stuck
end
end Mm
namespace Fb
open PySem L2 Mm Gf
/-! three spreads: ways over a third; turnings of boxes and of cells -/
/-- a turning of the boxes -/
def trb (U : List Nat) (m l : Nat) : List Nat := bes U (plain l) m
section
variable {A B C : List Nat} {v m l : Nat} (hA : Lin (m + l) v A) (hB : Lin (m + l) v B) (hC : Lin (m + l) v C) (hd : m + l ≤ 12)
include hA hB hd
include hC
end
end Fb
namespace Mm
open PySem L2
@[simp] theorem fTd0_eq (env : Envr) (S : Sto) : fTd0 env S = .ok (.tdc []) S := rfl
@[simp] theorem d_tdc (ks : List (List Key × Int)) : (Cell.tdc ks).d = .tdc ks := rfl
@[simp] theorem eTGetA_eq (i : Nat) (ma : MA) (env : Envr) (S : Sto) : eTGetA i ma env S = (match env[i]? with
  | some (.o (.tdc ks)) => (ma env S).bind fun ds S1 => (match keysD ds with
    | some kk => if szB ds.length then opt ((lookT ks kk).map D.int) S1 else .stuck
    | none => .stuck)
  | _ => .stuck) := rfl
@[simp] theorem sTPutA_eq (i : Nat) (ma : MA) (me : ME) (env : Envr) (S : Sto) : sTPutA i ma me env S = (me env S).out env fun d S1 => match env[i]? with
  | some (.o (.tdc ks)) => (ma env S1).out env fun es S2 => (match d, keysD es with
    | .int z, some kk => if szB es.length && szB (ks.length + 1) then .nx (env.set i (.o (.tdc (putT ks kk z)))) S2 else .stuck
    | _, _ => .stuck)
  | _ => .stuck := rfl
@[simp] theorem keysD_two (i j : Int) : keysD [.int i, .int j] = some [.inl i, .inl j] := rfl
end Mm
namespace Mm
open PySem PySem.Spec PyProof.Rows L2
/-! ### a lambda is made and stays known: its object is tracked -/
section
variable {X : Cx} {pins : List (Addr × Obj)} {σ : L2.St} {H : Hp} {s : Shared}
def FnO (X : Cx) (params : Arguments) (body : Expr) (scope : Scope) (f c' : Addr) : HO := .ext fun h => ∃ pm ctv, h.get? f = some (lamO X params body scope pm c' ctv)
theorem fnO_ok {P : Program} {w : World} {H : Hp} {h : Heap} {params : Arguments} {body : Expr} {scope : Scope} {f c' : Addr} {pm ctv : Value} (e : h.get? f = some (lamO X params body scope pm c' ctv)) : ObjOk P w H h f (FnO X params body scope f c') :=
  ⟨⟨pm, ctv, e⟩, ⟨_, e⟩, fun h1 h2 q k => by
    obtain ⟨pm, ctv, q⟩ := q
    exact ⟨pm, ctv, k _ q⟩⟩
theorem lam_makeX {T : List (Addr × Str)} {c P : Addr} {params : Arguments} {body : Expr} {scope : Scope} {pos : Pos} {E : Value → Shared → Prop} {Q : Value → Shared → Prop} (I : Inv X pins σ H s) (TB : LamX.TabB X.base X.mg c P) (hcode : X.env.code = .ref c)
    (hm : (P, X.env.qual ++ "<lambda>") ∈ T) (hu : ∀ p ∈ T, p.1 = P → p.2 = X.env.qual ++ "<lambda>") (hT : LamX.Tabs T H) (hdef : defaultsOf params X.env = ([], [])) (hfree : ∀ y ∈ scope.names, y.2 = .free → ∃ c, X.env.cells.lookup y.1 = some c)
    (h : ∀ (f c' : Addr) (H1 : Hp) (s' : Shared), Inv X pins σ H1 s' → LamX.ExtN H H1 → (∀ b, H b ≠ none → H1 b ≠ none) → LamX.Tabs T H1 → H1 f = some (FnO X params body scope f c') → f ∉ frs X.stack → H1 c' = some (LamX.CodeO c' (X.env.qual ++ "<lambda>")) → H f = none → (∀ a ps, H a = some (.tbl ps) → ∃ qs, H1 a = some (.tbl qs)) → Q (.ref f) s') :
    wpAny (model X.prog X.w) X.A (eval (.Lambda params body scope pos) X.env) Q E s := by
  obtain ⟨ps, hP, ht, ha⟩ := hT _ hm
  have bP := TB.bm.keeps I.bk
  have hP' : s.heap.get? P = some { cls := .none, data := .fields ps } := I.hok P _ hP
  have out : ∀ f, s.heap.objs.size ≤ f → f ∉ frs X.stack := fun f hf z => by
    rcases List.mem_cons.mp (I.stkSub _ z) with e | e
    · exact Nat.lt_irrefl _ (Nat.lt_of_lt_of_le (e ▸ I.lt) hf)
    · exact I.nofs hf e
  refine PySem.W.kla_eval hdef ?_
  cases hc : codeAmong pos ps.toList with
  | some cv =>
    obtain ⟨c', e, hco⟩ := ha pos cv hc
    subst e
    refine PySem.W.kla_makeFunctionHit (mg := X.mg) (c := c) (P := P) (ps := ps) (closure_ok hfree) I.ok.glob (I.mod.glob.keeps I.bk) hcode (TB.code.keeps I.bk) hP' ht hc bP fun ctv h' tk hx hsz => ?_
    have nF : H h'.objs.size = none := I.hok.fresh hsz
    have I1 := I.laid (a := h'.objs.size) (o := FnO X params body scope h'.objs.size c') (h' := h'.push (lamO X params body scope ((X.mg "__name__").getD .none) c' ctv)) (t' := tk) (fun b o e => Heap.get?_push_of_some _ (hx b o e)) hsz (fnO_ok (Heap.get?_push_size _ rfl))
    exact h h'.objs.size c' _ _ I1 (fun b o e _ => by rw [upd_ne (ne_of_none e nF)]; exact e) (fun b z => by
      by_cases e : b = h'.objs.size
      · rw [e, upd_same]
        exact fun z => nomatch z
      · rw [upd_ne e]
        exact z) (tabs_upd hT (fun ps z => by rw [nF] at z; cases z) (fun φ z => by rw [nF] at z; cases z)) upd_same (out _ hsz) (by rw [upd_ne (ne_of_none hco nF)]; exact hco) nF (fun a ps e => ⟨ps, by rw [upd_ne (ne_of_none e nF)]; exact e⟩)
  | none =>
    refine PySem.W.kla_makeFunction (mg := X.mg) (c := c) (P := P) (ps := ps) (closure_ok hfree) I.ok.glob (I.mod.glob.keeps I.bk) hcode (TB.code.keeps I.bk) hP' ht hc TB.gP bP fun c' ctv h' tk hx hge hlt hrec htb => ?_
    obtain ⟨c2, oc, vs, t, e2, hoc, hd, hv⟩ := hrec
    cases e2
    have hsz : s.heap.objs.size ≤ h'.objs.size := Nat.le_trans hge (Nat.le_of_lt hlt)
    have nC : H c' = none := I.hok.fresh hge
    have nPc : P ≠ c' := ne_of_none hP nC
    have I1 := LamX.inv_table (t' := tk) (more := #[rawInt pos.line, rawInt pos.col, .ref c']) (h' := h') I hP (fun b o hb e => hx b o hb e) htb hge ⟨oc, vs, t, hoc, hd, hv⟩
    generalize hH1 : upd (upd H P (.tbl (ps ++ #[rawInt pos.line, rawInt pos.col, .ref c']))) c' (LamX.CodeO c' (X.env.qual ++ "<lambda>")) = H1 at I1
    have atC : H1 c' = some (LamX.CodeO c' (X.env.qual ++ "<lambda>")) := by rw [← hH1, upd_same]
    have atP : H1 P = some (.tbl (ps ++ #[rawInt pos.line, rawInt pos.col, .ref c'])) := by rw [← hH1, upd_ne nPc, upd_same]
    have at_ : ∀ b, b ≠ P → b ≠ c' → H1 b = H b := fun b h1 h2 => by rw [← hH1, upd_ne h2, upd_ne h1]
    have hE : LamX.ExtN H H1 := fun b o e n => by
      rw [at_ b (fun z => n ps (by rw [z, hP] at e; exact (Option.some.inj e).symm)) (ne_of_none e nC)]
      exact e
    have eL : (ps ++ #[rawInt pos.line, rawInt pos.col, .ref c']).toList = ps.toList ++ [rawInt pos.line, rawInt pos.col, .ref c'] := by simp
    have dom : ∀ b, H b ≠ none → H1 b ≠ none := fun b z => by
      by_cases h1 : b = P
      · rw [h1, atP]
        exact fun z => nomatch z
      · by_cases h2 : b = c'
        · rw [h2, atC]
          exact fun z => nomatch z
        · rw [at_ b h1 h2]
          exact z
    have T1 : LamX.Tabs T H1 := fun p hp => by
      by_cases hb : p.1 = P
      · rw [hu p hp hb, hb]
        refine ⟨_, atP, by rw [eL]; exact PySem.TriplesOk_snoc _ _ _ _ ht, fun p' cv hcv => ?_⟩
        rw [eL] at hcv
        rcases LamX.among_app _ ht hcv with z | z
        · obtain ⟨c0, e1, e2⟩ := ha p' cv z
          exact ⟨c0, e1, hE _ _ e2 LamX.codeO_ne⟩
        · exact ⟨c', z, atC⟩
      · obtain ⟨ps', a1, a2, a3⟩ := hT p hp
        refine ⟨ps', by rw [at_ _ hb (ne_of_none a1 nC)]; exact a1, a2, fun p' cv hcv => ?_⟩
        obtain ⟨c0, e1, e2⟩ := a3 p' cv hcv
        exact ⟨c0, e1, hE _ _ e2 LamX.codeO_ne⟩
    have nF1 : H1 h'.objs.size = none := by
      rw [at_ _ (Nat.ne_of_gt (Nat.lt_of_lt_of_le (Heap.lt_size hP') hsz)) (Nat.ne_of_gt hlt)]
      exact I.hok.fresh hsz
    have I2 := I1.laid (a := h'.objs.size) (o := FnO X params body scope h'.objs.size c') (h' := h'.push (lamO X params body scope ((X.mg "__name__").getD .none) c' ctv)) (t' := tk) (fun b o e => Heap.get?_push_of_some _ e) (Nat.le_refl _) (fnO_ok (Heap.get?_push_size _ rfl))
    exact h h'.objs.size c' _ _ I2 (fun b o e n => by rw [upd_ne (ne_of_none (hE b o e n) nF1)]; exact hE b o e n) (fun b z => by
      by_cases e : b = h'.objs.size
      · rw [e, upd_same]
        exact fun z => nomatch z
      · rw [upd_ne e]
        exact dom b z) (tabs_upd T1 (fun ps z => by rw [nF1] at z; cases z) (fun φ z => by rw [nF1] at z; cases z)) upd_same (out _ hsz) (by rw [upd_ne (ne_of_none atC nF1)]; exact atC) (I.hok.fresh hsz) (fun a ps e => by
      by_cases h1 : a = P
      · exact ⟨_, by rw [h1, upd_ne (ne_of_none atP nF1)]; exact atP⟩
      · have q : H1 a = some (.tbl ps) := by rw [at_ a h1 (ne_of_none e nC)]; exact e
        exact ⟨ps, by rw [upd_ne (ne_of_none q nF1)]; exact q⟩)
end
end Mm
namespace Mm
open PySem PySem.Spec PyProof.Rows L2
/-! ### what is called: a tracked lambda's body, at the maker's slots -/
def tActX (X : Cx) (Y : Gam) (params : Arguments) (body : Expr) (scope : Scope) (f c' : Addr) (q : Str) (σ : L2.St) (me : ME) (W : WX) : TE := fun σZ HZ Q => σZ[0]? = some (some (.ref f)) ∧ HZ c' = some (LamX.CodeO c' q) ∧ HZ f = some (FnO X params body scope f c') ∧
  ∃ w0 H0 w env S O, StR Y w0 H0 w HZ σ env S O ∧ PostX Y (fun cls d _ H => W cls d σZ H) w0 H0 w σ env O (me env S) (fun d _ w' H' => ∀ v, Rep Y w' d v → Q v H')
section
variable {X : Cx} {pins : List (Addr × Obj)} {σ : L2.St} {H : Hp} {s : Shared} {Y : Gam}
end
end Mm
namespace Mm
open PySem PySem.Spec PyProof.Rows L2
/-! ### `_law_tried(x)`, x a slot that holds one of some tracked lambdas -/
structure LSp where
  params : Arguments
  body : Expr
  scope : Scope
  me : ME
structure LSpOk (X : Cx) (Y : Gam) (k : Nat) (p : LSp) : Prop where
  L : LamX.LamS X.env.scope p.scope
  body : ∀ (A : Around) (outer : List Env) (s : Shared) (H : Hp) (E : XK) (f c' : Addr), Room k (A.deeper (LamX.lamEnv X p.scope s.heap.objs.size f c')) → L2N.Takes (lamN X A outer s H E p.scope f c') (fun cls d _ H => E cls d H) → PassesOwn (model X.prog X.w) (lamN X A outer s H E p.scope f c').A (lamN X A outer s H E p.scope f c').env (lamN X A outer s H E p.scope f c').xe →
      ∃ te, SE (lamN X A outer s H E p.scope f c') Y (fun cls d _ H => E cls d H) p.body te p.me
  bind : ∀ (q : Str) (cl : List (Str × Addr)) (pm cv ctv : Value), bindArgs (PySem.W.kla_fn "<lambda>" q p.params p.body p.scope cl pm cv ctv) ⟨[], []⟩ = pure []
def tTriedX (X : Cx) (Y : Gam) (W : WX) (cs : List Str) (i : Nat) (Ls : List LSp) : TE := fun σ H Q => ∃ p ∈ Ls, ∃ f c' w0 H0 w env S O, σ[i]? = some (some (.ref f)) ∧ H f = some (FnO X p.params p.body p.scope f c') ∧ H c' = some (LamX.CodeO c' (X.env.qual ++ "<lambda>")) ∧
  StR Y w0 H0 w H σ env S O ∧ PostX Y W w0 H0 w σ env O (tryW cs (p.me (wipeE env []) S)) (fun d _ w' H' => ∀ v, Rep Y w' d v → Q v H')
section
variable {X : Cx} {Y : Gam} {W : WX} {cs : List Str} {k i : Nat} {x : Str} {Ls : List LSp} {p0 px pos : Pos}
end
end Mm
namespace Mm
open PySem PySem.Spec PyProof.Rows L2
/-! ### a thing that has come up is known from now on -/
section
variable {g : Gam} {w0 w w' : Wd} {H0 H : Hp} {σ : L2.St} {env : Envr} {S : Sto} {O : List (Option Addr)}
def Wd.kn (w : Wd) (a : Addr) (o : HO) : Wd := ⟨w.rho, upd w.G a o⟩
theorem kn_le {a : Addr} {o : HO} (h : w.G a = none) : w.le (w.kn a o) := ⟨⟨[], by simp [Wd.kn]⟩, fun b u e => by
  show upd w.G a o b = some u
  rw [upd_ne (fun z => by rw [z, h] at e; cases e)]
  exact e⟩
theorem kn_at {a : Addr} {o : HO} : (w.kn a o).G a = some o := upd_same
theorem StR.know (st : StR g w0 H0 w H σ env S O) {a : Addr} {φ : Heap → Prop} (h0 : H0 a = none) (hG : w.G a = none) (hH : H a = some (.ext φ)) : StR g w0 H0 (w.kn a (.ext φ)) H σ env S O := by
  have l := kn_le (o := .ext φ) hG
  have nr : a ∉ w.rho := fun z => by
    obtain ⟨n, hn⟩ := List.getElem?_of_mem z
    have ln : n < S.length := by
      rw [← st.ok.cells.len]
      exact (List.getElem?_eq_some_iff.mp hn).1
    exact (st.ok.cells.at_ n a S[n] hn (List.getElem?_eq_getElem ln)).2.noext φ hH
  have nO : ∀ (i : Nat), O[i]? ≠ some (some a) := fun i z => by
    obtain ⟨_, _, c, hc⟩ := st.fresh i a z
    obtain ⟨p, _, e2, _, e4, _⟩ := st.own_at hc
    rw [z] at e2
    cases e2
    exact e4.noext φ hH
  have ne : ∀ b, b ≠ a → (w.kn a (.ext φ)).G b = w.G b := fun b hb => by
    show upd w.G a (.ext φ) b = w.G b
    exact upd_ne hb
  refine ⟨⟨fun b u e => ?_, ⟨st.ok.cells.nd, st.ok.cells.len, fun n b c e1 e2 => ?_⟩, st.ok.tabs, fun b ps z => ?_⟩, ⟨st.fr.le.trans l, st.fr.keep, fun b hb => ?_, st.fr.rho, st.fr.dom, st.fr.tb, st.fr.fz⟩, st.l1, st.l2, fun i s x o e1 e2 e3 => ?_, st.inj, st.fresh⟩
  · by_cases hb : b = a
    · rw [hb, kn_at] at e
      rw [hb, hH]
      exact e
    · rw [ne b hb] at e
      exact st.ok.ex b u e
  · obtain ⟨q1, q2⟩ := st.ok.cells.at_ n b c e1 e2
    have hb : b ≠ a := fun z => nr (z ▸ List.mem_of_getElem? e1)
    exact ⟨by rw [ne b hb]; exact q1, q2.move l rfl⟩
  · by_cases hb : b = a
    · rw [hb, kn_at] at z
      cases z
    · rw [ne b hb] at z
      exact st.ok.notab b ps z
  · have hb' : b ≠ a := fun z => hb (by rw [z]; exact h0)
    rw [ne b hb']
    exact st.fr.newG b hb
  · have q := st.sl i s x o e1 e2 e3
    cases s with
    | no => exact q
    | v d =>
      obtain ⟨q1, v, q2, q3⟩ := q
      exact ⟨q1, v, q2, q3.mono l⟩
    | o c =>
      obtain ⟨p, q1, q2, q3, q4⟩ := q
      have hp : p ≠ a := fun z => nO i (by rw [e3, q1, z])
      exact ⟨p, q1, q2, by rw [ne p hp]; exact q3, q4.move l rfl⟩
end
end Mm
namespace Mm
open PySem L2
/-! ### str(number) -/
def fStrI : Sto → List D → Option D
  | _, [.int i] => if decide (i.natAbs.log2 < 1920) then some (.str (toString i)) else none
  | _, _ => none
theorem cd_strI {g : Gam} : CallD g (fun xs H Q => ∃ i : Int, xs = [.int i] ∧ i.natAbs.log2 < 1920 ∧ Q (.str (toString i)) H) fStrI := fun w H S ds vs c Q k r e q => by
  unfold fStrI at e
  split at e
  · rename_i i
    split at e
    · rename_i hz
      cases e
      obtain ⟨v, e1, e2⟩ := repL_one r
      rw [rep_int e2] at e1
      exact ⟨i, e1, of_decide_eq_true hz, q w H _ .refl rep_str'⟩
    · cases e
  · cases e
end Mm
namespace Mm
open PySem PySem.Spec PyProof.Rows L2
/-! ### a lambda as an expression; what is known of it from then on -/
def KC (w0 : Wd) (H0 : Hp) (w : Wd) (c' : Addr) (q : Str) : Prop := (H0 c' = some (LamX.CodeO c' q) ∧ c' ∉ w0.rho) ∨ w.G c' = some (LamX.CodeO c' q)
section
variable {g : Gam} {w0 w w2 : Wd} {H0 H H1 H2 : Hp} {σ σ2 : L2.St} {env env2 : Envr} {S S2 : Sto} {O O2 : List (Option Addr)}
theorem KC.at {c' : Addr} {q : Str} (k : KC w0 H0 w c' q) (st : StR g w0 H0 w2 H2 σ2 env2 S2 O2) (l : w.le w2) : H2 c' = some (LamX.CodeO c' q) := by
  rcases k with ⟨e, n⟩ | e
  · exact st.fr.keep c' _ e n (fun ps z => by unfold LamX.CodeO at z; cases z)
  · exact st.ok.ex _ _ (l.ex _ _ e)
theorem lam_step {X : Cx} {p : LSp} {f c' : Addr} {q : Str} (st : StR g w0 H0 w H σ env S O) (eN : LamX.ExtN H H1) (dm : ∀ b, H b ≠ none → H1 b ≠ none) (T1 : LamX.Tabs g.T H1) (hf : H1 f = some (FnO X p.params p.body p.scope f c')) (hc : H1 c' = some (LamX.CodeO c' q)) (hn : H f = none) (htb : ∀ a ps, H a = some (.tbl ps) → ∃ qs, H1 a = some (.tbl qs)) :
    ∃ w1, StR g w0 H0 w1 H1 σ env S O ∧ w.le w1 ∧ w1.G f = some (FnO X p.params p.body p.scope f c') ∧ KC w0 H0 w1 c' q := by
  have k1 : Ok g w H1 S := ⟨fun a o e => eN a o (st.ok.ex a o e) (fun ps z => st.ok.notab a ps (by rw [e, z])), ⟨st.ok.cells.nd, st.ok.cells.len, fun m a cc e1 e2 => by
    obtain ⟨q1, q2⟩ := st.ok.cells.at_ m a cc e1 e2
    obtain ⟨x, q3, q4⟩ := q2.some_
    exact ⟨q1, q2.move (.refl w) (by rw [q3, eN a x q3 q4])⟩⟩, T1, st.ok.notab⟩
  have f1 : Frame w H w H1 := ⟨.refl w, fun a o e _ nt => eN a o e nt, fun _ _ => rfl, fun _ z => .inl z, dm, htb, fun a o u e => eN a _ e (fun ps z => by cases z)⟩
  have st1 : StR g w0 H0 w H1 σ env S O := st.after f1 k1
  have h0 : H0 f = none := by
    cases e : H0 f with
    | none => rfl
    | some o => exact absurd hn (st.fr.dom f (by rw [e]; exact fun z => nomatch z))
  have hG : w.G f = none := none_of_same st.ok.ex hn
  have st2 := st1.know h0 hG (show H1 f = some (.ext _) from hf)
  have l2 := kn_le (o := FnO X p.params p.body p.scope f c') hG
  by_cases hc0 : H0 c' = none
  · cases e : (w.kn f (FnO X p.params p.body p.scope f c')).G c' with
    | some u =>
      have := st2.ok.ex _ _ e
      rw [hc] at this
      cases this
      exact ⟨_, st2, l2, kn_at, .inr e⟩
    | none =>
      have st3 := st2.know hc0 e (show H1 c' = some (.ext _) from hc)
      have l3 := kn_le (o := LamX.CodeO c' q) e
      exact ⟨_, st3, l2.trans l3, l3.ex _ _ kn_at, .inr kn_at⟩
  · cases e : H0 c' with
    | none => exact absurd e hc0
    | some o =>
      have nr : c' ∉ w0.rho := fun z => by
        obtain ⟨n, hn⟩ := List.getElem?_of_mem z
        have hn' := st1.fr.le.get hn
        have ln : n < S.length := by
          rw [← st1.ok.cells.len]
          exact (List.getElem?_eq_some_iff.mp hn').1
        exact (st1.ok.cells.at_ n c' S[n] hn' (List.getElem?_eq_getElem ln)).2.noext _ (show H1 c' = some (.ext _) from hc)
      have nt : ∀ ps, o ≠ .tbl ps := fun ps z => by
        rw [z] at e
        obtain ⟨qs, e2⟩ := st1.fr.tb c' ps e
        rw [hc] at e2
        unfold LamX.CodeO at e2
        cases e2
      have e2 := st1.fr.keep c' o e nr nt
      rw [hc] at e2
      cases e2
      exact ⟨_, st2, l2, kn_at, .inl ⟨e, nr⟩⟩
end
def tLamX (X : Cx) (T : List (Addr × Str)) (p : LSp) : TE := fun _ H Q => LamX.Tabs T H ∧ ∀ f c' H1, LamX.ExtN H H1 → (∀ b, H b ≠ none → H1 b ≠ none) → LamX.Tabs T H1 → H1 f = some (FnO X p.params p.body p.scope f c') → H1 c' = some (LamX.CodeO c' (X.env.qual ++ "<lambda>")) → H f = none → (∀ a ps, H a = some (.tbl ps) → ∃ qs, H1 a = some (.tbl qs)) → Q (.ref f) H1
theorem pe_lamX {X : Cx} {Y : Gam} {p : LSp} {pos : Pos} (M : Mkr X Y) (L : LamX.LamS X.env.scope p.scope) (hdef : defaultsOf p.params X.env = ([], []) := by rfl) : PE X (.Lambda p.params p.body p.scope pos) (tLamX X Y.T p) := by
  obtain ⟨c, P, hcode, TB, hmT, hu⟩ := M
  refine ⟨fun pins s σ H Q I hw => ?_⟩
  exact lam_makeX I TB hcode hmT hu hw.1 hdef (L.has I.ok) fun f c' H1 s' I1 eN dm T1 hf hfr hc hn htb => ⟨.ref f, H1, I1, rfl, hw.2 f c' H1 eN dm T1 hf hc hn htb⟩
end Mm
namespace Mm
open PySem PySem.Spec PyProof.Rows L2
/-! ### a thing of one's own becomes a cell -/
/-! ### a new thing of a class: what becomes of it -/
def NewOk (c : Str) (pop : Sto → R Ret → R D) : Prop := ∀ {g : Gam} {W : WX} {w0 w : Wd} {H0 H : Hp} {σ : L2.St} {env : Envr} {S : Sto} {O : List (Option Addr)} {Q : VK} {x dx : Addr} {r : R Ret}, StR g w0 H0 w H σ env S O → H x = none → H dx = none → dx ≠ x →
  PostX g W w0 H0 w σ env O (pop S r) (fun d _ w' H' => ∀ v, Rep g w' d v → Q v H') → PostF g ⟨w.rho ++ [x], w.G⟩ (upd (upd H dx (.own x)) x (.ins (g.ca c) dx [])) (fun v H2 => v = .non ∧ Q (.ref x) H2) (WE W σ) r
/-- it stays a cell -/
def keepI (S : Sto) (r : R Ret) : R D := match r with
  | .ok (.val .non) S2 => .ok (.ref S.length) S2
  | .exc cc p S2 => .exc cc p S2
  | _ => .stuck
def eNewP (pop : Sto → R Ret → R D) (c : Str) (mf : MFn) (dd : List D) (m : MA) : ME := fun env S => (m env S).bind fun ds S1 => pop S1 (mf (.ref S1.length :: (ds ++ dd)) (S1 ++ [.ins c []]))
def eNewC (c : Str) (mf : MFn) (dd : List D) (m : MA) : ME := eNewP keepI c mf dd m
section
variable {X : Cx} {Y : Gam} {W : WX} {e : Expr} {es : List Expr} {t tk : TA} {m mk : MA} {pos p : Pos} {x : Str} {k n : Nat} {fa C : Addr} {fd : FuncData} {ps ks : List Str} {mf : MFn} {dvs : List V} {ds : List Value} {dd : List D} {pop : Sto → R Ret → R D}
/-! ### C(e, .., k = v, ..) -/
variable {CX : CXT} {sp : Sp} {E : L2.St → XK} {kws : List Keyword} {g : List Value → List Value → List Value} {gV : List V → List V → List V}
end
/-- a class made with n values and the keywords ks, in the parameters' order; dvs, dd fill up behind -/
def KnCK (P : Program) (w : World) (K : PySem.W.Frag) (mg : Str → Option Value) (base : Heap) (Y : Gam) (k : Nat) (x : Str) (n : Nat) (ks : List Str) (mf : MFn) (dvs : List V) (dd : List D) : Prop :=
  ∃ (f : Addr) (fd : FuncData) (ps : List Str) (ds : List Value), FnOk P w K mg base (L2N.CX P w) k f fd ps (spOf Y (n + ks.length + dd.length + 1) mf) ∧ Mk K (Y.ca x) f ∧ mg x = some (.ref (Y.ca x)) ∧ KBn K fd ps (n + 1) ks (fun us ws => us ++ ws ++ ds) (fun vs zs => vs ++ zs ++ dvs) ∧ ∀ w, RepL Y w dd dvs
/-- a method called so -/
def KnMK (P : Program) (w : World) (K : PySem.W.Frag) (mg : Str → Option Value) (base : Heap) (Y : Gam) (k : Nat) (c x : Str) (n : Nat) (ks : List Str) (mf : MFn) (dvs : List V) (dd : List D) : Prop :=
  ∃ (f : Addr) (fd : FuncData) (ps : List Str) (ds : List Value), FnOk P w K mg base (L2N.CX P w) k f fd ps (spOf Y (n + ks.length + dd.length + 1) mf) ∧ Cls K (Y.ca c) ∧ Meth K (Y.ca c) x f ∧ KBn K fd ps (n + 1) ks (fun us ws => us ++ ws ++ ds) (fun vs zs => vs ++ zs ++ dvs) ∧ ∀ w, RepL Y w dd dvs
section
variable {X : Cx} {Y : Gam} {W : WX} {e o : Expr} {es : List Expr} {ta : TE} {ma : ME} {t tk : TA} {m mk : MA} {pos p apos : Pos} {x c : Str} {k n : Nat} {mf : MFn} {kws : List Keyword} {ks : List Str} {dvs : List V} {dd : List D} {pop : Sto → R Ret → R D}
/-! ### o.x(e, .., k = v, ..) -/
def tMethNS (C : Addr) (x : Str) (n nk : Nat) (sp : Sp) (gV : List V → List V → List V) (E : L2.St → XK) (ta : TE) (t tk : TA) : TE := fun σ H Q => ta σ H fun y H1 => ∃ a dx fs, y = .ref a ∧ H1 a = some (.ins C dx fs) ∧ fs.lookup x = none ∧
  t σ H1 fun vs H2 => tk σ H2 fun zs H3 => vs.length = n ∧ zs.length = nk ∧ sp (gV (y :: vs) zs) H3 Q (E σ)
end
end Mm
namespace Mm
open PySem PySem.Spec PyProof.Rows L2
section
variable {X : Cx} {Y : Gam} {W : WX} {e o k tg : Expr} {te td tk : TE} {me md mk : ME} {pos pos' p1 apos cpos : Pos}
/-! ### texts -/
def signs (z : Str) : List D := z.cps.toList.map fun c => .str ⟨#[c]⟩
def itS (me : ME) : MI := fun env S => (me env S).bind fun d S1 => match d with
  | .str z => .ok (signs z) S1
  | _ => .stuck
def fInSign (neg : Bool) : Sto → D → D → Option D
  | _, .str a, .str z => (match a.cps.toList with
    | [c] => some (.bl (if neg then !decide (c ∈ z.cps.toList) else decide (c ∈ z.cps.toList)))
    | _ => none)
  | _, _, _ => none
def rSign (neg : Bool) : R2 := fun x y H Q => ∃ (c : Nat) (z : Str), x = .str ⟨#[c]⟩ ∧ y = .str z ∧ Q (.bl (if neg then !decide (c ∈ z.cps.toList) else decide (c ∈ z.cps.toList))) H
/-! ### dicts: how many, pop, o[k], x = e -/
def dicU (S : Sto) : D → Option (List (Key × D))
  | .ref n => (match S[n]? with
    | some (.dic ks) => some ks
    | _ => none)
  | _ => none
def fLenD : Sto → List D → Option D
  | S, [d] => (dicU S d).map fun ks => .int ks.length
  | _, _ => none
def eDPop (md mk : ME) : ME := fun env S => (md env S).bind fun o S1 => (match dicOf S1 o with
  | none => .stuck
  | some _ => (mk env S1).bind fun k S2 => match keyD k, o with
    | some k, .ref n => (match S2[n]? with
      | some (.dic ks) => (match lookK ks k with
        | some d => .ok d (S2.set n (.dic (dropD ks k)))
        | none => .stuck)
      | _ => .stuck)
    | _, _ => .stuck)
def sDPutN (md mk : ME) (i : Nat) (me : ME) : MS := fun env S => (me env S).out env fun d S1 => match d with
  | .tup [a, b] => (md env S1).out env fun o S2 => (mk env S2).out env fun k S3 => (match keyD k, o with
    | some k, .ref n => (match S3[n]? with
      | some (.dic ks) => if szB (ks.length + 1) then .nx (env.set i (.v b)) (S3.set n (.dic (putD ks k a))) else .stuck
      | _ => .stuck)
    | _, _ => .stuck)
  | _ => .stuck
/-! ### what does not come to pass -/
def sNever : MS := fun _ _ => .stuck
def eNever : ME := fun _ _ => .stuck
end
/-! ### defs with defaults of keywords -/
abbrev FnPk (K : PySem.W.Frag) (x qual : Str) (st : Stmt) (dvs : List V) (kws : List (Str × V)) (f : Addr) (fd : FuncData) : Prop := FunD K x qual (defArgs st) (defBody st) (defScope st) dvs kws f fd
section
variable {P : Program} {w : World} {K : PySem.W.Frag} {mg : Str → Option Value} {base : Heap} {Y : Gam} {k n m : Nat} {x c qual : Str} {st : Stmt} {f : Addr} {fd : FuncData} {ps ks : List Str} {mf : MFn} {dv dvs : List V} {kws : List (Str × V)} {dd : List D}
end
end Mm
namespace Mm
open PySem PySem.Spec PyProof.Rows L2
/-! ### a, *b = a tuple -/
def gStar (K : PySem.W.Frag) (t1 t2 : TG) : TG := fun v σ H Q => ∃ a x xs, v = .ref a ∧ SqT K H a (x :: xs) ∧ (x :: xs).length ≤ sizeLine ∧ ∀ p, H p = none → t1 x σ (upd H p (.lst xs)) fun σ1 H1 => t2 (.ref p) σ1 H1 Q
section
variable {X : Cx} {Y : Gam} {W : WX} {e e1 e2 : Expr} {te : TE} {me : ME} {pos sp tp : Pos} {t1 t2 : TG} {kk : Nat}
def sStar (i j : Nat) (me : ME) : MS := fun env S => (me env S).out env fun d S1 => match d with
  | .tup (a :: r) => if szB (r.length + 1) then .nx ((env.set i (.v a)).set j (.v (.lst r))) S1 else .stuck
  | _ => .stuck
end
end Mm
namespace Mm
open PySem PySem.Spec PyProof.Rows L2
/-! ### raise C(e): an own exception class with one field -/
def oexB (K : PySem.W.Frag) (C : Addr) : Bool := (match K.lookup C with
  | some ⟨.type "type", _, .cls cd, sl⟩ => (match cd.mro, sl.toList with
    | .ref C' :: bm, [_, _, _, _, some (.builtin n), _] => C' == C && n == "ValueError.__new__" && !cd.hasDel && cd.hasDict && PySem.HandSPX.refsVE bm
    | _, _ => false)
  | _ => false) && (He.eqO (PySem.W.findIn K (.ref C) "__setattr__") (some (some (.builtin "object.__setattr__"))) && (decide (PySem.W.subIn K (.ref C) (.type "BaseException") = some true) && (decide (PySem.W.typeIn K (.ref C) = some (.type "type")) && PySem.W.keepIn K (.ref C))))
/-- B.__init__ is ValueError's -/
structure BasI (K : PySem.W.Frag) (B : Addr) : Prop where
  ga : PySem.W.specialIn K (.ref B) "__getattribute__" = some (some (.builtin "type.__getattribute__"))
  ty : PySem.W.typeIn K (.ref B) = some (.type "type")
  rd : PySem.W.readsIn K B (.type "type") = true
  fi : PySem.W.findCls K (.ref B) (.type "type") "__init__" = some (.val (.builtin "ValueError.__init__"))
def basB (K : PySem.W.Frag) (B : Addr) : Bool := He.eqO (PySem.W.specialIn K (.ref B) "__getattribute__") (some (some (.builtin "type.__getattribute__"))) && (decide (PySem.W.typeIn K (.ref B) = some (.type "type")) && (PySem.W.readsIn K B (.type "type") && (match PySem.W.findCls K (.ref B) (.type "type") "__init__" with | some (.val (.builtin n)) => n == "ValueError.__init__" | _ => false)))
section
variable {X : Cx} {o e : Expr} {es : List Expr} {to te : TE} {ta : TA} {f : Str} {p p' p1 p2 pos : Pos}
end
/-- what an exception's __init__(self, x) keeps -/
def spX (K : PySem.W.Frag) (f : Str) : Sp := fun vs H Q E => ∃ a C v, vs = [.ref a, v] ∧ OexC K C ∧ PySem.W.findIn K (.ref C) f = some none ∧ H a = some (exo a C none) ∧ ∀ dx, H dx = none → dx ≠ a → Q .non (upd (upd H dx (exd dx [(f, v)])) a (exo a C (some dx)))

/-- an own exception class with one field -/
structure KnF (P : Program) (w : World) (K : PySem.W.Frag) (mg : Str → Option Value) (base : Heap) (Y : Gam) (x : Str) : Prop where
  oex : OexC K (Y.ca x)
  gP : mg x = some (.ref (Y.ca x))
  noF : PySem.W.findIn K (.ref (Y.ca x)) (fldOf x) = some none
  ini : ∃ fI fd ps, PySem.W.findIn K (.ref (Y.ca x)) "__init__" = some (some (.ref fI)) ∧ PySem.W.typeIn K (.ref fI) = some (.type "function") ∧ FnOk P w K mg base (L2N.CX P w) 1 fI fd ps (spX K (fldOf x)) ∧ Binds K fd ps []
def sRaiseF (c : Str) (me : ME) : MS := fun env S => (me env S).out env fun d S1 => .exc c (some d) env S1
section
variable {X : Cx} {Y : Gam} {W : WX} {e : Expr} {te : TE} {me : ME} {p pos : Pos}
end
end Mm
namespace Mm
open PySem PySem.Spec PyProof.Rows L2
def xmB (K : PySem.W.Frag) (c f : Str) : Bool := He.eqO (PySem.W.findIn K (.ref (He.ga K c)) f) (some none) && (He.eqO (PySem.W.findIn K (.ref (He.ga K c)) "__init__") (some (some (.ref (He.ma K (He.ga K c) "__init__")))) && decide (PySem.W.typeIn K (.ref (He.ma K (He.ga K c) "__init__")) = some (.type "function")))
end Mm
/-! ### a Hook that sees the statics too -/
namespace Mm
open PySem PySem.Spec PyProof.Rows L2
def asY (g : Addr → Option Obj) (n : Nat) : List Addr := cStatics :: He.asD g n
def frY (g : Addr → Option Obj) (n : Nat) : PySem.W.Frag := He.frT g (asY g n)
def obsY (n : Nat) (fa : List He.Fa) (fn : List He.DefD) (ts : List He.Tab) (tf : List He.Defn) (ex : PySem.W.Frag → Bool) (g : Addr → Option Obj) : He.AlX :=
  (He.obsT fa fn ts (frY g n), ex (frY g n) && He.tabsB g tf (frY g n))
theorem saysY_of {n : Nat} {fa : List He.Fa} {fn : List He.DefD} {ts : List He.Tab} {tf : List He.Defn} {ex : PySem.W.Frag → Bool} {w : World} {h : Heap} (e : obsY n fa fn ts tf ex h.get? = He.valX fn ts w) : He.SaysX fa fn ts tf ex w h (frY h.get? n) := by
  have z1 := congrArg Prod.fst e
  have z2 : (ex (frY h.get? n) && He.tabsB h.get? tf (frY h.get? n)) = true := congrArg Prod.snd e
  obtain ⟨y1, y2⟩ := He.ba z2
  have tabs : ∀ p ∈ tf, PySem.W.codeHdIn (frY h.get? n) (He.cT (frY h.get? n) p).1 (He.cT (frY h.get? n) p).2 = true ∧ ∃ o, h.get? (He.cT (frY h.get? n) p).2 = some o ∧ He.emptyTab o = true := fun p hp => by
    obtain ⟨y3, y4⟩ := He.ba (List.all_eq_true.mp y2 p hp)
    refine ⟨y3, ?_⟩
    split at y4
    · rename_i o q
      exact ⟨o, q, y4⟩
    · cases y4
  refine ⟨z1, y1, fun p hp => (tabs p hp).1, fun p hp => ?_, fun p hp => ?_⟩
  · obtain ⟨_, o, q, z⟩ := tabs p hp
    exact He.frT_none q z
  · obtain ⟨_, o, q, z⟩ := tabs p hp
    exact q.trans (congrArg some (He.emptyTab_eq z))
def hookY (n : Nat) (fa : List He.Fa) (fn : List He.DefD) (ts : List He.Tab) (tf : List He.Defn) (ex : PySem.W.Frag → Bool) : PySem.W.Hook where
  α := He.AlX
  obs := fun s => obsY n fa fn ts tf ex s.heap.get?
  val := fun w => He.valX fn ts w
  says := (He.hookX n fa fn ts tf ex).says
  of := fun _ _ e => ⟨_, He.frT_in, saysY_of e⟩
  keeps := (He.hookX n fa fn ts tf ex).keeps
end Mm
/-! ### a Hook whose addresses are written -/
namespace Mm
open PySem PySem.Spec PyProof.Rows L2
def frZ (g : Addr → Option Obj) (as : List Addr) : PySem.W.Frag := He.frT g as
def obsZ (as : List Addr) (fa : List He.Fa) (fn : List He.DefD) (ts : List He.Tab) (tf : List He.Defn) (ex : PySem.W.Frag → Bool) (g : Addr → Option Obj) : He.AlX :=
  (He.obsT fa fn ts (frZ g as), ex (frZ g as) && He.tabsB g tf (frZ g as))
theorem saysZ_of {as : List Addr} {fa : List He.Fa} {fn : List He.DefD} {ts : List He.Tab} {tf : List He.Defn} {ex : PySem.W.Frag → Bool} {w : World} {h : Heap} (e : obsZ as fa fn ts tf ex h.get? = He.valX fn ts w) : He.SaysX fa fn ts tf ex w h (frZ h.get? as) := by
  have z1 := congrArg Prod.fst e
  have z2 : (ex (frZ h.get? as) && He.tabsB h.get? tf (frZ h.get? as)) = true := congrArg Prod.snd e
  obtain ⟨y1, y2⟩ := He.ba z2
  have tabs : ∀ p ∈ tf, PySem.W.codeHdIn (frZ h.get? as) (He.cT (frZ h.get? as) p).1 (He.cT (frZ h.get? as) p).2 = true ∧ ∃ o, h.get? (He.cT (frZ h.get? as) p).2 = some o ∧ He.emptyTab o = true := fun p hp => by
    obtain ⟨y3, y4⟩ := He.ba (List.all_eq_true.mp y2 p hp)
    refine ⟨y3, ?_⟩
    split at y4
    · rename_i o q
      exact ⟨o, q, y4⟩
    · cases y4
  refine ⟨z1, y1, fun p hp => (tabs p hp).1, fun p hp => ?_, fun p hp => ?_⟩
  · obtain ⟨_, o, q, z⟩ := tabs p hp
    exact He.frT_none q z
  · obtain ⟨_, o, q, z⟩ := tabs p hp
    exact q.trans (congrArg some (He.emptyTab_eq z))
def hookZ (as : List Addr) (fa : List He.Fa) (fn : List He.DefD) (ts : List He.Tab) (tf : List He.Defn) (ex : PySem.W.Frag → Bool) : PySem.W.Hook where
  α := He.AlX
  obs := fun s => obsZ as fa fn ts tf ex s.heap.get?
  val := fun w => He.valX fn ts w
  says := (He.hookX 0 fa fn ts tf ex).says
  of := fun _ _ e => ⟨_, He.frT_in, saysZ_of e⟩
  keeps := (He.hookX 0 fa fn ts tf ex).keeps
theorem obsZ_eq {as : List Addr} {fa : List He.Fa} {fn : List He.DefD} {ts : List He.Tab} {tf : List He.Defn} {ex : PySem.W.Frag → Bool} {g : Addr → Option Obj} {s : Shared} (h : ∀ a, g a = s.heap.get? a) : obsZ as fa fn ts tf ex g = (hookZ as fa fn ts tf ex).obs s := by
  obtain rfl : g = s.heap.get? := funext h
  rfl
end Mm
namespace Mm
open PySem PySem.Spec PyProof.Rows L2
/-! ### a text in a list or tuple of texts -/
def strsOf : List D → Option (List Str)
  | [] => some []
  | .str x :: ds => (strsOf ds).map (x :: ·)
  | _ :: _ => none
def fInX (neg : Bool) : Sto → D → D → Option D
  | _, .str i, .lst ds => (strsOf ds).map fun ns => .bl (if neg then !decide (i ∈ ns) else decide (i ∈ ns))
  | _, .str i, .tup ds => (strsOf ds).map fun ns => .bl (if neg then !decide (i ∈ ns) else decide (i ∈ ns))
  | _, _, _ => none
/-! ### xs[k] += e, xs a list of one's own -/
def sAugO (i : Nat) (mk : ME) (f : Int → Int → Int) (me : ME) : MS := fun env S => match env[i]? with
  | some (.o (.lst ds)) => (mk env S).out env fun k S1 => (match k with
    | .int k => (match atI ds k with
      | some (.int x) => (me env S1).out env fun d S2 => (match d with
        | .int y => (match ixN ds.length k with
          | some j => .nx (env.set i (.o (.lst (ds.set j (.int (f x y)))))) S2
          | none => .stuck)
        | _ => .stuck)
      | _ => .stuck)
    | _ => .stuck)
  | _ => .stuck
section
variable {X : Cx} {Y : Gam} {W : WX} {b e : Expr} {tb te : TE} {mb me : ME} {pos : Pos}
end
/-! ### a tuple of texts of the module -/
abbrev GTup (K : PySem.W.Frag) (mg : Str → Option Value) (x : Str) (ws : List Str) : Prop := ∃ a, mg x = some (.ref a) ∧ ∀ H, SqT K H a (ws.map V.str)
end Mm
namespace Mm
open PySem PySem.Spec PyProof.Rows L2
/-! ### sum(a list or a tuple of numbers) -/
def rSumA (K : PySem.W.Frag) : List V → Hp → VK → Prop := fun vs H Q => ∃ (a : Addr) (ns : List Int), vs = [V.ref a] ∧ (SqL K H a (ns.map V.int) ∨ SqT K H a (ns.map V.int)) ∧ Q (.int ns.sum) H
def fSumA : Sto → List D → Option D
  | _, [.lst ds] => (intsOf ds).map fun ns => .int ns.sum
  | _, [.tup ds] => (intsOf ds).map fun ns => .int ns.sum
  | _, _ => none
end Mm
namespace Mm
open PySem L2
@[simp] theorem sDPut_eq (md mk me : ME) (env : Envr) (S : Sto) : sDPut md mk me env S = (me env S).out env fun d S1 => (md env S1).out env fun o S2 => (mk env S2).out env fun k S3 => (match keyD k, o with
    | some k, .ref n => (match S3[n]? with
      | some (.dic ks) => if szB (ks.length + 1) then .nx env (S3.set n (.dic (putD ks k d))) else .stuck
      | _ => .stuck)
    | _, _ => .stuck) := rfl
@[simp] theorem dicOf_ref (S : Sto) (n : Nat) : dicOf S (.ref n) = (match S[n]? with
    | some (.dic ks) => some ks
    | some (.lck ks) => some ks
    | _ => none) := rfl
@[simp] theorem dicU_ref (S : Sto) (n : Nat) : dicU S (.ref n) = (match S[n]? with
    | some (.dic ks) => some ks
    | _ => none) := rfl
@[simp] theorem eCellOf_eq (mf : MF) (env : Envr) (S : Sto) : eCellOf mf env S = (mf env S).bind fun c S1 => .ok (.ref S1.length) (S1 ++ [c]) := rfl
@[simp] theorem eNewC_eq (c : Str) (mf : MFn) (dd : List D) (m : MA) (env : Envr) (S : Sto) : eNewC c mf dd m env S = (m env S).bind fun ds S1 => keepI S1 (mf (.ref S1.length :: (ds ++ dd)) (S1 ++ [.ins c []])) := rfl
@[simp] theorem keepI_ok (S S2 : Sto) : keepI S (.ok (.val .non) S2) = .ok (.ref S.length) S2 := rfl
@[simp] theorem keepI_exc (S S2 : Sto) (c : Str) (p : Option D) : keepI S (.exc c p S2) = .exc c p S2 := rfl
@[simp] theorem sStar_eq (i j : Nat) (me : ME) (env : Envr) (S : Sto) : sStar i j me env S = (me env S).out env fun d S1 => match d with
  | .tup (a :: r) => if szB (r.length + 1) then .nx ((env.set i (.v a)).set j (.v (.lst r))) S1 else .stuck
  | _ => .stuck := rfl
@[simp] theorem sDPutN_eq (md mk : ME) (i : Nat) (me : ME) (env : Envr) (S : Sto) : sDPutN md mk i me env S = (me env S).out env fun d S1 => match d with
  | .tup [a, b] => (md env S1).out env fun o S2 => (mk env S2).out env fun k S3 => (match keyD k, o with
    | some k, .ref n => (match S3[n]? with
      | some (.dic ks) => if szB (ks.length + 1) then .nx (env.set i (.v b)) (S3.set n (.dic (putD ks k a))) else .stuck
      | _ => .stuck)
    | _, _ => .stuck)
  | _ => .stuck := rfl
@[simp] theorem sRaiseF_eq (c : Str) (me : ME) (env : Envr) (S : Sto) : sRaiseF c me env S = (me env S).out env fun d S1 => .exc c (some d) env S1 := rfl
@[simp] theorem itS_eq (me : ME) (env : Envr) (S : Sto) : itS me env S = (me env S).bind fun d S1 => match d with
  | .str z => .ok (signs z) S1
  | _ => .stuck := rfl
@[simp] theorem fLenD_eq (S : Sto) (d : D) : fLenD S [d] = (dicU S d).map fun ks => .int ks.length := rfl
@[simp] theorem eDPop_eq (md mk : ME) (env : Envr) (S : Sto) : eDPop md mk env S = (md env S).bind fun o S1 => (match dicOf S1 o with
  | none => .stuck
  | some _ => (mk env S1).bind fun k S2 => match keyD k, o with
    | some k, .ref n => (match S2[n]? with
      | some (.dic ks) => (match lookK ks k with
        | some d => .ok d (S2.set n (.dic (dropD ks k)))
        | none => .stuck)
      | _ => .stuck)
    | _, _ => .stuck) := rfl
end Mm
namespace Fb
open PySem L2 Mm
noncomputable def m__law_wide : MFn := mFn 2 (sSeq (sOwn 1 (fLst (aCons (eTup (aCons (eC (.int 2)) (aCons (eC (.int 1)) (aCons (eC (.int 2)) aNil)))) (aCons (eTup (aCons (eC (.int 1)) (aCons (eC (.int 2)) (aCons (eC (.int 2)) aNil)))) (aCons (eTup (aCons (eC (.int 2)) (aCons (eC (.int 2)) (aCons (eC (.int 1)) aNil)))) (aCons (eTup (aCons (eC (.int 0)) (aCons (eC (.int 2)) (aCons (eC (.int 2)) aNil)))) (aCons (eTup (aCons (eC (.int 3)) (aCons (eC (.int 1)) (aCons (eC (.int 3)) aNil)))) aNil)))))))
    (sSeq (sExt 1 (mFrz (fLst (aCons (eTup (aCons (eC (.int 1)) (aCons (eC (.int 0)) (aCons (eC (.int 1)) aNil)))) (aCons (eTup (aCons (eC (.int 0)) (aCons (eC (.int 0)) (aCons (eC (.int 1)) aNil)))) (aCons (eTup (aCons (eC (.int 2)) (aCons (eC (.int 3)) (aCons (eC (.int 2)) aNil)))) (aCons (eTup (aCons (eC (.int 3)) (aCons (eC (.int 2)) (aCons (eC (.int 2)) aNil)))) (aCons (eTup (aCons (eC (.int 4)) (aCons (eC (.int 3)) (aCons (eC (.int 2)) aNil)))) aNil))))))))
    (sFrz 1 (sRet (eCall m__law_of [] (aCons (eV 0) (aCons (eV 1) aNil)))))))
noncomputable def m_BodyU_initU : MFn := mFn 4 (sSeq (sIf (cOr (cB (eOp iLt (eV 1) (eC (.int 0)))) (cOr (cB (eOp iGt (eV 1) (eC (.int 4)))) (cOr (cB (eOp iLt (eV 2) (eC (.int 0)))) (cOr (cB (eOp iGt (eV 2) (eC (.int 3)))) (cOr (cB (eOp iLt (eV 3) (eC (.int 1)))) (cB (eOp iGt (eV 3) (eC (.int 3))))))))) (sRaise "BadSize") sNil)
    (sSeq (sFldC "Body" "wide" (eV 0) (eTup (aCons (eV 1) (aCons (eV 2) (aCons (eV 3) aNil)))))
    (sSeq (sFldC "Body" "tables" (eV 0) (eCellOf fDic0))
    (sSeq (sFldC "Body" "store" (eV 0) (eCellOf fDic0))
    (sFldC "Body" "dues" (eV 0) (eTup (aCons (eC (.int 0)) (aCons (eC (.int 0)) aNil))))))))
noncomputable def m__law_cells : MFn := mFn 4 (sSeq (sAsg (eCall m__law_of [] (aCons (eV 0) (aCons (mFrz (fLst (aCons (eC (.int 2)) (aCons (eC (.int 10)) (aCons (eC (.int 2001)) aNil))))) aNil))) (gN 2))
    (sRet (eCB fTupOf (aCons (mFrz (fLc (itR1 (aCons (eOp iShl (eC (.int 1)) (eV 1)) aNil)) (gN 3) cYes (eOp iSub (eCall m__law_take [] (aCons (eV 0) (aCons (eV 2) aNil))) (eOp iDiv (eV 2) (eC (.int 2)))) [3])) aNil))))
noncomputable def m_is_name : MFn := mFn 2 (sRet (eAnd (eChain iLe iLe (eC (.int 1)) (eCB fLen (aCons (eV 0) aNil)) (eC (.int 6))) (eCB fAll (aCons (mFrz (fLc (itS (eV 0)) (gN 1) cYes (eOp (fInSign false) (eV 1) (eC (.str "abcdefghijklmnopqrstuvwxyz"))) [1])) aNil))))
noncomputable def m_Body_need_new : MFn := mFn 2 (sSeq (sIf (cNot (cB (eCall m_is_name [] (aCons (eV 1) aNil)))) (sRaise "BadName") sNil)
    (sSeq (sIf (cB (eDIn false (eV 1) (eFld "Body" "tables" (eV 0)))) (sRaise "Taken") sNil)
    (sIf (cB (eOp iGe (eCB fLenD (aCons (eFld "Body" "tables" (eV 0)) aNil)) (eC (.int 6)))) (sRaise "Full") sNil)))
noncomputable def m_digits_of : MFn := mFn 3 (sSeq (sAsg (eC (.int 0)) (gN 2))
    (sSeq (whL (cAnd (cB (eOp iLt (eV 2) (eV 1))) (cB (eOp iLt (eOp iShl (eC (.int 1)) (eV 2)) (eV 0)))) (sAug 2 (fun i j => i + j) (eC (.int 1))) 100)
    (sSeq (sIf (cB (eOp fNe (eOp iShl (eC (.int 1)) (eV 2)) (eV 0))) (sRaise "BadCells") sNil)
    (sRet (eV 2)))))
noncomputable def m_TableU_initU : MFn := mFn 4 (sSeq (sFldC "Table" "spread" (eV 0) (eV 1))
    (sSeq (sFldC "Table" "grip" (eV 0) (eV 2))
    (sFldC "Table" "move" (eV 0) (eV 3))))
noncomputable def m_laid : MFn := mFn 3 (sRet (eNew "Table" m_TableU_initU [.non] (aCons (eV 0) (aCons (eCB fTupOf (aCons (mFrz (fLc (itR1 (aCons (eOp iShl (eC (.int 1)) (eMeth "Fold" "many" m_Fold_many [] (eV 0) aNil)) aNil)) (gN 2) cYes (eOp fIx (eV 1) (eMeth "Fold" "to" m_Fold_to [] (eV 0) (aCons (eV 2) aNil))) [2])) aNil)) aNil))))
noncomputable def m_Body_need_spread : MFn := mFn 5 (sSeq (sIf (cOr (cB (eOp fNe (eCB fLen (aCons (eV 1) aNil)) (eOp dAdd (eOp fIx (eFld "Body" "wide" (eV 0)) (eC (.int 0))) (eOp fIx (eFld "Body" "wide" (eV 0)) (eC (.int 1)))))) (cB (eCB fAny (aCons (mFrz (fLc (itL (eV 1)) (gN 4) cYes (eOr (eOp iLt (eV 4) (eC (.int 0))) (eOp iGt (eOp iShr (eV 4) (eV 2)) (eC (.int 0)))) [4])) aNil)))) (sRaise "BadRows") sNil)
    (sSeq (sAsg (eNew "Fold" m_FoldU_initU [] (aCons (eV 1) (aCons (eV 2) aNil))) (gN 3))
    (sSeq (sIf (cNot (cB (eMeth "Fold" "onto" m_Fold_onto [] (eV 3) aNil))) (sRaise "BadRows") sNil)
    (sRet (eV 3)))))
noncomputable def m_Body_lay : MFn := mFn 6 (sSeq (sExpr (eMeth "Body" "need_new" m_Body_need_new [] (eV 0) (aCons (eV 1) aNil)))
    (sSeq (sAsg (eCall m_digits_of [] (aCons (eCB fLen (aCons (eV 3) aNil)) (aCons (eOp dAdd (eOp fIx (eFld "Body" "wide" (eV 0)) (eC (.int 0))) (eOp fIx (eFld "Body" "wide" (eV 0)) (eC (.int 1)))) aNil))) (gN 4))
    (sSeq (sIf (cB (eCB fAny (aCons (mFrz (fLc (itL (eV 3)) (gN 5) cYes (eOr (eOp iLt (eV 5) (eUn fNeg (eC (.int 1000000000)))) (eOp iGt (eV 5) (eC (.int 1000000000)))) [5])) aNil))) (sRaise "BadCells") sNil)
    (sDPut (eFld "Body" "tables" (eV 0)) (eV 1) (eCall m_laid [] (aCons (eMeth "Body" "need_spread" m_Body_need_spread [] (eV 0) (aCons (eV 2) (aCons (eV 4) aNil))) (aCons (mFrz (fCB fListOf (aCons (eV 3) aNil))) aNil)))))))
noncomputable def m_Body_need : MFn := mFn 2 (sSeq (sIf (cB (eDIn true (eV 1) (eFld "Body" "tables" (eV 0)))) (sRaiseF "NoTable" (eV 1)) sNil)
    (sRet (eDGet (eFld "Body" "tables" (eV 0)) (eV 1))))
noncomputable def m_Body_need_still : MFn := mFn 2 (sSeq (sIf (cB (eOp fIsNot (eFld "Table" "move" (eMeth "Body" "need" m_Body_need [] (eV 0) (aCons (eV 1) aNil))) (eC .non))) (sRaiseF "Moving" (eV 1)) sNil)
    (sRet (eDGet (eFld "Body" "tables" (eV 0)) (eV 1))))
noncomputable def m_turned : MFn := mFn 2 (sRet (eNew "Table" m_TableU_initU [.non] (aCons (eMeth "Fold" "then" m_Fold_then [] (eFld "Table" "spread" (eV 0)) (aCons (eV 1) aNil)) (aCons (eFld "Table" "grip" (eV 0)) aNil))))
noncomputable def m_Body_turn : MFn := mFn 7 (sSeq (sAsg (eMeth "Body" "need_still" m_Body_need_still [] (eV 0) (aCons (eV 1) aNil)) (gN 3))
    (sSeq (sAsg (eMeth "Fold" "size" m_Fold_size [] (eFld "Table" "spread" (eV 3)) aNil) (gN 4))
    (sSeq (sIf (cOr (cB (eOp fNe (eCB fLen (aCons (eV 2) aNil)) (eV 4))) (cB (eCB fAny (aCons (mFrz (fLc (itL (eV 2)) (gN 6) cYes (eOr (eOp iLt (eV 6) (eC (.int 0))) (eOp iGt (eOp iShr (eV 6) (eV 4)) (eC (.int 0)))) [6])) aNil)))) (sRaise "BadTurn") sNil)
    (sSeq (sAsg (eNew "Fold" m_FoldU_initU [] (aCons (eV 2) (aCons (eV 4) aNil))) (gN 5))
    (sSeq (sIf (cNot (cB (eMeth "Fold" "single" m_Fold_single [] (eV 5) aNil))) (sRaise "BadTurn") sNil)
    (sDPut (eFld "Body" "tables" (eV 0)) (eV 1) (eCall m_turned [] (aCons (eV 3) (aCons (eV 5) aNil)))))))))
noncomputable def m_Table_plain : MFn := mFn 3 (sSeq (sAsg (eMeth "Fold" "back" m_Fold_back [] (eFld "Table" "spread" (eV 0)) aNil) (gN 1))
    (sRetF (fLc (itR1 (aCons (eOp iShl (eC (.int 1)) (eMeth "Fold" "size" m_Fold_size [] (eFld "Table" "spread" (eV 0)) aNil)) aNil)) (gN 2) cYes (eOp fIx (eFld "Table" "grip" (eV 0)) (eMeth "Fold" "to" m_Fold_to [] (eV 1) (aCons (eV 2) aNil))) [2])))
noncomputable def m_Body_cells : MFn := mFn 2 (sRetF (fMeth "Table" "plain" m_Table_plain [] (eMeth "Body" "need" m_Body_need [] (eV 0) (aCons (eV 1) aNil)) aNil))
noncomputable def m_Body_rows : MFn := mFn 2 (sRet (eMeth "Fold" "rows" m_Fold_rows [] (eFld "Table" "spread" (eMeth "Body" "need" m_Body_need [] (eV 0) (aCons (eV 1) aNil))) aNil))
noncomputable def m_settled : MFn := mFn 2 (sSeq (sIf (cB (eOp iGt (eCB fLen (aCons (eFld "Move" "left" (eFld "Table" "move" (eV 0))) aNil)) (eC (.int 0)))) (sRet (eV 0)) sNil)
    (sRet (eNew "Table" m_TableU_initU [.non] (aCons (eFld "Move" "aim" (eFld "Table" "move" (eV 0))) (aCons (eCB fTupOf (aCons (mFrz (fLc (itL (eFld "Move" "springs" (eFld "Table" "move" (eV 0)))) (gN 1) cYes (eOp fIx (eFld "Table" "grip" (eV 0)) (eV 1)) [1])) aNil)) aNil)))))
noncomputable def m_MoveU_initU : MFn := mFn 6 (sSeq (sFldC "Move" "aim" (eV 0) (eV 1))
    (sSeq (sFldC "Move" "springs" (eV 0) (eV 2))
    (sSeq (sFldC "Move" "swings" (eV 0) (eV 3))
    (sSeq (sFldC "Move" "done" (eV 0) (eV 4))
    (sFldC "Move" "left" (eV 0) (eV 5))))))
noncomputable def m_begun : MFn := mFn 8 (sSeq (sAsg (eNew "Lead" m_LeadU_initU [] (aCons (eFld "Table" "spread" (eV 0)) (aCons (eV 1) (aCons (eV 2) aNil)))) (gN 3))
    (sSeq (sAsg (eMeth "Lead" "turnings" m_Lead_turnings [] (eV 3) aNil) (gN 4))
    (sSeq (sAsg (eCB fTupOf (aCons (mFrz (fLc (itR1 (aCons (eOp iShl (eC (.int 1)) (eMeth "Fold" "many" m_Fold_many [] (eV 1) aNil)) aNil)) (gN 7) cYes (eMeth "Fold" "to" m_Fold_to [] (eV 4) (aCons (eV 7) aNil)) [7])) aNil)) (gN 5))
    (sSeq (sAsg (eCB fTupOf (aCons (eCall m_rounds [] (aCat (aCons (eFld "Table" "spread" (eV 0)) (aCons (eV 1) aNil)) (aCons (eV 2) aNil))) aNil)) (gN 6))
    (sRet (eCall m_settled [] (aCons (eNew "Table" m_TableU_initU [] (aCat (aCons (eFld "Table" "spread" (eV 0)) (aCons (eFld "Table" "grip" (eV 0)) aNil)) (aCons (eNew "Move" m_MoveU_initU [] (aCat (aCons (eV 1) (aCons (eMeth "Lead" "all_sources" m_Lead_all_sources [] (eV 3) aNil) (aCons (eV 5) aNil))) (aCons (eTup aNil) (aCons (eV 6) aNil)))) aNil))) aNil)))))))
noncomputable def m_beaten : MFn := mFn 5 (sSeq (sAsg (eFld "Table" "move" (eV 0)) (gN 1))
    (sSeq (sStar 2 3 (eFld "Move" "left" (eV 1)))
    (sSeq (sAsg (eNew "Move" m_MoveU_initU [] (aCat (aCons (eFld "Move" "aim" (eV 1)) (aCons (eFld "Move" "springs" (eV 1)) (aCons (eFld "Move" "swings" (eV 1)) aNil))) (aCons (eOp fCatT (eFld "Move" "done" (eV 1)) (eTup (aCons (eV 2) aNil))) (aCons (eCB fTupOf (aCons (eV 3) aNil)) aNil)))) (gN 4))
    (sRet (eCall m_settled [] (aCons (eNew "Table" m_TableU_initU [] (aCat (aCons (eFld "Table" "spread" (eV 0)) (aCons (eFld "Table" "grip" (eV 0)) aNil)) (aCons (eV 4) aNil))) aNil))))))
noncomputable def m_led : MFn := mFn 5 (sSeq (sAsg (eCall m_begun [] (aCons (eV 0) (aCons (eV 1) (aCons (eV 2) aNil)))) (gN 3))
    (sSeq (sAsg (eIf (cB (eOp fIs (eFld "Table" "move" (eV 3)) (eC .non))) (eC (.int 0)) (eCB fLen (aCons (eFld "Move" "left" (eFld "Table" "move" (eV 3))) aNil))) (gN 4))
    (sSeq (whL (cB (eOp fIsNot (eFld "Table" "move" (eV 3)) (eC .non))) (sAsg (eCall m_beaten [] (aCons (eV 3) aNil)) (gN 3)) 100)
    (sRet (eTup (aCons (eV 3) (aCons (eV 4) aNil)))))))
noncomputable def m_Body_pay : MFn := mFn 3 (sFldC "Body" "dues" (eV 0) (eTup (aCons (eOp dAdd (eOp fIx (eFld "Body" "dues" (eV 0)) (eC (.int 0))) (eV 1)) (aCons (eOp dAdd (eOp fIx (eFld "Body" "dues" (eV 0)) (eC (.int 1))) (eV 2)) aNil))))
noncomputable def m_Body_lead : MFn := mFn 6 (sSeq (sAsg (eMeth "Body" "need_still" m_Body_need_still [] (eV 0) (aCons (eV 1) aNil)) (gN 3))
    (sSeq (sAsg (eMeth "Body" "need_spread" m_Body_need_spread [] (eV 0) (aCons (eV 2) (aCons (eMeth "Fold" "size" m_Fold_size [] (eFld "Table" "spread" (eV 3)) aNil) aNil))) (gN 4))
    (sSeq (sDPutN (eFld "Body" "tables" (eV 0)) (eV 1) 5 (eCall m_led [] (aCons (eV 3) (aCons (eV 4) (aCons (eOp fIx (eFld "Body" "wide" (eV 0)) (eC (.int 1))) aNil)))))
    (sSeq (sExpr (eMeth "Body" "pay" m_Body_pay [] (eV 0) (aCons (eV 5) (aCons (eC (.int 0)) aNil))))
    (sRet (eV 5))))))
noncomputable def m_Move_is_ready : MFn := mFn 2 (sRet (eOp (fIn true) (eOp fIx (eFld "Move" "swings" (eV 0)) (eV 1)) (eFld "Move" "left" (eV 0))))
noncomputable def m_Table_berth_now : MFn := mFn 2 (sSeq (sIf (cAnd (cB (eOp fIsNot (eFld "Table" "move" (eV 0)) (eC .non))) (cB (eMeth "Move" "is_ready" m_Move_is_ready [] (eFld "Table" "move" (eV 0)) (aCons (eV 1) aNil)))) (sRet (eOp fIx (eFld "Table" "grip" (eV 0)) (eOp fIx (eFld "Move" "springs" (eFld "Table" "move" (eV 0))) (eV 1)))) sNil)
    (sRet (eOp fIx (eFld "Table" "grip" (eV 0)) (eV 1))))
noncomputable def m_Body_held : MFn := mFn 4 (sSeq (sAsg (eMeth "Body" "need" m_Body_need [] (eV 0) (aCons (eV 1) aNil)) (gN 3))
    (sSeq (sIf (cOr (cB (eOp iLt (eV 2) (eC (.int 0)))) (cB (eOp iGe (eV 2) (eCB fLen (aCons (eFld "Table" "grip" (eV 3)) aNil))))) (sRaise "NoBerth") sNil)
    (sRet (eMeth "Table" "berth_now" m_Table_berth_now [] (eV 3) (aCons (eV 2) aNil)))))
noncomputable def m_totalled : MFn := mFn 9 (sSeq (sOwn 2 (fLst aNil))
    (sSeq (sAsg (eC (.int 0)) (gN 3))
    (sSeq (sFor (itR1 (aCons (eMeth "Fold" "size" m_Fold_size [] (eFld "Table" "spread" (eV 0)) aNil) aNil)) (gN 4) (sSeq (sApp 2 (eIf (cB (eOp (fIn false) (eV 4) (eV 1))) (eC (.int 0)) (eOp iShl (eC (.int 1)) (eV 3))))
    (sAug 3 (fun i j => i + j) (eIf (cB (eOp (fIn false) (eV 4) (eV 1))) (eC (.int 0)) (eC (.int 1))))))
    (sFrz 2 (sSeq (sAsg (eNew "Fold" m_FoldU_initU [] (aCons (eV 2) (aCons (eV 3) aNil))) (gN 5))
    (sSeq (sOwn 6 (fOp fRep (mFrz (fLst (aCons (eC (.int 0)) aNil))) (eOp iShl (eC (.int 1)) (eV 3))))
    (sSeq (sFor (itES (aCons (eMeth "Table" "plain" m_Table_plain [] (eV 0) aNil) aNil)) (gT (gNC (gN 7) (gNC (gN 8) gN0))) (sAugO 6 (eMeth "Fold" "to" m_Fold_to [] (eV 5) (aCons (eV 7) aNil)) (fun i j => i + j) (eV 8)))
    (sFrz 6 (sRet (eCall m_laid [] (aCons (eMeth "Fold" "then" m_Fold_then [] (eFld "Table" "spread" (eV 0)) (aCons (eV 5) aNil)) (aCons (eV 6) aNil))))))))))))
noncomputable def m_Body_total : MFn := mFn 6 (sSeq (sAsg (eMeth "Body" "need_still" m_Body_need_still [] (eV 0) (aCons (eV 1) aNil)) (gN 3))
    (sSeq (sAsg (eMeth "Fold" "size" m_Fold_size [] (eFld "Table" "spread" (eV 3)) aNil) (gN 4))
    (sSeq (sIf (cOr (cB (eOp fEq (eCB fLen (aCons (eV 2) aNil)) (eC (.int 0)))) (cOr (cB (eOp iLt (eLenSetA (eV 2)) (eCB fLen (aCons (eV 2) aNil)))) (cB (eCB fAny (aCons (mFrz (fLc (itL (eV 2)) (gN 5) cYes (eOr (eOp iLt (eV 5) (eC (.int 0))) (eOp iGe (eV 5) (eV 4))) [5])) aNil))))) (sRaise "BadDigits") sNil)
    (sDPut (eFld "Body" "tables" (eV 0)) (eV 1) (eCall m_totalled [] (aCons (eV 3) (aCons (eV 2) aNil)))))))
noncomputable def m_Body_digits : MFn := mFn 2 (sRet (eMeth "Fold" "size" m_Fold_size [] (eFld "Table" "spread" (eMeth "Body" "need" m_Body_need [] (eV 0) (aCons (eV 1) aNil))) aNil))
noncomputable def m_mixed : MFn := mFn 3 (sSeq (sIf (cB (eOp fEq (eV 0) (eC (.str "plus")))) (sRet (eOp dAdd (eV 1) (eV 2))) sNil)
    (sSeq (sIf (cB (eOp fEq (eV 0) (eC (.str "less")))) (sRet (eOp iSub (eV 1) (eV 2))) sNil)
    (sRet (eIf (cB (eOp fEq (eV 0) (eC (.str "least")))) (eCB fMin2 (aCons (eV 1) (aCons (eV 2) aNil))) (eCB fMax2 (aCons (eV 1) (aCons (eV 2) aNil)))))))
noncomputable def m_Body_merge : MFn := mFn 12 (sSeq (sExpr (eMeth "Body" "need" m_Body_need [] (eV 0) (aCons (eV 1) aNil)))
    (sSeq (sExpr (eMeth "Body" "need" m_Body_need [] (eV 0) (aCons (eV 2) aNil)))
    (sSeq (sAsg (eTup (aCons (eMeth "Body" "need_still" m_Body_need_still [] (eV 0) (aCons (eV 1) aNil)) (aCons (eMeth "Body" "need_still" m_Body_need_still [] (eV 0) (aCons (eV 2) aNil)) aNil))) (gT (gNC (gN 4) (gNC (gN 5) gN0))))
    (sSeq (sIf (cB (eOp (fInX true) (eV 3) (eC (.tup [.str "plus", .str "less", .str "least", .str "most"])))) (sRaise "BadWord") sNil)
    (sSeq (sIf (cB (eOp fNe (eMeth "Fold" "size" m_Fold_size [] (eFld "Table" "spread" (eV 4)) aNil) (eMeth "Fold" "size" m_Fold_size [] (eFld "Table" "spread" (eV 5)) aNil))) (sRaise "Unlike") sNil)
    (sSeq (sAsg (eOp fIx (eFld "Body" "wide" (eV 0)) (eC (.int 1))) (gN 6))
    (sSeq (sAsg (eCall m_sources [] (aCat (aCons (eFld "Table" "spread" (eV 5)) (aCons (eFld "Table" "spread" (eV 4)) aNil)) (aCons (eV 6) aNil))) (gN 7))
    (sSeq (sAsg (mFrz (fLc (itES (aCons (eFld "Table" "grip" (eV 4)) aNil)) (gT (gNC (gN 10) (gNC (gN 11) gN0))) cYes (eCall m_mixed [] (aCons (eV 3) (aCons (eV 11) (aCons (eOp fIx (eFld "Table" "grip" (eV 5)) (eOp fIx (eV 7) (eV 10))) aNil)))) [10, 11])) (gN 8))
    (sSeq (sAsg (eCB fLen (aCons (eCall m_rounds [] (aCat (aCons (eFld "Table" "spread" (eV 5)) (aCons (eFld "Table" "spread" (eV 4)) aNil)) (aCons (eV 6) aNil))) aNil)) (gN 9))
    (sSeq (sDPut (eFld "Body" "tables" (eV 0)) (eV 1) (eNew "Table" m_TableU_initU [.non] (aCons (eFld "Table" "spread" (eV 4)) (aCons (eCB fTupOf (aCons (eV 8) aNil)) aNil))))
    (sSeq (sExpr (eMeth "Body" "pay" m_Body_pay [] (eV 0) (aCons (eV 9) (aCons (eC (.int 0)) aNil))))
    (sRet (eV 9)))))))))))))
noncomputable def m_Body_paid : MFn := mFn 1 (sRet (eFld "Body" "dues" (eV 0)))
end Fb
/-! draws beside other cells -/
namespace Fb
open PySem L2 Mm Gf
theorem take1R {R : Sto} {b : Cell} (hb : Bx b) {k : Nat} (h0 : 0 < k) (h1 : k < 1073741824) : ∃ b' r, m__law_take [.ref 0, .int k] (b :: R) = .ok (.val (nd r)) (b' :: R) ∧ Bx b' ∧ r < k := take_ok (S := (b :: R)) (n := 0) rfl hb h0 h1
theorem takeKR {R : Sto} {b : Cell} (hb : Bx b) (K : Int) (k : Nat) (e : K = (k : Int)) (h0 : 0 < k) (h1 : k < 1073741824) : ∃ b' r, m__law_take [.ref 0, .int K] (b :: R) = .ok (.val (nd r)) (b' :: R) ∧ Bx b' ∧ r < k := by
  subst e
  exact take1R (R := R) hb h0 h1
theorem numbers_okR {R : Sto} {b : Cell} (hb : Bx b) (c w : Nat) (hc : c ≤ 1000) (hw : w ≤ 20) : ∃ b' ys, m__law_numbers [.ref 0, .int c, .int w] (b :: R) = .ok (.own (.lst (nl ys))) (b' :: R) ∧ Bx b' ∧ ys.length = c ∧ ∀ y ∈ ys, y < 2 ^ w := by
  have pw := powB_nat (i := 1) (by decide) w (by omega)
  have w2 : 2 ^ w < 1073741824 := Nat.lt_of_le_of_lt (Nat.pow_le_pow_right (by decide) hw) (by decide)
  have key := lcR_inv (g := gN 3) (te := eCall m__law_take [] (aCons (eV 0) (aCons (eOp iShl (eC (.int 1)) (eV 2)) aNil))) (env := [.v (.ref 0), .v (.int c), .v (.int w), .no])
    (I := fun ds zs S' => ∃ (b' : Cell) (ys : List Nat), S' = (b' :: R) ∧ Bx b' ∧ zs = nl ys ∧ ys.length + ds.length = c ∧ ∀ y ∈ ys, y < 2 ^ w)
    (fun d ds zs S' h => by
      obtain ⟨b', ys, rfl, hb', rfl, l, lt⟩ := h
      obtain ⟨b2, r, t, hb2, hr⟩ := take1R (R := R) hb' (k := 2 ^ w) (Nat.two_pow_pos w) w2
      have t' : m__law_take [.ref 0, .int (2 ^ w)] (b' :: R) = .ok (.val (nd r)) (b2 :: R) := by
        have e5 : (2 : Int) ^ w = ((2 ^ w : Nat) : Int) := by simp
        rw [e5]
        exact t
      refine ⟨_, rfl, nd r, (b2 :: R), ?_, b2, ys ++ [r], rfl, hb2, nl_append ys [r], by simp at l ⊢; omega, fun y hy => ?_⟩
      · simp [pw, t']
      · rcases List.mem_append.mp hy with hy | hy
        · exact lt y hy
        · simp at hy
          rw [hy]
          exact hr) (nl (List.range c)) [] (b :: R) ⟨b, [], rfl, hb, rfl, by simp, fun y hy => by simp at hy⟩
  obtain ⟨zs, S', k1, b', ys, rfl, hb', e1, l, lt⟩ := key
  simp at e1 l
  subst e1
  have rg := rgB_nat (n := c) (by omega)
  have sz := szB_of (n := c) (by omega)
  refine ⟨b', ys, ?_, hb', l, lt⟩
  simp [m__law_numbers, rg, rng0, k1, l, sz]
theorem ofLR {R : Sto} {b : Cell} (hb : Bx b) (xs : List D) (h0 : xs ≠ []) (hl : xs.length ≤ 1000) : ∃ b' z, m__law_of [.ref 0, .lst xs] (b :: R) = .ok (.val z) (b' :: R) ∧ Bx b' ∧ z ∈ xs := by
  have hp := List.length_pos_iff.mpr h0
  obtain ⟨b1, r, t, hb1, hr⟩ := takeKR (R := R) hb (xs.length : Int) xs.length rfl hp (by omega)
  refine ⟨b1, xs[r], ?_, hb1, List.getElem_mem hr⟩
  have e := atI_nat xs r
  rw [List.getElem?_eq_getElem hr] at e
  simp [m__law_of, t, e]
theorem shuffledDR {R : Sto} {b : Cell} (hb : Bx b) (xs : List D) (hl : xs.length ≤ 1000) : ∃ b' ys, m__law_shuffled [.ref 0, .lst xs] (b :: R) = .ok (.own (.lst ys)) (b' :: R) ∧ Bx b' ∧ ys.Perm xs := by
  have key := forL_inv (g := gN 3) (b := sIns 2 (eCall m__law_take [] (aCons (eV 0) (aCons (eOp dAdd (eLenA 2) (eC (.int 1))) aNil))) (eV 3))
    (I := fun ds env S' => ∃ (b' : Cell) (ys : List D) (s : Sl), S' = (b' :: R) ∧ Bx b' ∧ env = [.v (.ref 0), .v (.lst xs), .o (.lst ys), s] ∧ (ys ++ ds).Perm xs)
    (fun x rest env S' h => by
      obtain ⟨b', ys, s, rfl, hb', rfl, p⟩ := h
      have pl := p.length_eq
      simp at pl
      obtain ⟨b2, r, t, hb2, hr⟩ := take1R (R := R) hb' (k := ys.length + 1) (by omega) (by omega)
      have t' : m__law_take [.ref 0, .int ((ys.length : Int) + 1)] (b' :: R) = .ok (.val (nd r)) (b2 :: R) := t
      refine ⟨_, rfl, [.v (.ref 0), .v (.lst xs), .o (.lst (ys.take r ++ [x] ++ ys.drop r)), .v x], (b2 :: R), .inl ?_, b2, _, _, rfl, hb2, rfl, ?_⟩
      · have bd := (bBnd_iff (i := (r : Int)) (n := 9223372036854775807)).mpr (by omega)
        have sz := szB_of (n := ys.length + 1) (by omega)
        simp [t', bd, sz]
      · exact ((insert_permG ys r x).append_right rest).trans ((List.perm_middle (l₁ := ys) (l₂ := rest) (a := x)).symm.trans p)) xs [.v (.ref 0), .v (.lst xs), .o (.lst []), .no] (b :: R) ⟨b, [], .no, rfl, hb, rfl, by simp⟩
  obtain ⟨e', S', k1, b', ys, s, rfl, hb', rfl, p⟩ := key
  refine ⟨b', ys, ?_, hb', by simpa using p⟩
  have s0 := szB_of (n := 0) (by omega)
  simp [m__law_shuffled, s0]
  rw [k1]
  rfl
theorem shuffledIR {R : Sto} {b : Cell} (hb : Bx b) (xs : List Int) (hl : xs.length ≤ 1000) : ∃ (b' : Cell) (ys : List Int), m__law_shuffled [.ref 0, .lst (xs.map D.int)] (b :: R) = .ok (.own (.lst (ys.map D.int))) (b' :: R) ∧ Bx b' ∧ ys.Perm xs := by
  obtain ⟨b', ys, e, hb', p⟩ := shuffledDR (R := R) hb (xs.map D.int) (by simpa using hl)
  obtain ⟨zs, rfl, q⟩ := ints_of_perm p
  exact ⟨b', zs, e, hb', q⟩
end Fb
/-! bodies: names, counts of digits, tables laid -/
namespace Fb
open PySem L2 Mm Gf
def small : Str := "abcdefghijklmnopqrstuvwxyz"
def nameB (x : Str) : Bool := decide (1 ≤ x.cps.size) && decide (x.cps.size ≤ 6) && x.cps.toList.all fun c => decide (c ∈ small.cps.toList)
/-! ### counts of digits -/
/-! ### tables -/
def tfs (A : List Nat) (v : Nat) (gr : List Int) (mv : D) : List (Str × D) := [("spread", fold A v), ("grip", .tup (gr.map D.int)), ("move", mv)]
def tbl (A : List Nat) (v : Nat) (gr : List Int) (mv : D) : D := .ins "Table" (tfs A v gr mv)
@[simp] theorem tbl_ins (S : Sto) (A : List Nat) (v : Nat) (gr : List Int) (mv : D) : insOf "Table" S (tbl A v gr mv) = some (tfs A v gr mv) := by
  unfold tbl
  simp
@[simp] theorem tfs_spread (A : List Nat) (v : Nat) (gr : List Int) (mv : D) : (tfs A v gr mv).lookup ("spread" : Str) = some (fold A v) := rfl
@[simp] theorem tfs_grip (A : List Nat) (v : Nat) (gr : List Int) (mv : D) : (tfs A v gr mv).lookup ("grip" : Str) = some (.tup (gr.map D.int)) := rfl
@[simp] theorem tfs_move (A : List Nat) (v : Nat) (gr : List Int) (mv : D) : (tfs A v gr mv).lookup ("move" : Str) = some mv := rfl
@[simp] theorem tfs_plain (A : List Nat) (v : Nat) (gr : List Int) (mv : D) : (tfs A v gr mv).lookup ("plain" : Str) = none := rfl
@[simp] theorem tfs_now (A : List Nat) (v : Nat) (gr : List Int) (mv : D) : (tfs A v gr mv).lookup ("berth_now" : Str) = none := rfl
/-- what the berths hold of cells -/
def grp (A : List Nat) (cs : List Int) : List Int := (List.range (2 ^ A.length)).map fun x => cs.getD (app A x) 0
def tab (A : List Nat) (v : Nat) (cs : List Int) : D := tbl A v (grp A cs) .non
end Fb
/-! bodies: cells, names, tables put and read -/
namespace Fb
open PySem L2 Mm Gf
def bfs (n b l k : Nat) (p q : Int) : List (Str × D) := [("wide", .tup [nd b, nd l, nd k]), ("tables", .ref (n + 1)), ("store", .ref (n + 2)), ("dues", .tup [.int p, .int q])]
def bodyC (n b l k : Nat) (p q : Int) : Cell := .ins "Body" (bfs n b l k p q)
@[simp] theorem bfs_wide (n b l k : Nat) (p q : Int) : (bfs n b l k p q).lookup ("wide" : Str) = some (.tup [nd b, nd l, nd k]) := rfl
@[simp] theorem bfs_tables (n b l k : Nat) (p q : Int) : (bfs n b l k p q).lookup ("tables" : Str) = some (.ref (n + 1)) := rfl
@[simp] theorem bfs_store (n b l k : Nat) (p q : Int) : (bfs n b l k p q).lookup ("store" : Str) = some (.ref (n + 2)) := rfl
@[simp] theorem bfs_dues (n b l k : Nat) (p q : Int) : (bfs n b l k p q).lookup ("dues" : Str) = some (.tup [.int p, .int q]) := rfl
theorem bfs_no {x : Str} (h1 : x ≠ "wide") (h2 : x ≠ "tables") (h3 : x ≠ "store") (h4 : x ≠ "dues") (n b l k : Nat) (p q : Int) : (bfs n b l k p q).lookup x = none := by
  unfold bfs
  simp [List.lookup, beq_false_of_ne h1, beq_false_of_ne h2, beq_false_of_ne h3, beq_false_of_ne h4]
@[simp] theorem bfs_need (n b l k : Nat) (p q : Int) : (bfs n b l k p q).lookup ("need" : Str) = none := bfs_no (by decide) (by decide) (by decide) (by decide) _ _ _ _ _ _
@[simp] theorem bfs_need_still (n b l k : Nat) (p q : Int) : (bfs n b l k p q).lookup ("need_still" : Str) = none := bfs_no (by decide) (by decide) (by decide) (by decide) _ _ _ _ _ _
@[simp] theorem bfs_need_new (n b l k : Nat) (p q : Int) : (bfs n b l k p q).lookup ("need_new" : Str) = none := bfs_no (by decide) (by decide) (by decide) (by decide) _ _ _ _ _ _
@[simp] theorem bfs_need_spread (n b l k : Nat) (p q : Int) : (bfs n b l k p q).lookup ("need_spread" : Str) = none := bfs_no (by decide) (by decide) (by decide) (by decide) _ _ _ _ _ _
@[simp] theorem bfs_need_stash (n b l k : Nat) (p q : Int) : (bfs n b l k p q).lookup ("need_stash" : Str) = none := bfs_no (by decide) (by decide) (by decide) (by decide) _ _ _ _ _ _
@[simp] theorem bfs_beats (n b l k : Nat) (p q : Int) : (bfs n b l k p q).lookup ("beats" : Str) = none := bfs_no (by decide) (by decide) (by decide) (by decide) _ _ _ _ _ _
@[simp] theorem bfs_pay (n b l k : Nat) (p q : Int) : (bfs n b l k p q).lookup ("pay" : Str) = none := bfs_no (by decide) (by decide) (by decide) (by decide) _ _ _ _ _ _
@[simp] theorem bfs_lay (n b l k : Nat) (p q : Int) : (bfs n b l k p q).lookup ("lay" : Str) = none := bfs_no (by decide) (by decide) (by decide) (by decide) _ _ _ _ _ _
@[simp] theorem bfs_drop (n b l k : Nat) (p q : Int) : (bfs n b l k p q).lookup ("drop" : Str) = none := bfs_no (by decide) (by decide) (by decide) (by decide) _ _ _ _ _ _
@[simp] theorem bfs_lead (n b l k : Nat) (p q : Int) : (bfs n b l k p q).lookup ("lead" : Str) = none := bfs_no (by decide) (by decide) (by decide) (by decide) _ _ _ _ _ _
@[simp] theorem bfs_begin (n b l k : Nat) (p q : Int) : (bfs n b l k p q).lookup ("begin" : Str) = none := bfs_no (by decide) (by decide) (by decide) (by decide) _ _ _ _ _ _
@[simp] theorem bfs_beat (n b l k : Nat) (p q : Int) : (bfs n b l k p q).lookup ("beat" : Str) = none := bfs_no (by decide) (by decide) (by decide) (by decide) _ _ _ _ _ _
@[simp] theorem bfs_off (n b l k : Nat) (p q : Int) : (bfs n b l k p q).lookup ("off" : Str) = none := bfs_no (by decide) (by decide) (by decide) (by decide) _ _ _ _ _ _
@[simp] theorem bfs_turn (n b l k : Nat) (p q : Int) : (bfs n b l k p q).lookup ("turn" : Str) = none := bfs_no (by decide) (by decide) (by decide) (by decide) _ _ _ _ _ _
@[simp] theorem bfs_total (n b l k : Nat) (p q : Int) : (bfs n b l k p q).lookup ("total" : Str) = none := bfs_no (by decide) (by decide) (by decide) (by decide) _ _ _ _ _ _
@[simp] theorem bfs_merge (n b l k : Nat) (p q : Int) : (bfs n b l k p q).lookup ("merge" : Str) = none := bfs_no (by decide) (by decide) (by decide) (by decide) _ _ _ _ _ _
@[simp] theorem bfs_stash (n b l k : Nat) (p q : Int) : (bfs n b l k p q).lookup ("stash" : Str) = none := bfs_no (by decide) (by decide) (by decide) (by decide) _ _ _ _ _ _
@[simp] theorem bfs_fetch (n b l k : Nat) (p q : Int) : (bfs n b l k p q).lookup ("fetch" : Str) = none := bfs_no (by decide) (by decide) (by decide) (by decide) _ _ _ _ _ _
@[simp] theorem bfs_forget (n b l k : Nat) (p q : Int) : (bfs n b l k p q).lookup ("forget" : Str) = none := bfs_no (by decide) (by decide) (by decide) (by decide) _ _ _ _ _ _
@[simp] theorem bfs_sizes (n b l k : Nat) (p q : Int) : (bfs n b l k p q).lookup ("sizes" : Str) = none := bfs_no (by decide) (by decide) (by decide) (by decide) _ _ _ _ _ _
@[simp] theorem bfs_names (n b l k : Nat) (p q : Int) : (bfs n b l k p q).lookup ("names" : Str) = none := bfs_no (by decide) (by decide) (by decide) (by decide) _ _ _ _ _ _
@[simp] theorem bfs_digits (n b l k : Nat) (p q : Int) : (bfs n b l k p q).lookup ("digits" : Str) = none := bfs_no (by decide) (by decide) (by decide) (by decide) _ _ _ _ _ _
@[simp] theorem bfs_rows (n b l k : Nat) (p q : Int) : (bfs n b l k p q).lookup ("rows" : Str) = none := bfs_no (by decide) (by decide) (by decide) (by decide) _ _ _ _ _ _
@[simp] theorem bfs_cells (n b l k : Nat) (p q : Int) : (bfs n b l k p q).lookup ("cells" : Str) = none := bfs_no (by decide) (by decide) (by decide) (by decide) _ _ _ _ _ _
@[simp] theorem bfs_held (n b l k : Nat) (p q : Int) : (bfs n b l k p q).lookup ("held" : Str) = none := bfs_no (by decide) (by decide) (by decide) (by decide) _ _ _ _ _ _
@[simp] theorem bfs_berths (n b l k : Nat) (p q : Int) : (bfs n b l k p q).lookup ("berths" : Str) = none := bfs_no (by decide) (by decide) (by decide) (by decide) _ _ _ _ _ _
@[simp] theorem bfs_moving (n b l k : Nat) (p q : Int) : (bfs n b l k p q).lookup ("moving" : Str) = none := bfs_no (by decide) (by decide) (by decide) (by decide) _ _ _ _ _ _
@[simp] theorem bfs_ready (n b l k : Nat) (p q : Int) : (bfs n b l k p q).lookup ("ready" : Str) = none := bfs_no (by decide) (by decide) (by decide) (by decide) _ _ _ _ _ _
@[simp] theorem bfs_stored (n b l k : Nat) (p q : Int) : (bfs n b l k p q).lookup ("stored" : Str) = none := bfs_no (by decide) (by decide) (by decide) (by decide) _ _ _ _ _ _
@[simp] theorem bfs_folding (n b l k : Nat) (p q : Int) : (bfs n b l k p q).lookup ("folding" : Str) = none := bfs_no (by decide) (by decide) (by decide) (by decide) _ _ _ _ _ _
@[simp] theorem bfs_shelf (n b l k : Nat) (p q : Int) : (bfs n b l k p q).lookup ("shelf" : Str) = none := bfs_no (by decide) (by decide) (by decide) (by decide) _ _ _ _ _ _
@[simp] theorem bfs_paid (n b l k : Nat) (p q : Int) : (bfs n b l k p q).lookup ("paid" : Str) = none := bfs_no (by decide) (by decide) (by decide) (by decide) _ _ _ _ _ _
/-- a body at cell n -/
structure Bd (S : Sto) (n b l k : Nat) (ts ss : List (Key × D)) (p q : Int) : Prop where
  at0 : S[n]? = some (bodyC n b l k p q)
  at1 : S[n + 1]? = some (.dic ts)
  at2 : S[n + 2]? = some (.dic ss)
section
variable {S : Sto} {n b l k : Nat} {ts ss : List (Key × D)} {p q : Int}
theorem Bd.ins (h : Bd S n b l k ts ss p q) : S[n]? = some (.ins "Body" (bfs n b l k p q)) := h.at0
theorem Bd.lt (h : Bd S n b l k ts ss p q) : n + 2 < S.length := (List.getElem?_eq_some_iff.mp h.at2).1
theorem Bd.head {b0 b1 : Cell} (h : Bd (b0 :: S) (n + 1) b l k ts ss p q) : Bd (b1 :: S) (n + 1) b l k ts ss p q := ⟨h.at0, h.at1, h.at2⟩
end
end Fb
/-! bodies: begun, tables laid, read, turned -/
namespace Fb
open PySem L2 Mm Gf
section
variable {S : Sto} {n b l k : Nat} {ts ss : List (Key × D)} {p q : Int}
/-! ### cells numbered anew -/
def trnC (F : List Nat) (v : Nat) (cs : List Int) : List Int := (List.range (2 ^ v)).map fun y => cs.getD (app (backL F v) y) 0
end
end Fb
/-! bodies: tables led -/
namespace Fb
open PySem L2 Mm Gf
def mfs (B : List Nat) (v : Nat) (sr sg dn lf : List Nat) : List (Str × D) := [("aim", fold B v), ("springs", .lst (nl sr)), ("swings", .tup (nl sg)), ("done", .tup (nl dn)), ("left", .tup (nl lf))]
def mov (B : List Nat) (v : Nat) (sr sg dn lf : List Nat) : D := .ins "Move" (mfs B v sr sg dn lf)
section
variable (B : List Nat) (v : Nat) (sr sg dn lf : List Nat)
@[simp] theorem mov_ins (S : Sto) : insOf "Move" S (mov B v sr sg dn lf) = some (mfs B v sr sg dn lf) := by
  unfold mov
  simp
@[simp] theorem mfs_aim : (mfs B v sr sg dn lf).lookup ("aim" : Str) = some (fold B v) := rfl
@[simp] theorem mfs_springs : (mfs B v sr sg dn lf).lookup ("springs" : Str) = some (.lst (nl sr)) := rfl
@[simp] theorem mfs_swings : (mfs B v sr sg dn lf).lookup ("swings" : Str) = some (.tup (nl sg)) := rfl
@[simp] theorem mfs_done : (mfs B v sr sg dn lf).lookup ("done" : Str) = some (.tup (nl dn)) := rfl
@[simp] theorem mfs_left : (mfs B v sr sg dn lf).lookup ("left" : Str) = some (.tup (nl lf)) := rfl
@[simp] theorem mfs_told : (mfs B v sr sg dn lf).lookup ("told" : Str) = none := rfl
@[simp] theorem mfs_ready : (mfs B v sr sg dn lf).lookup ("is_ready" : Str) = none := rfl
@[simp] theorem isN_mov : D.isN (mov B v sr sg dn lf) = false := rfl
end
def srcs (A B : List Nat) (v m d : Nat) : List Nat := (List.range (2 ^ d)).map (src A B v m)
def sgs (A B : List Nat) (v m d : Nat) : List Nat := (List.range (2 ^ d)).map (sw A B v m)
/-- a table on its way, or come -/
def mvt (A B : List Nat) (v m d : Nat) (cs : List Int) (dn lf : List Nat) : D := if lf = [] then tab B v cs else tbl A v (grp A cs) (mov B v (srcs A B v m d) (sgs A B v m d) dn lf)
section
variable {A B : List Nat} {v m l : Nat} (hA : Lin (m + l) v A) (hB : Lin (m + l) v B) (hd : m + l ≤ 12)
include hA hB hd
noncomputable def ledT : MT := cB (eOp fIsNot (eFld "Table" "move" (eV 3)) (eC .non))
noncomputable def ledB : MS := sAsg (eCall m_beaten [] (aCons (eV 3) aNil)) (gN 3)
end
section
variable {S : Sto} {n b l k : Nat} {ts ss : List (Key × D)} {p q : Int}
end
end Fb
/-! draws of bodies: sizes, cells -/
namespace Mm
open PySem L2
@[simp] theorem sExt_eq (i : Nat) (me : ME) (env : Envr) (S : Sto) : sExt i me env S = (match env[i]? with
  | some (.o (.lst xs)) => (me env S).out env fun d S1 => (match d with
    | .lst ys => if szB (xs.length + ys.length) then .nx (env.set i (.o (.lst (xs ++ ys)))) S1 else .stuck
    | _ => .stuck)
  | _ => .stuck) := rfl
end Mm
namespace Fb
open PySem L2 Mm Gf
end Fb
namespace Mm
open PySem L2
end Mm
/-! one body beside the box -/
namespace Fb
open PySem L2 Mm Gf
/-- the box, a body, its tables, its store -/
def St (b : Cell) (x y z : Nat) (p q : Int) (ts ss : List (Key × D)) : Sto := [b, bodyC 1 x y z p q, .dic ts, .dic ss]
section
variable {b : Cell} {x y z : Nat} {p q : Int} {ts ss : List (Key × D)}
@[simp] theorem St_len : (St b x y z p q ts ss).length = 4 := rfl
@[simp] theorem St_0 : (St b x y z p q ts ss)[0]? = some b := rfl
@[simp] theorem St_1 : (St b x y z p q ts ss)[1]? = some (.ins "Body" (bfs 1 x y z p q)) := rfl
@[simp] theorem St_2 : (St b x y z p q ts ss)[2]? = some (.dic ts) := rfl
@[simp] theorem St_3 : (St b x y z p q ts ss)[3]? = some (.dic ss) := rfl
end
/-! ### turned cells -/
end Fb
/-! bodies: tables merged -/
namespace Fb
open PySem L2 Mm Gf
def mixI (w : Str) (a b : Int) : Int := if w = "plus" then a + b else if w = "less" then a - b else if w = "least" then (if b < a then b else a) else (if a < b then b else a)
def wds : List Str := ["plus", "less", "least", "most"]
section
variable {S : Sto} {n b l k : Nat} {ts ss : List (Key × D)} {p q : Int}
end
end Fb
namespace Fb
open PySem L2 Mm Gf
end Fb
/-! bodies: tables totalled -/
namespace Fb
open PySem L2 Mm Gf
/-- the rows that leave the places out, and how many are kept -/
def sqz (P : List Nat) : Nat → List Nat × Nat
  | 0 => ([], 0)
  | n + 1 => if n ∈ P then ((sqz P n).1 ++ [0], (sqz P n).2) else ((sqz P n).1 ++ [2 ^ (sqz P n).2], (sqz P n).2 + 1)
/-- the sums of the cells that are led to one -/
def sumTo (R : List Nat) (n y : Nat) (cs : List Int) : Int := (((List.range n).filter fun c => decide (app R c = y)).map fun c => cs.getD c 0).sum
def totC (R : List Nat) (v k : Nat) (cs : List Int) : List Int := (List.range (2 ^ k)).map fun y => sumTo R (2 ^ v) y cs
noncomputable def tt1 : MS := sSeq (sApp 2 (eIf (cB (eOp (fIn false) (eV 4) (eV 1))) (eC (.int 0)) (eOp iShl (eC (.int 1)) (eV 3)))) (sAug 3 (fun i j => i + j) (eIf (cB (eOp (fIn false) (eV 4) (eV 1))) (eC (.int 0)) (eC (.int 1))))
noncomputable def tt2 : MS := sAugO 6 (eMeth "Fold" "to" m_Fold_to [] (eV 5) (aCons (eV 7) aNil)) (fun i j => i + j) (eV 8)
section
variable {S : Sto} {n b l k : Nat} {ts ss : List (Key × D)} {p q : Int}
end
end Fb
/-! sums over folds, one behind another -/
namespace Fb
open PySem L2 Mm Gf
/-- the sum of a function over some numbers below n -/
def sm (n : Nat) (p : Nat → Bool) (f : Nat → Int) : Int := (((List.range n).filter p).map f).sum
/-! ### rows that leave places out -/
def kp (P : List Nat) (n : Nat) : Nat := ((List.range n).filter fun i => !decide (i ∈ P)).length
/-- those kept below n -/
def kept (P : List Nat) (n : Nat) : List Nat := (List.range n).filter fun i => !decide (i ∈ P)
end Fb
namespace Fb
open PySem L2 Mm Gf
/-! ### an exchange of digits, sums, and the order mended -/
def exR (o : List Nat) (v : Nat) : List Nat := (List.range v).map fun i => 2 ^ o.getD i 0
section
variable {o P : List Nat} {v : Nat} (h : o.Perm (List.range v)) (hP : ∀ i ∈ P, i < v)
include h hP
def rnk (o P : List Nat) (v : Nat) : List Nat := ((kept P v).map fun a => o.getD a 0).map fun a => (kept (P.map fun a => o.getD a 0) v).idxOf a
end
end Fb
namespace Fb
open PySem L2 Mm Gf
theorem intsOf_map (xs : List Int) : intsOf (xs.map D.int) = some xs := by
  induction xs with
  | nil => rfl
  | cons x xs ih =>
    rw [List.map_cons]
    unfold intsOf
    rw [ih]
    rfl
/-- a table summed along places, none perhaps -/
def tots (A P : List Nat) (v : Nat) (cs : List Int) : D := tab (A.map (app (sqz P v).1)) (sqz P v).2 (totC (sqz P v).1 v (sqz P v).2 cs)
end Fb
namespace Mm
open PySem PySem.Spec PyProof.Rows L2
/-! ### a dict cell is locked, and unlocked -/
def keyV : Key → D
  | .inl i => .int i
  | .inr x => .str x
section
variable {g : Gam} {w0 w w1 w5 : Wd} {H0 H H1 H5 H6 : Hp} {σ σ5 : L2.St} {env env5 : Envr} {S S5 S6 : Sto} {O O5 : List (Option Addr)}
end
def unlk (n : Nat) : Out → Out
  | .nx e S => (match S[n]? with
    | some (.lck ks) => .nx e (S.set n (.dic ks))
    | _ => .stuck)
  | .rt r S => (match S[n]? with
    | some (.lck ks) => .rt r (S.set n (.dic ks))
    | _ => .stuck)
  | _ => .stuck
def keysV (ks : List (Key × D)) : List D := ks.map fun k => keyV k.1
/-- for k in d, d a cell; own things are not seen within, nor behind -/
def sForD (md : ME) (g : MG) (b : MS) : MS := fun env S => match md env S with
  | .ok (.ref n) _ => (match S[n]? with
    | some (.dic ks) => unlk n ((md (wipeE env []) (S.set n (.lck ks))).out (wipeE env []) fun d S1 => match d with
      | .ref m => if m = n then forL g b (keysV ks) (wipeE env []) S1 else .stuck
      | _ => .stuck)
    | _ => .stuck)
  | _ => .stuck
section
variable {X : Cx} {Y : Gam} {W : WX} {e tg : Expr} {td : TE} {md : ME} {t1 : TS} {m1 : MS} {pos : Pos}
end
end Mm
namespace Mm
open PySem PySem.Spec PyProof.Rows L2 HotX
/-! ### try with named clauses, of one class or of three -/
inductive HdT where
  | as (c : Value) (i : Nat) (ts : Addr → Value → Option Addr → TS)
  | tup (cs : List Value) (i : Nat) (ts : Addr → Value → Option Addr → TS)
def wHdT (K : PySem.W.Frag) (Wout : WX) (D : Ends) : List HdT → WX
  | [] => Wout
  | .as c i ts :: r => fun cls d σ H => ∃ b, PySem.W.exmOne K cls c = some b ∧ (b = true → ∀ a, H a = none → ts a cls d (goneD i D) (σ.set i (some (.ref a))) H) ∧ (b = false → wHdT K Wout D r cls d σ H)
  | .tup cs i ts :: r => fun cls d σ H => ∃ b, PySem.W.exmAny K cls cs = some b ∧ (b = true → ∀ a, H a = none → ts a cls d (goneD i D) (σ.set i (some (.ref a))) H) ∧ (b = false → wHdT K Wout D r cls d σ H)
inductive HdsT (X : Cx) : List ExceptHandler → List HdT → Prop
  | nil : HdsT X [] []
  | as {x n : Str} {c : Value} {i : Nat} {ts : Addr → Value → Option Addr → TS} {b₀ : Stmt} {suite : List Stmt} {np pos' : Pos} {hds : List ExceptHandler} {l : List HdT} (hi : X.N[i]? = some n) (hln : X.env.kindOf n = some .local) (hc : Names X x c)
      (hsu : ∀ (a : Addr) (oe : Obj) (cls : Value) (d : Option Addr) (pn : List (Addr × Obj)), L2N.Zn cls d oe → (∃ vs, oe.data = .fields vs) → PSs (X.suite a ((a, oe) :: pn)) (b₀ :: suite) (ts a cls d)) (r : HdsT X hds l) :
      HdsT X (.ExceptHandler (some (.Name x np)) (some n) (b₀ :: suite) pos' :: hds) (.as c i ts :: l)
  | tup {x1 x2 x3 n : Str} {c1 c2 c3 : Value} {i kk : Nat} {ts : Addr → Value → Option Addr → TS} {b₀ : Stmt} {suite : List Stmt} {p1 p2 p3 tpos pos' : Pos} {hds : List ExceptHandler} {l : List HdT} (hi : X.N[i]? = some n) (hln : X.env.kindOf n = some .local) (h1 : Names X x1 c1) (h2 : Names X x2 c2) (h3 : Names X x3 c3)
      (hsu : ∀ (a : Addr) (oe : Obj) (cls : Value) (d : Option Addr) (pn : List (Addr × Obj)), L2N.Zn cls d oe → (∃ vs, oe.data = .fields vs) → PSs (X.suite a ((a, oe) :: pn)) (b₀ :: suite) (ts a cls d)) (r : HdsT X hds l) :
      HdsT X (.ExceptHandler (some (.Tuple [.Name x1 p1, .Name x2 p2, .Name x3 p3] kk tpos)) (some n) (b₀ :: suite) pos' :: hds) (.tup [c1, c2, c3] i ts :: l)
section
variable {X : Cx} {body : List Stmt} {h₀ : ExceptHandler} {hds : List ExceptHandler} {l : List HdT} {pos : Pos} {tb : WX → TS} {Wout : WX}
end
end Mm
namespace Mm
open PySem PySem.Spec PyProof.Rows L2 HotX
/-! ### the end of a walk over a zip while an exception is handled -/
section
variable {prog : Program} {w : World} {A : Around} {E : Value → Shared → Prop} {s : Shared}
end
def HotO (A : Around) (x1 : Addr) (o1 : Obj) : Prop := A.handled = some (.ref x1) ∧ ∃ vs : Array Value, o1.data = .fields vs ∧ True
section
variable {X : Cx}
def ItzF (K : PySem.W.Frag) (a b : Addr) (xs ys : List V) : It := ⟨fun i H => SqL K H a xs ∧ SqL K H b ys ∧ ∃ x y, xs[i]? = some x ∧ ys[i]? = some y, fun i H v H' => ∃ T x y, v = .ref T ∧ H T = none ∧ H' = upd H T (.tup [x, y]) ∧ xs[i]? = some x ∧ ys[i]? = some y, fun i H => SqL K H a xs ∧ SqL K H b ys ∧ i = min xs.length ys.length⟩
def iZipF (K : PySem.W.Frag) (ta : TA) : TI := fun σ H R => ta σ H fun vs H1 => ∃ a b xs ys, vs = [.ref a, .ref b] ∧ SqL K H1 a xs ∧ SqL K H1 b ys ∧ R (ItzF K a b xs ys) H1
end
end Mm
namespace Mm
open PySem PySem.Spec PyProof.Rows L2 HotX
/-! ### s.split(t) -/
section
variable {X : Cx} {Y : Gam} {W : WX} {o e : Expr} {to te : TE} {mo me : ME} {apos pos : Pos}
def fSplit (ma mb : ME) : MF := fun env S => (ma env S).bind fun a S1 => match a with
  | .str x => (mb env S1).bind fun b S2 => (match b with
    | .str y => if !(y.length == 0) && szB (x.length + 2) then .ok (.lst ((Txt.split x y).map D.str)) S2 else .stuck
    | _ => .stuck)
  | _ => .stuck
end
/-! ### the list comprehension over a zip, there -/
section
variable {X : Cx} {Y : Gam} {W : WX} {e e2 elt : Expr} {es ifs : List Expr} {te : TE} {tt : TT} {me : ME} {mt : MT} {t : TA} {m : MA} {pos tpos zp zpos : Pos} {scope : Scope} {own : List (Str × Nat)} {is : List Nat} {tgs : TGs} {mgs : MGs} {k : Nat}
def itZH (m : MA) : MI := fun env S => (m env S).bind fun ds S1 => match ds with
  | [.lst xs, .lst ys] => .ok (zipD xs ys) S1
  | _ => .stuck
end
end Mm
namespace Mm
open PySem PySem.Spec PyProof.Rows L2 HotX
/-! ### the words of a body's refusals -/
def wordLB : List (Str × Str) := [("badname", "BadName"), ("taken", "Taken"), ("full", "Full"), ("notmoving", "NotMoving"), ("badrows", "BadRows"), ("badcells", "BadCells"), ("badturn", "BadTurn"), ("baddigits", "BadDigits"), ("badword", "BadWord"), ("unlike", "Unlike"), ("badbanks", "BadBanks"), ("noberth", "NoBerth"), ("nocell", "NoCell"), ("nobank", "NoBank"), ("badsize", "BadSize")]
def wordsB (c : Str) : List D := (wordLB.filter fun p => decide (p.2 = c)).map fun p => .str p.1
def fX (a : Addr) (c c' : Str) : ME := eIsX a c (aCons (eV 0) (aCons (eC (.cls c')) aNil))
def three (a : Addr) (c x y z : Str) : MF := fLst (aCons (fX a c x) (aCons (fX a c y) (aCons (fX a c z) aNil)))
def m_wordB (a : Addr) (c : Str) : MS :=
  sSeq (sAsg (eC (.str "badname taken full notmoving badrows badcells badturn baddigits badword unlike")) (gN 1))
  (sSeq (sOwn 2 (three a c "BadName" "Taken" "Full"))
  (sSeq (sExt 2 (mFrz (three a c "NotMoving" "BadRows" "BadCells")))
  (sSeq (sExt 2 (mFrz (three a c "BadTurn" "BadDigits" "BadWord")))
  (sSeq (sExt 2 (mFrz (three a c "Unlike" "BadBanks" "NoBerth")))
  (sSeq (sExt 2 (mFrz (three a c "NoCell" "NoBank" "BadSize")))
  (sSeq (sAsg (eOp dAdd (mFrz (fSplit (eV 1) (eC (.str " ")))) (mFrz (fLst (aCons (eC (.str "badbanks")) (aCons (eC (.str "noberth")) (aCons (eC (.str "nocell")) (aCons (eC (.str "nobank")) (aCons (eC (.str "badsize")) aNil)))))))) (gN 3))
  (sFrz 2 (sRet (eCB fTupOf (aCons (mFrz (fLc (itZH (aCons (eV 3) (aCons (eV 2) aNil))) (gT (gNC (gN 4) (gNC (gN 5) gN0))) (cB (eV 5)) (eV 4) [4, 5])) aNil)))))))))) 
def kindsB (c : Str) (l : List (Str × Str)) : List D := l.map fun p => .bl (decide (p.2 = c))
def termsS : Str := "badname taken full notmoving badrows badcells badturn baddigits badword unlike"
def termsL : List Str := ["badname", "taken", "full", "notmoving", "badrows", "badcells", "badturn", "baddigits", "badword", "unlike"]
end Mm
namespace Mm
open PySem PySem.Spec PySem.Calls PyProof.Rows L2 HotX
/-! ### isinstance of a caught refusal that keeps a field -/
section
variable {prog : Program} {w : World} {K : PySem.W.Frag} {x D : Addr} {ox od : Obj}
end

section
variable {X : Cx}
def rIsD (K : PySem.W.Frag) (D a : Addr) (d : Option Addr) : List V → Hp → VK → Prop := fun xs H Q => ∃ (c : V) (cv : Value) (b : Bool), xs = [.ref a, c] ∧ (∀ u, RelV c u → u = cv) ∧ PySem.W.kitOne K (.ref D) cv = some b ∧ (∃ dd fs, d = some dd ∧ H dd = some (.xd fs)) ∧ Q (.bl b) H
end
/-! ### `_law_why(lambda: ..)`: told, or the refusal's word, with the name where there is one -/
structure TriY (K : PySem.W.Frag) (Y : Gam) (c : Str) : Prop where
  ex : ExcC K (Y.ca c)
  np : PySem.W.exmAny K (.ref (Y.ca c)) [.ref (Y.ca "NoTable"), .ref (Y.ca "Moving"), .ref (Y.ca "NoStash")] = some false
  fe : PySem.W.exmOne K (.ref (Y.ca c)) (.ref (Y.ca "FoldError")) = some true
  kit : ∀ p ∈ wordLB, PySem.W.kitOne K (.ref (Y.ca c)) (.ref (Y.ca p.2)) = some (decide (p.2 = c))
structure TriF (K : PySem.W.Frag) (Y : Gam) (c : Str) : Prop where
  ex : ExcC K (Y.ca c)
  np : PySem.W.exmAny K (.ref (Y.ca c)) [.ref (Y.ca "NoTable"), .ref (Y.ca "Moving"), .ref (Y.ca "NoStash")] = some true
  xf : XfC K (Y.ca c)
  nn : PySem.W.findIn K (.ref (Y.ca c)) "name" = some none
  km : PySem.W.kitOne K (.ref (Y.ca c)) (.ref (Y.ca "Moving")) = some (decide (c = "Moving"))
  ks : PySem.W.kitOne K (.ref (Y.ca c)) (.ref (Y.ca "NoStash")) = some (decide (c = "NoStash"))
  nm : fldOf c = "name"
def fldW (c : Str) : Str := if c = "NoStash" then "nostash" else if c = "Moving" then "moving" else "notable"
def whyBW (cs fs : List Str) : R D → R D
  | .ok d S => .ok (.tup [.str "told", d]) S
  | .exc c none S => if c ∈ cs then .ok (.tup (wordsB c)) S else .stuck
  | .exc c (some d) S => if c ∈ fs then .ok (.tup [.str (fldW c), d]) S else .stuck
  | .stuck => .stuck
def eWhyB (cs fs : List Str) (me : ME) : ME := fun env S => whyBW cs fs (me (wipeE env []) S)
abbrev Ny : List Str := ["_law_ask", "_law_e", "_law_kind"]
def yBody (p0 p1 p2 p3 p4 p5 p6 p7 p8 p9 p10 p11 p12 p13 p14 p15 p16 p17 p18 p19 p20 p21 p22 p23 p24 p25 p26 p27 p28 p29 p30 p31 p32 p33 p34 p35 p36 : Pos) (j0 j1 j2 j3 j4 j5 j6 : Nat) : List Stmt :=
  [.Try [.Return (some (.Tuple [.Constant (.str "told") j0 p0, .Call (.Name "_law_ask" p1) [] [] p2] j1 p3)) p4]
    [.ExceptHandler (some (.Tuple [.Name "NoTable" p5, .Name "Moving" p6, .Name "NoStash" p7] j2 p8)) (some "_law_e")
      [.Assign [.Name "_law_kind" p9] (.IfExp (.Call (.Name "isinstance" p10) [.Name "_law_e" p11, .Name "Moving" p12] [] p13) (.Constant (.str "moving") j3 p14) (.Constant (.str "notable") j4 p15) p16) p17,
       .Return (some (.Tuple [.IfExp (.Call (.Name "isinstance" p18) [.Name "_law_e" p19, .Name "NoStash" p20] [] p21) (.Constant (.str "nostash") j5 p22) (.Name "_law_kind" p23) p24, .Attribute (.Name "_law_e" p25) "name" p26] j6 p27)) p28] p29,
     .ExceptHandler (some (.Name "FoldError" p30)) (some "_law_e") [.Return (some (.Call (.Name "_law_word" p31) [.Name "_law_e" p32] [] p33)) p34] p35] [] [] p36]
/-- the two defs -/
structure TriB (P : Program) (w : World) (K : PySem.W.Frag) (mg : Str → Option Value) (base : Heap) (Y : Gam) (cs fs : List Str) : Prop where
  ex : ∃ (g fw : Addr) (fdg fdw : FuncData) (sg sw : Stmt) (Nw : List Str),
    FnP K "_law_why" "_law_why" sg [] g fdg ∧ FnScope Ny ["_law_ask"] (defScope sg) ∧ Binds K fdg ["_law_ask"] [] ∧ mg "_law_why" = some (.ref g) ∧ (∃ p0 p1 p2 p3 p4 p5 p6 p7 p8 p9 p10 p11 p12 p13 p14 p15 p16 p17 p18 p19 p20 p21 p22 p23 p24 p25 p26 p27 p28 p29 p30 p31 p32 p33 p34 p35 p36 j0 j1 j2 j3 j4 j5 j6, defBody sg = yBody p0 p1 p2 p3 p4 p5 p6 p7 p8 p9 p10 p11 p12 p13 p14 p15 p16 p17 p18 p19 p20 p21 p22 p23 p24 p25 p26 p27 p28 p29 p30 p31 p32 p33 p34 p35 p36 j0 j1 j2 j3 j4 j5 j6) ∧
    (defScope sg).names.lookup ("NoTable" : Str) = some .globalImplicit ∧ (defScope sg).names.lookup ("Moving" : Str) = some .globalImplicit ∧ (defScope sg).names.lookup ("NoStash" : Str) = some .globalImplicit ∧ (defScope sg).names.lookup ("FoldError" : Str) = some .globalImplicit ∧ (defScope sg).names.lookup ("_law_word" : Str) = some .globalImplicit ∧ (defScope sg).names.lookup ("isinstance" : Str) = some .globalImplicit ∧ (defScope sg).names.lookup ("_law_ask" : Str) = some .local ∧ (defScope sg).names.lookup ("_law_e" : Str) = some .local ∧ (defScope sg).names.lookup ("_law_kind" : Str) = some .local ∧
    FnP K "_law_word" "_law_word" sw [] fw fdw ∧ FnScope Nw ["_law_e"] (defScope sw) ∧ Nw.length = 6 ∧ Binds K fdw ["_law_e"] [] ∧ mg "_law_word" = some (.ref fw) ∧
    ∀ c ∈ cs, ∀ (a : Addr) (oe : Obj), L2N.Zn (.ref (Y.ca c)) none oe → (∃ vs, oe.data = .fields vs) → ∀ (cdv : Value) (A : Around) (outer : List Env) (s : Shared) (H : Hp), L2H.Hot1 A (a, oe) →
      ∃ t1, SB (L2H.cxH (L2N.CX P w) P w K mg base Nw "_law_word" (defScope sw) fw cdv A outer s H C8.E0 (a, oe)) Y W0 (defBody sw) t1 (m_wordB a c)
  nt : mg "NoTable" = some (.ref (Y.ca "NoTable"))
  mv : mg "Moving" = some (.ref (Y.ca "Moving"))
  ns : mg "NoStash" = some (.ref (Y.ca "NoStash"))
  fe : mg "FoldError" = some (.ref (Y.ca "FoldError"))
  isi : mg "isinstance" = none
  x : ∀ c ∈ cs, TriY K Y c
  f : ∀ c ∈ fs, TriF K Y c
def tKind (K : PySem.W.Frag) (Y : Gam) (a : Addr) (d : Option Addr) (cc : Str) : TS :=
  tSeq (tAsg (tIf (tB (tCB (rIsD K (Y.ca cc) a d) (tCons (tVar 1) (tCons (tC (.ref (Y.ca "Moving"))) tNil)))) (tC (.str "moving")) (tC (.str "notable"))) (gName 2))
    (tRet (tTup (tCons (tIf (tB (tCB (rIsD K (Y.ca cc) a d) (tCons (tVar 1) (tCons (tC (.ref (Y.ca "NoStash"))) tNil)))) (tC (.str "nostash")) (tVar 2)) (tCons (tXf a (.ref (Y.ca cc)) d (Y.ca cc) "name" (tVar 1)) tNil))))
section
variable {X : Cx} {Y : Gam} {W : WX} {cs fs : List Str} {k : Nat} {params : Arguments} {body : Expr} {scope : Scope} {me : ME} {p0 lpos pos : Pos}
end
end Mm
namespace Mm
open PySem PySem.Spec PyProof.Rows L2
/-! ### texts in order -/
def leS (a b : Str) : Prop := ltCps b.cps.toList a.cps.toList = false
def insX (x : Str) : List Str → List Str
  | [] => [x]
  | y :: r => if ltCps y.cps.toList x.cps.toList then y :: insX x r else x :: y :: r
def srtX : List Str → List Str
  | [] => []
  | x :: r => insX x (srtX r)
/-! ### sorted(d), d of texts; dict(d) -/
def txtsK : List (Key × D) → Option (List Str)
  | [] => some []
  | (.inr x, _) :: r => (txtsK r).map (x :: ·)
  | _ => none
def fSortedD : Sto → List D → Option Cell
  | S, [d] => (dicOf S d).bind fun ks => (txtsK ks).bind fun xs => if xs.length < 64 then some (.lst ((srtX xs).map D.str)) else none
  | _, _ => none
def fDictOf : Sto → List D → Option Cell
  | S, [d] => (dicOf S d).map Cell.dic
  | _, _ => none
/-! ### abs -/
def fAbs : Sto → List D → Option D
  | _, [.int i] => some (.int (if i < 0 then -i else i))
  | _, _ => none
end Mm
namespace Mm
open PySem PySem.Spec PyProof.Rows L2
/-! ### {text: e, ..}, own things not seen by the parts -/
theorem ok_updN {g : Gam} {w : Wd} {H : Hp} {S : Sto} {p : Addr} {o0 o : HO} (k : Ok g w H S) (e : H p = some o0) (nt : ∀ ps, o0 ≠ .tbl ps) (ne : ∀ φ, o0 ≠ .ext φ) (hg : w.G p = none) (hr : p ∉ w.rho) : Ok g w (upd H p o) S := by
  refine ⟨fun b u q => ?_, ⟨k.cells.nd, k.cells.len, fun m b q e9 e10 => ?_⟩, tabs_upd k.tabs (fun ps z => by rw [e] at z; exact nt ps (Option.some.inj z)) (fun φ z => by rw [e] at z; exact ne φ (Option.some.inj z)), k.notab⟩
  · rw [upd_ne (fun z => by rw [z, hg] at q; cases q)]
    exact k.ex b u q
  · obtain ⟨q1, q2⟩ := k.cells.at_ m b q e9 e10
    exact ⟨q1, q2.move (.refl w) (upd_ne fun z => hr (by rw [← z]; exact List.mem_of_getElem? e9))⟩
def dispR : List (Str × ME) → Envr → Sto → R (List (Key × D))
  | [], _, S => .ok [] S
  | (k, m) :: r, env, S => (m env S).bind fun d S1 => (dispR r env S1).bind fun ds S2 => .ok ((.inr k, d) :: ds) S2
def nodB (ks : List Str) : Bool := decide ks.Nodup
def fDispN (ks : List (Str × ME)) : MF := fun env S => if nodB (ks.map (·.1)) then (dispR ks (wipeE env []) S).bind fun ds S1 => .ok (.dic ds) S1 else .stuck
section
variable {X : Cx} {Y : Gam} {W : WX} {e a o : Expr} {es : List Expr} {te : TE} {me : ME} {pos p apos cpos : Pos}
structure SDs (X : Cx) (Y : Gam) (W : WX) (pos : Pos) (keys : List (Option Expr)) (values : List Expr) (trs : List (TE × TE)) (ks : List (Str × ME)) : Prop where
  pps : PPs X pos keys values trs
  len : keys.length = ks.length
  sim : ∀ w0 H0 w H σ env S O (Q : List (V × V) → Hp → Prop), StR Y w0 H0 w H σ env S O → PostX Y W w0 H0 w σ env O (dispR ks env S) (fun ds _ w' H' => ∀ kvs, RepK Y w' ds kvs → Q (kvs.map fun kv => (kV kv.1, kv.2)) H') → tPairs trs σ H Q
/-! ### f"..{e}.." -/
def eFmt (m : ME) : ME := fun env S => (m env S).bind fun d S1 => match d with
  | .str y => if szB y.length then .ok (.str y) S1 else .stuck
  | .int i => if decide (i.natAbs.log2 < 1920) then .ok (.str (toString i)) S1 else .stuck
  | _ => .stuck
theorem s_fmt (he : SE X Y W e te me) : SE X Y W (.FormattedValue e (-1) none pos) (tFmt te) (eFmt me) := ⟨pe_fmt he.pe, fun w0 H0 w H σ env S O Q st p =>
  he.sim w0 H0 w H σ env S O _ st ((PostX.bind p).imp fun d S1 w1 H1 st1 l1 p1 v r => by
    cases d with
    | str y =>
      have p1 : PostX Y W w0 H0 w1 σ env O (if szB y.length then R.ok (D.str y) S1 else .stuck) _ := p1
      split at p1
      · rename_i z
        exact .inl ⟨y, rep_str r, szB_le z, p1 w1 H1 st1 (.refl w1) _ rep_str'⟩
      · exact False.elim p1
    | int i =>
      have p1 : PostX Y W w0 H0 w1 σ env O (if decide (i.natAbs.log2 < 1920) then R.ok (D.str (toString i)) S1 else .stuck) _ := p1
      split at p1
      · rename_i z
        exact .inr ⟨i, rep_int r, of_decide_eq_true z, p1 w1 H1 st1 (.refl w1) _ rep_str'⟩
      · exact False.elim p1
    | _ => exact False.elim p1)⟩
def eFs : List ME → Str → ME
  | [], acc => fun _ S => .ok (.str acc) S
  | m :: ms, acc => fun env S => (m env S).bind fun d S1 => match d with
    | .str y => if szB (acc ++ y).length then eFs ms (acc ++ y) env S1 else .stuck
    | _ => .stuck
structure SJs (X : Cx) (Y : Gam) (W : WX) (es : List Expr) (ts : List TE) (ms : List ME) : Prop where
  pj : PJ X es ts
  sim : ∀ (acc : Str) w0 H0 w H σ env S O (Q : Str → Hp → Prop), StR Y w0 H0 w H σ env S O → PostX Y W w0 H0 w σ env O (eFs ms acc env S) (fun d _ _ H' => ∀ x, d = .str x → Q x H') → tJs ts acc σ H Q
theorem sj_nil : SJs X Y W [] [] [] := ⟨.nil, fun acc w0 H0 w H σ env S O Q st p => p w H st (.refl w) acc rfl⟩
theorem sj_cons {ts : List TE} {ms : List ME} (he : SE X Y W e te me) (hr : SJs X Y W es ts ms) : SJs X Y W (e :: es) (te :: ts) (me :: ms) := ⟨.cons he.pe hr.pj, fun acc w0 H0 w H σ env S O Q st p =>
  he.sim w0 H0 w H σ env S O _ st ((PostX.bind p).imp fun d S1 w1 H1 st1 l1 p1 v r => by
    split at p1
    · rename_i y
      split at p1
      · rename_i z
        exact ⟨y, rep_str r, szB_le z, hr.sim (acc ++ y) w0 H0 w1 H1 σ env S1 O Q st1 p1⟩
      · exact False.elim p1
    · exact False.elim p1)⟩
theorem s_fs {v1 v2 : Expr} {rest : List Expr} {ts : List TE} {ms : List ME} (h : SJs X Y W (v1 :: v2 :: rest) ts ms) : SE X Y W (.JoinedStr (v1 :: v2 :: rest) pos) (fun σ H Q => tJs ts Str.empty σ H fun out H1 => Q (.str out) H1) (eFs ms Str.empty) := ⟨pe_joined h.pj, fun w0 H0 w H σ env S O Q st p =>
  h.sim Str.empty w0 H0 w H σ env S O _ st (p.imp fun d S1 w1 H1 st1 l1 p1 x ex => by
    subst ex
    exact p1 _ rep_str')⟩
/-! ### repr(o), len(o), o of a class with its own -/
variable {k n : Nat} {fa C : Addr} {fd : FuncData} {ps : List Str} {mfn : MFn}
def rReprO (C : Addr) (sp : Sp) (E : XK) : List V → Hp → VK → Prop := fun xs H Q => ∃ a dx fs, xs = [.ref a] ∧ H a = some (.ins C dx fs) ∧ sp [.ref a] H (fun v H' => ∃ x, v = .str x ∧ Q (.str x) H') E
theorem env0_in1 {pins : List (Addr × Obj)} {σ : L2.St} {H : Hp} {s : Shared} (I : Inv X pins σ H s) : Env0 X.prog X.w X.K X.mg X.base X.A.in1 X.stack s H := by
  have e := I.env0
  exact ⟨e.frames, e.mod, e.bs, e.bsz, e.funs, e.frf, e.hok, e.bare⟩
theorem call_reprO {CX : CXT} {sp : Sp} {E : XK} (F : FnOk X.prog X.w X.K X.mg X.base CX n fa fd ps sp) (hr : Room (n + 1) X.A)
    (hs : PySem.W.findIn X.K (.ref C) "__repr__" = some (some (.ref fa))) (hf : PySem.W.isFn X.K (.ref fa) = true) (hb : Binds X.K fd ps []) (hx : Passes CX X E) : CallR X (.builtin "repr") (rReprO C sp E) := by
  intro pins s σ H xs us Q I r d
  obtain ⟨a, dx, fs, rfl, ha, hsp⟩ := d
  obtain ⟨u, rfl, ru⟩ := r.one
  cases ru
  obtain ⟨mA, J, _⟩ := ins_get I.hok ha
  obtain ⟨od, J, _⟩ := J.look
  obtain ⟨m, hF⟩ := I.fr
  refine PySem.W.repr_K hr.in1.units0 hF I.ok.mod.kin J hs hf ?_
  have hl := F.len _ _ _ _ hsp
  refine wpAny_call (codeAny_mono (F.run X.A.in1 X.stack s H ⟨[.ref a], []⟩ [.ref a] [.ref a] _ E hr.in1 (env0_in1 I) (by
    have := hb s [.ref a] I.kIn (by simpa using hl)
    simpa using this) (.cons rfl .nil) hsp) fun r s' hq => ?_)
  cases r with
  | error e => exact hx pins σ H s e s' I hq
  | ok fl =>
    cases fl with
    | ret w =>
      obtain ⟨z, H', I', rz, kk, ez, q⟩ := I.after hq
      subst ez
      obtain ⟨t, rfl⟩ := rz
      exact ⟨.str kk, H', I', ⟨t, rfl⟩, q⟩
    | next => exact False.elim hq
    | brk => exact False.elim hq
    | cont => exact False.elim hq
def eReprO (c : Str) (f : MFn) (ma : ME) : ME := fun env S => (ma env S).bind fun d1 S1 => match insOf c S1 d1, f [d1] S1 with
  | some _, .ok (.val (.str k)) S3 => .ok (.str k) S3
  | _, _ => .stuck
variable {ta : TE} {ma : ME}
theorem s_reprO (c : Str) (h : KnM X.prog X.w X.K X.mg X.base Y k c "__repr__" 1 mfn [] []) (hr : Room (k + 1) X.A) (hm : X.mg "repr" = none) (ha : SE X Y W a ta ma) (hg : Gl X "repr" := by rfl) (he : starEach [a] X.env = (false, eval a X.env) :: starEach [] X.env := by rfl) (hpl : (backTo pos (starEach [] X.env)).any (·.1) = false := by rfl) :
    SE X Y W (.Call (.Name "repr" p) [a] [] pos) (tCB (rReprO (Y.ca c) (spOf Y 1 mfn) E0) (tCons ta tNil)) (eReprO c mfn ma) := by
  obtain ⟨f, fd, ps, ds, F, hC, hM, hb, hd, hdv⟩ := h
  cases hd
  exact ⟨pe_callB (call_reprO F hr hM.at_ hM.fn hb passN) hg hm (by decide +kernel : bootBuiltins "repr" = some (.builtin "repr")) (pa_cons ha.pe pa_nil he) (by decide) (by decide) he hpl, fun w0 H0 w H σ env S O Q st pp =>
  ha.sim w0 H0 w H σ env S O _ st ((PostX.bind pp).imp fun d1 S1 w1 H1 st1 l1 p1 v1 r1 => by
    split at p1
    · rename_i fs kk S3 h1 h3
      obtain ⟨q1, dx, fv, x1, x2, x3⟩ := insOf_rep st1.ok r1 h1
      subst x1
      refine ⟨q1, dx, fv, rfl, x2, rfl, w1, [d1], S1, st1.ok, RepL.cons_ r1 RepL.nil_, ?_⟩
      rw [h3]
      intro w' H' v f k rv
      have ev : v = .str kk := rep_str (g := Y) (w := w') rv
      exact ⟨kk, ev, p1 w' H' (st1.after f k) f.le _ rep_str'⟩
    · exact False.elim p1)⟩
def rLenO (C : Addr) (sp : Sp) (E : XK) : List V → Hp → VK → Prop := fun xs H Q => ∃ a dx fs, xs = [.ref a] ∧ H a = some (.ins C dx fs) ∧ sp [.ref a] H (fun v H' => ∃ i : Int, v = .int i ∧ (0 ≤ i ∧ i < 2 ^ 63) ∧ Q (.int i) H') E
theorem call_lenO {CX : CXT} {sp : Sp} {E : XK} (F : FnOk X.prog X.w X.K X.mg X.base CX n fa fd ps sp) (hr : Room (n + 1) X.A)
    (hs : PySem.W.findIn X.K (.ref C) "__len__" = some (some (.ref fa))) (hf : PySem.W.isFn X.K (.ref fa) = true) (hb : Binds X.K fd ps []) (hx : Passes CX X E) : CallR X (.builtin "len") (rLenO C sp E) := by
  intro pins s σ H xs us Q I r d
  obtain ⟨a, dx, fs, rfl, ha, hsp⟩ := d
  obtain ⟨u, rfl, ru⟩ := r.one
  cases ru
  obtain ⟨mA, J, _⟩ := ins_get I.hok ha
  obtain ⟨od, J, _⟩ := J.look
  obtain ⟨m, hF⟩ := I.fr
  refine PySem.W.len_K hF I.ok.mod.kin J hs hf ?_
  have hl := F.len _ _ _ _ hsp
  refine wpAny_call (codeAny_mono (F.run X.A.in1 X.stack s H ⟨[.ref a], []⟩ [.ref a] [.ref a] _ E hr.in1 (env0_in1 I) (by
    have := hb s [.ref a] I.kIn (by simpa using hl)
    simpa using this) (.cons rfl .nil) hsp) fun r s' hq => ?_)
  cases r with
  | error e => exact hx pins σ H s e s' I hq
  | ok fl =>
    cases fl with
    | ret w =>
      obtain ⟨z, H', I', rz, kk, ez, b, q⟩ := I.after hq
      subst ez
      obtain ⟨t, rfl⟩ := rz
      exact ⟨b, .int kk, H', I'.tok _, ⟨_, rfl⟩, q⟩
    | next => exact False.elim hq
    | brk => exact False.elim hq
    | cont => exact False.elim hq
def eLenOw (c : Str) (f : MFn) (ma : ME) : ME := fun env S => (ma env S).bind fun d1 S1 => match insOf c S1 d1, f [d1] S1 with
  | some _, .ok (.val (.int i)) S3 => if decide (0 ≤ i) && bBnd i 9223372036854775807 then .ok (.int i) S3 else .stuck
  | _, _ => .stuck
theorem s_lenOw (c : Str) (h : KnM X.prog X.w X.K X.mg X.base Y k c "__len__" 1 mfn [] []) (hr : Room (k + 1) X.A) (hm : X.mg "len" = none) (ha : SE X Y W a ta ma) (hg : Gl X "len" := by rfl) (he : starEach [a] X.env = (false, eval a X.env) :: starEach [] X.env := by rfl) (hpl : (backTo pos (starEach [] X.env)).any (·.1) = false := by rfl) :
    SE X Y W (.Call (.Name "len" p) [a] [] pos) (tCB (rLenO (Y.ca c) (spOf Y 1 mfn) E0) (tCons ta tNil)) (eLenOw c mfn ma) := by
  obtain ⟨f, fd, ps, ds, F, hC, hM, hb, hd, hdv⟩ := h
  cases hd
  exact ⟨pe_callB (call_lenO F hr hM.at_ hM.fn hb passN) hg hm (by decide +kernel : bootBuiltins "len" = some (.builtin "len")) (pa_cons ha.pe pa_nil he) (by decide) (by decide) he hpl, fun w0 H0 w H σ env S O Q st pp =>
  ha.sim w0 H0 w H σ env S O _ st ((PostX.bind pp).imp fun d1 S1 w1 H1 st1 l1 p1 v1 r1 => by
    split at p1
    · rename_i fs kk S3 h1 h3
      split at p1
      · rename_i hz
        rw [Bool.and_eq_true] at hz
        obtain ⟨z1, z2⟩ := hz
        obtain ⟨q1, dx, fv, x1, x2, x3⟩ := insOf_rep st1.ok r1 h1
        subst x1
        refine ⟨q1, dx, fv, rfl, x2, rfl, w1, [d1], S1, st1.ok, RepL.cons_ r1 RepL.nil_, ?_⟩
        rw [h3]
        intro w' H' v f k rv
        have ev : v = .int kk := rep_int (g := Y) (w := w') rv
        have zb := bBnd_iff.mp z2
        have z0 := of_decide_eq_true z1
        refine ⟨kk, ev, ⟨z0, ?_⟩, p1 w' H' (st1.after f k) f.le _ rep_int'⟩
        omega
      · exact False.elim p1
    · exact False.elim p1)⟩
end
end Mm
namespace Mm
open PySem PySem.Spec PyProof.Rows L2
/-! ### the classes of a body's refusals, by a Bool -/
def exCB (K : PySem.W.Frag) (C : Addr) : Bool :=
  He.eqO (PySem.W.findIn K (.ref C) "__getattribute__") (some (some (.builtin "BaseException.__getattribute__"))) && (He.eqO (PySem.W.findIn K (.ref C) "__getattr__") (some none) &&
  (decide (PySem.W.subIn K (.ref C) (.type "BaseException") = some true) && (PySem.W.hasDictIn K C &&
  (He.eqO (PySem.W.findIn K (.ref C) "__class__") (some (some (.builtin "object.__class__"))) && (He.eqO (PySem.W.specialIn K (.builtin "object.__class__") "__get__") (some (some (.builtin "getset_descriptor.__get__"))) &&
  (decide (PySem.W.takesIn K (.builtin "object.__class__") = some true) && decide (PySem.W.mroIn K C (.type "object") = some true)))))))
def triYB (K : PySem.W.Frag) (c : Str) : Bool := exCB K (He.ga K c) && (decide (PySem.W.exmAny K (.ref (He.ga K c)) [.ref (He.ga K "NoTable"), .ref (He.ga K "Moving"), .ref (He.ga K "NoStash")] = some false) &&
  (decide (PySem.W.exmOne K (.ref (He.ga K c)) (.ref (He.ga K "FoldError")) = some true) && wordLB.all fun p => decide (PySem.W.kitOne K (.ref (He.ga K c)) (.ref (He.ga K p.2)) = some (decide (p.2 = c)))))
def triFB (K : PySem.W.Frag) (c : Str) : Bool := exCB K (He.ga K c) && (decide (PySem.W.exmAny K (.ref (He.ga K c)) [.ref (He.ga K "NoTable"), .ref (He.ga K "Moving"), .ref (He.ga K "NoStash")] = some true) &&
  (He.eqO (PySem.W.findIn K (.ref (He.ga K c)) "name") (some none) && (decide (PySem.W.kitOne K (.ref (He.ga K c)) (.ref (He.ga K "Moving")) = some (decide (c = "Moving"))) && (decide (PySem.W.kitOne K (.ref (He.ga K c)) (.ref (He.ga K "NoStash")) = some (decide (c = "NoStash"))) && decide (fldOf c = "name")))))
/-! ### a <= b < c as a test -/
section
variable {X : Cx} {Y : Gam} {W : WX} {a b c : Expr} {ta tb tc : TE} {ma mb mc : ME} {pos : Pos}
end
/-! ### all by keywords, in any order -/
def pick {α : Type} (pi : List Nat) (l : List α) : List α := pi.filterMap fun i => l[i]?
def pickB (pi : List Nat) (n : Nat) : Bool := pi.length == n && pi.all fun i => decide (i < n)
theorem RepL.pick {g : Gam} {w : Wd} {ds : List D} {vs : List V} (r : RepL g w ds vs) : ∀ {pi : List Nat}, (∀ i ∈ pi, i < ds.length) → RepL g w (pick pi ds) (pick pi vs)
  | [], _ => RepL.nil_
  | i :: pi, h => by
    have e : ds[i]? = some (ds[i]'(h i List.mem_cons_self)) := List.getElem?_eq_getElem _
    obtain ⟨v, e2, rv⟩ := r.at_ e
    have ih := r.pick fun j hj => h j (List.mem_cons_of_mem _ hj)
    unfold Mm.pick
    rw [List.filterMap_cons, List.filterMap_cons, e, e2]
    exact RepL.cons_ rv ih
def KnCP (P : Program) (w : World) (K : PySem.W.Frag) (mg : Str → Option Value) (base : Heap) (Y : Gam) (k : Nat) (x : Str) (ks : List Str) (pi : List Nat) (mf : MFn) : Prop :=
  ∃ (f : Addr) (fd : FuncData) (ps : List Str), FnOk P w K mg base (L2N.CX P w) k f fd ps (spOf Y (ks.length + 1) mf) ∧ Mk K (Y.ca x) f ∧ mg x = some (.ref (Y.ca x)) ∧ KBn K fd ps 1 ks (fun us ws => us ++ pick pi ws) (fun vs zs => vs ++ pick pi zs)
def KnP (P : Program) (w : World) (K : PySem.W.Frag) (mg : Str → Option Value) (base : Heap) (Y : Gam) (k : Nat) (x : Str) (ks : List Str) (pi : List Nat) (mf : MFn) : Prop :=
  ∃ (f : Addr) (fd : FuncData) (ps : List Str), FnOk P w K mg base (L2N.CX P w) k f fd ps (spOf Y ks.length mf) ∧ mg x = some (.ref f) ∧ PySem.W.keepIn K (.ref f) = true ∧ KBn K fd ps 0 ks (fun us ws => us ++ pick pi ws) (fun vs zs => vs ++ pick pi zs)
def aPick (pi : List Nat) (mk : MA) : MA := fun env S => (mk env S).bind fun ds S1 => .ok (pick pi ds) S1
def tMakeP (C : Addr) (nk : Nat) (sp : Sp) (gV : List V → List V → List V) (E : XK) (tk : TA) : TE := fun σ H Q => tk σ H fun zs H1 => zs.length = nk ∧ ∀ x dx, H1 x = none → H1 dx = none → dx ≠ x → sp (gV [.ref x] zs) (upd (upd H1 dx (.own x)) x (.ins C dx [])) (fun v H2 => v = .non ∧ Q (.ref x) H2) E
section
variable {X : Cx} {Y : Gam} {W : WX} {CX : CXT} {k : Nat} {C f fa : Addr} {fd : FuncData} {ps ks : List Str} {sp : Sp} {E : L2.St → XK} {x : Str} {p pos : Pos} {kws : List Keyword} {tk : TA} {mk : MA} {g : List Value → List Value → List Value} {gV : List V → List V → List V} {pi : List Nat} {mf : MFn} {pop : Sto → R Ret → R D}
def eNewP0 (pop : Sto → R Ret → R D) (x : Str) (mf : MFn) (m : MA) : ME := eNewP pop x mf [] m
end
section
variable {P : Program} {w : World} {K : PySem.W.Frag} {mg : Str → Option Value} {base : Heap} {Y : Gam} {k m : Nat} {x qual : Str} {st : Stmt} {f : Addr} {fd : FuncData} {ps ks : List Str} {pi : List Nat} {mf : MFn} {dv : List V} {kws : List (Str × V)}
end
end Mm
namespace Mm
open PySem PySem.Spec PyProof.Rows L2
/-! ### lambda x: e -/
/-- one parameter x, no other name of its own -/
structure Lam1 (sc scope : Scope) (x : Str) : Prop where
  kind : scope.kind = .function
  co : scope.isCoroutine = false
  gen : scope.isGenerator = false
  loc : scope.names.lookup x = some .local
  only : ∀ y ∈ scope.names, y.2 = .local → y.1 = x
  ncell : ∀ y ∈ scope.names, y.2 ≠ .cell
  free : ∀ y ∈ scope.names, y.2 = .free → sc.names.lookup y.1 = some .cell ∨ sc.names.lookup y.1 = some .free
def lam1B (sc scope : Scope) (x : Str) : Bool :=
  (decide (scope.kind = .function) && !scope.isCoroutine && !scope.isGenerator) && (decide (scope.names.lookup x = some .local) && scope.names.all fun y => (!decide (y.2 = .local) || decide (y.1 = x)) && (!decide (y.2 = .cell) && (!decide (y.2 = .free) || (decide (sc.names.lookup y.1 = some .cell) || decide (sc.names.lookup y.1 = some .free)))))
theorem Lam1.has {X : Cx} {scope : Scope} {x : Str} (L : Lam1 X.env.scope scope x) (ok : X.Ok) : ∀ y ∈ scope.names, y.2 = .free → ∃ c, X.env.cells.lookup y.1 = some c := fun y hy e =>
  (L.free y hy e).elim (fun k => ok.has _ (.inl k)) fun k => ok.has _ (.inr k)
section
variable {X : Cx} {pins : List (Addr × Obj)} {σ : L2.St} {H HZ : Hp} {s s1 : Shared}
end
/-- what is called with a value: the lambda's body, at the maker's slots, x's among them -/
def tAct1 (Y : Gam) (f c' : Addr) (q : Str) (σ : L2.St) (p : Nat) (me : ME) (i j : Nat) : TE := fun σZ HZ Q => σZ[i]? = some (some (.ref f)) ∧ HZ c' = some (LamX.CodeO c' q) ∧
  ∃ v w0 H0 w env S O, σZ[j]? = some (some v) ∧ StR Y w0 H0 w HZ (σ.set p (some v)) env S O ∧ PostX Y (fun _ _ _ _ => False) w0 H0 w (σ.set p (some v)) env O (me env S) (fun d _ w' H' => ∀ v, Rep Y w' d v → Q v H')
section
variable {X : Cx} {pins : List (Addr × Obj)} {σ : L2.St} {H : Hp} {s : Shared} {Y : Gam}
end
end Mm
namespace Mm
open PySem PySem.Spec PyProof.Rows L2
/-! ### `_law_step_with(m, due, lambda x: ..)`: m and due as they are, or a copy of m, changed, and what that told -/
abbrev Nst : List Str := ["_law_m", "_law_due", "_law_after", "_law_later"]
def stepBody (p0 p1 p2 p3 p4 p5 p6 p7 p8 p9 p10 p11 p12 p13 p14 p15 p16 p17 p18 p19 p20 : Pos) (j0 j1 j2 j3 j4 : Nat) : List Stmt :=
  [.If (.Compare (.Name "_law_due" p0) [.IsNot] [.Constant .none j0 p1] p2) [.Return (some (.Tuple [.Name "_law_m" p3, .Name "_law_due" p4] j1 p5)) p6] [] p7,
   .Assign [.Name "_law_later" p8] (.Call (.Name "_law_copy" p9) [.Name "_law_m" p10] [] p11) p12,
   .Return (some (.Tuple [.Name "_law_later" p13, .Tuple [.Constant (.str "told") j2 p14, .Call (.Name "_law_after" p15) [.Name "_law_later" p16] [] p17] j3 p18] j4 p19)) p20]
structure StepB (P : Program) (w : World) (K : PySem.W.Frag) (mg : Str → Option Value) (base : Heap) (Y : Gam) (kc : Nat) (mc : MFn) : Prop where
  ex : ∃ (g : Addr) (fdg : FuncData) (sg : Stmt),
    FnP K "_law_step_with" "_law_step_with" sg [] g fdg ∧ FnScope Nst ["_law_m", "_law_due", "_law_after"] (defScope sg) ∧ Binds K fdg ["_law_m", "_law_due", "_law_after"] [] ∧ mg "_law_step_with" = some (.ref g) ∧
    (∃ p0 p1 p2 p3 p4 p5 p6 p7 p8 p9 p10 p11 p12 p13 p14 p15 p16 p17 p18 p19 p20 j0 j1 j2 j3 j4, defBody sg = stepBody p0 p1 p2 p3 p4 p5 p6 p7 p8 p9 p10 p11 p12 p13 p14 p15 p16 p17 p18 p19 p20 j0 j1 j2 j3 j4) ∧
    (defScope sg).names.lookup ("_law_copy" : Str) = some .globalImplicit ∧ (defScope sg).names.lookup ("_law_m" : Str) = some .local ∧ (defScope sg).names.lookup ("_law_due" : Str) = some .local ∧ (defScope sg).names.lookup ("_law_after" : Str) = some .local ∧ (defScope sg).names.lookup ("_law_later" : Str) = some .local
  copy : Kn P w K mg base Y kc "_law_copy" 1 mc [] []
def stepHd (mc : MFn) : MS := sSeq (sIf (cB (eOp fIsNot (eV 1) (eC .non))) (sRet (eTup (aCons (eV 0) (aCons (eV 1) aNil)))) sNil) (sCell 3 (fCall mc [] (aCons (eV 0) aNil)))
def eStep (mc : MFn) (p : Nat) (m1 m2 me : ME) : ME := fun env S => (m1 env S).bind fun d1 S1 => (m2 env S1).bind fun d2 S2 => match d2 with
  | .non => (match mc [d1] S2 with
    | .ok (.own c) S3 => (match me ((wipeE env []).set p (.v (.ref S3.length))) (S3 ++ [c]) with
      | .ok d S4 => .ok (.tup [.ref S3.length, .tup [.str "told", d]]) S4
      | _ => .stuck)
    | _ => .stuck)
  | .tup ds => .ok (.tup [d1, .tup ds]) S2
  | _ => .stuck
section
variable {X : Cx} {Y : Gam} {W : WX} {k kc p : Nat} {mc : MFn} {e1 e2 : Expr} {t1 t2 : TE} {m1 m2 me : ME} {x : Str} {params : Arguments} {body : Expr} {scope : Scope} {p0 lpos pos : Pos}
end
end Mm
namespace Mm
open PySem L2
/-! rows for the body laws with refusals -/
@[simp] theorem eFmt_eq (m : ME) (env : Envr) (S : Sto) : eFmt m env S = (m env S).bind fun d S1 => match d with
  | .str y => if szB y.length then .ok (.str y) S1 else .stuck
  | .int i => if decide (i.natAbs.log2 < 1920) then .ok (.str (toString i)) S1 else .stuck
  | _ => .stuck := rfl
@[simp] theorem eFs_nil (acc : Str) (env : Envr) (S : Sto) : eFs [] acc env S = .ok (.str acc) S := rfl
@[simp] theorem eFs_cons (m : ME) (ms : List ME) (acc : Str) (env : Envr) (S : Sto) : eFs (m :: ms) acc env S = (m env S).bind fun d S1 => match d with
  | .str y => if szB (acc ++ y).length then eFs ms (acc ++ y) env S1 else .stuck
  | _ => .stuck := rfl
@[simp] theorem fSortedD_eq (S : Sto) (d : D) : fSortedD S [d] = (dicOf S d).bind fun ks => (txtsK ks).bind fun xs => if xs.length < 64 then some (.lst ((srtX xs).map D.str)) else none := rfl
@[simp] theorem fDictOf_eq (S : Sto) (d : D) : fDictOf S [d] = (dicOf S d).map Cell.dic := rfl
@[simp] theorem fAbs_eq (S : Sto) (i : Int) : fAbs S [.int i] = some (.int (if i < 0 then -i else i)) := rfl
@[simp] theorem eReprO_eq (c : Str) (f : MFn) (ma : ME) (env : Envr) (S : Sto) : eReprO c f ma env S = (ma env S).bind fun d1 S1 => match insOf c S1 d1, f [d1] S1 with
  | some _, .ok (.val (.str k)) S3 => .ok (.str k) S3
  | _, _ => .stuck := rfl
@[simp] theorem eLenOw_eq (c : Str) (f : MFn) (ma : ME) (env : Envr) (S : Sto) : eLenOw c f ma env S = (ma env S).bind fun d1 S1 => match insOf c S1 d1, f [d1] S1 with
  | some _, .ok (.val (.int i)) S3 => if decide (0 ≤ i) && bBnd i 9223372036854775807 then .ok (.int i) S3 else .stuck
  | _, _ => .stuck := rfl
@[simp] theorem aPick_eq (pi : List Nat) (mk : MA) (env : Envr) (S : Sto) : aPick pi mk env S = (mk env S).bind fun ds S1 => .ok (pick pi ds) S1 := rfl
@[simp] theorem pickNil {α : Type} (l : List α) : pick [] l = [] := rfl
@[simp] theorem pickCons {α : Type} (i : Nat) (pi : List Nat) (l : List α) : pick (i :: pi) l = (match l[i]? with
  | some a => a :: pick pi l
  | none => pick pi l) := by
  unfold pick
  rw [List.filterMap_cons]
  cases l[i]? <;> rfl
@[simp] theorem eWhyB_eq (cs fs : List Str) (me : ME) (env : Envr) (S : Sto) : eWhyB cs fs me env S = whyBW cs fs (me (wipeE env []) S) := rfl
@[simp] theorem whyBW_ok (cs fs : List Str) (d : D) (S : Sto) : whyBW cs fs (.ok d S) = .ok (.tup [.str "told", d]) S := rfl
@[simp] theorem whyBW_exc (cs fs : List Str) (c : Str) (S : Sto) : whyBW cs fs (.exc c none S) = if c ∈ cs then .ok (.tup (wordsB c)) S else .stuck := rfl
@[simp] theorem whyBW_fld (cs fs : List Str) (c : Str) (d : D) (S : Sto) : whyBW cs fs (.exc c (some d) S) = if c ∈ fs then .ok (.tup [.str (fldW c), d]) S else .stuck := rfl
end Mm
namespace Fb
open PySem L2 Mm
noncomputable def m_BodyU_lenU : MFn := mFn 1 (sRet (eCB fLenD (aCons (eFld "Body" "tables" (eV 0)) aNil)))
noncomputable def m_Body_stored : MFn := mFn 1 (sRetF (fCB fSortedD (aCons (eFld "Body" "store" (eV 0)) aNil)))
noncomputable def m_Body_names : MFn := mFn 1 (sRetF (fCB fSortedD (aCons (eFld "Body" "tables" (eV 0)) aNil)))
noncomputable def m_Body_sizes : MFn := mFn 1 (sRet (eFld "Body" "wide" (eV 0)))
noncomputable def m_BodyU_reprU : MFn := mFn 1 (sRet (eFs [(eC (.str "Body(")), (eFmt (eOp iShl (eC (.int 1)) (eOp dAdd (eOp fIx (eFld "Body" "wide" (eV 0)) (eC (.int 0))) (eOp fIx (eFld "Body" "wide" (eV 0)) (eC (.int 1)))))), (eC (.str " berths, ")), (eFmt (eCB fLenD (aCons (eFld "Body" "tables" (eV 0)) aNil))), (eC (.str " tables)"))] Str.empty))
end Fb
namespace Fb
open PySem L2 Mm Gf
/-! told things are the same as themselves -/
def plainN : Nat → D → Bool
  | 0, _ => false
  | _ + 1, .int _ => true
  | _ + 1, .bl _ => true
  | _ + 1, .non => true
  | _ + 1, .str s => PyData.strOk s
  | n + 1, .lst ds => decide (ds.length ≤ 1000) && ds.all (plainN n)
  | n + 1, .tup ds => decide (ds.length ≤ 1000) && ds.all (plainN n)
  | _, _ => false
theorem zip_self {α : Type} : ∀ {xs : List α} {p : α × α}, p ∈ xs.zip xs → p.1 = p.2 ∧ p.1 ∈ xs
  | [], p, h => by simp at h
  | x :: xs, p, h => by
    rw [List.zip_cons_cons, List.mem_cons] at h
    rcases h with rfl | h
    · exact ⟨rfl, List.mem_cons_self⟩
    · obtain ⟨a, b⟩ := zip_self h
      exact ⟨a, List.mem_cons_of_mem _ b⟩
theorem same_str (n : Nat) (S : Sto) {x : Str} (h : PyData.strOk x = true) : m__law_same (n + 1) [.str x, .str x] S = .ok (.val (.bl true)) S := by
  have e := fEq_str S h h
  simp [m__law_same, szB, e]
theorem same_non (n : Nat) (S : Sto) : m__law_same (n + 1) [.non, .non] S = .ok (.val (.bl true)) S := by
  have e : fEq S .non .non = some (.bl true) := rfl
  simp [m__law_same, szB, e]
theorem same_tupT (n : Nat) (S : Sto) (xs ys : List D) (hl : xs.length = ys.length) (hz : xs.length ≤ 100000) (h : ∀ p ∈ xs.zip ys, m__law_same n [p.1, p.2] S = .ok (.val (.bl true)) S) : m__law_same (n + 1) [.tup xs, .tup ys] S = .ok (.val (.bl true)) S := by
  have lc := same_each n S xs ys (.tup xs) (.tup ys) h
  have sz := szB_of (n := min xs.length ys.length) (by omega)
  have two := szB_of (n := 2) (by decide)
  have fa : fAll S [.lst ((xs.zip ys).map fun _ => D.bl true)] = some (.bl true) := by
    have := fAll_eq S ((xs.zip ys).map fun _ => true)
    rw [List.map_map] at this
    have this : fAll S [.lst ((xs.zip ys).map fun _ => D.bl true)] = _ := this
    rw [this]
    simp
  have e : (itZA (aCons (eV 0) (aCons (eV 1) aNil))) [.v (.tup xs), .v (.tup ys), .no, .no] S = .ok (zipD xs ys) S := rfl
  have body : (fLc (itZA (aCons (eV 0) (aCons (eV 1) aNil))) (gT (gNC (gN 2) (gNC (gN 3) gN0))) cYes (eCall (m__law_same n) [] (aCons (eV 2) (aCons (eV 3) aNil))) [2, 3]) [.v (.tup xs), .v (.tup ys), .no, .no] S = .ok (.lst ((xs.zip ys).map fun _ => D.bl true)) S := by
    rw [fLc_eq, e, bind_ok']
    erw [lc]
    rw [bind_ok', fin_eq, if_pos (by simpa using sz)]
  unfold m__law_same
  simp [-fLc_eq, two, hl, body, fa]
theorem same_refl (S : Sto) : ∀ (n : Nat) (d : D), plainN n d = true → m__law_same n [d, d] S = .ok (.val (.bl true)) S
  | 0, d, h => by cases d <;> cases h
  | n + 1, .int i, _ => by rw [same_int, decide_eq_true rfl]
  | n + 1, .bl i, _ => by rw [same_bl, decide_eq_true rfl]
  | n + 1, .non, _ => same_non n S
  | n + 1, .str s, h => same_str n S h
  | n + 1, .lst ds, h => by
    unfold plainN at h
    rw [Bool.and_eq_true, List.all_eq_true] at h
    refine same_listsT n S ds ds rfl (Nat.le_trans (of_decide_eq_true h.1) (by decide)) (fun p hp => ?_)
    obtain ⟨e, m⟩ := zip_self hp
    rw [← e]
    exact same_refl S n p.1 (h.2 _ m)
  | n + 1, .tup ds, h => by
    unfold plainN at h
    rw [Bool.and_eq_true, List.all_eq_true] at h
    refine same_tupT n S ds ds rfl (Nat.le_trans (of_decide_eq_true h.1) (by decide)) (fun p hp => ?_)
    obtain ⟨e, m⟩ := zip_self hp
    rw [← e]
    exact same_refl S n p.1 (h.2 _ m)
  | n + 1, .ins _ _, h => by unfold plainN at h; cases h
  | n + 1, .dic _, h => by unfold plainN at h; cases h
  | n + 1, .tdc _, h => by unfold plainN at h; cases h
  | n + 1, .ref _, h => by unfold plainN at h; cases h
  | n + 1, .scr _, h => by unfold plainN at h; cases h
  | n + 1, .ty _, h => by unfold plainN at h; cases h
  | n + 1, .cls _, h => by unfold plainN at h; cases h
  | n + 1, .adr _, h => by unfold plainN at h; cases h
  | n + 1, .set _, h => by unfold plainN at h; cases h
end Fb
namespace Mm
open PySem L2
/-! rows for told records and their tables -/
@[simp] theorem fDispN_eq (ks : List (Str × ME)) (env : Envr) (S : Sto) : fDispN ks env S = if nodB (ks.map (·.1)) then (dispR ks (wipeE env []) S).bind fun ds S1 => .ok (.dic ds) S1 else .stuck := rfl
@[simp] theorem dispR_nil (env : Envr) (S : Sto) : dispR [] env S = .ok [] S := rfl
@[simp] theorem dispR_cons (k : Str) (m : ME) (r : List (Str × ME)) (env : Envr) (S : Sto) : dispR ((k, m) :: r) env S = (m env S).bind fun d S1 => (dispR r env S1).bind fun ds S2 => .ok ((.inr k, d) :: ds) S2 := rfl
@[simp] theorem eStep_eq (mc : MFn) (p : Nat) (m1 m2 me : ME) (env : Envr) (S : Sto) : eStep mc p m1 m2 me env S = (m1 env S).bind fun d1 S1 => (m2 env S1).bind fun d2 S2 => match d2 with
  | .non => (match mc [d1] S2 with
    | .ok (.own c) S3 => (match me ((wipeE env []).set p (.v (.ref S3.length))) (S3 ++ [c]) with
      | .ok d S4 => .ok (.tup [.ref S3.length, .tup [.str "told", d]]) S4
      | _ => .stuck)
    | _ => .stuck)
  | .tup ds => .ok (.tup [d1, .tup ds]) S2
  | _ => .stuck := rfl
@[simp] theorem sForD_eq (md : ME) (g : MG) (b : MS) (env : Envr) (S : Sto) : sForD md g b env S = (match md env S with
  | .ok (.ref n) _ => (match S[n]? with
    | some (.dic ks) => unlk n ((md (wipeE env []) (S.set n (.lck ks))).out (wipeE env []) fun d S1 => match d with
      | .ref m => if m = n then forL g b (keysV ks) (wipeE env []) S1 else .stuck
      | _ => .stuck)
    | _ => .stuck)
  | _ => .stuck) := rfl
end Mm
namespace Fb
open PySem L2 Mm
noncomputable def m__law_model : MFn := mFn 1 (sRetF (fDispN [("wide", (eV 0)), ("tables", (eCellOf fDic0)), ("store", (eCellOf fDic0)), ("paid", (eTup (aCons (eC (.int 0)) (aCons (eC (.int 0)) aNil))))]))
noncomputable def m__law_new_name : MFn := mFn 1 (sRet (eCall m__law_of [] (aCons (eV 0) (aCons (mFrz (fLst (aCons (eC (.str "a")) (aCons (eC (.str "box")) (aCons (eC (.str "c")) (aCons (eC (.str "ab")) (aCons (eC (.str "azzzzz")) (aCons (eC (.str "zzzzzz")) (aCons (eC (.str "zzzzzy")) (aCons (eC (.str "lane")) aNil)))))))))) aNil))))
noncomputable def m__law_lay : MFn := mFn 3 (sSeq (sAsg (eCB fMin2 (aCons (eV 1) (aCons (eCall m__law_of [] (aCons (eV 0) (aCons (mFrz (fLst (aCons (eV 1) (aCons (eV 1) (aCons (eC (.int 2)) (aCons (eC (.int 3)) (aCons (eC (.int 1)) (aCons (eC (.int 0)) (aCons (eC (.int 4)) aNil))))))))) aNil))) aNil))) (gN 2))
    (sRet (eTup (aCons (eC (.str "lay")) (aCons (eCall m__law_new_name [] (aCons (eV 0) aNil)) (aCons (eCall m__law_lines [] (aCons (eV 0) (aCons (eV 1) (aCons (eV 2) aNil)))) (aCons (eCall m__law_cells [] (aCons (eV 0) (aCons (eV 2) aNil))) aNil)))))))
noncomputable def m__law_deep : MFn := mFn 1 (sRet (eOp dAdd (eOp fIx (eDGetA 0 (eC (.str "wide"))) (eC (.int 0))) (eOp fIx (eDGetA 0 (eC (.str "wide"))) (eC (.int 1)))))
noncomputable def m__law_begun : MFn := mFn 9 (sSeq (sCell 2 (fCall m__law_model [] (aCons (eCall m__law_wide [] (aCons (eV 0) aNil)) aNil)))
    (sSeq (sAsg (eNewC "Body" m_BodyU_initU [] (aCat (aCons (eOp fIx (eDGetA 2 (eC (.str "wide"))) (eC (.int 0))) (aCons (eOp fIx (eDGetA 2 (eC (.str "wide"))) (eC (.int 1))) aNil)) (aCons (eOp fIx (eDGetA 2 (eC (.str "wide"))) (eC (.int 2))) aNil))) (gN 3))
    (sSeq (sFor (itR1 (aCons (eV 1) aNil)) (gN 4) (sSeq (sAsg (eCall m__law_lay [] (aCons (eV 0) (aCons (eCall m__law_deep [] (aCons (eV 2) aNil)) aNil))) (gT (gNC (gN 5) (gNC (gN 6) (gNC (gN 7) (gNC (gN 8) gN0))))))
    (sIf (cB (eDIn true (eV 6) (eDGetA 2 (eC (.str "tables"))))) (sSeq (sExpr (eMeth "Body" "lay" m_Body_lay [] (eV 3) (aCons (eV 6) (aCons (eV 7) (aCons (eV 8) aNil)))))
    (sDPut (eDGetA 2 (eC (.str "tables"))) (eV 6) (eTup (aCons (eV 7) (aCons (mFrz (fCB fListOf (aCons (eV 8) aNil))) (aCons (eC .non) aNil)))))) sNil)))
    (sRet (eTup (aCons (eV 2) (aCons (eV 3) aNil)))))))
noncomputable def m__law_pick : MFn := mFn 2 (sSeq (sIf (cAnd (cB (eOp fNe (eV 1) (mFrz (fLst aNil)))) (cB (eOp iGt (eCall m__law_take [] (aCons (eV 0) (aCons (eC (.int 8)) aNil))) (eC (.int 0))))) (sRet (eCall m__law_of [] (aCons (eV 0) (aCons (eV 1) aNil)))) sNil)
    (sRet (eCall m__law_of [] (aCons (eV 0) (aCons (mFrz (fLst (aCons (eC (.str "a")) (aCons (eC (.str "b")) (aCons (eC (.str "ab")) (aCons (eC (.str "zzzzzz")) (aCons (eC (.str "q")) (aCons (eC (.str "c")) (aCons (eC (.str "")) (aCons (eC (.str "A")) (aCons (eC (.str "abcdefg")) (aCons (eC (.str "a1")) aNil)))))))))))) aNil)))))
noncomputable def m__law_some_name : MFn := mFn 3 (sRet (eCall m__law_pick [] (aCons (eV 0) (aCons (mFrz (fCB fSortedD (aCons (eDGetA 1 (eV 2)) aNil))) aNil))))
noncomputable def m__law_many : MFn := mFn 2 (sSeq (sAsg (eC (.int 0)) (gN 1))
    (sSeq (whL (cB (eOp iLt (eOp iShl (eC (.int 1)) (eV 1)) (eV 0))) (sAug 1 (fun i j => i + j) (eC (.int 1))) 100)
    (sRet (eV 1))))
noncomputable def m__law_digits_of : MFn := mFn 2 (sRet (eIf (cB (eDIn false (eV 1) (eDGetA 0 (eC (.str "tables"))))) (eCall m__law_many [] (aCons (eCB fLen (aCons (eOp fIx (eDGet (eDGetA 0 (eC (.str "tables"))) (eV 1)) (eC (.int 1))) aNil)) aNil)) (eC (.int 1))))
noncomputable def m__law_places : MFn := mFn 4 (sSeq (sAsg (mFrz (fLc (itR1 (aCons (eV 1) aNil)) (gN 3) (cB (eOp fEq (eCall m__law_take [] (aCons (eV 0) (aCons (eC (.int 2)) aNil))) (eC (.int 0)))) (eV 3) [3])) (gN 2))
    (sRet (eCB fTupOf (aCons (eCall m__law_shuffled [] (aCons (eV 0) (aCons (eIf (cB (eOp fNe (eV 2) (mFrz (fLst aNil)))) (eV 2) (mFrz (fLst (aCons (eC (.int 0)) aNil)))) aNil))) aNil))))
noncomputable def m__law_still_word : MFn := mFn 2 (sSeq (sIf (cB (eDIn true (eV 1) (eDGetA 0 (eC (.str "tables"))))) (sRet (eTup (aCons (eC (.str "notable")) (aCons (eV 1) aNil)))) sNil)
    (sRet (eIf (cB (eOp fIs (eOp fIx (eDGet (eDGetA 0 (eC (.str "tables"))) (eV 1)) (eC (.int 2))) (eC .non))) (eC .non) (eTup (aCons (eC (.str "moving")) (aCons (eV 1) aNil))))))
noncomputable def m__law_good_lines : MFn := mFn 4 (sSeq (sIf (cOr (cB (eOp fNe (eCB fLen (aCons (eV 1) aNil)) (eCall m__law_deep [] (aCons (eV 0) aNil)))) (cB (eCB fAny (aCons (mFrz (fLc (itL (eV 1)) (gN 3) cYes (eOr (eOp iLt (eV 3) (eC (.int 0))) (eOp iGe (eV 3) (eOp iShl (eC (.int 1)) (eV 2)))) [3])) aNil)))) (sRet (eC (.bl false))) sNil)
    (sRet (eOp fEq (eCB fLen (aCons (eCall m__law_span [] (aCons (eV 1) aNil)) aNil)) (eOp iShl (eC (.int 1)) (eV 2)))))
noncomputable def m__law_numbers_word : MFn := mFn 9 (sSeq (sAsg (eCall m__law_still_word [] (aCons (eV 0) (aCons (eV 2) aNil))) (gN 4))
    (sSeq (sIf (cB (eOp fIsNot (eV 4) (eC .non))) (sRet (eV 4)) sNil)
    (sSeq (sAsg (eCall m__law_many [] (aCons (eCB fLen (aCons (eOp fIx (eDGet (eDGetA 0 (eC (.str "tables"))) (eV 2)) (eC (.int 1))) aNil)) aNil)) (gN 5))
    (sSeq (sIf (cB (eOp (fInX false) (eV 1) (eTup (aCons (eC (.str "lead")) (aCons (eC (.str "begin")) aNil))))) (sRet (eIf (cB (eCall m__law_good_lines [] (aCons (eV 0) (aCons (eV 3) (aCons (eV 5) aNil))))) (eC .non) (eTup (aCons (eC (.str "badrows")) aNil)))) sNil)
    (sSeq (sAsg (eOp iShl (eC (.int 1)) (eV 5)) (gN 6))
    (sSeq (sIf (cB (eOp fEq (eV 1) (eC (.str "total")))) (sAsg (eV 5) (gN 6)) sNil)
    (sSeq (sIf (cB (eOp fEq (eV 1) (eC (.str "stash")))) (sAsg (eOp iShl (eC (.int 1)) (eOp fIx (eDGetA 0 (eC (.str "wide"))) (eC (.int 2)))) (gN 6)) sNil)
    (sSeq (sAsg (eCB fAny (aCons (mFrz (fLc (itL (eV 3)) (gN 8) cYes (eOr (eOp iLt (eV 8) (eC (.int 0))) (eOp iGe (eV 8) (eV 6))) [8])) aNil)) (gN 7))
    (sSeq (sIf (cB (eOp fEq (eV 1) (eC (.str "total")))) (sSeq (sAsg (eOr (eV 7) (eOr (eOp fEq (eCB fLen (aCons (eV 3) aNil)) (eC (.int 0))) (eOp iLt (eLenSetA (eV 3)) (eCB fLen (aCons (eV 3) aNil))))) (gN 7))
    (sRet (eIf (cB (eV 7)) (eTup (aCons (eC (.str "baddigits")) aNil)) (eC .non)))) sNil)
    (sSeq (sAsg (eOr (eV 7) (eOp fNe (eCB fLen (aCons (eV 3) aNil)) (eV 5))) (gN 7))
    (sSeq (sIf (cB (eOp fEq (eV 1) (eC (.str "turn")))) (sRet (eIf (cOr (cB (eV 7)) (cB (eOp fNe (eCB fLen (aCons (eCall m__law_span [] (aCons (eV 3) aNil)) aNil)) (eOp iShl (eC (.int 1)) (eV 5))))) (eTup (aCons (eC (.str "badturn")) aNil)) (eC .non))) sNil)
    (sSeq (sIf (cB (eV 7)) (sRet (eTup (aCons (eC (.str "badbanks")) aNil))) sNil)
    (sRet (eIf (cAnd (cB (eDIn true (eV 2) (eDGetA 0 (eC (.str "store"))))) (cB (eOp iGt (eCB fLenD (aCons (eDGetA 0 (eC (.str "store"))) aNil)) (eC (.int 3))))) (eTup (aCons (eC (.str "full")) aNil)) (eC .non)))))))))))))))
noncomputable def m__law_copy : MFn := mFn 2 (sSeq (sOwn 1 (fCB fDictOf (aCons (eV 0) aNil)))
    (sSeq (sDPutA 1 (eC (.str "tables")) (eCellOf (fCB fDictOf (aCons (eDGetA 0 (eC (.str "tables"))) aNil))))
    (sSeq (sDPutA 1 (eC (.str "store")) (eCellOf (fCB fDictOf (aCons (eDGetA 0 (eC (.str "store"))) aNil))))
    (sRetO 1))))
noncomputable def m__law_put : MFn := mFn 3 (sDPut (eDGetA 0 (eC (.str "tables"))) (eV 1) (eV 2))
noncomputable def m__law_squeezed : MFn := mFn 6 (sSeq (sAsg (eC (.int 0)) (gN 3))
    (sSeq (sAsg (eC (.int 0)) (gN 4))
    (sSeq (sFor (itR1 (aCons (eV 1) aNil)) (gN 5) (sIf (cB (eOp (fIn true) (eV 5) (eV 2))) (sSeq (sAsg (eOp iOr (eV 3) (eOp iShl (eOp iAnd (eOp iShr (eV 0) (eV 5)) (eC (.int 1))) (eV 4))) (gN 3))
    (sAug 4 (fun i j => i + j) (eC (.int 1)))) sNil))
    (sRet (eV 3)))))
noncomputable def m__law_totalled : MFn := mFn 7 (sSeq (sAsg (eCall m__law_many [] (aCons (eCB fLen (aCons (eOp fIx (eV 0) (eC (.int 1))) aNil)) aNil)) (gN 2))
    (sSeq (sOwn 3 (fOp fRep (mFrz (fLst (aCons (eC (.int 0)) aNil))) (eOp iShl (eC (.int 1)) (eOp iSub (eV 2) (eCB fLen (aCons (eV 1) aNil))))))
    (sSeq (sFor (itES (aCons (eOp fIx (eV 0) (eC (.int 1))) aNil)) (gT (gNC (gN 4) (gNC (gN 5) gN0))) (sAugO 3 (eCall m__law_squeezed [] (aCons (eV 4) (aCons (eV 2) (aCons (eV 1) aNil)))) (fun i j => i + j) (eV 5)))
    (sFrz 3 (sRet (eTup (aCons (eCB fTupOf (aCons (mFrz (fLc (itL (eOp fIx (eV 0) (eC (.int 0)))) (gN 6) cYes (eCall m__law_squeezed [] (aCons (eV 6) (aCons (eV 2) (aCons (eV 1) aNil)))) [6])) aNil)) (aCons (eV 3) (aCons (eC .non) aNil)))))))))
noncomputable def m_Move_told : MFn := mFn 1 (sRet (eTup (aCons (eMeth "Fold" "rows" m_Fold_rows [] (eFld "Move" "aim" (eV 0)) aNil) (aCons (eFld "Move" "done" (eV 0)) (aCons (eFld "Move" "left" (eV 0)) aNil)))))
noncomputable def m_Body_moving : MFn := mFn 3 (sSeq (sAsg (eFld "Table" "move" (eMeth "Body" "need" m_Body_need [] (eV 0) (aCons (eV 1) aNil))) (gN 2))
    (sRet (eIf (cB (eOp fIs (eV 2) (eC .non))) (eC .non) (eMeth "Move" "told" m_Move_told [] (eV 2) aNil))))
noncomputable def m__law_shelves : MFn := mFn 10 (sSeq (sAsg (eDGet (eDGetA 0 (eC (.str "store"))) (eV 1)) (gT (gNC (gN 2) (gNC (gN 3) gN0))))
    (sSeq (sAsg (mFrz (fLc (itR1 (aCons (eCB fLen (aCons (eV 3) aNil)) aNil)) (gN 7) cYes (eCall m__law_to [] (aCons (eV 2) (aCons (eV 7) aNil))) [7])) (gN 4))
    (sSeq (sOwn 5 (fLst aNil))
    (sSeq (sFor (itR1 (aCons (eOp iShl (eC (.int 1)) (eOp fIx (eDGetA 0 (eC (.str "wide"))) (eC (.int 2)))) aNil)) (gN 6) (sApp 5 (mFrz (fLc (itZA (aCons (eV 3) (aCons (eV 4) aNil))) (gT (gNC (gN 8) (gNC (gN 9) gN0))) (cB (eOp fEq (eV 9) (eV 6))) (eV 8) [8, 9]))))
    (sRetO 5)))))
noncomputable def m_Body_need_stash : MFn := mFn 2 (sSeq (sIf (cB (eDIn true (eV 1) (eFld "Body" "store" (eV 0)))) (sRaiseF "NoStash" (eV 1)) sNil)
    (sRet (eDGet (eFld "Body" "store" (eV 0)) (eV 1))))
noncomputable def m_Body_folding : MFn := mFn 2 (sRet (eOp fIx (eMeth "Body" "need_stash" m_Body_need_stash [] (eV 0) (aCons (eV 1) aNil)) (eC (.int 0))))
noncomputable def m_Body_shelf : MFn := mFn 7 (sSeq (sAsg (eMeth "Body" "need_stash" m_Body_need_stash [] (eV 0) (aCons (eV 1) aNil)) (gT (gNC (gN 3) (gNC (gN 4) gN0))))
    (sSeq (sIf (cOr (cB (eOp iLt (eV 2) (eC (.int 0)))) (cB (eOp iGt (eOp iShr (eV 2) (eOp fIx (eFld "Body" "wide" (eV 0)) (eC (.int 2)))) (eC (.int 0))))) (sRaise "NoBank") sNil)
    (sRetF (fLc (itES (aCons (eV 4) aNil)) (gT (gNC (gN 5) (gNC (gN 6) gN0))) (cB (eOp fEq (eCall m_picked [] (aCons (eV 3) (aCons (eV 5) aNil))) (eV 2))) (eV 6) [5, 6]))))
noncomputable def m__law_stands : MFn := mFn 11 (sSeq (sAsg (mFrz (fCB fSortedD (aCons (eDGetA 1 (eC (.str "tables"))) aNil))) (gN 2))
    (sSeq (sAsg (mFrz (fLst (aCons (eMeth "Body" "names" m_Body_names [] (eV 0) aNil) (aCons (eMeth "Body" "stored" m_Body_stored [] (eV 0) aNil) (aCons (eMeth "Body" "paid" m_Body_paid [] (eV 0) aNil) (aCons (eLenOw "Body" m_BodyU_lenU (eV 0)) aNil)))))) (gN 3))
    (sSeq (sIf (cNot (cB (eCall (m__law_same 4) [] (aCons (eV 3) (aCons (mFrz (fLst (aCons (eV 2) (aCons (mFrz (fCB fSortedD (aCons (eDGetA 1 (eC (.str "store"))) aNil))) (aCons (eDGetA 1 (eC (.str "paid"))) (aCons (eCB fLen (aCons (eV 2) aNil)) aNil)))))) aNil))))) (sRet (eC (.bl false))) sNil)
    (sSeq (sAsg (eOp iShl (eC (.int 1)) (eCall m__law_deep [] (aCons (eV 1) aNil))) (gN 4))
    (sSeq (sIf (cB (eOp fNe (eReprO "Body" m_BodyU_reprU (eV 0)) (eOp fAddS (eOp fAddS (eOp fAddS (eOp fAddS (eC (.str "Body(")) (eCB fStrI (aCons (eV 4) aNil))) (eC (.str " berths, "))) (eCB fStrI (aCons (eCB fLen (aCons (eV 2) aNil)) aNil))) (eC (.str " tables)"))))) (sRet (eC (.bl false))) sNil)
    (sSeq (sFor (itL (eV 2)) (gN 5) (sSeq (sAsg (eDGet (eDGetA 1 (eC (.str "tables"))) (eV 5)) (gT (gNC (gN 6) (gNC (gN 7) (gNC (gN 8) gN0)))))
    (sSeq (sAsg (mFrz (fLst (aCons (eMeth "Body" "rows" m_Body_rows [] (eV 0) (aCons (eV 5) aNil)) (aCons (eMeth "Body" "cells" m_Body_cells [] (eV 0) (aCons (eV 5) aNil)) (aCons (eMeth "Body" "moving" m_Body_moving [] (eV 0) (aCons (eV 5) aNil)) aNil))))) (gN 3))
    (sIf (cNot (cB (eCall (m__law_same 4) [] (aCons (eV 3) (aCons (mFrz (fLst (aCons (eV 6) (aCons (mFrz (fCB fListOf (aCons (eV 7) aNil))) (aCons (eV 8) aNil))))) aNil))))) (sRet (eC (.bl false))) sNil))))
    (sSeq (sForD (eDGetA 1 (eC (.str "store"))) (gN 5) (sSeq (sAsg (eCall m__law_shelves [] (aCons (eV 1) (aCons (eV 5) aNil))) (gN 9))
    (sSeq (sIf (cNot (cB (eCall (m__law_same 4) [] (aCons (eMeth "Body" "folding" m_Body_folding [] (eV 0) (aCons (eV 5) aNil)) (aCons (eOp fIx (eDGet (eDGetA 1 (eC (.str "store"))) (eV 5)) (eC (.int 0))) aNil))))) (sRet (eC (.bl false))) sNil)
    (sIf (cNot (cB (eCall (m__law_same 4) [] (aCons (mFrz (fLc (itR1 (aCons (eCB fLen (aCons (eV 9) aNil)) aNil)) (gN 10) cYes (eMeth "Body" "shelf" m_Body_shelf [] (eV 0) (aCons (eV 5) (aCons (eV 10) aNil))) [10])) (aCons (eV 9) aNil))))) (sRet (eC (.bl false))) sNil))))
    (sRet (eC (.bl true))))))))))
noncomputable def m_Body_ready : MFn := mFn 4 (sSeq (sAsg (eMeth "Body" "need" m_Body_need [] (eV 0) (aCons (eV 1) aNil)) (gN 2))
    (sSeq (sIf (cB (eOp fIs (eFld "Table" "move" (eV 2)) (eC .non))) (sRaise "NotMoving") sNil)
    (sRetF (fLc (itR1 (aCons (eCB fLen (aCons (eFld "Table" "grip" (eV 2)) aNil)) aNil)) (gN 3) (cB (eMeth "Move" "is_ready" m_Move_is_ready [] (eFld "Table" "move" (eV 2)) (aCons (eV 3) aNil))) (eV 3) [3]))))
noncomputable def m__law_held_right : MFn := mFn 12 (sSeq (sFor (itL (mFrz (fCB fSortedD (aCons (eDGetA 1 (eC (.str "tables"))) aNil)))) (gN 2) (sSeq (sAsg (eDGet (eDGetA 1 (eC (.str "tables"))) (eV 2)) (gT (gNC (gN 3) (gNC (gN 4) (gNC (gN 5) gN0)))))
    (sSeq (sOwn 6 (fLc (itL (eCall m__law_images [] (aCons (eV 3) aNil))) (gN 10) cYes (eOp fIx (eV 4) (eV 10)) [10]))
    (sSeq (sIf (cB (eOp fIsNot (eV 5) (eC .non))) (sSeq (sAsg (eCall m__law_swings [] (aCons (eV 3) (aCons (eOp fIx (eV 5) (eC (.int 0))) (aCons (eOp fIx (eDGetA 1 (eC (.str "wide"))) (eC (.int 0))) aNil)))) (gN 7))
    (sSeq (sAsg (mFrz (fLc (itES (aCons (eV 7) aNil)) (gT (gNC (gN 9) (gNC (gN 11) gN0))) (cB (eOp (fIn true) (eV 11) (eOp fIx (eV 5) (eC (.int 2))))) (eV 9) [9, 11])) (gN 8))
    (sSeq (sIf (cNot (cB (eCall (m__law_same 4) [] (aCons (eMeth "Body" "ready" m_Body_ready [] (eV 0) (aCons (eV 2) aNil)) (aCons (eV 8) aNil))))) (sRet (eC (.bl false))) sNil)
    (sFor (itES (aCons (eCall m__law_images [] (aCons (eOp fIx (eV 5) (eC (.int 0))) aNil)) aNil)) (gT (gNC (gN 9) (gNC (gN 10) gN0))) (sPut 6 (eV 9) (eIf (cB (eOp (fIn false) (eV 9) (eV 8))) (eOp fIx (eV 4) (eV 10)) (eIxA 6 (eV 9)))))))) sNil)
    (sFrz 6 (sIf (cNot (cB (eCall (m__law_same 4) [] (aCons (mFrz (fLc (itR1 (aCons (eLenA 6) aNil)) (gN 9) cYes (eMeth "Body" "held" m_Body_held [] (eV 0) (aCons (eV 2) (aCons (eV 9) aNil))) [9])) (aCons (eV 6) aNil))))) (sRet (eC (.bl false))) sNil))))))
    (sRet (eC (.bl true))))
noncomputable def m__law_turned : MFn := mFn 6 (sSeq (sOwn 2 (fOp fRep (mFrz (fLst (aCons (eC (.int 0)) aNil))) (eCB fLen (aCons (eOp fIx (eV 0) (eC (.int 1))) aNil))))
    (sSeq (sFor (itES (aCons (eOp fIx (eV 0) (eC (.int 1))) aNil)) (gT (gNC (gN 3) (gNC (gN 4) gN0))) (sPut 2 (eCall m__law_to [] (aCons (eV 1) (aCons (eV 3) aNil))) (eV 4)))
    (sFrz 2 (sRet (eTup (aCons (eCB fTupOf (aCons (mFrz (fLc (itL (eOp fIx (eV 0) (eC (.int 0)))) (gN 5) cYes (eCall m__law_to [] (aCons (eV 1) (aCons (eV 5) aNil))) [5])) aNil)) (aCons (eV 2) (aCons (eC .non) aNil))))))))
end Fb
namespace Mm
open PySem L2
end Mm
namespace Fb
open PySem L2 Mm
noncomputable def m__law_lay_after : MFn := mFn 2 (sDPut (eDGetA 0 (eC (.str "tables"))) (eOp fIx (eV 1) (eC (.int 1))) (eTup (aCons (eCB fTupOf (aCons (eOp fIx (eV 1) (eC (.int 2))) aNil)) (aCons (mFrz (fCB fListOf (aCons (eOp fIx (eV 1) (eC (.int 3))) aNil))) (aCons (eC .non) aNil)))))
noncomputable def m__law_merge_word : MFn := mFn 8 (sSeq (sAsg (eV 1) (gT (gNC (gN 2) (gNC (gN 3) (gNC (gN 4) (gNC (gN 5) gN0))))))
    (sSeq (sFor (itL (eTup (aCons (eV 4) (aCons (eV 5) aNil)))) (gN 6) (sIf (cB (eDIn true (eV 6) (eDGetA 0 (eC (.str "tables"))))) (sRet (eTup (aCons (eC (.str "notable")) (aCons (eV 6) aNil)))) sNil))
    (sSeq (sFor (itL (eTup (aCons (eV 4) (aCons (eV 5) aNil)))) (gN 6) (sIf (cB (eOp fIsNot (eOp fIx (eDGet (eDGetA 0 (eC (.str "tables"))) (eV 6)) (eC (.int 2))) (eC .non))) (sRet (eTup (aCons (eC (.str "moving")) (aCons (eV 6) aNil)))) sNil))
    (sSeq (sIf (cB (eOp (fInX true) (eV 3) (eTup (aCons (eC (.str "plus")) (aCons (eC (.str "less")) (aCons (eC (.str "least")) (aCons (eC (.str "most")) aNil))))))) (sRet (eTup (aCons (eC (.str "badword")) aNil))) sNil)
    (sSeq (sAsg (eOp fEq (eCB fLen (aCons (eOp fIx (eDGet (eDGetA 0 (eC (.str "tables"))) (eV 4)) (eC (.int 1))) aNil)) (eCB fLen (aCons (eOp fIx (eDGet (eDGetA 0 (eC (.str "tables"))) (eV 5)) (eC (.int 1))) aNil))) (gN 7))
    (sRet (eIf (cB (eV 7)) (eC .non) (eTup (aCons (eC (.str "unlike")) aNil)))))))))
noncomputable def m__law_rounds : MFn := mFn 4 (sRetF (fSortedSet (mFrz (fLc (itL (eCall m__law_swings [] (aCons (eV 0) (aCons (eV 1) (aCons (eV 2) aNil))))) (gN 3) (cB (eOp iGt (eV 3) (eC (.int 0)))) (eV 3) [3]))))
noncomputable def m__law_mixed : MFn := mFn 3 (sSeq (sIf (cB (eOp fEq (eV 0) (eC (.str "plus")))) (sRet (eOp dAdd (eV 1) (eV 2))) sNil)
    (sSeq (sIf (cB (eOp fEq (eV 0) (eC (.str "less")))) (sRet (eOp iSub (eV 1) (eV 2))) sNil)
    (sRet (eIf (cB (eOp fEq (eV 0) (eC (.str "least")))) (eCB fMin2 (aCons (eV 1) (aCons (eV 2) aNil))) (eCB fMax2 (aCons (eV 1) (aCons (eV 2) aNil)))))))
noncomputable def m__law_pay : MFn := mFn 3 (sDPutA 0 (eC (.str "paid")) (eTup (aCons (eOp dAdd (eOp fIx (eDGetA 0 (eC (.str "paid"))) (eC (.int 0))) (eV 1)) (aCons (eOp dAdd (eOp fIx (eDGetA 0 (eC (.str "paid"))) (eC (.int 1))) (eV 2)) aNil))))
noncomputable def m__law_merge_after : MFn := mFn 12 (sSeq (sAsg (eV 1) (gT (gNC (gN 2) (gNC (gN 3) (gNC (gN 4) (gNC (gN 5) gN0))))))
    (sSeq (sPar 6 7 (aCons (eDGet (eDGetA 0 (eC (.str "tables"))) (eV 4)) (aCons (eDGet (eDGetA 0 (eC (.str "tables"))) (eV 5)) aNil)))
    (sSeq (sAsg (eCB fLen (aCons (eCall m__law_rounds [] (aCons (eOp fIx (eV 7) (eC (.int 0))) (aCons (eOp fIx (eV 6) (eC (.int 0))) (aCons (eOp fIx (eDGetA 0 (eC (.str "wide"))) (eC (.int 0))) aNil)))) aNil)) (gN 8))
    (sSeq (sAsg (mFrz (fLc (itZA (aCons (eOp fIx (eV 6) (eC (.int 1))) (aCons (eOp fIx (eV 7) (eC (.int 1))) aNil))) (gT (gNC (gN 10) (gNC (gN 11) gN0))) cYes (eCall m__law_mixed [] (aCons (eV 3) (aCons (eV 10) (aCons (eV 11) aNil)))) [10, 11])) (gN 9))
    (sSeq (sDPut (eDGetA 0 (eC (.str "tables"))) (eV 4) (eTup (aCons (eOp fIx (eV 6) (eC (.int 0))) (aCons (eV 9) (aCons (eC .non) aNil)))))
    (sSeq (sExpr (eCall m__law_pay [] (aCons (eV 0) (aCons (eV 8) (aCons (eC (.int 0)) aNil)))))
    (sRet (eV 8))))))))
end Fb
namespace Mm
open PySem PySem.Spec PyProof.Rows L2
/-! ### t * n of a tuple, whatever n is -/
end Mm
namespace Mm
open PySem PySem.Spec PyProof.Rows L2
/-! ### t * n of a tuple as an operation -/
def rRepS (K : PySem.W.Frag) : R2 := fun x y H Q => ∃ l k xs, x = .ref l ∧ y = .int k ∧ SqT K H l xs ∧ (xs = [] ∨ k = 1) ∧ k.natAbs ≤ 1000000000000 ∧ Q (.ref l) H
def rRepN (K : PySem.W.Frag) : R2 := fun x y H Q => ∃ l k xs, x = .ref l ∧ y = .int k ∧ SqT K H l xs ∧ xs ≠ [] ∧ k ≤ 0 ∧ k.natAbs ≤ 1000000000000 ∧ ∀ p, H p = none → Q (.ref p) (upd H p (.tup []))
section
variable {X : Cx}
end
def fRepTU : Sto → D → D → Option D
  | _, .tup xs, .int k => if bBnd k 1000 && Nat.ble xs.length 1000 then some (.tup (List.replicate k.toNat xs).flatten) else none
  | _, _, _ => none
def rRepTU (K : PySem.W.Frag) : R2 := fun x y H Q => rRepS K x y H Q ∨ (rRepN K x y H Q ∨ rRepT K x y H Q)
end Mm
namespace Mm
open PySem L2
@[simp] theorem fRepTU_eq (S : Sto) (xs : List D) (k : Int) : fRepTU S (.tup xs) (.int k) = if bBnd k 1000 && Nat.ble xs.length 1000 then some (.tup (List.replicate k.toNat xs).flatten) else none := rfl
end Mm
namespace Fb
open PySem L2 Mm
noncomputable def m__law_good_name : MFn := mFn 2 (sRet (eAnd (eChain iLe iLe (eC (.int 1)) (eCB fLen (aCons (eV 0) aNil)) (eC (.int 6))) (eCB fAll (aCons (mFrz (fLc (itS (eV 0)) (gN 1) cYes (eOp (fInSign false) (eV 1) (eC (.str "abcdefghijklmnopqrstuvwxyz"))) [1])) aNil))))
noncomputable def m__law_new_word : MFn := mFn 2 (sSeq (sIf (cNot (cB (eCall m__law_good_name [] (aCons (eV 1) aNil)))) (sRet (eTup (aCons (eC (.str "badname")) aNil))) sNil)
    (sSeq (sIf (cB (eDIn false (eV 1) (eDGetA 0 (eC (.str "tables"))))) (sRet (eTup (aCons (eC (.str "taken")) aNil))) sNil)
    (sRet (eIf (cB (eOp iGt (eCB fLenD (aCons (eDGetA 0 (eC (.str "tables"))) aNil)) (eC (.int 5)))) (eTup (aCons (eC (.str "full")) aNil)) (eC .non)))))
noncomputable def m__law_lay_word : MFn := mFn 10 (sSeq (sAsg (eV 1) (gT (gNC (gN 2) (gNC (gN 3) (gNC (gN 4) (gNC (gN 5) gN0))))))
    (sSeq (sAsg (eCall m__law_new_word [] (aCons (eV 0) (aCons (eV 3) aNil))) (gN 6))
    (sSeq (sIf (cB (eOp fIsNot (eV 6) (eC .non))) (sRet (eV 6)) sNil)
    (sSeq (sAsg (eCall m__law_many [] (aCons (eCB fLen (aCons (eV 5) aNil)) aNil)) (gN 7))
    (sSeq (sAsg (eCB fAny (aCons (mFrz (fLc (itL (eV 5)) (gN 9) cYes (eOp iGt (eCB fAbs (aCons (eV 9) aNil)) (eOp iPow (eC (.int 10)) (eC (.int 9)))) [9])) aNil)) (gN 8))
    (sSeq (sIf (cOr (cB (eV 8)) (cOr (cB (eOp fNe (eOp iShl (eC (.int 1)) (eV 7)) (eCB fLen (aCons (eV 5) aNil)))) (cB (eOp iGt (eV 7) (eCall m__law_deep [] (aCons (eV 0) aNil)))))) (sRet (eTup (aCons (eC (.str "badcells")) aNil))) sNil)
    (sRet (eIf (cB (eCall m__law_good_lines [] (aCons (eV 0) (aCons (eV 4) (aCons (eV 7) aNil))))) (eC .non) (eTup (aCons (eC (.str "badrows")) aNil))))))))))
end Fb
namespace Mm
open PySem L2
/-! ### [.. for x in d.values()], the dict a cell, locked meanwhile -/
def ItRF (g : Gam) (w1 : Wd) (H1 : Hp) (J : It) (ds : List D) : Prop := ∀ w H, Frame w1 H1 w H → Same w.G H →
  (∀ (i : Nat) d, ds[i]? = some d → J.go i H ∧ ∀ x H', J.yld i H x H' → ∃ w', Grow w H w' H' ∧ Rep g w' d x) ∧ J.stop ds.length H
def SimIF (g : Gam) (W : WX) (wi : TI) (m : MI) : Prop := ∀ w0 H0 w H σ env S O (Q : It → Hp → Prop), StR g w0 H0 w H σ env S O →
  PostX g W w0 H0 w σ env O (m env S) (fun ds _ w' H' => ∀ J, ItRF g w' H' J ds → Q J H') → wi σ H Q
section
variable {X : Cx} {Y : Gam} {W : WX} {e a b c tg elt : Expr} {es rest : List Expr} {td ta tb te : TE} {tt tu : TT} {md ma mb me : ME} {mt mu : MT} {mf : MF} {t : TA} {m : MA} {pos : Pos} {wi : TI} {mi : MI}
def itVals (md : ME) : MI := fun env S => (md env S).bind fun d S1 => match d with
  | .ref n => (match S1[n]? with
    | some (.lck ks) => .ok (ks.map (·.2)) S1
    | _ => .stuck)
  | _ => .stuck
def unlkF (n : Nat) : R Cell → R Cell
  | .ok c S => (match S[n]? with
    | some (.lck ks) => .ok c (S.set n (.dic ks))
    | _ => .stuck)
  | _ => .stuck
def fLockD (md : ME) (m : MF) : MF := fun env S => match md env S with
  | .ok (.ref n) _ => (match S[n]? with
    | some (.dic ks) => unlkF n (m (wipeE env []) (S.set n (.lck ks)))
    | _ => .stuck)
  | _ => .stuck
variable {scope : Scope} {own : List (Str × Nat)} {is : List Nat} {g : TG} {mg : MG} {apos cpos : Pos}
end
end Mm
namespace Mm
open PySem L2
section
variable {X : Cx} {Y : Gam} {W : WX} {e : Expr} {te : TE} {me : ME} {pos : Pos}
/-- xs.append(e), xs a cell -/
def sAppC (i : Nat) (me : ME) : MS := fun env S => match env[i]? with
  | some (.v (.ref n)) => (match S[n]? with
    | some (.lst _) => (me env S).out env fun d S1 => (match S1[n]? with
      | some (.lst ds) => if szB (ds.length + 1) then .nx env (S1.set n (.lst (ds ++ [d]))) else .stuck
      | _ => .stuck)
    | _ => .stuck)
  | _ => .stuck
theorem t_appC (i : Nat) {x : Str} {p1 apos cpos : Pos} (he : SE X Y W e te me) (hK : X.K = Y.K := by rfl) (hN : X.N[i]? = some x := by rfl) (hv : Vis X.env.scope x := by first | exact Or.inl rfl | exact Or.inr (Or.inl rfl) | exact Or.inr (Or.inr rfl)) (hd : (x == ("__debug__" : Str)) = false := by decide)
    (hcd : (x == ("__classdict__" : Str)) = false := by decide) (hbase : attributeBase (.Name x p1) "append" X.env (eval (.Name x p1) X.env) = eval (.Name x p1) X.env := by rfl)
    (hfew : ((backTo cpos (starEach [e] X.env)).all (fun x => !x.1) && (backToKw cpos (keywordEach [] X.env)).all (fun x => x.1.isSome)
      && decide ([e].length + ([] : List Keyword).length + (if ([] : List Keyword).isEmpty then 0 else 1) < 30)) = true := by rfl)
    (hline : (apos.endLine == cpos.line) = true := by rfl) (hs : starEach [e] X.env = (false, eval e X.env) :: starEach [] X.env := by rfl) (hplain : (backTo cpos (starEach [] X.env)).any (·.1) = false := by rfl)
    (hsw : swapsWith (.Call (.Attribute (.Name x p1) "append" apos) [e] [] cpos) none pos.line X.env = pure false := by rfl) :
    SS X Y W (.Expr (.Call (.Attribute (.Name x p1) "append" apos) [e] [] cpos) pos) (tDrop (tBM Y.K "list" rAppend (tVar i) (tCons te tNil))) (sAppC i me) :=
  ⟨hK ▸ ps_expr (pe_bm PySem.F.plainAttrs_list PySem.F.slot_list_append PySem.F.type_list_append mt_append (pv i hN hv hd hcd) (pa_cons he.pe pa_nil hs) hbase hfew hline hs hplain) hsw, fun w0 H0 w H σ env S O Dn st p => by
    unfold sAppC at p
    split at p
    · rename_i n hs
      have hi : i < σ.length := by
        rw [← st.l1]
        exact (List.getElem?_eq_some_iff.mp hs).1
      have hO : i < O.length := by
        rw [st.l2]
        exact hi
      obtain ⟨_, x, ex, rx⟩ := st.sl i (.v (.ref n)) σ[i] O[i] hs (List.getElem?_eq_getElem hi) (List.getElem?_eq_getElem hO)
      split at p
      · rename_i ds0 hS0
        obtain ⟨a0, us0, y1, y2, y3, y4⟩ := cell_lst st.ok rx hS0
        refine ⟨x, by rw [List.getElem?_eq_getElem hi, ex], by rw [y1]; exact tyV_lst y3, ?_⟩
        refine he.sim w0 H0 w H σ env S O _ st ((PostS.out p).imp fun d S1 w1 H1 st1 l1 p1 v r => ?_)
        split at p1
        · rename_i ds hS
          split at p1
          · rename_i hz
            obtain ⟨a, us, x1, x2, x3, x4⟩ := cell_lst st1.ok (rx.mono l1) hS
            have hz2 : us.length < sizeLine := Nat.lt_of_lt_of_le (by rw [← x4.len]; exact Nat.lt_succ_self _) (szB_le hz)
            refine ⟨a, us, v, x1, rfl, x3, hz2, ?_⟩
            obtain ⟨k3, f3⟩ := ok_cell (c' := .lst (ds ++ [d])) st1.ok x2 hS (o := .lst (us ++ [v])) ⟨_, upd_same, x4.append_ (RepL.cons_ r RepL.nil_)⟩ nt_lst
            exact p1 w1 _ σ O (st1.after f3 k3) (.refl w1)
          · exact False.elim p1
        · exact False.elim p1
      · exact p.elim
    · exact p.elim⟩
end
end Mm
namespace Mm
open PySem L2
/-! ### x = [.. for y in d.values()], the dict and x cells -/
def sLockD (md : ME) (m : MS) : MS := fun env S => match md env S with
  | .ok (.ref n) _ => (match S[n]? with
    | some (.dic ks) => unlk n (m (wipeE env []) (S.set n (.lck ks)))
    | _ => .stuck)
  | _ => .stuck
section
variable {X : Cx} {Y : Gam} {W : WX} {e tg elt : Expr} {td te : TE} {md me : ME} {t1 : TS} {m1 : MS} {pos : Pos}
variable {scope : Scope} {own : List (Str × Nat)} {is : List Nat} {g : TG} {mg : MG} {apos cpos : Pos}
end
@[simp] theorem sLockD_eq (md : ME) (m : MS) (env : Envr) (S : Sto) : sLockD md m env S = (match md env S with
  | .ok (.ref n) _ => (match S[n]? with
    | some (.dic ks) => unlk n (m (wipeE env []) (S.set n (.lck ks)))
    | _ => .stuck)
  | _ => .stuck) := rfl
end Mm
namespace Mm
open PySem L2
@[simp] theorem itVals_eq (md : ME) (env : Envr) (S : Sto) : itVals md env S = (md env S).bind fun d S1 => match d with
  | .ref n => (match S1[n]? with
    | some (.lck ks) => .ok (ks.map (·.2)) S1
    | _ => .stuck)
  | _ => .stuck := rfl
@[simp] theorem sAppC_eq (i : Nat) (me : ME) (env : Envr) (S : Sto) : sAppC i me env S = (match env[i]? with
  | some (.v (.ref n)) => (match S[n]? with
    | some (.lst _) => (me env S).out env fun d S1 => (match S1[n]? with
      | some (.lst ds) => if szB (ds.length + 1) then .nx env (S1.set n (.lst (ds ++ [d]))) else .stuck
      | _ => .stuck)
    | _ => .stuck)
  | _ => .stuck) := rfl
end Mm
namespace Fb
open PySem L2 Mm
noncomputable def m__law_go_word : MFn := mFn 4 (sSeq (sAsg (eSlT (eV 1) oNone (oSome (eC (.int 2)))) (gT (gNC (gN 2) (gNC (gN 3) gN0))))
    (sSeq (sIf (cB (eOp (fInX false) (eV 2) (eTup (aCons (eC (.str "lead")) (aCons (eC (.str "begin")) aNil))))) (sRet (eCall m__law_numbers_word [] (aCons (eV 0) (aCons (eV 2) (aCons (eV 3) (aCons (eOp fIx (eV 1) (eC (.int 2))) aNil)))))) sNil)
    (sSeq (sIf (cB (eDIn true (eV 3) (eDGetA 0 (eC (.str "tables"))))) (sRet (eTup (aCons (eC (.str "notable")) (aCons (eV 3) aNil)))) sNil)
    (sRet (eIf (cB (eOp fIs (eOp fIx (eDGet (eDGetA 0 (eC (.str "tables"))) (eV 3)) (eC (.int 2))) (eC .non))) (eTup (aCons (eC (.str "notmoving")) aNil)) (eC .non))))))
noncomputable def m__law_go_after : MFn := mFn 10 (sSeq (sAsg (eSlT (eV 1) oNone (oSome (eC (.int 2)))) (gT (gNC (gN 2) (gNC (gN 3) gN0))))
    (sSeq (sAsg (eDGet (eDGetA 0 (eC (.str "tables"))) (eV 3)) (gT (gNC (gN 4) (gNC (gN 5) (gNC (gN 6) gN0)))))
    (sSeq (sIf (cB (eOp fEq (eV 2) (eC (.str "off")))) (sSeq (sDPut (eDGetA 0 (eC (.str "tables"))) (eV 3) (eTup (aCons (eV 4) (aCons (eV 5) (aCons (eC .non) aNil)))))
    (sRet (eC .non))) sNil)
    (sSeq (sIf (cB (eOp fEq (eV 2) (eC (.str "beat")))) (sSeq (sAsg (eV 6) (gT (gNC (gN 7) (gNC (gN 8) (gNC (gN 9) gN0)))))
    (sSeq (sExpr (eCall m__law_pay [] (aCons (eV 0) (aCons (eC (.int 1)) (aCons (eC (.int 0)) aNil)))))
    (sAsg (eTup (aCons (eV 7) (aCons (eOp fCatT (eV 8) (eSlT (eV 9) oNone (oSome (eC (.int 1))))) (aCons (eSlT (eV 9) (oSome (eC (.int 1))) oNone) aNil)))) (gN 6)))) (sSeq (sAsg (eCB fTupOf (aCons (eOp fIx (eV 1) (eC (.int 2))) aNil)) (gN 7))
    (sSeq (sAsg (eOp fCatT (eTup (aCons (eC (.int 0)) aNil)) (eCB fTupOf (aCons (eCall m__law_rounds [] (aCons (eV 4) (aCons (eV 7) (aCons (eOp fIx (eDGetA 0 (eC (.str "wide"))) (eC (.int 0))) aNil)))) aNil))) (gN 9))
    (sSeq (sAsg (eTup (aCons (eV 7) (aCons (eTup aNil) (aCons (eSlT (eV 9) (oSome (eC (.int 1))) oNone) aNil)))) (gN 6))
    (sIf (cB (eOp fEq (eV 2) (eC (.str "lead")))) (sSeq (sExpr (eCall m__law_pay [] (aCons (eV 0) (aCons (eOp iSub (eCB fLen (aCons (eV 9) aNil)) (eC (.int 1))) (aCons (eC (.int 0)) aNil)))))
    (sSeq (sDPut (eDGetA 0 (eC (.str "tables"))) (eV 3) (eTup (aCons (eV 7) (aCons (eV 5) (aCons (eC .non) aNil)))))
    (sRet (eOp iSub (eCB fLen (aCons (eV 9) aNil)) (eC (.int 1)))))) sNil)))))
    (sSeq (sDPut (eDGetA 0 (eC (.str "tables"))) (eV 3) (eIf (cB (eOp iGt (eCB fLen (aCons (eV 9) aNil)) (eC (.int 1)))) (eTup (aCons (eV 4) (aCons (eV 5) (aCons (eV 6) aNil)))) (eTup (aCons (eV 7) (aCons (eV 5) (aCons (eC .non) aNil))))))
    (sRet (eOp iSub (eCB fLen (aCons (eV 9) aNil)) (eC (.int 1)))))))))
end Fb
namespace Fb
open PySem L2 Mm
noncomputable def m_Body_beat : MFn := mFn 4 (sSeq (sAsg (eMeth "Body" "need" m_Body_need [] (eV 0) (aCons (eV 1) aNil)) (gN 2))
    (sSeq (sIf (cB (eOp fIs (eFld "Table" "move" (eV 2)) (eC .non))) (sRaise "NotMoving") sNil)
    (sSeq (sAsg (eCall m_beaten [] (aCons (eV 2) aNil)) (gN 3))
    (sSeq (sDPut (eFld "Body" "tables" (eV 0)) (eV 1) (eV 3))
    (sSeq (sExpr (eMeth "Body" "pay" m_Body_pay [] (eV 0) (aCons (eC (.int 1)) (aCons (eC (.int 0)) aNil))))
    (sRet (eIf (cB (eOp fIs (eFld "Table" "move" (eV 3)) (eC .non))) (eC (.int 0)) (eCB fLen (aCons (eFld "Move" "left" (eFld "Table" "move" (eV 3))) aNil)))))))))
noncomputable def m_Body_off : MFn := mFn 3 (sSeq (sAsg (eMeth "Body" "need" m_Body_need [] (eV 0) (aCons (eV 1) aNil)) (gN 2))
    (sSeq (sIf (cB (eOp fIs (eFld "Table" "move" (eV 2)) (eC .non))) (sRaise "NotMoving") sNil)
    (sDPut (eFld "Body" "tables" (eV 0)) (eV 1) (eNew "Table" m_TableU_initU [.non] (aCons (eFld "Table" "spread" (eV 2)) (aCons (eFld "Table" "grip" (eV 2)) aNil))))))
noncomputable def m_Body_begin : MFn := mFn 5 (sSeq (sAsg (eMeth "Body" "need_still" m_Body_need_still [] (eV 0) (aCons (eV 1) aNil)) (gN 3))
    (sSeq (sAsg (eCall m_begun [] (aCons (eV 3) (aCons (eMeth "Body" "need_spread" m_Body_need_spread [] (eV 0) (aCons (eV 2) (aCons (eMeth "Fold" "size" m_Fold_size [] (eFld "Table" "spread" (eV 3)) aNil) aNil))) (aCons (eOp fIx (eFld "Body" "wide" (eV 0)) (eC (.int 1))) aNil)))) (gN 4))
    (sSeq (sDPut (eFld "Body" "tables" (eV 0)) (eV 1) (eV 4))
    (sRet (eIf (cB (eOp fIs (eFld "Table" "move" (eV 4)) (eC .non))) (eC (.int 0)) (eCB fLen (aCons (eFld "Move" "left" (eFld "Table" "move" (eV 4))) aNil)))))))
end Fb
namespace Fb
open PySem L2 Mm
noncomputable def m__law_fetch_word : MFn := mFn 7 (sSeq (sAsg (eV 1) (gT (gNC (gN 2) (gNC (gN 3) (gNC (gN 4) (gNC (gN 5) gN0))))))
    (sSeq (sIf (cB (eDIn true (eV 3) (eDGetA 0 (eC (.str "store"))))) (sRet (eTup (aCons (eC (.str "nostash")) (aCons (eV 3) aNil)))) sNil)
    (sSeq (sAsg (eCall m__law_new_word [] (aCons (eV 0) (aCons (eIf (cB (eOp fIs (eV 5) (eC .non))) (eV 3) (eV 5)) aNil))) (gN 6))
    (sSeq (sIf (cB (eOp fIsNot (eV 6) (eC .non))) (sRet (eV 6)) sNil)
    (sRet (eIf (cB (eCall m__law_good_lines [] (aCons (eV 0) (aCons (eV 4) (aCons (eCB fLen (aCons (eOp fIx (eDGet (eDGetA 0 (eC (.str "store"))) (eV 3)) (eC (.int 0))) aNil)) aNil))))) (eC .non) (eTup (aCons (eC (.str "badrows")) aNil))))))))
noncomputable def m__law_store_word : MFn := mFn 2 (sSeq (sIf (cB (eOp fEq (eOp fIx (eV 1) (eC (.int 0))) (eC (.str "fetch")))) (sRet (eCall m__law_fetch_word [] (aCons (eV 0) (aCons (eV 1) aNil)))) sNil)
    (sSeq (sIf (cB (eOp fEq (eOp fIx (eV 1) (eC (.int 0))) (eC (.str "stash")))) (sRet (eCall m__law_numbers_word [] (aCons (eV 0) (aCons (eC (.str "stash")) (aCons (eOp fIx (eV 1) (eC (.int 1))) (aCons (eOp fIx (eV 1) (eC (.int 2))) aNil)))))) sNil)
    (sRet (eIf (cB (eDIn false (eOp fIx (eV 1) (eC (.int 1))) (eDGetA 0 (eC (.str "store"))))) (eC .non) (eTup (aCons (eC (.str "nostash")) (aCons (eOp fIx (eV 1) (eC (.int 1))) aNil)))))))
noncomputable def m__law_beats : MFn := mFn 3 (sRet (eOp iShl (eCall m__law_turns [] (aCons (mFrz (fCB fListOf (aCons (eSlT (eV 1) (oSome (eOp fIx (eV 0) (eC (.int 0)))) oNone) aNil))) (aCons (eV 2) aNil))) (eOp fIx (eV 0) (eC (.int 0)))))
noncomputable def m__law_store_after : MFn := mFn 10 (sSeq (sAsg (eSlT (eV 1) oNone (oSome (eC (.int 2)))) (gT (gNC (gN 2) (gNC (gN 3) gN0))))
    (sSeq (sIf (cB (eOp fEq (eV 2) (eC (.str "forget")))) (sSeq (sExpr (eDPop (eDGetA 0 (eC (.str "store"))) (eV 3)))
    (sRet (eC .non))) sNil)
    (sSeq (sIf (cB (eOp fEq (eV 2) (eC (.str "stash")))) (sSeq (sAsg (eDGet (eDGetA 0 (eC (.str "tables"))) (eV 3)) (gT (gNC (gN 4) (gNC (gN 5) (gNC (gN 6) gN0)))))
    (sSeq (sAsg (eOp fIx (eV 1) (eC (.int 2))) (gN 7))
    (sDPut (eDGetA 0 (eC (.str "store"))) (eV 3) (eTup (aCons (eCB fTupOf (aCons (eV 7) aNil)) (aCons (mFrz (fCB fListOf (aCons (eV 5) aNil))) aNil)))))) (sSeq (sAsg (eDGet (eDGetA 0 (eC (.str "store"))) (eV 3)) (gT (gNC (gN 7) (gNC (gN 5) gN0))))
    (sSeq (sAsg (eOp fIx (eV 1) (eC (.int 2))) (gN 4))
    (sSeq (sAsg (eIf (cB (eOp fIs (eOp fIx (eV 1) (eC (.int 3))) (eC .non))) (eV 3) (eOp fIx (eV 1) (eC (.int 3)))) (gN 8))
    (sDPut (eDGetA 0 (eC (.str "tables"))) (eV 8) (eTup (aCons (eCB fTupOf (aCons (eV 4) aNil)) (aCons (mFrz (fCB fListOf (aCons (eV 5) aNil))) (aCons (eC .non) aNil)))))))))
    (sSeq (sAsg (eCall m__law_beats [] (aCons (eDGetA 0 (eC (.str "wide"))) (aCons (eV 4) (aCons (eV 7) aNil)))) (gN 9))
    (sSeq (sExpr (eCall m__law_pay [] (aCons (eV 0) (aCons (eC (.int 0)) (aCons (eV 9) aNil)))))
    (sRet (eV 9)))))))
noncomputable def m_Body_drop : MFn := mFn 2 (sSeq (sExpr (eMeth "Body" "need" m_Body_need [] (eV 0) (aCons (eV 1) aNil)))
    (sExpr (eDPop (eFld "Body" "tables" (eV 0)) (eV 1))))
noncomputable def m_Body_forget : MFn := mFn 2 (sSeq (sExpr (eMeth "Body" "need_stash" m_Body_need_stash [] (eV 0) (aCons (eV 1) aNil)))
    (sExpr (eDPop (eFld "Body" "store" (eV 0)) (eV 1))))
noncomputable def m_Body_beats : MFn := mFn 3 (sRet (eOp iShl (eCall m_turns [] (aCons (eCall m_walk [] (aCat (aCons (eV 1) aNil) (aCons (eOp fIx (eFld "Body" "wide" (eV 0)) (eC (.int 1))) aNil))) (aCons (eV 2) aNil))) (eOp fIx (eFld "Body" "wide" (eV 0)) (eC (.int 0)))))
noncomputable def m_Body_stash : MFn := mFn 6 (sSeq (sAsg (eMeth "Body" "need_still" m_Body_need_still [] (eV 0) (aCons (eV 1) aNil)) (gN 3))
    (sSeq (sIf (cOr (cB (eOp fNe (eCB fLen (aCons (eV 2) aNil)) (eMeth "Fold" "size" m_Fold_size [] (eFld "Table" "spread" (eV 3)) aNil))) (cB (eCB fAny (aCons (mFrz (fLc (itL (eV 2)) (gN 5) cYes (eOr (eOp iLt (eV 5) (eC (.int 0))) (eOp iGt (eOp iShr (eV 5) (eOp fIx (eFld "Body" "wide" (eV 0)) (eC (.int 2)))) (eC (.int 0)))) [5])) aNil)))) (sRaise "BadBanks") sNil)
    (sSeq (sIf (cAnd (cB (eDIn true (eV 1) (eFld "Body" "store" (eV 0)))) (cB (eOp iGe (eCB fLenD (aCons (eFld "Body" "store" (eV 0)) aNil)) (eC (.int 4))))) (sRaise "Full") sNil)
    (sSeq (sAsg (eMeth "Body" "beats" m_Body_beats [] (eV 0) (aCons (eFld "Table" "spread" (eV 3)) (aCons (eV 2) aNil))) (gN 4))
    (sSeq (sDPut (eFld "Body" "store" (eV 0)) (eV 1) (eTup (aCons (eCB fTupOf (aCons (eV 2) aNil)) (aCons (eCB fTupOf (aCons (eMeth "Table" "plain" m_Table_plain [] (eV 3) aNil) aNil)) aNil))))
    (sSeq (sExpr (eMeth "Body" "pay" m_Body_pay [] (eV 0) (aCons (eC (.int 0)) (aCons (eV 4) aNil))))
    (sRet (eV 4))))))))
noncomputable def m_Body_fetch : MFn := mFn 9 (sSeq (sAsg (eMeth "Body" "need_stash" m_Body_need_stash [] (eV 0) (aCons (eV 1) aNil)) (gT (gNC (gN 4) (gNC (gN 5) gN0))))
    (sSeq (sAsg (eIf (cB (eOp fIs (eV 3) (eC .non))) (eV 1) (eV 3)) (gN 6))
    (sSeq (sExpr (eMeth "Body" "need_new" m_Body_need_new [] (eV 0) (aCons (eV 6) aNil)))
    (sSeq (sAsg (eMeth "Body" "need_spread" m_Body_need_spread [] (eV 0) (aCons (eV 2) (aCons (eCB fLen (aCons (eV 4) aNil)) aNil))) (gN 7))
    (sSeq (sAsg (eMeth "Body" "beats" m_Body_beats [] (eV 0) (aCons (eV 7) (aCons (eV 4) aNil))) (gN 8))
    (sSeq (sDPut (eFld "Body" "tables" (eV 0)) (eV 6) (eCall m_laid [] (aCons (eV 7) (aCons (eV 5) aNil))))
    (sSeq (sExpr (eMeth "Body" "pay" m_Body_pay [] (eV 0) (aCons (eC (.int 0)) (aCons (eV 8) aNil))))
    (sRet (eV 8)))))))))
end Fb
namespace Mm
open PySem PySem.Spec PyProof.Rows L2
/-! ### a slot that holds one of some tracked lambdas, called in the maker itself -/
def tActS (X : Cx) (Y : Gam) (W : WX) (i : Nat) (Ls : List LSp) : TE := fun σ H Q => ∃ p ∈ Ls, ∃ f c' w0 H0 w env S O, σ[i]? = some (some (.ref f)) ∧ H f = some (FnO X p.params p.body p.scope f c') ∧ H c' = some (LamX.CodeO c' (X.env.qual ++ "<lambda>")) ∧
  StR Y w0 H0 w H σ env S O ∧ PostX Y (fun cls d _ H => W cls d σ H) w0 H0 w σ env O (p.me env S) (fun d _ w' H' => ∀ v, Rep Y w' d v → Q v H')
section
variable {X : Cx} {Y : Gam} {W : WX} {k i : Nat} {x : Str} {Ls : List LSp} {p1 p2 : Pos}
end
/-! ### a dict of lambdas -/
section
variable {g : Gam} {w0 w : Wd} {H0 H H1 : Hp} {σ : L2.St} {env : Envr} {S : Sto} {O : List (Option Addr)}
theorem StR.noV (st : StR g w0 H0 w H σ env S O) (i : Nat) : StR g w0 H0 w H σ (env.set i .no) S (O.set i none) := by
  refine ⟨st.ok, st.fr, by rw [List.length_set]; exact st.l1, by rw [List.length_set]; exact st.l2, fun j s x o e1 e2 e3 => ?_, fun j k p e1 e2 => ?_, fun j p e => ?_⟩
  · rw [List.getElem?_set] at e1 e3
    by_cases hj : i = j
    · rw [if_pos hj] at e1 e3
      split at e1
      · split at e3
        · cases e1
          cases e3
          exact rfl
        · cases e3
      · cases e1
    · rw [if_neg hj] at e1 e3
      exact st.sl j s x o e1 e2 e3
  · rw [List.getElem?_set] at e1 e2
    have h1 : i ≠ j := fun z => by
      rw [if_pos z] at e1
      split at e1 <;> cases e1
    have h2 : i ≠ k := fun z => by
      rw [if_pos z] at e2
      split at e2 <;> cases e2
    rw [if_neg h1] at e1
    rw [if_neg h2] at e2
    exact st.inj j k p e1 e2
  · rw [List.getElem?_set] at e
    have h1 : i ≠ j := fun z => by
      rw [if_pos z] at e
      split at e <;> cases e
    rw [if_neg h1] at e
    obtain ⟨a, b, c, hc⟩ := st.fresh j p e
    exact ⟨a, b, c, by rw [List.getElem?_set, if_neg h1]; exact hc⟩
theorem lam_after (st : StR g w0 H0 w H σ env S O) (eN : LamX.ExtN H H1) (dm : ∀ b, H b ≠ none → H1 b ≠ none) (T1 : LamX.Tabs g.T H1) (htb : ∀ a ps, H a = some (.tbl ps) → ∃ qs, H1 a = some (.tbl qs)) : StR g w0 H0 w H1 σ env S O ∧ Frame w H w H1 := by
  have k1 : Ok g w H1 S := ⟨fun a o e => eN a o (st.ok.ex a o e) (fun ps z => st.ok.notab a ps (by rw [e, z])), ⟨st.ok.cells.nd, st.ok.cells.len, fun m a cc e1 e2 => by
    obtain ⟨q1, q2⟩ := st.ok.cells.at_ m a cc e1 e2
    obtain ⟨x, q3, q4⟩ := q2.some_
    exact ⟨q1, q2.move (.refl w) (by rw [q3, eN a x q3 q4])⟩⟩, T1, st.ok.notab⟩
  have f1 : Frame w H w H1 := ⟨.refl w, fun a o e _ nt => eN a o e nt, fun _ _ => rfl, fun _ z => .inl z, dm, htb, fun a o u e => eN a _ e (fun ps z => by cases z)⟩
  exact ⟨st.after f1 k1, f1⟩
end
def findL {α : Type} (ls : List (Str × α)) (s : Str) : Option α := (ls.find? fun q => decide (q.1 = s)).map (·.2)
theorem findL_cons {α : Type} (k : Str) (a : α) (ls : List (Str × α)) (s : Str) : findL ((k, a) :: ls) s = if k = s then some a else findL ls s := by
  unfold findL
  by_cases h : k = s <;> simp [List.find?_cons, h]
theorem lookK_putS (ks : List (Key × D)) (k k' : Key) (d : D) : lookK (putD ks k d) k' = if k = k' then some d else lookK ks k' := by
  unfold putD
  split
  · rename_i h
    induction ks with
    | nil => simp at h
    | cons a ks ih =>
      rw [List.map_cons]
      unfold lookK at ih ⊢
      rw [List.find?_cons, List.find?_cons]
      by_cases h1 : a.1 = k
      · rw [if_pos h1]
        by_cases h2 : k = k'
        · simp [h1, h2]
        · have h3 : ¬ a.1 = k' := fun z => h2 (h1 ▸ z)
          by_cases h4 : (ks.any fun kv => decide (kv.1 = k)) = true
          · have := ih h4
            rw [if_neg h2] at this
            simp only [h1, h2, decide_false, if_false]
            exact this
          · have e : (ks.map fun kv => if kv.1 = k then (kv.1, d) else kv) = ks := by
              rw [List.map_congr_left (g := id) fun b hb => ?_, List.map_id]
              rw [if_neg]
              · rfl
              · intro z
                exact h4 (List.any_eq_true.mpr ⟨b, hb, by simp [z]⟩)
            rw [e]
            simp [h1, h2]
      · rw [if_neg h1]
        have h4 : (ks.any fun kv => decide (kv.1 = k)) = true := by
          rw [List.any_cons] at h
          simpa [h1] using h
        by_cases h2 : a.1 = k'
        · have : k ≠ k' := fun z => h1 (h2.trans z.symm)
          simp [h2, this]
        · have := ih h4
          simp only [h2, decide_false]
          exact this
  · rename_i h
    unfold lookK
    rw [List.find?_append]
    by_cases h2 : k = k'
    · rw [if_pos h2]
      have : ks.find? (fun kv => decide (kv.1 = k')) = none := by
        rw [List.find?_eq_none]
        intro b hb z
        exact h (List.any_eq_true.mpr ⟨b, hb, by rw [h2]; exact z⟩)
      rw [this]
      simp [h2]
    · rw [if_neg h2]
      simp [h2]
/-- the dict's lambdas are known in the heap -/
def KnL (X : Cx) (H : Hp) (ls : List (Str × LSp)) (ks : List (Key × D)) : Prop := ∀ s p, findL ls s = some p → ∃ f c', lookK ks (.inr s) = some (.adr f) ∧ H f = some (FnO X p.params p.body p.scope f c') ∧ H c' = some (LamX.CodeO c' (X.env.qual ++ "<lambda>"))
theorem KnL.to {X : Cx} {H H1 : Hp} {ls : List (Str × LSp)} {ks : List (Key × D)} (h : KnL X H ls ks) (m : ∀ a φ, H a = some (.ext φ) → H1 a = some (.ext φ)) : KnL X H1 ls ks := fun s p e => by
  obtain ⟨f, c', a, b, c⟩ := h s p e
  exact ⟨f, c', a, m f _ b, m c' _ c⟩
theorem KnL.put {X : Cx} {H : Hp} {ls : List (Str × LSp)} {ks : List (Key × D)} (h : KnL X H ls ks) {key : Str} {p : LSp} {f c' : Addr} (hf : H f = some (FnO X p.params p.body p.scope f c')) (hc : H c' = some (LamX.CodeO c' (X.env.qual ++ "<lambda>"))) : KnL X H ((key, p) :: ls) (putD ks (.inr key) (.adr f)) := fun s p' e => by
  rw [findL_cons] at e
  rw [lookK_putS]
  by_cases z : key = s
  · rw [if_pos z] at e
    cases e
    exact ⟨f, c', by rw [if_pos (by rw [z])], hf, hc⟩
  · rw [if_neg z] at e
    obtain ⟨f', c2, a, b⟩ := h s p' e
    exact ⟨f', c2, by rw [if_neg (fun q => z (Sum.inr.inj q))]; exact a, b⟩
inductive Puts (X : Cx) (Y : Gam) (k i : Nat) (x : Str) : List Stmt → List (Str × LSp) → TS → Prop where
  | nil : Puts X Y k i x [] [] tNext
  | cons {key : Str} {j : Nat} {p1 p2 p3 p4 p5 : Pos} {params : Arguments} {body : Expr} {scope : Scope} {me : ME} {ss : List Stmt} {ls : List (Str × LSp)} {t : TS} (h : LSpOk X Y k ⟨params, body, scope, me⟩)
    (hs : swapsWith (.Lambda params body scope p4) (some (.Subscript (.Name x p1) (.Constant (.str key) j p2) p3)) p5.line X.env = pure false) (hd : defaultsOf params X.env = ([], [])) (r : Puts X Y k i x ss ls t) :
    Puts X Y k i x (.Assign [.Subscript (.Name x p1) (.Constant (.str key) j p2) p3] (.Lambda params body scope p4) p5 :: ss) ((key, ⟨params, body, scope, me⟩) :: ls) (tSeq (L2.sDPut (tVar i) (tC (.str key)) (tLamX X Y.T ⟨params, body, scope, me⟩)) t)
section
variable {X : Cx} {Y : Gam} {k i : Nat} {x : Str} {ss : List Stmt} {ls : List (Str × LSp)} {t : TS}
theorem Puts.pss (P : Puts X Y k i x ss ls t) (M : Mkr X Y) (hu : X.A.units + 64 < cLine) (hN : X.N[i]? = some x) (hv : Vis X.env.scope x) (hd : (x == ("__debug__" : Str)) = false) (hcd : (x == ("__classdict__" : Str)) = false) : PSs X ss t := by
  induction P with
  | nil => exact pss_nil
  | cons h hs hd' _ ih => exact pss_cons (ps_dput (by omega) (pv i hN hv hd hcd) pe_str (pe_lamX M h.L hd') hs) ih
theorem Puts.ok (P : Puts X Y k i x ss ls t) : ∀ q ∈ ls, LSpOk X Y k q.2 := by
  induction P with
  | nil => exact fun q h => by cases h
  | cons h hs hd' _ ih =>
    intro q hq
    rcases List.mem_cons.mp hq with rfl | hq
    · exact h
    · exact ih q hq
theorem Puts.sim (P : Puts X Y k i x ss ls t) {w0 w : Wd} {H0 : Hp} {σ : L2.St} {env : Envr} {S : Sto} {O : List (Option Addr)} {D : Ends} (hi : i < env.length) : ∀ {H : Hp} {done : List (Str × LSp)} {ks : List (Key × Mm.D)}, StR Y w0 H0 w H σ (env.set i (.o (.dic ks))) S O → KnL X H done ks → ks.length + ls.length ≤ 1000 →
    (∀ H' ks', StR Y w0 H0 w H' σ (env.set i (.o (.dic ks'))) S O → KnL X H' (ls.reverse ++ done) ks' → D.nx σ H') → t D σ H := by
  induction P with
  | nil => exact fun {H done ks} st kn _ h => h H ks st kn
  | @cons key j p1 p2 p3 p4 p5 params body scope me ss ls t hL hs hd' r ih =>
    intro H done ks st kn hl h
    rw [List.length_cons] at hl
    refine ⟨st.ok.tabs, fun f c' H1 eN dm T2 hf hc hn htb => ?_⟩
    obtain ⟨st1, _⟩ := lam_after st eN dm T2 htb
    have h2 : (env.set i (.o (.dic ks)))[i]? = some (.o (.dic ks)) := by rw [List.getElem?_set_self hi]
    obtain ⟨q, f1, f2, f3, ⟨us, f4, f4'⟩, f5, f6, _⟩ := st1.own_at h2
    have hz2 : us.length < sizeLine := by
      rw [← f4'.len]
      have : sizeLine ≥ 2000 := by decide
      omega
    refine ⟨.ref q, f1, q, _, rfl, DPut.k (k := Sum.inr key) f4 hz2, ?_⟩
    have ra : Rep Y w (.adr f) (.ref f) := by unfold Rep; rfl
    have st2 := st1.mut (c' := .dic (putD ks (.inr key) (.adr f))) (o := .dK (putK us (.inr key) (.ref f))) h2 f2 ⟨_, upd_same, f4'.put_ ra⟩ nt_dK
    rw [List.set_set] at st2
    have mv : ∀ a φ, H1 a = some (.ext φ) → upd H1 q (.dK (putK us (.inr key) (.ref f))) a = some (.ext φ) := fun a φ e => by
      rw [upd_ne (fun z => by rw [z, f4] at e; cases e)]
      exact e
    have kn2 : KnL X (upd H1 q (.dK (putK us (.inr key) (.ref f)))) ((key, ⟨params, body, scope, me⟩) :: done) (putD ks (.inr key) (.adr f)) :=
      KnL.put ((kn.to fun a φ e => eN a _ e (fun ps z => by cases z)).to mv) (p := ⟨params, body, scope, me⟩) (mv f _ hf) (mv c' _ hc)
    refine ih st2 kn2 ?_ fun H' ks' st' kn' => h H' ks' st' (by rw [List.reverse_cons, List.append_assoc]; exact kn')
    have : (putD ks (.inr key) (.adr f)).length ≤ ks.length + 1 := by
      unfold putD
      split
      · rw [List.length_map]; omega
      · rw [List.length_append]; simp
    omega
end
inductive Acts (X : Cx) (Y : Gam) (k i : Nat) (x : Str) : List Stmt → List (Str × LSp) → TS → Prop where
  | mk {key : Str} {j : Nat} {q1 q2 q3 q4 q5 : Pos} {params : Arguments} {body : Expr} {scope : Scope} {me : ME} {ss : List Stmt} {ls : List (Str × LSp)} {t : TS} (h : LSpOk X Y k ⟨params, body, scope, me⟩)
    (hs : swapsWith (.Dict [some (.Constant (.str key) j q2)] [.Lambda params body scope q3] q4) (some (.Name x q1)) q5.line X.env = pure false) (hd : defaultsOf params X.env = ([], [])) (r : Puts X Y k i x ss ls t) :
    Acts X Y k i x (.Assign [.Name x q1] (.Dict [some (.Constant (.str key) j q2)] [.Lambda params body scope q3] q4) q5 :: ss) ((key, ⟨params, body, scope, me⟩) :: ls) (tSeq (tAsg (tDisp [(tC (.str key), tLamX X Y.T ⟨params, body, scope, me⟩)]) (gName i)) t)
section
variable {X : Cx} {Y : Gam} {k i : Nat} {x : Str} {ss : List Stmt} {ls : List (Str × LSp)} {t : TS}
theorem Acts.pss (P : Acts X Y k i x ss ls t) (M : Mkr X Y) (hu : X.A.units + 64 < cLine) (hNd : X.N.Nodup) (hN : X.N[i]? = some x) (hx : Loc X.env.scope x) (hf : X.fn x = true ∨ X.env.scope.names.lookup x = some .local) (hv : Vis X.env.scope x) (hd : (x == ("__debug__" : Str)) = false) (hcd : (x == ("__classdict__" : Str)) = false) : PSs X ss t := by
  cases P with
  | mk h hs hd' r => exact pss_cons (ps_set hNd hN hx (pe_disp (pps_cons pe_str (pe_lamX M h.L hd') pps_nil) rfl rfl (fun z => nomatch z) (by show 1 ≤ 15; omega)) hs hf) (r.pss M hu hN hv hd hcd)
theorem Acts.ok (P : Acts X Y k i x ss ls t) : ∀ q ∈ ls, LSpOk X Y k q.2 := by
  cases P with
  | mk h hs hd' r =>
    intro q hq
    rcases List.mem_cons.mp hq with rfl | hq
    · exact h
    · exact r.ok q hq
theorem Acts.sim (P : Acts X Y k i x ss ls t) {w0 w : Wd} {H0 H : Hp} {σ : L2.St} {env : Envr} {S : Sto} {O : List (Option Addr)} {D : Ends} (st : StR Y w0 H0 w H σ env S O) (hi : i < env.length) (hl : ls.length ≤ 900)
    (h : ∀ H' ks' q, StR Y w0 H0 w H' (σ.set i (some (.ref q))) (env.set i (.o (.dic ks'))) S (O.set i (some q)) → KnL X H' ls.reverse ks' → D.nx (σ.set i (some (.ref q))) H') : t D σ H := by
  cases P with
  | @mk key j q1 q2 q3 q4 q5 params body scope me ss ls t hL hs hd' r =>
    rw [List.length_cons] at hl
    intro q hq
    obtain ⟨n1, n2, n3, n4⟩ := st.out hq
    obtain ⟨k1, f1⟩ := ok_lay (o := .dK []) st.ok hq nt_dK
    have st1 : StR Y w0 H0 w (upd H q (.dK [])) σ env S O := st.after f1 k1
    refine ⟨k1.tabs, fun f c' H1 eN dm T2 hf hc hn htb => ?_⟩
    obtain ⟨st2, fL⟩ := lam_after st1 eN dm T2 htb
    have e1 : H1 q = some (.dK []) := eN q _ upd_same nt_dK
    refine ⟨e1, [(.inr key, .ref f)], rfl, by show 1 ≤ 15; omega, ?_⟩
    have k2 := ok_updN (o := .dK [(.inr key, .ref f)]) st2.ok e1 nt_dK (fun φ z => by cases z) n2 n3
    have fr2 : Frame w H w (upd H1 q (.dK [(.inr key, .ref f)])) := (f1.trans fL).upd_new hq
    have st3 := st.after fr2 k2
    have ra : Rep Y w (.adr f) (.ref f) := by unfold Rep; rfl
    have st4 := st3.set_o i (c := .dic [(.inr key, .adr f)]) ⟨n1, n2, n3, n4, ⟨_, upd_same, RepK.cons_ ra RepK.nil_⟩⟩ (by rw [← st.l1]; exact hi)
    have mv : ∀ a φ, H1 a = some (.ext φ) → upd H1 q (.dK [(.inr key, .ref f)]) a = some (.ext φ) := fun a φ e => by
      rw [upd_ne (fun z => by rw [z, e1] at e; cases e)]
      exact e
    have kn : KnL X (upd H1 q (.dK [(.inr key, .ref f)])) [(key, ⟨params, body, scope, me⟩)] [(.inr key, .adr f)] := by
      have k0 : KnL X (upd H1 q (.dK [(.inr key, .ref f)])) [] [] := fun s p e => by cases e
      exact k0.put (key := key) (p := ⟨params, body, scope, me⟩) (mv f _ hf) (mv c' _ hc)
    refine r.sim (D := D) hi st4 kn (by show 1 + ls.length ≤ 1000; omega) fun H' ks' st' kn' => h H' ks' q st' (by rw [List.reverse_cons]; exact kn')
end
def actR (i h it : Nat) (ls : List (Str × ME)) : MS := fun env S => match env[it]? with
  | some (.v (.str s)) => (match findL ls s with
    | some me => (me (wipeE env [h, i]) S).out ((env.set i .no).set h .no) fun d S2 => .rt (.val d) S2
    | none => .stuck)
  | _ => .stuck
def sActs (i h it : Nat) (mt : MT) (l1 l2 : List (Str × ME)) : MS := fun env S => (mt env S).out env fun b S1 => if Nat.blt i env.length && Nat.blt h env.length then actR i h it (if b = true then l1 else l2) env S1 else .stuck
section
variable {X : Cx} {Y : Gam} {W : WX} {k : Nat} {x y z : Str} {c : Expr} {tt : TT} {mt : MT} {ss1 ss2 : List Stmt} {ls1 ls2 : List (Str × LSp)} {l1 l2 : List (Str × ME)} {t1 t2 : TS} {p0 p1 p2 p3 p4 p5 p6 p7 p8 : Pos}
end
end Mm
namespace Mm
open PySem L2
/-! ### [.. for x in d], the dict a cell, locked meanwhile -/
section
variable {X : Cx} {Y : Gam} {W : WX} {e tg elt : Expr} {td te : TE} {md me : ME} {pos : Pos}
def itKeysD (md : ME) : MI := fun env S => (md env S).bind fun d S1 => match d with
  | .ref n => (match S1[n]? with
    | some (.lck ks) => .ok (keysV ks) S1
    | _ => .stuck)
  | _ => .stuck
variable {scope : Scope} {own : List (Str × Nat)} {is : List Nat} {g : TG} {mg : MG}
end
end Mm
namespace Mm
open PySem L2
@[simp] theorem sActs_eq (i h it : Nat) (mt : MT) (l1 l2 : List (Str × ME)) (env : Envr) (S : Sto) : sActs i h it mt l1 l2 env S = (mt env S).out env fun b S1 => if Nat.blt i env.length && Nat.blt h env.length then actR i h it (if b = true then l1 else l2) env S1 else .stuck := rfl
end Mm
namespace Fb
open PySem L2 Mm
noncomputable def m__law_act : MFn := mFn 5 (sActs 3 4 1 (cB (eOp fEq (eCB fLen (aCons (eV 2) aNil)) (eC (.int 1)))) [("forget", (eMeth "Body" "forget" m_Body_forget [] (eV 0) (aCons (eOp fIx (eV 2) (eC (.int 0))) aNil))), ("off", (eMeth "Body" "off" m_Body_off [] (eV 0) (aCons (eOp fIx (eV 2) (eC (.int 0))) aNil))), ("beat", (eMeth "Body" "beat" m_Body_beat [] (eV 0) (aCons (eOp fIx (eV 2) (eC (.int 0))) aNil))), ("drop", (eMeth "Body" "drop" m_Body_drop [] (eV 0) (aCons (eOp fIx (eV 2) (eC (.int 0))) aNil)))] [("stash", (eMeth "Body" "stash" m_Body_stash [] (eV 0) (aCons (eOp fIx (eV 2) (eC (.int 0))) (aCons (eOp fIx (eV 2) (eC (.int 1))) aNil)))), ("total", (eMeth "Body" "total" m_Body_total [] (eV 0) (aCons (eOp fIx (eV 2) (eC (.int 0))) (aCons (eOp fIx (eV 2) (eC (.int 1))) aNil)))), ("turn", (eMeth "Body" "turn" m_Body_turn [] (eV 0) (aCons (eOp fIx (eV 2) (eC (.int 0))) (aCons (eOp fIx (eV 2) (eC (.int 1))) aNil)))), ("begin", (eMeth "Body" "begin" m_Body_begin [] (eV 0) (aCons (eOp fIx (eV 2) (eC (.int 0))) (aCons (eOp fIx (eV 2) (eC (.int 1))) aNil)))), ("lead", (eMeth "Body" "lead" m_Body_lead [] (eV 0) (aCons (eOp fIx (eV 2) (eC (.int 0))) (aCons (eOp fIx (eV 2) (eC (.int 1))) aNil)))), ("fetch", (eMeth "Body" "fetch" m_Body_fetch [] (eV 0) (aCat (aCons (eOp fIx (eV 2) (eC (.int 0))) (aCons (eOp fIx (eV 2) (eC (.int 1))) aNil)) (aCons (eOp fIx (eV 2) (eC (.int 2))) aNil)))), ("merge", (eMeth "Body" "merge" m_Body_merge [] (eV 0) (aCat (aCons (eOp fIx (eV 2) (eC (.int 1))) (aCons (eOp fIx (eV 2) (eC (.int 2))) aNil)) (aCons (eOp fIx (eV 2) (eC (.int 0))) aNil)))), ("lay", (eMeth "Body" "lay" m_Body_lay [] (eV 0) (aCons (eOp fIx (eV 2) (eC (.int 0))) (aCons (eOp fIx (eV 2) (eC (.int 1))) (aCons (eOp fIx (eV 2) (eC (.int 2))) aNil)))))])
noncomputable def m_Body_berths : MFn := mFn 5 (sSeq (sAsg (eFld "Table" "spread" (eMeth "Body" "need" m_Body_need [] (eV 0) (aCons (eV 1) aNil))) (gN 3))
    (sSeq (sIf (cOr (cB (eOp iLt (eV 2) (eC (.int 0)))) (cB (eOp iGt (eOp iShr (eV 2) (eMeth "Fold" "size" m_Fold_size [] (eV 3) aNil)) (eC (.int 0))))) (sRaise "NoCell") sNil)
    (sRetF (fLc (itR1 (aCons (eOp iShl (eC (.int 1)) (eMeth "Fold" "many" m_Fold_many [] (eV 3) aNil)) aNil)) (gN 4) (cB (eOp fEq (eMeth "Fold" "to" m_Fold_to [] (eV 3) (aCons (eV 4) aNil)) (eV 2))) (eV 4) [4]))))
end Fb
namespace Fb
open PySem L2 Mm
noncomputable def m__law_store_deed : MFn := mFn 7 (sSeq (sAsg (eCall m__law_pick [] (aCons (eV 0) (aCons (eMeth "Body" "stored" m_Body_stored [] (eV 1) aNil) aNil))) (gN 3))
    (sSeq (sIf (cB (eOp fEq (eV 2) (eC (.str "forget")))) (sRet (eTup (aCons (eV 2) (aCons (eV 3) aNil)))) sNil)
    (sSeq (sAsg (eCB fSumA (aCons (eSlT (eMeth "Body" "sizes" m_Body_sizes [] (eV 1) aNil) oNone (oSome (eC (.int 2)))) aNil)) (gN 4))
    (sSeq (sAsg (eIf (cB (eOp (fInX false) (eV 3) (eMeth "Body" "stored" m_Body_stored [] (eV 1) aNil))) (eCB fLen (aCons (eMeth "Body" "folding" m_Body_folding [] (eV 1) (aCons (eV 3) aNil)) aNil)) (eC (.int 0))) (gN 5))
    (sSeq (sAsg (eOp fIx (mFrz (fLst (aCons (eC .non) (aCons (eCall m__law_new_name [] (aCons (eV 0) aNil)) aNil)))) (eCall m__law_take [] (aCons (eV 0) (aCons (eC (.int 2)) aNil)))) (gN 6))
    (sRet (eTup (aCons (eV 2) (aCons (eV 3) (aCons (eCall m__law_lines [] (aCons (eV 0) (aCons (eV 4) (aCons (eCB fMin2 (aCons (eV 5) (aCons (eV 4) aNil))) aNil)))) (aCons (eV 6) aNil)))))))))))
noncomputable def m__law_deed : MFn := mFn 11 (sSeq (sAsg (eC (.str "lay lead begin begin beat beat beat off turn total merge merge stash fetch drop forget")) (gN 2))
    (sSeq (sAsg (eCall m__law_of [] (aCons (eV 0) (aCons (eOp dAdd (mFrz (fLst (aCons (eC (.str "lay")) aNil))) (mFrz (fSplit (eV 2) (eC (.str " "))))) aNil))) (gN 3))
    (sSeq (sAsg (eMeth "Body" "names" m_Body_names [] (eV 1) aNil) (gN 4))
    (sSeq (sAsg (eCall m__law_pick [] (aCons (eV 0) (aCons (eV 4) aNil))) (gN 5))
    (sSeq (sAsg (mFrz (fLc (itL (eV 4)) (gN 10) (cB (eOp fIsNot (eMeth "Body" "moving" m_Body_moving [] (eV 1) (aCons (eV 10) aNil)) (eC .non))) (eV 10) [10])) (gN 6))
    (sSeq (sIf (cAnd (cB (eOp (fInX false) (eV 3) (eTup (aCons (eC (.str "beat")) (aCons (eC (.str "off")) aNil))))) (cAnd (cB (eOp fNe (eV 6) (mFrz (fLst aNil)))) (cB (eOp iGt (eCall m__law_take [] (aCons (eV 0) (aCons (eC (.int 6)) aNil))) (eC (.int 0)))))) (sAsg (eCall m__law_of [] (aCons (eV 0) (aCons (eV 6) aNil))) (gN 5)) sNil)
    (sSeq (sAsg (eCB fSumA (aCons (eSlT (eMeth "Body" "sizes" m_Body_sizes [] (eV 1) aNil) oNone (oSome (eC (.int 2)))) aNil)) (gN 7))
    (sSeq (sIf (cOr (cAnd (cB (eOp fEq (eV 4) (mFrz (fLst aNil)))) (cB (eOp fNe (eV 3) (eC (.str "fetch"))))) (cB (eOp fEq (eV 3) (eC (.str "lay"))))) (sRet (eCall m__law_lay [] (aCons (eV 0) (aCons (eV 7) aNil)))) sNil)
    (sSeq (sAsg (eIf (cB (eOp (fInX false) (eV 5) (eV 4))) (eMeth "Body" "digits" m_Body_digits [] (eV 1) (aCons (eV 5) aNil)) (eC (.int 1))) (gN 8))
    (sSeq (sIf (cB (eOp (fInX false) (eV 3) (eTup (aCons (eC (.str "lead")) (aCons (eC (.str "begin")) aNil))))) (sRet (eTup (aCons (eV 3) (aCons (eV 5) (aCons (eCall m__law_lines [] (aCons (eV 0) (aCons (eV 7) (aCons (eCB fMin2 (aCons (eV 8) (aCons (eV 7) aNil))) aNil)))) aNil))))) sNil)
    (sSeq (sIf (cB (eOp fEq (eV 3) (eC (.str "turn")))) (sRet (eTup (aCons (eV 3) (aCons (eV 5) (aCons (eCall m__law_lines [] (aCons (eV 0) (aCons (eV 8) (aCons (eV 8) aNil)))) aNil))))) sNil)
    (sSeq (sIf (cB (eOp fEq (eV 3) (eC (.str "total")))) (sRet (eTup (aCons (eV 3) (aCons (eV 5) (aCons (eCall m__law_places [] (aCons (eV 0) (aCons (eV 8) aNil))) aNil))))) sNil)
    (sSeq (sIf (cB (eOp fEq (eV 3) (eC (.str "merge")))) (sSeq (sAsg (eCall m__law_of [] (aCons (eV 0) (aCons (mFrz (fLst (aCons (eC (.str "plus")) (aCons (eC (.str "less")) (aCons (eC (.str "least")) (aCons (eC (.str "most")) (aCons (eC (.str "plus")) (aCons (eC (.str "Plus")) aNil)))))))) aNil))) (gN 9))
    (sRet (eTup (aCons (eV 3) (aCons (eV 9) (aCons (eV 5) (aCons (eCall m__law_pick [] (aCons (eV 0) (aCons (eV 4) aNil))) aNil))))))) sNil)
    (sSeq (sIf (cB (eOp fEq (eV 3) (eC (.str "stash")))) (sRet (eTup (aCons (eV 3) (aCons (eV 5) (aCons (eCB fTupOf (aCons (eCall m__law_numbers [] (aCons (eV 0) (aCons (eV 8) (aCons (eOp fIx (eMeth "Body" "sizes" m_Body_sizes [] (eV 1) aNil) (eC (.int 2))) aNil)))) aNil)) aNil))))) sNil)
    (sRet (eIf (cB (eOp (fInX false) (eV 3) (eTup (aCons (eC (.str "fetch")) (aCons (eC (.str "forget")) aNil))))) (eCall m__law_store_deed [] (aCons (eV 0) (aCons (eV 1) (aCons (eV 3) aNil)))) (eTup (aCons (eV 3) (aCons (eV 5) aNil)))))))))))))))))))
noncomputable def m__law_after : MFn := mFn 4 (sSeq (sAsg (eSlT (eV 1) oNone (oSome (eC (.int 2)))) (gT (gNC (gN 2) (gNC (gN 3) gN0))))
    (sSeq (sIf (cB (eOp fEq (eV 2) (eC (.str "lay")))) (sRet (eCall m__law_lay_after [] (aCons (eV 0) (aCons (eV 1) aNil)))) sNil)
    (sSeq (sIf (cB (eOp fEq (eV 2) (eC (.str "merge")))) (sRet (eCall m__law_merge_after [] (aCons (eV 0) (aCons (eV 1) aNil)))) sNil)
    (sSeq (sIf (cB (eOp (fInX false) (eV 2) (eTup (aCons (eC (.str "fetch")) (aCons (eC (.str "stash")) (aCons (eC (.str "forget")) aNil)))))) (sRet (eCall m__law_store_after [] (aCons (eV 0) (aCons (eV 1) aNil)))) sNil)
    (sSeq (sIf (cB (eOp fEq (eV 2) (eC (.str "turn")))) (sDPut (eDGetA 0 (eC (.str "tables"))) (eV 3) (eCall m__law_turned [] (aCons (eDGet (eDGetA 0 (eC (.str "tables"))) (eV 3)) (aCons (eOp fIx (eV 1) (eC (.int 2))) aNil)))) (sIf (cB (eOp fEq (eV 2) (eC (.str "total")))) (sDPut (eDGetA 0 (eC (.str "tables"))) (eV 3) (eCall m__law_totalled [] (aCons (eDGet (eDGetA 0 (eC (.str "tables"))) (eV 3)) (aCons (eOp fIx (eV 1) (eC (.int 2))) aNil)))) (sIf (cB (eOp fEq (eV 2) (eC (.str "drop")))) (sExpr (eDPop (eDGetA 0 (eC (.str "tables"))) (eV 3))) (sRet (eCall m__law_go_after [] (aCons (eV 0) (aCons (eV 1) aNil)))))))
    (sRet (eC .non)))))))
end Fb
namespace Fb
open PySem L2 Mm
noncomputable def m__law_do : MFn := mFn 2 (sRet (eWhyB ["BadName", "Taken", "Full", "NotMoving", "BadRows", "BadCells", "BadTurn", "BadDigits", "BadWord", "Unlike", "BadBanks", "NoBerth", "NoCell", "NoBank", "BadSize"] ["NoTable", "Moving", "NoStash"] (eCall m__law_act [] (aCons (eV 0) (aCons (eOp fIx (eV 1) (eC (.int 0))) (aCons (eSlT (eV 1) (oSome (eC (.int 1))) oNone) aNil))))))
noncomputable def m__law_new_body : MFn := mFn 2 (sSeq (sAsg (eCall m__law_wide [] (aCons (eV 0) aNil)) (gN 1))
    (sRet (eNewC "Body" m_BodyU_initU [] (aCat (aCons (eOp fIx (eV 1) (eC (.int 0))) (aCons (eOp fIx (eV 1) (eC (.int 1))) aNil)) (aCons (eOp fIx (eV 1) (eC (.int 2))) aNil)))))
noncomputable def m_FoldU_lenU : MFn := mFn 1 (sRet (eCB fLen (aCons (eFld "Fold" "lines" (eV 0)) aNil)))
end Fb
namespace Mm
open PySem L2
section
variable {X : Cx} {Y : Gam} {W : WX} {o e : Expr} {to te : TE} {mo me : ME} {pos : Pos}
/-- o.append(e), o told a list that is a cell -/
def sAppE (mo me : ME) : MS := fun env S => (mo env S).out env fun d0 S0 => (match d0 with
  | .ref n => (match S0[n]? with
    | some (.lst _) => (me env S0).out env fun d S1 => (match S1[n]? with
      | some (.lst ds) => if szB (ds.length + 1) then .nx env (S1.set n (.lst (ds ++ [d]))) else .stuck
      | _ => .stuck)
    | _ => .stuck)
  | _ => .stuck)
end
end Mm
namespace Mm
open PySem L2
@[simp] theorem sAppE_eq (mo me : ME) (env : Envr) (S : Sto) : sAppE mo me env S = (mo env S).out env fun d0 S0 => (match d0 with
  | .ref n => (match S0[n]? with
    | some (.lst _) => (me env S0).out env fun d S1 => (match S1[n]? with
      | some (.lst ds) => if szB (ds.length + 1) then .nx env (S1.set n (.lst (ds ++ [d]))) else .stuck
      | _ => .stuck)
    | _ => .stuck)
  | _ => .stuck) := rfl
end Mm
namespace Mm
open PySem PySem.Spec PyProof.Rows L2
/-! ### for x in (lambda: .., lambda: ..): what slot x holds is known at each turn -/
theorem KC.mono {w0 : Wd} {H0 : Hp} {w w' : Wd} {c' : Addr} {q : Str} (k : KC w0 H0 w c' q) (l : w.le w') : KC w0 H0 w' c' q := k.imp id (l.ex _ _)
def KnS (X : Cx) (j : Nat) (p : LSp) (w0 : Wd) (H0 : Hp) (w : Wd) (σ : L2.St) : Prop := ∃ f c', σ[j]? = some (some (.ref f)) ∧ w.G f = some (FnO X p.params p.body p.scope f c') ∧ KC w0 H0 w c' (X.env.qual ++ "<lambda>")
theorem KnS.mono {X : Cx} {j : Nat} {p : LSp} {w0 : Wd} {H0 : Hp} {w w' : Wd} {σ : L2.St} (k : KnS X j p w0 H0 w σ) (l : w.le w') : KnS X j p w0 H0 w' σ := by
  obtain ⟨f, c', e1, e2, e3⟩ := k
  exact ⟨f, c', e1, l.ex _ _ e2, e3.mono l⟩
def SimEK (X : Cx) (Y : Gam) (W : WX) (j : Nat) (p : LSp) (t : TE) (m : ME) : Prop := ∀ w0 H0 w H σ env S O (Q : VK), StR Y w0 H0 w H σ env S O → KnS X j p w0 H0 w σ →
  PostX Y W w0 H0 w σ env O (m env S) (fun d _ w' H' => ∀ v, Rep Y w' d v → Q v H') → t σ H Q
def SimTK (X : Cx) (Y : Gam) (W : WX) (j : Nat) (p : LSp) (t : TT) (m : MT) : Prop := ∀ w0 H0 w H σ env S O (Q : Bool → Hp → Prop), StR Y w0 H0 w H σ env S O → KnS X j p w0 H0 w σ →
  PostX Y W w0 H0 w σ env O (m env S) (fun k _ _ H' => Q k H') → t σ H Q
def SimSK (X : Cx) (Y : Gam) (W : WX) (j : Nat) (p : LSp) (t : TS) (m : MS) : Prop := ∀ w0 H0 w H σ env S O (Dn : Ends), StR Y w0 H0 w H σ env S O → KnS X j p w0 H0 w σ →
  PostS Y W w0 H0 w Dn (m env S) → t Dn σ H
section
variable {X : Cx} {Y : Gam} {W : WX} {cs : List Str} {k j : Nat} {x : Str} {p : LSp} {Ls : List LSp} {ta tb te : TE} {ma mb me : ME} {tt : TT} {mt : MT} {t1 t2 : TS} {m1 m2 : MS}
/-- lambdas, one by one -/
inductive LamE (X : Cx) (Y : Gam) (k : Nat) : List Expr → List LSp → TA → Prop where
  | nil : LamE X Y k [] [] tNil
  | cons {params : Arguments} {body : Expr} {scope : Scope} {me : ME} {pos : Pos} {es : List Expr} {ls : List LSp} {t : TA} (h : LSpOk X Y k ⟨params, body, scope, me⟩) (hd : defaultsOf params X.env = ([], []))
    (hs : starEach (.Lambda params body scope pos :: es) X.env = (false, eval (.Lambda params body scope pos) X.env) :: starEach es X.env) (r : LamE X Y k es ls t) : LamE X Y k (.Lambda params body scope pos :: es) (⟨params, body, scope, me⟩ :: ls) (tCons (tLamX X Y.T ⟨params, body, scope, me⟩) t)
theorem LamE.pa {es : List Expr} {ls : List LSp} {t : TA} (P : LamE X Y k es ls t) (M : Mkr X Y) : PA X es t := by
  induction P with
  | nil => exact pa_nil
  | cons h hd hs _ ih => exact pa_cons (pe_lamX M h.L hd) ih hs
theorem LamE.ok {es : List Expr} {ls : List LSp} {t : TA} (P : LamE X Y k es ls t) : ∀ p ∈ ls, LSpOk X Y k p := by
  induction P with
  | nil => exact fun p h => by cases h
  | cons h hd hs _ ih =>
    intro p hp
    rcases List.mem_cons.mp hp with rfl | hp
    · exact h
    · exact ih p hp
def AllK (X : Cx) (w0 : Wd) (H0 : Hp) (w : Wd) : List LSp → List Addr → Prop
  | [], [] => True
  | p :: ls, f :: fs => (∃ c', w.G f = some (FnO X p.params p.body p.scope f c') ∧ KC w0 H0 w c' (X.env.qual ++ "<lambda>")) ∧ AllK X w0 H0 w ls fs
  | _, _ => False
theorem AllK.mono {w0 : Wd} {H0 : Hp} {w w' : Wd} (l : w.le w') : ∀ {ls : List LSp} {fs : List Addr}, AllK X w0 H0 w ls fs → AllK X w0 H0 w' ls fs
  | [], [], _ => trivial
  | p :: ls, f :: fs, h => by
    obtain ⟨⟨c', e1, e2⟩, h2⟩ := h
    exact ⟨⟨c', l.ex _ _ e1, e2.mono l⟩, AllK.mono l h2⟩
theorem LamE.sim {es : List Expr} {ls : List LSp} {t : TA} (P : LamE X Y k es ls t) {w0 : Wd} {H0 : Hp} {σ : L2.St} {env : Envr} {S : Sto} {O : List (Option Addr)} : ∀ {w : Wd} {H : Hp} {Q : List V → Hp → Prop}, StR Y w0 H0 w H σ env S O →
    (∀ w' H' fs, StR Y w0 H0 w' H' σ env S O → w.le w' → AllK X w0 H0 w' ls fs → Q (fs.map V.ref) H') → t σ H Q := by
  induction P with
  | nil => exact fun {w H Q} st h => h w H [] st (.refl w) trivial
  | cons hL hd hs r ih =>
    intro w H Q st h
    refine ⟨st.ok.tabs, fun f c' H1 eN dm T2 hf hc hn htb => ?_⟩
    obtain ⟨w1, st1, l1, g1, k1⟩ := lam_step st eN dm T2 hf hc hn htb
    exact ih st1 fun w2 H2 fs st2 l2 a2 => h w2 H2 (f :: fs) st2 (l1.trans l2) ⟨⟨c', l2.ex _ _ g1, k1.mono l2⟩, a2⟩
/-- a body's mirror for each lambda -/
inductive BodK (X : Cx) (Y : Gam) (W : WX) (j : Nat) (t : TS) : List LSp → List MS → Prop where
  | nil : BodK X Y W j t [] []
  | cons {p : LSp} {ls : List LSp} {m : MS} {ms : List MS} (h : SimSK X Y W j p t m) (r : BodK X Y W j t ls ms) : BodK X Y W j t (p :: ls) (m :: ms)
def forX (j : Nat) : List MS → MS
  | [], env, S => .nx env S
  | m :: ms, env, S => if Nat.blt j env.length then (match m (env.set j .no) S with
    | .nx e S1 => forX j ms e S1
    | .ct e S1 => forX j ms e S1
    | .bk e S1 => .nx e S1
    | o => o) else .stuck
theorem AllK.len {w0 : Wd} {H0 : Hp} {w : Wd} : ∀ {ls : List LSp} {fs : List Addr}, AllK X w0 H0 w ls fs → fs.length = ls.length
  | [], [], _ => rfl
  | p :: ls, f :: fs, h => by rw [List.length_cons, List.length_cons, AllK.len h.2]
end
end Mm
namespace Mm
open PySem L2
@[simp] theorem forX_nil (j : Nat) (env : Envr) (S : Sto) : forX j [] env S = .nx env S := rfl
@[simp] theorem forX_cons (j : Nat) (m : MS) (ms : List MS) (env : Envr) (S : Sto) : forX j (m :: ms) env S = if Nat.blt j env.length then (match m (env.set j .no) S with
  | .nx e S1 => forX j ms e S1
  | .ct e S1 => forX j ms e S1
  | .bk e S1 => .nx e S1
  | o => o) else .stuck := rfl
end Mm
namespace Mm
open PySem PySem.Spec PyProof.Rows L2
section
variable {X : Cx}
/-! ### a list comprehension whose element sees its maker -/
end
end Mm
namespace Mm
open PySem PySem.Spec PyProof.Rows L2
/-! ### `_law_tried(x)` in a comprehension, x its own name that holds one of some tracked lambdas of the maker -/
def tTriedB (X : Cx) (Y : Gam) (W : WX) (cs : List Str) (i : Nat) (Ls : List LSp) (vs : List Nat) (σM : L2.St) : TE := fun σB H Q => ∃ p ∈ Ls, ∃ f c' w0 H0 w env S O, σB[i]? = some (some (.ref f)) ∧ H f = some (FnO X p.params p.body p.scope f c') ∧ H c' = some (LamX.CodeO c' (X.env.qual ++ "<lambda>")) ∧
  StR Y w0 H0 w H (wipe σM vs) env S O ∧ PostX Y W w0 H0 w (wipe σM vs) env O (tryW cs (p.me (wipeE env []) S)) (fun d _ w' H' => ∀ v, Rep Y w' d v → Q v H')
section
variable {X : Cx} {Y : Gam} {W : WX} {cs : List Str} {k i : Nat} {x : Str} {Ls : List LSp} {p0 px pos : Pos}
end
end Mm
namespace Mm
open PySem PySem.Spec PyProof.Rows L2
/-! ### xs = [lambda: ..]; xs.append(lambda: ..); .. [.. x .. for x in xs]: slot j holds a list of known lambdas -/
def KL (X : Cx) (Y : Gam) (j : Nat) (ls : List LSp) (w0 : Wd) (H0 : Hp) (w : Wd) (H : Hp) (σ : L2.St) (env : Envr) (S : Sto) (O : List (Option Addr)) : Prop :=
  ∃ fs la, StR Y w0 H0 w H σ (env.set j (.o (.lst (fs.map D.adr)))) S (O.set j (some la)) ∧ AllK X w0 H0 w ls fs ∧ j < env.length
def SimSL (X : Cx) (Y : Gam) (W : WX) (j : Nat) (ls : List LSp) (t : TS) (m : MS) : Prop := ∀ w0 H0 w H σ env S O (Dn : Ends), KL X Y j ls w0 H0 w H σ env S O →
  PostS Y W w0 H0 w Dn (m (env.set j .no) S) → t Dn σ H
def SimEL (X : Cx) (Y : Gam) (W : WX) (j : Nat) (ls : List LSp) (t : TE) (m : ME) : Prop := ∀ w0 H0 w H σ env S O (Q : VK), KL X Y j ls w0 H0 w H σ env S O →
  PostX Y W w0 H0 w σ (env.set j .no) (O.set j none) (m (env.set j .no) S) (fun d _ w' H' => ∀ v, Rep Y w' d v → Q v H') → t σ H Q
/-- an element's sim: slot i holds one known lambda of the maker, whose slots are as in σM but for own -/
def SimEB (X : Cx) (Y : Gam) (W : WX) (i : Nat) (p : LSp) (own : List Nat) (σM : L2.St) (t : TE) (m : ME) : Prop := ∀ w0 H0 w H σ env S O (Q : VK), StR Y w0 H0 w H σ env S O → KnS X i p w0 H0 w σ → wipe σ own = wipe σM own →
  PostX Y W w0 H0 w σ env O (m env S) (fun d _ w' H' => ∀ v, Rep Y w' d v → Q v H') → t σ H Q
def eTriedB (cs : List Str) (own : List Nat) (me : ME) : ME := fun env S => tryW cs (me (wipeE (wipeE env own) []) S)
section
variable {X : Cx} {Y : Gam} {W : WX} {cs : List Str} {k i j : Nat} {p : LSp} {Ls ls : List LSp} {own : List Nat} {σM : L2.St}
variable {w0 w w2 : Wd} {H0 H H2 : Hp} {σ σ2 : L2.St} {env env2 : Envr} {S S2 : Sto} {O O2 : List (Option Addr)}
theorem KL.drop (h : KL X Y j ls w0 H0 w H σ env S O) : StR Y w0 H0 w H σ (env.set j .no) S (O.set j none) := by
  obtain ⟨fs, la, st, _, _⟩ := h
  have st0 := st.noV j
  rwa [List.set_set, List.set_set] at st0
def lamsR : List ME → Envr → Sto → R (List D)
  | [], _, S => .ok [] S
  | m :: ms, env, S => match m env S with
    | .ok d S1 => (lamsR ms env S1).bind fun ds S2 => .ok (d :: ds) S2
    | _ => .stuck
def fLams (i : Nat) (own : List Nat) (ms : List ME) : MF := fun env S => if Nat.blt i env.length then (lamsR ms ((wipeE env own).set i .no) S).bind fin else .stuck
end
end Mm
namespace Mm
open PySem PySem.Spec PyProof.Rows L2
/-! ### a list of lambdas, statement by statement -/
structure SEL (X : Cx) (Y : Gam) (W : WX) (j : Nat) (ls : List LSp) (e : Expr) (t : TE) (m : ME) : Prop where
  pe : PE X e t
  sim : SimEL X Y W j ls t m
structure SBL (X : Cx) (Y : Gam) (W : WX) (j : Nat) (ls : List LSp) (ss : List Stmt) (t : TS) (m : MS) : Prop where
  pss : PSs X ss t
  sim : SimSL X Y W j ls t m
def sNo (j : Nat) (m : MS) : MS := fun env S => if Nat.blt j env.length then m (env.set j .no) S else .stuck
section
variable {X : Cx} {Y : Gam} {W : WX} {cs : List Str} {k i j : Nat} {x xs : Str} {p : LSp} {Ls ls : List LSp} {ta tb te : TE} {ma mb me : ME} {a b : Expr} {t t1 : TS} {m : MS} {ss : List Stmt} {pos : Pos}
end
end Mm
namespace Mm
open PySem L2
section
variable {X : Cx} {Y : Gam} {W : WX} {a b c : Expr} {t : TA} {m : MA} {pos : Pos}
/-- x, y, z = a, b, c of plain local names -/
def sPar3 (i j l : Nat) (m : MA) : MS := fun env S => (m env S).out env fun ds S1 => match ds with
  | [d1, d2, d3] => .nx (((env.set i (.v d1)).set j (.v d2)).set l (.v d3)) S1
  | _ => .stuck
@[simp] theorem sPar3_eq (i j l : Nat) (m : MA) (env : Envr) (S : Sto) : sPar3 i j l m env S = (m env S).out env fun ds S1 => match ds with
  | [d1, d2, d3] => .nx (((env.set i (.v d1)).set j (.v d2)).set l (.v d3)) S1
  | _ => .stuck := rfl
end
end Mm
namespace Mm
open PySem L2
@[simp] theorem sNo_eq (j : Nat) (m : MS) (env : Envr) (S : Sto) : sNo j m env S = if Nat.blt j env.length then m (env.set j .no) S else .stuck := rfl
@[simp] theorem fLams_eq (i : Nat) (own : List Nat) (ms : List ME) (env : Envr) (S : Sto) : fLams i own ms env S = if Nat.blt i env.length then (lamsR ms ((wipeE env own).set i .no) S).bind fin else .stuck := rfl
@[simp] theorem lamsR_nil (env : Envr) (S : Sto) : lamsR [] env S = .ok [] S := rfl
@[simp] theorem eTriedB_eq (cs : List Str) (own : List Nat) (me : ME) (env : Envr) (S : Sto) : eTriedB cs own me env S = tryW cs (me (wipeE (wipeE env own) []) S) := rfl
end Mm
namespace Mm
open PySem PySem.Spec PyProof.Rows L2
/-! ### `_law_why(x)` in a comprehension, x its own name that holds one of some tracked lambdas of the maker -/
def tWhyV (X : Cx) (Y : Gam) (W : WX) (cs fs : List Str) (i : Nat) (Ls : List LSp) (vs : List Nat) (σM : L2.St) : TE := fun σB H Q => ∃ p ∈ Ls, ∃ f c' w0 H0 w env S O, σB[i]? = some (some (.ref f)) ∧ H f = some (FnO X p.params p.body p.scope f c') ∧ H c' = some (LamX.CodeO c' (X.env.qual ++ "<lambda>")) ∧
  StR Y w0 H0 w H (wipe σM vs) env S O ∧ PostX Y W w0 H0 w (wipe σM vs) env O (whyBW cs fs (p.me (wipeE env []) S)) (fun d _ w' H' => ∀ v, Rep Y w' d v → Q v H')
section
variable {X : Cx} {Y : Gam} {W : WX} {cs fs : List Str} {k i : Nat} {x : Str} {Ls : List LSp} {p0 px pos : Pos}
end
def eWhyV (cs fs : List Str) (own : List Nat) (me : ME) : ME := fun env S => whyBW cs fs (me (wipeE (wipeE env own) []) S)
def SimAB (X : Cx) (Y : Gam) (W : WX) (i : Nat) (p : LSp) (own : List Nat) (σM : L2.St) (t : TA) (m : MA) : Prop := ∀ w0 H0 w H σ env S O (Q : List V → Hp → Prop), StR Y w0 H0 w H σ env S O → KnS X i p w0 H0 w σ → wipe σ own = wipe σM own →
  PostX Y W w0 H0 w σ env O (m env S) (fun ds _ w' H' => ∀ vs, RepL Y w' ds vs → Q vs H') → t σ H Q
section
variable {X : Cx} {Y : Gam} {W : WX} {cs fs : List Str} {k i j n : Nat} {x xs : Str} {p : LSp} {Ls ls : List LSp} {own : List Nat} {σM : L2.St} {te : TE} {me : ME} {t : TA} {m : MA} {dvs : List V} {dd : List D} {mf : MFn}
end
/-! ### tests and statements that see the list -/
def SimTL (X : Cx) (Y : Gam) (W : WX) (j : Nat) (ls : List LSp) (t : TT) (m : MT) : Prop := ∀ w0 H0 w H σ env S O (Q : Bool → Hp → Prop), KL X Y j ls w0 H0 w H σ env S O →
  PostX Y W w0 H0 w σ (env.set j .no) (O.set j none) (m (env.set j .no) S) (fun k _ _ H' => Q k H') → t σ H Q
structure SCL (X : Cx) (Y : Gam) (W : WX) (j : Nat) (ls : List LSp) (e : Expr) (t : TT) (m : MT) : Prop where
  pt : PT X e t
  sim : SimTL X Y W j ls t m
section
variable {X : Cx} {Y : Gam} {W : WX} {cs fs : List Str} {k i j n : Nat} {x xs : Str} {ls : List LSp} {e a c : Expr} {es : List Expr} {te ta : TE} {me ma : ME} {tt : TT} {mt : MT} {t : TA} {m : MA} {t1 t2 t3 : TS} {m1 m2 m3 : MS} {pos p : Pos} {ss : List Stmt}
end
end Mm
namespace Mm
open PySem L2
@[simp] theorem eWhyV_eq (cs fs : List Str) (own : List Nat) (me : ME) (env : Envr) (S : Sto) : eWhyV cs fs own me env S = whyBW cs fs (me (wipeE (wipeE env own) []) S) := rfl
end Mm
namespace Mm
open PySem L2
/-! ### [.. for x in xs for y in ys] -/
def lcR2 (g : MG) (tt : MT) (mi1 : MI) (g1 : MG) (tt1 : MT) (te : ME) (vs1 : List Nat) (env : Envr) : List D → Sto → R (List D)
  | [], S => .ok [] S
  | d :: ds, S => match g d env with
    | none => .stuck
    | some e1 => match tt e1 S with
      | .ok true S1 => (match mi1 e1 S1 with
        | .ok ds1 S2 => (lcR g1 tt1 te (wipeE e1 vs1) ds1 S2).bind fun ys S3 => (lcR2 g tt mi1 g1 tt1 te vs1 env ds S3).bind fun zs S4 => .ok (ys ++ zs) S4
        | _ => .stuck)
      | .ok false S1 => lcR2 g tt mi1 g1 tt1 te vs1 env ds S1
      | _ => .stuck
def fLc2 (mi : MI) (g : MG) (tt : MT) (mi1 : MI) (g1 : MG) (tt1 : MT) (te : ME) (vs vs1 : List Nat) : MF := fun env S => (mi env S).bind fun ds S1 => (lcR2 g tt mi1 g1 tt1 te vs1 (wipeE env vs) ds S1).bind fin
section
variable {g : Gam} {W : WX} {wi wi1 : TI} {mi mi1 : MI} {tg tg1 : TG} {mg mg1 : MG} {tt tt1 : TT} {mt mt1 : MT} {te : TE} {me : ME} {is is1 vs vs1 : List Nat}
end
section
variable {X : Cx} {Y : Gam} {W : WX} {tg iter tg1 iter1 elt : Expr} {ifs ifs1 : List Expr} {te : TE} {me : ME} {tt tt1 : TT} {mt mt1 : MT} {wi wi1 : TI} {mi mi1 : MI} {scope : Scope} {own : List (Str × Nat)} {is is1 vs1 : List Nat} {g g1 : TG} {mg mg1 : MG} {pos : Pos}
end
end Mm
namespace Mm
open PySem L2
section
variable {X : Cx} {Y : Gam} {W : WX} {o e : Expr} {to te : TE} {mo me : ME} {apos pos : Pos}
/-! ### sep.join(xs), xs a list or tuple of texts -/
def joinB (a : Str) (ys : List Str) : Bool := Nat.ble ((ys.map (·.length)).sum + ys.length * a.length) 16777216
def eJoin (mo me : ME) : ME := fun env S => (mo env S).bind fun a S1 => match a with
  | .str x => (me env S1).bind fun b S2 => (match b with
    | .lst ds => (match strsOf ds with
      | some ys => if joinB x ys then .ok (.str (Txt.join x ys)) S2 else .stuck
      | none => .stuck)
    | .tup ds => (match strsOf ds with
      | some ys => if joinB x ys then .ok (.str (Txt.join x ys)) S2 else .stuck
      | none => .stuck)
    | _ => .stuck)
  | _ => .stuck
@[simp] theorem eJoin_eq (mo me : ME) (env : Envr) (S : Sto) : eJoin mo me env S = (mo env S).bind fun a S1 => match a with
  | .str x => (me env S1).bind fun b S2 => (match b with
    | .lst ds => (match strsOf ds with
      | some ys => if joinB x ys then .ok (.str (Txt.join x ys)) S2 else .stuck
      | none => .stuck)
    | .tup ds => (match strsOf ds with
      | some ys => if joinB x ys then .ok (.str (Txt.join x ys)) S2 else .stuck
      | none => .stuck)
    | _ => .stuck)
  | _ => .stuck := rfl
end
end Mm
namespace Mm
open PySem PySem.Spec PyProof.Rows L2 PySem.SeqAt
/-! ### a != b of own things whose class has __eq__ only -/
section
variable {M : Model} {prog : Program} {w : World} {A : Around} {E : Value → Shared → Prop} {s : Shared} {K : PySem.W.Frag} {x C f : Addr} {ox : Obj} {od : Option Obj} {b tb : Value}
theorem ifBound_objNe {args : List Value} {Q : Option Value → Shared → Prop} (X : K.In s.heap) (I : PySem.W.InstAt s.heap x ox C od) (hs : PySem.W.findIn K (.ref C) "__ne__" = some (some (.builtin "object.__ne__")))
    (h : wpAny M A (call (.builtin "object.__ne__") (.ref x :: args)) (fun v => Q (some v)) E s) : wpAny M A (callSpecialIfBound? (.ref x) "__ne__" args) Q E s := by
  simp only [callSpecialIfBound?, bindSpecialIfBound?]
  refine wpAny_holding (wpAny_bind (wpAny_bind (wpAny_bind (I.type.here ((PySem.W.looks_findIn X hs).here ?_)))))
  refine wpAny_bind (wpAny_askSetting (wpAny_ite ?_))
  have fin : wpAny M A (call (.builtin "object.__ne__") ([.ref x] ++ args) >>= fun v => pure (some v)) Q E s := wpAny_bind (wpAny_mono h (fun v s' h' => wpAny_pure h') fun _ _ h' => h')
  split
  · exact wpAny_bind (wpAny_of_eq (F.cmp_object.ne.bind _) (wpAny_pure (by exact fin)))
  · exact wpAny_tryCatch (wpAny_bind (wpAny_of_eq (F.cmp_object.ne.bind _) (wpAny_pure (by exact fin))))
theorem objNe_entry {Q : Fin → Shared → Prop} (X : K.In s.heap) (I : PySem.W.InstAt s.heap x ox C od) (hs : PySem.W.findIn K (.ref C) "__eq__" = some (some (.ref f))) (hf : PySem.W.isFn K (.ref f) = true) (hu : A.units < cLine)
    (h : wpAny (model prog w) A (call (.ref f) [.ref x, b]) (fun v s' => ∃ k, v = .bool k ∧ Q (.done (.ret (.bool (!k)))) s') E s) : wpAny (model prog w) A (Builtin.«object.__ne__» ⟨[.ref x, b], []⟩) Q E s := by
  unfold Builtin.«object.__ne__»
  repeat (first
    | with_reducible refine wpAny_cRoomFor hu ?_
    | (refine wpAny_bind (m := callSpecialIfBound? (.ref x) (Str.ofString "__eq__") [b])
        (PySem.W.ifBound_K X I hs hf (wpAny_mono h (fun r s' hr => by
          obtain ⟨b, rfl, hq⟩ := hr
          repeat (first | exact hq | exact wpAny_pure hq | exact wpAny_truthy_bool hq | (refine wpAny_bind (m := truthy (.bool _)) (wpAny_truthy_bool ?_)) | wp_step)) fun _ _ e => e)))
    | wp_step)
theorem cmp_neK {Q : Value → Shared → Prop} (hu : A.units + 1 < cLine) (X : K.In s.heap) (I : PySem.W.InstAt s.heap x ox C od) (hb : PySem.W.Looks (model prog w) s.heap (typeOf b) tb) (hn : PySem.W.notFirst K C tb = true)
    (hs : PySem.W.findIn K (.ref C) "__eq__" = some (some (.ref f))) (hf : PySem.W.isFn K (.ref f) = true) (hne : PySem.W.findIn K (.ref C) "__ne__" = some (some (.builtin "object.__ne__"))) (hm : PySem.W.mroIn K C (.type "object") = some true)
    (h : wpAny (model prog w) A.in1 (call (.ref f) [.ref x, b]) (fun v s' => ∃ k, v = .bool k ∧ Q (.bool (!k)) s') E s) : wpAny (model prog w) A (richCompare .NotEq (.ref x) b) Q E s := by
  have one : wpAny (model prog w) A (tryCompare (.ref x) "__ne__" b) (fun r s' => ∃ v, r = some v ∧ Q v s') E s := by
    unfold tryCompare
    refine wpAny_bind (ifBound_objNe X I hne (wpAny_call (codeAny_call_builtin F.cmp_object.ne.plain F.cmpEntry_ne (PySem.W.check_slot F.cmpKind_ne F.cmpSplit_ne (I.type.andThen (PySem.W.looks_mroIn X hm)) (F.cmpArgs_ne _ _)
      (objNe_entry (A := A.in1) X I hs hf hu (wpAny_mono h (fun v s' hv => ?_) fun _ _ e => e))))))
    obtain ⟨k, rfl, hq⟩ := hv
    first | exact ⟨k, rfl, wpAny_pure ⟨_, rfl, hq⟩⟩ | exact ⟨k, rfl, wpAny_pure (wpAny_pure ⟨_, rfl, hq⟩)⟩
  unfold richCompare
  simp only [oneThing_ref]
  refine wpAny_holding (wpAny_bind (wpAny_cRoomFor (Nat.lt_of_succ_lt hu) ?_))
  rw [cmpInfo_NotEq]
  dsimp only
  refine wpAny_bind (I.type.here (wpAny_bind (hb.here ?_)))
  split
  · rename_i q
    have e : PySem.W.subIn K tb (.ref C) = some false := by
      rcases Bool.or_eq_true_iff.mp hn with e | e
      · rw [beq_iff_eq.mp e] at q; simp at q
      · exact beq_iff_eq.mp e
    refine wpAny_bind ((PySem.W.looks_subIn X e).here ?_)
    simp only [Bool.false_eq_true, if_false]
    refine wpAny_bind (wpAny_mono one (fun r s' z => ?_) fun _ _ e => e)
    obtain ⟨v, rfl, hq⟩ := z
    exact wpAny_pure hq
  · refine wpAny_bind (wpAny_pure ?_)
    simp only [Bool.false_eq_true, if_false]
    refine wpAny_bind (wpAny_mono one (fun r s' z => ?_) fun _ _ e => e)
    obtain ⟨v, rfl, hq⟩ := z
    exact wpAny_pure hq
end
section
variable {X : Cx} {Y : Gam} {W : WX} {a b : Expr} {ta tb : TE} {ma mb : ME} {pos : Pos} {k n : Nat} {fa C : Addr} {fd : FuncData} {ps : List Str} {mfn : MFn} {ds : List Value}
def rNeI (C : Addr) (sp : Sp) (E : XK) : R2 := fun x y H Q => ∃ a b dx dy fs gs, x = .ref a ∧ y = .ref b ∧ H a = some (.ins C dx fs) ∧ H b = some (.ins C dy gs) ∧ sp [x, y] H (fun v H' => ∃ k, v = .bl k ∧ Q (.bl (!k)) H') E
theorem op_neI {CX : CXT} {sp : Sp} {E : XK} (F : FnOk X.prog X.w X.K X.mg X.base CX n fa fd ps sp) (hr : Room (n + 1) X.A)
    (hs : PySem.W.findIn X.K (.ref C) "__eq__" = some (some (.ref fa))) (hf : PySem.W.isFn X.K (.ref fa) = true) (hne : PySem.W.findIn X.K (.ref C) "__ne__" = some (some (.builtin "object.__ne__"))) (hm : PySem.W.mroIn X.K C (.type "object") = some true) (hb : Binds X.K fd ps []) (hx : Passes CX X E) : OpR X (compareOp .NotEq) (rNeI C sp E) := by
  intro pins s σ H x y u v Q I rx ry d
  obtain ⟨a, b, dx, dy, fs, gs, rfl, rfl, ha, hb', hsp⟩ := d
  cases rx
  cases ry
  obtain ⟨mA, J, _⟩ := ins_get I.hok ha
  obtain ⟨mB, J', _⟩ := ins_get I.hok hb'
  obtain ⟨od, J, _⟩ := J.look
  obtain ⟨od', J', _⟩ := J'.look
  show wpAny (model X.prog X.w) X.A (richCompare .NotEq (.ref a) (.ref b)) (EP X pins σ Q) X.xe s
  have hu : X.A.units + 1 < cLine := by have := hr.units; omega
  refine cmp_neK (tb := .ref C) hu I.kIn J J'.type (by simp [PySem.W.notFirst]) hs hf hne hm ?_
  have hl := F.len _ _ _ _ hsp
  have r2 : Vals [V.ref a, V.ref b] [Value.ref a, Value.ref b] := .cons rfl (.cons rfl .nil)
  refine wpAny_call (codeAny_mono (F.run X.A.in1 X.stack s H ⟨[.ref a, .ref b], []⟩ [.ref a, .ref b] [.ref a, .ref b] _ E hr.in1 I.env0.in1 (by
    have := hb s [.ref a, .ref b] I.kIn (by simpa using hl)
    simpa using this) r2 hsp) fun r s' hq => ?_)
  cases r with
  | error e => exact hx pins σ H s e s' I hq
  | ok fl =>
    cases fl with
    | ret w =>
      obtain ⟨z, H', I', rz, kk, ez, q⟩ := I.after hq
      subst ez
      cases rz
      exact ⟨kk, rfl, .bl (!kk), H', I', rfl, q⟩
    | next => exact False.elim hq
    | brk => exact False.elim hq
    | cont => exact False.elim hq
def eNeI (c : Str) (f : MFn) (ma mb : ME) : ME := fun env S => (ma env S).bind fun d1 S1 => (mb env S1).bind fun d2 S2 => match insOf c S2 d1, insOf c S2 d2, f [d1, d2] S2 with
  | some _, some _, .ok (.val (.bl k)) S3 => .ok (.bl (!k)) S3
  | _, _, _ => .stuck
/-- object.__ne__ is what a class has -/
structure NeC (K : PySem.W.Frag) (C : Addr) : Prop where
  ne : PySem.W.findIn K (.ref C) "__ne__" = some (some (.builtin "object.__ne__"))
  ob : PySem.W.mroIn K C (.type "object") = some true
  li : PySem.W.kitOne K (.type "list") (.ref C) = some false
theorem s_neI (c : Str) (F : FnOk X.prog X.w X.K X.mg X.base (L2N.CX X.prog X.w) n fa fd ps (spOf Y 2 mfn)) (hr : Room (n + 1) X.A) (hM : Meth X.K (Y.ca c) "__eq__" fa) (hn : NeC X.K (Y.ca c)) (hb : Binds X.K fd ps []) (ha : SE X Y W a ta ma) (hb' : SE X Y W b tb mb) :
    SE X Y W (.Compare a [.NotEq] [b] pos) (tOp (rNeI (Y.ca c) (spOf Y 2 mfn) E0) ta tb) (eNeI c mfn ma mb) := ⟨pe_cmpR (op_neI F hr hM.at_ hM.fn hn.ne hn.ob hb passN) ha.pe hb'.pe (nobehind _ (by decide) (by decide)), fun w0 H0 w H σ env S O Q st p =>
  ha.sim w0 H0 w H σ env S O _ st ((PostX.bind p).imp fun d1 S1 w1 H1 st1 l1 p1 v1 r1 => hb'.sim w0 H0 w1 H1 σ env S1 O _ st1 ((PostX.bind p1).imp fun d2 S2 w2 H2 st2 l2 p2 v2 r2 => by
    split at p2
    · rename_i fs gs kk S3 h1 h2 h3
      obtain ⟨q1, dx, fv, x1, x2, x3⟩ := insOf_rep st2.ok (r1.mono l2) h1
      obtain ⟨q2, dy, gv, y1, y2, y3⟩ := insOf_rep st2.ok r2 h2
      refine ⟨q1, q2, dx, dy, fv, gv, x1, y1, x2, y2, rfl, w2, [d1, d2], S2, st2.ok, RepL.cons_ (r1.mono l2) (RepL.cons_ r2 RepL.nil_), ?_⟩
      rw [h3]
      intro w' H' v f k rv
      have ev : v = .bl kk := rep_bl (g := Y) (w := w') rv
      exact ⟨kk, ev, p2 w' H' (st2.after f k) f.le _ rep_bl'⟩
    · exact False.elim p2))⟩
/-! ### a == b, a an own thing, b a list -/
theorem sub_listK {K : PySem.W.Frag} {C : Addr} : PySem.W.subIn K (.type "list") (.ref C) = some false := by
  have e : fastBuiltinMro "list" = some [.type "list", .type "object"] := by decide +kernel
  show (fastBuiltinMro "list").map (·.contains (.ref C)) = some false
  rw [e]
  first
    | rfl
    | simp
def rEqL (C : Addr) (sp : Sp) (E : XK) : R2 := fun x y H Q => ∃ a b dx fs ys, x = .ref a ∧ y = .ref b ∧ H a = some (.ins C dx fs) ∧ H b = some (.lst ys) ∧ sp [x, y] H (fun v H' => ∃ k, v = .bl k ∧ Q v H') E
theorem op_eqL {CX : CXT} {sp : Sp} {E : XK} (F : FnOk X.prog X.w X.K X.mg X.base CX n fa fd ps sp) (hr : Room n X.A)
    (hs : PySem.W.findIn X.K (.ref C) "__eq__" = some (some (.ref fa))) (hf : PySem.W.isFn X.K (.ref fa) = true) (hb : Binds X.K fd ps []) (hx : Passes CX X E) : OpR X (compareOp .Eq) (rEqL C sp E) := by
  intro pins s σ H x y u v Q I rx ry d
  obtain ⟨a, b, dx, fs, ys, rfl, rfl, ha, hb', hsp⟩ := d
  cases rx
  cases ry
  obtain ⟨mA, J, _⟩ := ins_get I.hok ha
  obtain ⟨od, J, _⟩ := J.look
  obtain ⟨m, hF⟩ := I.fr
  obtain ⟨_, us, cap, r, ho⟩ := I.hok b _ hb'
  have tl : PySem.W.Looks (model X.prog X.w) s.heap (typeOf (.ref b)) (.type "list") := (PySem.W.Looks.ld ho).andThen .now
  show wpAny (model X.prog X.w) X.A (richCompare .Eq (.ref a) (.ref b)) (EP X pins σ Q) X.xe s
  refine PySem.W.cmp_K (op := .Eq) (tb := .type "list") hr.units0 hF I.ok.mod.kin J tl (by unfold PySem.W.notFirst; rw [sub_listK]; simp) hs hf ?_
  have hl := F.len _ _ _ _ hsp
  have r2 : Vals [V.ref a, V.ref b] [Value.ref a, Value.ref b] := .cons rfl (.cons rfl .nil)
  refine wpAny_call (codeAny_mono (F.run X.A X.stack s H ⟨[.ref a, .ref b], []⟩ [.ref a, .ref b] [.ref a, .ref b] _ E hr I.env0 (by
    have := hb s [.ref a, .ref b] I.kIn (by simpa using hl)
    simpa using this) r2 hsp) fun r s' hq => ?_)
  cases r with
  | error e => exact hx pins σ H s e s' I hq
  | ok fl =>
    cases fl with
    | ret w =>
      obtain ⟨z, H', I', rz, kk, ez, q⟩ := I.after hq
      subst ez
      cases rz
      exact ⟨.bl kk, H', I', rfl, q⟩
    | next => exact False.elim hq
    | brk => exact False.elim hq
    | cont => exact False.elim hq
def eEqL (c : Str) (f : MFn) (ma mb : ME) : ME := fun env S => (ma env S).bind fun d1 S1 => (mb env S1).bind fun d2 S2 => match insOf c S2 d1, d2, f [d1, d2] S2 with
  | some _, .lst _, .ok (.val (.bl k)) S3 => .ok (.bl k) S3
  | _, _, _ => .stuck
theorem s_eqL (c : Str) (F : FnOk X.prog X.w X.K X.mg X.base (L2N.CX X.prog X.w) n fa fd ps (spOf Y 2 mfn)) (hr : Room n X.A) (hM : Meth X.K (Y.ca c) "__eq__" fa) (hb : Binds X.K fd ps []) (ha : SE X Y W a ta ma) (hb' : SE X Y W b tb mb) :
    SE X Y W (.Compare a [.Eq] [b] pos) (tOp (rEqL (Y.ca c) (spOf Y 2 mfn) E0) ta tb) (eEqL c mfn ma mb) := ⟨pe_cmpR (op_eqL F hr hM.at_ hM.fn hb passN) ha.pe hb'.pe (nobehind _ (by decide) (by decide)), fun w0 H0 w H σ env S O Q st p =>
  ha.sim w0 H0 w H σ env S O _ st ((PostX.bind p).imp fun d1 S1 w1 H1 st1 l1 p1 v1 r1 => hb'.sim w0 H0 w1 H1 σ env S1 O _ st1 ((PostX.bind p1).imp fun d2 S2 w2 H2 st2 l2 p2 v2 r2 => by
    split at p2
    · rename_i fs ys kk S3 h1 h3
      obtain ⟨q1, dx, fv, x1, x2, x3⟩ := insOf_rep st2.ok (r1.mono l2) h1
      obtain ⟨q2, gv, y1, y2, y3⟩ := rep_lst r2
      refine ⟨q1, q2, dx, fv, gv, x1, y1, x2, st2.ok.ex _ _ y2, rfl, w2, [d1, .lst ys], S2, st2.ok, RepL.cons_ (r1.mono l2) (RepL.cons_ r2 RepL.nil_), ?_⟩
      rw [h3]
      intro w' H' v f k rv
      have ev : v = .bl kk := rep_bl (g := Y) (w := w') rv
      exact ⟨kk, ev, p2 w' H' (st2.after f k) f.le v (by rw [ev]; exact rep_bl')⟩
    · exact False.elim p2))⟩
end
end Mm
namespace Mm
open PySem L2
/-! ### for x in xs, xs told a list, a tuple or a list that is a cell (read as it stands at each turn) -/
def forLive (g : MG) (b : MS) (n : Nat) : Nat → Nat → MS
  | 0, _, _, _ => .stuck
  | m + 1, i, env, S => match S[n]? with
    | some (.lst ds) => (match ds[i]? with
      | none => .nx env S
      | some d => (match g d env with
        | none => .stuck
        | some e1 => (match b e1 S with
          | .nx e S1 => forLive g b n m (i + 1) e S1
          | .ct e S1 => forLive g b n m (i + 1) e S1
          | .bk e S1 => .nx e S1
          | o => o)))
    | _ => .stuck
def sForA (me : ME) (g : MG) (b : MS) : MS := fun env S => (me env S).out env fun d S1 => match d with
  | .lst ds => forL g b ds env S1
  | .tup ds => forL g b ds env S1
  | .ref n => forLive g b n 100001 0 env S1
  | _ => .stuck
section
variable {X : Cx} {Y : Gam} {W : WX} {te : TE} {me : ME} {t1 : TS} {m1 : MS} {is : List Nat} {tg : TG} {mg : MG} {iter tgE : Expr} {body : List Stmt} {pos : Pos}
theorem for_in {g : Gam} (hg : SimG g is tg mg) (hb : SimS g W t1 m1) {w0 w1 : Wd} {H0 H1 : Hp} {σ : L2.St} {env : Envr} {S1 : Sto} {O : List (Option Addr)} {Dn : Ends} {J : It} {ds : List D} (hJ : ItR g w1 J ds) (st1 : StR g w0 H0 w1 H1 σ env S1 O) (p1 : PostS g W w0 H0 w1 Dn (forL mg m1 ds env S1)) :
    ∃ Wm : Nat → Nat → L2.St → Hp → Prop, (∃ m, Wm 0 m σ H1) ∧ ∀ i m σ H, Wm i m σ H → (J.stop i H ∧ Dn.nx σ H) ∨ (J.go i H ∧ ∃ N : L2.St → Hp → Prop, (∀ σ' H', N σ' H' → ∃ m', m' < m ∧ Wm (i + 1) m' σ' H') ∧ ∀ x H', J.yld i H x H' → tg x σ H' fun σ2 H2 => t1 { Dn with nx := N, ct := N, bk := Dn.nx } σ2 H2) := by
  refine ⟨fun i m σ H => m + i = ds.length ∧ ∃ w env S O, StR g w0 H0 w H σ env S O ∧ w1.le w ∧ PostS g W w0 H0 w Dn (forL mg m1 (ds.drop i) env S), ⟨ds.length, by omega, w1, env, S1, O, st1, .refl w1, p1⟩, ?_⟩
  rintro i k σ2 H2 ⟨hk, w2, env2, S2, O2, st2, l2, p2⟩
  obtain ⟨hgo, hstop⟩ := hJ w2 H2 l2 st2.ok.ex
  by_cases hlt : i < ds.length
  · have ed : ds.drop i = ds[i] :: ds.drop (i + 1) := List.drop_eq_getElem_cons hlt
    obtain ⟨go, yld⟩ := hgo i ds[i] (List.getElem?_eq_getElem hlt)
    refine .inr ⟨go, fun σ' H' => ∃ w env S O, StR g w0 H0 w H' σ' env S O ∧ w1.le w ∧ PostS g W w0 H0 w Dn (forL mg m1 (ds.drop (i + 1)) env S), fun σ' H' h' => ⟨k - 1, by omega, by omega, h'⟩, fun x H' hy => ?_⟩
    obtain ⟨w3, gr, rx⟩ := yld x H' hy
    have st3 := st2.grow gr
    have l3 := gr.le st2.ok
    rw [ed] at p2
    unfold forL at p2
    cases z : mg ds[i] env2 with
    | none => rw [z] at p2; exact False.elim p2
    | some e1 =>
      rw [z] at p2
      refine hg w0 H0 w3 H' σ2 env2 S2 O2 ds[i] x _ e1 st3 rx z fun σ4 O4 st4 _ => ?_
      refine hb w0 H0 w3 H' σ4 e1 S2 O4 _ st4 ?_
      have p2 : PostS g W w0 H0 w2 Dn (match m1 e1 S2 with
        | .nx e S1 => forL mg m1 (ds.drop (i + 1)) e S1
        | .ct e S1 => forL mg m1 (ds.drop (i + 1)) e S1
        | .bk e S1 => .nx e S1
        | o => o) := p2
      cases y : m1 e1 S2 with
      | stuck => rw [y] at p2; exact p2
      | nx e S5 => rw [y] at p2; exact fun w' H' σ' O' st' l' => ⟨w', e, S5, O', st', (l2.trans l3).trans l', p2.mono (l3.trans l')⟩
      | ct e S5 => rw [y] at p2; exact fun w' H' σ' O' st' l' => ⟨w', e, S5, O', st', (l2.trans l3).trans l', p2.mono (l3.trans l')⟩
      | bk e S5 => rw [y] at p2; exact fun w' H' σ' O' st' l' => p2 w' H' σ' O' st' (l3.trans l')
      | rt r S5 => rw [y] at p2; exact p2
      | exc c q e S5 => rw [y] at p2; exact fun w' H' σ' O' cls dd st' l' x => p2 w' H' σ' O' cls dd st' (l3.trans l') x
  · have ei : i = ds.length := by omega
    refine .inl ⟨by rw [ei]; exact hstop, ?_⟩
    have ed : ds.drop i = [] := by rw [ei]; exact List.drop_length
    rw [ed] at p2
    exact p2 w2 H2 σ2 O2 st2 (.refl w2)
theorem for_live {g : Gam} (hg : SimG g is tg mg) (hb : SimS g W t1 m1) {w0 w1 : Wd} {H0 H1 : Hp} {σ : L2.St} {env : Envr} {S1 : Sto} {O : List (Option Addr)} {Dn : Ends} {n : Nat} {a : Addr} (ha : w1.rho[n]? = some a) (st1 : StR g w0 H0 w1 H1 σ env S1 O) (p1 : PostS g W w0 H0 w1 Dn (forLive mg m1 n 100001 0 env S1)) :
    ∃ Wm : Nat → Nat → L2.St → Hp → Prop, (∃ m, Wm 0 m σ H1) ∧ ∀ i m σ H, Wm i m σ H → ((Itl g.K a).stop i H ∧ Dn.nx σ H) ∨ ((Itl g.K a).go i H ∧ ∃ N : L2.St → Hp → Prop, (∀ σ' H', N σ' H' → ∃ m', m' < m ∧ Wm (i + 1) m' σ' H') ∧ ∀ x H', (Itl g.K a).yld i H x H' → tg x σ H' fun σ2 H2 => t1 { Dn with nx := N, ct := N, bk := Dn.nx } σ2 H2) := by
  refine ⟨fun i m σ H => ∃ w env S O, StR g w0 H0 w H σ env S O ∧ w1.le w ∧ PostS g W w0 H0 w Dn (forLive mg m1 n m i env S), ⟨100001, w1, env, S1, O, st1, .refl w1, p1⟩, ?_⟩
  rintro i k σ2 H2 ⟨w2, env2, S2, O2, st2, l2, p2⟩
  cases k with
  | zero => exact False.elim p2
  | succ k =>
    unfold forLive at p2
    split at p2
    · rename_i ds hS
      obtain ⟨ww, vs, e4, e4'⟩ := st2.ok.cells.at_ n a _ (l2.get ha) hS
      have sq : SqL g.K H2 a vs := .inl (.inl e4)
      split at p2
      · rename_i hn
        have hlen : ds.length ≤ i := List.getElem?_eq_none_iff.mp hn
        exact .inl ⟨⟨vs, sq, by rw [← e4'.len]; exact hlen⟩, p2 w2 H2 σ2 O2 st2 (.refl w2)⟩
      · rename_i d hd
        obtain ⟨v, hv, rv⟩ := e4'.at_ hd
        refine .inr ⟨⟨vs, v, sq, hv⟩, fun σ' H' => ∃ w env S O, StR g w0 H0 w H' σ' env S O ∧ w1.le w ∧ PostS g W w0 H0 w Dn (forLive mg m1 n k (i + 1) env S), fun σ' H' h' => ⟨k, by omega, h'⟩, fun x H' hy => ?_⟩
        obtain ⟨eH, ex⟩ := hy
        have ex := ex vs sq
        rw [hv] at ex
        cases ex
        rw [eH]
        cases z : mg d env2 with
        | none => rw [z] at p2; exact False.elim p2
        | some e1 =>
          rw [z] at p2
          refine hg w0 H0 w2 H2 σ2 env2 S2 O2 d v _ e1 st2 rv z fun σ4 O4 st4 _ => ?_
          refine hb w0 H0 w2 H2 σ4 e1 S2 O4 _ st4 ?_
          have p2 : PostS g W w0 H0 w2 Dn (match m1 e1 S2 with
            | .nx e S1 => forLive mg m1 n k (i + 1) e S1
            | .ct e S1 => forLive mg m1 n k (i + 1) e S1
            | .bk e S1 => .nx e S1
            | o => o) := p2
          cases y : m1 e1 S2 with
          | stuck => rw [y] at p2; exact p2
          | nx e S5 => rw [y] at p2; exact fun w' H' σ' O' st' l' => ⟨w', e, S5, O', st', l2.trans l', p2.mono l'⟩
          | ct e S5 => rw [y] at p2; exact fun w' H' σ' O' st' l' => ⟨w', e, S5, O', st', l2.trans l', p2.mono l'⟩
          | bk e S5 => rw [y] at p2; exact fun w' H' σ' O' st' l' => p2 w' H' σ' O' st' l'
          | rt r S5 => rw [y] at p2; exact p2
          | exc c q e S5 => rw [y] at p2; exact p2
    · exact False.elim p2
theorem sim_forA (he : SimE Y W te me) (hg : SimG Y is tg mg) (hb : SimS Y W t1 m1) : SimS Y W (tFor (iSeq Y.K te) tg t1) (sForA me mg m1) := fun w0 H0 w H σ env S O Dn st p =>
  he w0 H0 w H σ env S O _ st ((PostS.out p).imp fun d S1 w1 H1 st1 l1 p1 v r => by
    cases d with
    | lst ds =>
      obtain ⟨a, vs, e1, e2, e3⟩ := rep_lst r
      exact ⟨a, e1, .inl ⟨⟨vs, .inl (.inl (st1.ok.ex _ _ e2))⟩, for_in hg hb (itR_list (g := Y) e2 e3) st1 p1⟩⟩
    | tup ds =>
      obtain ⟨a, vs, e1, e2, e3⟩ := rep_tup r
      exact ⟨a, e1, .inr ⟨⟨vs, same_sqT st1.ok.ex e2⟩, for_in hg hb (itR_tup (g := Y) e2 e3) st1 p1⟩⟩
    | ref n =>
      cases z : S1[n]? with
      | none =>
        have p1 : PostS Y W w0 H0 w1 Dn (forLive mg m1 n 100001 0 env S1) := p1
        unfold forLive at p1
        rw [z] at p1
        exact False.elim p1
      | some c =>
        have p1 : PostS Y W w0 H0 w1 Dn (forLive mg m1 n 100001 0 env S1) := p1
        cases c with
        | lst ds =>
          obtain ⟨a, vs, e1, e2, e3, e4⟩ := cell_lst st1.ok r z
          exact ⟨a, e1, .inl ⟨⟨vs, .inl (.inl e3)⟩, for_live hg hb e2 st1 p1⟩⟩
        | _ =>
          unfold forLive at p1
          rw [z] at p1
          exact False.elim p1
    | _ => exact False.elim p1)
theorem t_forA (hp : PassesOwn (model X.prog X.w) X.A X.env X.xe) (he : SE X Y W iter te me) (hg : SG X Y is tgE tg mg) (hb : SB X Y W body t1 m1) (hK : X.K = Y.K := by rfl) (hc : X.calm = true := by rfl)
    (hs : ∀ x, foldedSetIterable iter X.env x = pure x := by intro _; rfl) : SS X Y W (.For tgE iter body [] pos) (tFor (iSeq Y.K te) tg t1) (sForA me mg m1) := ⟨ps_for hp hc (hK ▸ pi_seq he.pe) hg.pg hb.pss hs, sim_forA he.sim hg.sim hb.sim⟩
@[simp] theorem sForA_eq (me : ME) (g : MG) (b : MS) (env : Envr) (S : Sto) : sForA me g b env S = (me env S).out env fun d S1 => match d with
  | .lst ds => forL g b ds env S1
  | .tup ds => forL g b ds env S1
  | .ref n => forLive g b n 100001 0 env S1
  | _ => .stuck := rfl
end
/-! ### tuple(xs), xs told a list, a tuple or a list that is a cell -/
def fTupA : Sto → List D → Option D
  | S, [.ref n] => (match S[n]? with
    | some (.lst ds) => some (.tup ds)
    | _ => none)
  | S, ds => fTupOf S ds
theorem cd_tupA {g : Gam} : CallD g (fun xs H Q => ∃ p ys, xs = [.ref p] ∧ ((SqL g.K H p ys ∧ ∀ l, H l = none → Q (.ref l) (upd H l (.tup ys))) ∨ (SqT g.K H p ys ∧ Q (.ref p) H))) fTupA := fun w H S ds vs d Q k r e q => by
  unfold fTupA at e
  split at e
  · split at e
    · rename_i hS
      cases e
      obtain ⟨v, e1, e2⟩ := repL_one r
      obtain ⟨a, us, x1, _, x2, x3⟩ := cell_lst k e2 hS
      rw [x1] at e1
      exact ⟨a, us, e1, .inl ⟨.inl (.inl x2), fun l hl => q _ _ _ (Grow.one hl nt_tup) (rep_tup_new k hl x3)⟩⟩
    · cases e
  · exact cd_tup w H S _ vs d Q k r e q
/-! ### isinstance(x, C): a thing of that class, or a list -/
def eIsCL (c : Str) (m : MA) : ME := fun env S => (m env S).bind fun ds S1 => match ds with
  | [.lst _, .cls c'] => if c' = c then .ok (.bl false) S1 else .stuck
  | [d, .cls c'] => if c' = c then (match insOf c S1 d with
    | some _ => .ok (.bl true) S1
    | none => .stuck) else .stuck
  | _ => .stuck
def neB (K : PySem.W.Frag) (x : Str) : Bool := He.eqO (PySem.W.findIn K (.ref (He.ga K x)) "__ne__") (some (some (.builtin "object.__ne__"))) && (decide (PySem.W.mroIn K (He.ga K x) (.type "object") = some true) && decide (PySem.W.kitOne K (.type "list") (.ref (He.ga K x)) = some false))
theorem neB_ok {K : PySem.W.Frag} {x : Str} (h : neB K x = true) : NeC K (He.ga K x) := by
  obtain ⟨h1, h⟩ := He.ba h
  obtain ⟨h2, h3⟩ := He.ba h
  exact ⟨He.eqO_ok h1, of_decide_eq_true h2, of_decide_eq_true h3⟩
section
variable {X : Cx} {Y : Gam} {W : WX} {a b : Expr} {t : TA} {m : MA} {pos p : Pos}
theorem call_isCL {C : Addr} (c : C8.InsC X.K C) (n : NeC X.K C) : CallR X (.builtin "isinstance") (fun xs H Q => (∃ a dx fs, xs = [.ref a, .ref C] ∧ H a = some (.ins C dx fs) ∧ Q (.bl true) H) ∨ (∃ a ys, xs = [.ref a, .ref C] ∧ H a = some (.lst ys) ∧ Q (.bl false) H)) := by
  intro pins s σ H xs us Q I r h
  rcases h with h | ⟨a, ys, rfl, ha, q⟩
  · exact C8.call_isC c pins s σ H xs us Q I r h
  · obtain ⟨u, w', rfl, ru, rw'⟩ := vals2 r
    cases rw'
    exact isinst_ok I ru (TyOf.lst ha) n.li fun tk => ⟨.bl false, H, I.tok _, rfl, q⟩
theorem s_isCL (c : Str) (hI : C8.InsC X.K (Y.ca c)) (hn : NeC X.K (Y.ca c)) (hm : X.mg "isinstance" = none) (ha : SA X Y W [a, b] t m) (hg : Gl X "isinstance" := by rfl) (he : starEach [a, b] X.env = (false, eval a X.env) :: starEach [b] X.env := by rfl) (hpl : (backTo pos (starEach [b] X.env)).any (·.1) = false := by rfl) :
    SE X Y W (.Call (.Name "isinstance" p) [a, b] [] pos) (tCB (fun xs H Q => (∃ a dx fs, xs = [.ref a, .ref (Y.ca c)] ∧ H a = some (.ins (Y.ca c) dx fs) ∧ Q (.bl true) H) ∨ (∃ a ys, xs = [.ref a, .ref (Y.ca c)] ∧ H a = some (.lst ys) ∧ Q (.bl false) H)) t) (eIsCL c m) :=
  ⟨pe_callB (call_isCL hI hn) hg hm (by decide +kernel : bootBuiltins "isinstance" = some (.builtin "isinstance")) ha.pa (by decide) (by decide) he hpl, fun w0 H0 w H σ env S O Q st p =>
  ha.sim w0 H0 w H σ env S O _ st ((PostX.bind p).imp fun ds S1 w1 H1 st1 l1 p1 vs r => by
    split at p1
    · rename_i ys c'
      split at p1
      · rename_i hc
        subst hc
        unfold RepL at r
        obtain ⟨v1, r1, e1, q1, r⟩ := r
        unfold RepL at r
        obtain ⟨v2, r2, e2, q2, r⟩ := r
        unfold RepL at r
        subst r e2
        obtain ⟨a1, us, x1, x2, x3⟩ := rep_lst q1
        unfold Rep at q2
        subst x1 q2
        exact .inr ⟨a1, us, e1, st1.ok.ex _ _ x2, p1 w1 H1 st1 (.refl w1) _ rep_bl'⟩
      · exact False.elim p1
    · rename_i d c' _
      split at p1
      · rename_i hc
        subst hc
        split at p1
        · rename_i fs hi
          unfold RepL at r
          obtain ⟨v1, r1, e1, q1, r⟩ := r
          unfold RepL at r
          obtain ⟨v2, r2, e2, q2, r⟩ := r
          unfold RepL at r
          subst r e2
          obtain ⟨a1, dx, fv, x1, x2, x3⟩ := insOf_rep st1.ok q1 hi
          unfold Rep at q2
          subst x1 q2
          exact .inl ⟨a1, dx, fv, e1, x2, p1 w1 H1 st1 (.refl w1) _ rep_bl'⟩
        · exact False.elim p1
      · exact False.elim p1
    · exact False.elim p1)⟩
end
end Mm
namespace Mm
open PySem L2
section
variable {X : Cx} {Y : Gam} {W : WX} {a b : Expr} {ta tb : TE} {ma mb : ME} {pos : Pos} {k : Nat} {mfn : MFn}
theorem uc_neI (c : Str) (h : KnM X.prog X.w X.K X.mg X.base Y k c "__eq__" 2 mfn [] []) (hn : NeC Y.K (Y.ca c)) (hr : Room (k + 1) X.A) (ha : SE X Y W a ta ma) (hb' : SE X Y W b tb mb) (hK : X.K = Y.K := by rfl) :
    SC X Y W (.Compare a [.NotEq] [b] pos) (tTest (tOp (rNeI (Y.ca c) (spOf Y 2 mfn) E0) ta tb)) (cB (eNeI c mfn ma mb)) := by
  obtain ⟨f, fd, ps, ds, F, hC, hm, hb, hd, hdv⟩ := h
  cases hd
  have hn' : NeC X.K (Y.ca c) := hK ▸ hn
  exact ⟨pt_cmpR (op_neI F hr hm.at_ hm.fn hn'.ne hn'.ob hb passN) ha.pe hb'.pe (nobehind _ (by decide) (by decide)), sim_test (s_neI (pos := pos) c F hr hm hn' hb ha hb').sim⟩
theorem uc_eqL (c : Str) (h : KnM X.prog X.w X.K X.mg X.base Y k c "__eq__" 2 mfn [] []) (hr : Room k X.A) (ha : SE X Y W a ta ma) (hb' : SE X Y W b tb mb) :
    SC X Y W (.Compare a [.Eq] [b] pos) (tTest (tOp (rEqL (Y.ca c) (spOf Y 2 mfn) E0) ta tb)) (cB (eEqL c mfn ma mb)) := by
  obtain ⟨f, fd, ps, ds, F, hC, hm, hb, hd, hdv⟩ := h
  cases hd
  exact ⟨pt_cmpR (op_eqL F hr hm.at_ hm.fn hb passN) ha.pe hb'.pe (nobehind _ (by decide) (by decide)), sim_test (s_eqL (pos := pos) c F hr hm hb ha hb').sim⟩
end
end Mm
namespace Mm
open PySem L2
@[simp] theorem eNeI_eq (c : Str) (f : MFn) (ma mb : ME) (env : Envr) (S : Sto) : eNeI c f ma mb env S = (ma env S).bind fun d1 S1 => (mb env S1).bind fun d2 S2 => match insOf c S2 d1, insOf c S2 d2, f [d1, d2] S2 with
  | some _, some _, .ok (.val (.bl k)) S3 => .ok (.bl (!k)) S3
  | _, _, _ => .stuck := rfl
@[simp] theorem eEqL_eq (c : Str) (f : MFn) (ma mb : ME) (env : Envr) (S : Sto) : eEqL c f ma mb env S = (ma env S).bind fun d1 S1 => (mb env S1).bind fun d2 S2 => match insOf c S2 d1, d2, f [d1, d2] S2 with
  | some _, .lst _, .ok (.val (.bl k)) S3 => .ok (.bl k) S3
  | _, _, _ => .stuck := rfl
@[simp] theorem eIsCL_eq (c : Str) (m : MA) (env : Envr) (S : Sto) : eIsCL c m env S = (m env S).bind fun ds S1 => match ds with
  | [.lst _, .cls c'] => if c' = c then .ok (.bl false) S1 else .stuck
  | [d, .cls c'] => if c' = c then (match insOf c S1 d with
    | some _ => .ok (.bl true) S1
    | none => .stuck) else .stuck
  | _ => .stuck := rfl
end Mm
namespace K06
open PySem L2 Mm Fb
noncomputable def m__law_bent_k06 : MFn := mFn 4 (sSeq (sAsg (eCall m__law_take [] (aCons (eV 0) (aCons (eC (.int 5)) aNil))) (gN 3))
    (sSeq (sIf (cB (eOp fEq (eV 3) (eC (.int 0)))) (sRet (eTup (aCons (mFrz (fSl (eCall m__law_shuffled [] (aCons (eV 0) (aCons (eOp dAdd (eV 1) (mFrz (fLst (aCons (eCall m__law_of [] (aCons (eV 0) (aCons (mFrz (fLst (aCons (eOp iShl (eC (.int 1)) (eV 2)) (aCons (eUn fNeg (eC (.int 1))) (aCons (eOp iPow (eC (.int 10)) (eC (.int 20))) aNil))))) aNil))) aNil)))) aNil))) (oSome (eUn fNeg (eC (.int 12)))) oNone)) (aCons (eV 2) aNil)))) sNil)
    (sSeq (sIf (cB (eOp fEq (eV 3) (eC (.int 1)))) (sRet (eTup (aCons (eV 1) (aCons (eCall m__law_of [] (aCons (eV 0) (aCons (mFrz (fLst (aCons (eUn fNeg (eC (.int 1))) (aCons (eC (.int 13)) (aCons (eOp iPow (eC (.int 10)) (eC (.int 20))) aNil))))) aNil))) aNil)))) sNil)
    (sSeq (sIf (cB (eOp fEq (eV 3) (eC (.int 2)))) (sRet (eTup (aCons (mFrz (fOp fRep (mFrz (fLst (aCons (eC (.int 0)) aNil))) (eC (.int 13)))) (aCons (eV 2) aNil)))) sNil)
    (sRet (eTup (aCons (eV 1) (aCons (eV 2) aNil))))))))
noncomputable def m_FoldU_initU_k06 : MFn := mFn 4 (sSeq (sIf (cOr (cB (eOp iLt (eV 2) (eC (.int 0)))) (cOr (cB (eOp iGt (eV 2) (eC (.int 12)))) (cB (eOp iGt (eCB fLen (aCons (eV 1) aNil)) (eC (.int 12)))))) (sRaise "BadFold") sNil)
    (sSeq (sForA (eV 1) (gN 3) (sIf (cOr (cB (eOp iLt (eV 3) (eC (.int 0)))) (cB (eOp iGt (eOp iShr (eV 3) (eV 2)) (eC (.int 0))))) (sRaise "BadFold") sNil))
    (sSeq (sFldC "Fold" "lines" (eV 0) (eCB fTupA (aCons (eV 1) aNil)))
    (sFldC "Fold" "wide" (eV 0) (eV 2)))))
noncomputable def m_FoldU_reprU : MFn := mFn 1 (sRet (eFs [(eC (.str "Fold(")), (eFmt (eCB fLen (aCons (eFld "Fold" "lines" (eV 0)) aNil))), (eC (.str " to ")), (eFmt (eFld "Fold" "wide" (eV 0))), (eC (.str ")"))] Str.empty))
noncomputable def m_FoldU_eqU_k06 : MFn := mFn 2 (sRet (eAnd (eIsCL "Fold" (aCons (eV 1) (aCons (eC (.cls "Fold")) aNil))) (eAnd (eOp fEq (eFld "Fold" "lines" (eV 0)) (eFld "Fold" "lines" (eV 1))) (eOp fEq (eFld "Fold" "wide" (eV 0)) (eFld "Fold" "wide" (eV 1))))))
noncomputable def m_law : MFn := mFn 15 (sSeq (sCell 1 (fCall m__law_box [] (aCons (eV 0) aNil)))
    (sSeq (sFor (itR1 (aCons (eC (.int 5)) aNil)) (gN 2) (sSeq (sAsg (eCall m__law_take [] (aCons (eV 1) (aCons (eC (.int 13)) aNil))) (gN 3))
    (sSeq (sAsg (eCall m__law_bent_k06 [] (aCons (eV 1) (aCons (eCall m__law_numbers [] (aCons (eV 1) (aCons (eCall m__law_take [] (aCons (eV 1) (aCons (eC (.int 13)) aNil))) (aCons (eV 3) aNil)))) (aCons (eV 3) aNil)))) (gT (gNC (gN 4) (gNC (gN 5) gN0))))
    (sSeq (sAsg (eAnd (eChain iLe iLe (eC (.int 0)) (eV 5) (eC (.int 12))) (eAnd (eOp iLe (eCB fLen (aCons (eV 4) aNil)) (eC (.int 12))) (eCB fAll (aCons (mFrz (fLc (itL (eV 4)) (gN 13) cYes (eChain iLe iLt (eC (.int 0)) (eV 13) (eOp iShl (eC (.int 1)) (eCB fMax2 (aCons (eC (.int 0)) (aCons (eCB fMin2 (aCons (eC (.int 12)) (aCons (eV 5) aNil))) aNil))))) [13])) aNil)))) (gN 6))
    (sSeq (sCell 7 (fCB fListOf (aCons (eV 4) aNil)))
    (sSeq (sAsg (eTried ["BadNumber", "BadFold"] (eNew "Fold" m_FoldU_initU_k06 [] (aCons (eV 7) (aCons (eV 5) aNil)))) (gN 8))
    (sIf (cNot (cB (eV 6))) (sIf (cB (eOp fNe (eV 8) (eTup (aCons (eC (.str "badfold")) aNil)))) (sRet (eC (.bl false))) sNil) (sIf (cB (eOp fNe (eOp fIx (eV 8) (eC (.int 0))) (eC (.str "told")))) (sRet (eC (.bl false))) (sSeq (sAsg (eOp fIx (eV 8) (eC (.int 1))) (gN 9))
    (sSeq (sAppC 7 (eC (.int 0)))
    (sSeq (sIf (cNot (cB (eCall (m__law_same 4) [] (aCons (mFrz (fLst (aCons (eMeth "Fold" "rows" m_Fold_rows [] (eV 9) aNil) (aCons (eMeth "Fold" "many" m_Fold_many [] (eV 9) aNil) (aCons (eMeth "Fold" "size" m_Fold_size [] (eV 9) aNil) (aCons (eLenOw "Fold" m_FoldU_lenU (eV 9)) aNil)))))) (aCons (mFrz (fLst (aCons (eCB fTupOf (aCons (eV 4) aNil)) (aCons (eCB fLen (aCons (eV 4) aNil)) (aCons (eV 5) (aCons (eCB fLen (aCons (eV 4) aNil)) aNil)))))) aNil))))) (sRet (eC (.bl false))) sNil)
    (sSeq (sIf (cB (eOp fNe (eReprO "Fold" m_FoldU_reprU (eV 9)) (eOp fAddS (eOp fAddS (eOp fAddS (eOp fAddS (eC (.str "Fold(")) (eCB fStrI (aCons (eCB fLen (aCons (eV 4) aNil)) aNil))) (eC (.str " to "))) (eCB fStrI (aCons (eV 5) aNil))) (eC (.str ")"))))) (sRet (eC (.bl false))) sNil)
    (sSeq (sAsg (eNew "Fold" m_FoldU_initU_k06 [] (aCons (eCB fTupOf (aCons (eV 4) aNil)) (aCons (eV 5) aNil))) (gN 10))
    (sSeq (sAsg (mFrz (fLst (aCons (eNew "Fold" m_FoldU_initU_k06 [] (aCons (eV 4) (aCons (eCB fMin2 (aCons (eC (.int 12)) (aCons (eOp dAdd (eV 5) (eC (.int 1))) aNil))) aNil))) (aCons (eNew "Fold" m_FoldU_initU_k06 [] (aCons (mFrz (fSl (eOp dAdd (mFrz (fLst (aCons (eC (.int 0)) aNil))) (eV 4)) (oSome (eUn fNeg (eC (.int 12)))) oNone)) (aCons (eV 5) aNil))) (aCons (eNew "Fold" m_FoldU_initU_k06 [] (aCons (mFrz (fSl (eV 4) (oSome (eC (.int 1))) oNone)) (aCons (eV 5) aNil))) aNil))))) (gN 11))
    (sSeq (sAsg (mFrz (fLst (aCons (eOp fEq (eV 5) (eC (.int 12))) (aCons (eOp fEq (mFrz (fSl (eOp dAdd (mFrz (fLst (aCons (eC (.int 0)) aNil))) (eV 4)) (oSome (eUn fNeg (eC (.int 12)))) oNone)) (eV 4)) (aCons (eOp fEq (eV 4) (mFrz (fLst aNil))) aNil))))) (gN 12))
    (sIf (cOr (cNot (cB (eCall (m__law_same 4) [] (aCons (mFrz (fLc (itL (eV 11)) (gN 14) cYes (eEqI "Fold" m_FoldU_eqU_k06 (eV 9) (eV 14)) [14])) (aCons (eV 12) aNil))))) (cOr (cNot (cB (eEqI "Fold" m_FoldU_eqU_k06 (eV 9) (eV 10)))) (cOr (cB (eNeI "Fold" m_FoldU_eqU_k06 (eV 9) (eV 10))) (cB (eEqL "Fold" m_FoldU_eqU_k06 (eV 9) (eV 4)))))) (sRet (eC (.bl false))) sNil))))))))))))))))
    (sRet (eC (.bl true)))))
end K06
namespace K06
open PySem L2 Mm Fb
def top (i : Nat) : Stmt := PySem.Challenge.pw_foldberth_k06_folds_made_or_refused.main.body.getD i (.Pass ⟨0, 0, 0, 0⟩)
section
variable {P : Program} {w : World} {K : PySem.W.Frag} {mg : Str → Option Value} {base : Heap} {ca : Str → Addr} {T : List (Addr × Str)}
abbrev s__law_tried : Stmt := top 30
abbrev N__law_tried : List Str := ["_law_ask", "_law_e"]
theorem sc__law_tried : FnScope N__law_tried ["_law_ask"] (defScope s__law_tried) := ⟨rfl, rfl, rfl, by decide +kernel, rfl, by decide +kernel, by decide +kernel⟩
abbrev s__law_fold_word : Stmt := top 29
abbrev N__law_fold_word : List Str := ["_law_e", "_law_kinds", "_law_kind", "_law_so"]
theorem sc__law_fold_word : FnScope N__law_fold_word ["_law_e"] (defScope s__law_fold_word) := ⟨rfl, rfl, rfl, by decide +kernel, rfl, by decide +kernel, by decide +kernel⟩
theorem ok__law_fold_word {fw a : Addr} {oe : Obj} {c : Str} (B : Bl mg) (g_BadNumber : mg "BadNumber" = some (.ref ((GY K ca T).ca "BadNumber"))) (g_BadFold : mg "BadFold" = some (.ref ((GY K ca T).ca "BadFold"))) (g_Unfit : mg "Unfit" = some (.ref ((GY K ca T).ca "Unfit"))) (g_NotPart : mg "NotPart" = some (.ref ((GY K ca T).ca "NotPart"))) (g_NotOnto : mg "NotOnto" = some (.ref ((GY K ca T).ca "NotOnto"))) (g_BadSize : mg "BadSize" = some (.ref ((GY K ca T).ca "BadSize"))) (g_NoBerth : mg "NoBerth" = some (.ref ((GY K ca T).ca "NoBerth"))) (g_BadSides : mg "BadSides" = some (.ref ((GY K ca T).ca "BadSides"))) (g_BadRows : mg "BadRows" = some (.ref ((GY K ca T).ca "BadRows"))) (x : TriX K (GY K ca T) c) (hz : L2N.Zn (.ref ((GY K ca T).ca c)) none oe) (hf : ∃ vs, oe.data = .fields vs) (cdv : Value) (A : Around) (outer : List Env) (s : Shared) (H : Hp) (hot : L2H.Hot1 A (a, oe)) :
    ∃ t1, SB (L2H.cxH (L2N.CX P w) P w K mg base N__law_fold_word "_law_fold_word" (defScope s__law_fold_word) fw cdv A outer s H C8.E0 (a, oe)) (GY K ca T) W0 (defBody s__law_fold_word) t1 (m_word a c) := by
  have nd := sc__law_fold_word.nd
  exact ⟨_, (b_cons (u_own 1 (f_lst (a_cons (s_tup (a_cons s_str (a_cons (s_isX (q := (a, oe)) c "BadNumber" x.ex hz.zc hf List.mem_cons_self (x.kit ("badnumber", "BadNumber") (List.mem_of_getElem? (i := 0) rfl)) B.isinstance g_BadNumber (sv 0)) a_nil))) (a_cons (s_tup (a_cons s_str (a_cons (s_isX (q := (a, oe)) c "BadFold" x.ex hz.zc hf List.mem_cons_self (x.kit ("badfold", "BadFold") (List.mem_of_getElem? (i := 1) rfl)) B.isinstance g_BadFold (sv 0)) a_nil))) a_nil))) nd) (b_cons (t_ext 1 (SF.val (f_lst (a_cons (s_tup (a_cons s_str (a_cons (s_isX (q := (a, oe)) c "Unfit" x.ex hz.zc hf List.mem_cons_self (x.kit ("unfit", "Unfit") (List.mem_of_getElem? (i := 2) rfl)) B.isinstance g_Unfit (sv 0)) a_nil))) (a_cons (s_tup (a_cons s_str (a_cons (s_isX (q := (a, oe)) c "NotPart" x.ex hz.zc hf List.mem_cons_self (x.kit ("notpart", "NotPart") (List.mem_of_getElem? (i := 3) rfl)) B.isinstance g_NotPart (sv 0)) a_nil))) a_nil)))) nd) (b_cons (t_ext 1 (SF.val (f_lst (a_cons (s_tup (a_cons s_str (a_cons (s_isX (q := (a, oe)) c "NotOnto" x.ex hz.zc hf List.mem_cons_self (x.kit ("notonto", "NotOnto") (List.mem_of_getElem? (i := 4) rfl)) B.isinstance g_NotOnto (sv 0)) a_nil))) (a_cons (s_tup (a_cons s_str (a_cons (s_isX (q := (a, oe)) c "BadSize" x.ex hz.zc hf List.mem_cons_self (x.kit ("badsize", "BadSize") (List.mem_of_getElem? (i := 5) rfl)) B.isinstance g_BadSize (sv 0)) a_nil))) a_nil)))) nd) (b_cons (t_ext 1 (SF.val (f_lst (a_cons (s_tup (a_cons s_str (a_cons (s_isX (q := (a, oe)) c "NoBerth" x.ex hz.zc hf List.mem_cons_self (x.kit ("noberth", "NoBerth") (List.mem_of_getElem? (i := 6) rfl)) B.isinstance g_NoBerth (sv 0)) a_nil))) (a_cons (s_tup (a_cons s_str (a_cons (s_isX (q := (a, oe)) c "BadSides" x.ex hz.zc hf List.mem_cons_self (x.kit ("badsides", "BadSides") (List.mem_of_getElem? (i := 7) rfl)) B.isinstance g_BadSides (sv 0)) a_nil))) a_nil)))) nd) (b_frz 1 (b_one (t_ret (s_ct cd_tup call_tuple_of B.tuple PyProof.Rows.boot_tuple (a_cons (SF.val (f_lcH (own := [("_law_kind", 2), ("_law_so", 3)]) (q := (a, oe)) ⟨hot.1, hot.2⟩ List.mem_cons_self nd (s_op od_add op_addD (sv 1) (SF.val (f_lst (a_cons (s_tup (a_cons s_str (a_cons (s_isX (q := (a, oe)) c "BadRows" x.ex hz.zc hf List.mem_cons_self (x.kit ("badrows", "BadRows") (List.mem_of_getElem? (i := 8) rfl)) B.isinstance g_BadRows (sv 0)) a_nil))) a_nil)))) (blkOk_by (own := [("_law_kind", 2), ("_law_so", 3)]) (N := N__law_fold_word) (sc := defScope s__law_fold_word) (by decide +kernel)) (fun _ _ _ _ _ => (gs_cons (u_g 2 nd) (gs_cons (u_g 3 nd) gs_nil))) (fun _ _ => ⟨rfl, rfl⟩) (fun _ _ _ _ _ => (ts_one (c_val (sv 3)))) (fun _ _ _ _ _ => (sv 2)))) a_nil)))))))))⟩
abbrev s__law_box : Stmt := top 23
abbrev N__law_box : List Str := ["_law_script"]
theorem sc__law_box : FnScope N__law_box ["_law_script"] (defScope s__law_box) := ⟨rfl, rfl, rfl, by decide +kernel, rfl, by decide +kernel, by decide +kernel⟩
theorem ok__law_box {f : Addr} {fd : FuncData} (F : FnPk K "_law_box" "_law_box" s__law_box [] [] f fd) (B : Bl mg) : FnOk P w K mg base (L2N.CX P w) 1 f fd ["_law_script"] (spOf (GY K ca T) 1 m__law_box) :=
  fn_sim (GY K ca T) F sc__law_box rfl fun cdv A outer s H E hr tk po => by
  have nd := sc__law_box.nd
  exact ⟨_, (b_one (t_retF (f_lst (a_cons (SF.val (f_ct co_list call_list_of B.list PyProof.Rows.boot_list (a_cons (SF.val (f_sl (sv 0) o_none (o_some s_int))) a_nil))) (a_cons s_int (a_cons s_int (a_cons s_int a_nil)))))))⟩
abbrev s__law_take : Stmt := top 24
abbrev N__law_take : List Str := ["_law_box_here", "_law_sides", "_law_tail", "_law_cell", "_law_seed"]
theorem sc__law_take : FnScope N__law_take ["_law_box_here", "_law_sides"] (defScope s__law_take) := ⟨rfl, rfl, rfl, by decide +kernel, rfl, by decide +kernel, by decide +kernel⟩
theorem ok__law_take {f : Addr} {fd : FuncData} (F : FnPk K "_law_take" "_law_take" s__law_take [] [] f fd) (B : Bl mg) : FnOk P w K mg base (L2N.CX P w) 1 f fd ["_law_box_here", "_law_sides"] (spOf (GY K ca T) 2 m__law_take) :=
  fn_sim (GY K ca T) F sc__law_take rfl fun cdv A outer s H E hr tk po => by
  have nd := sc__law_take.nd
  exact ⟨_, (b_cons (t_if (c_cmp od_gt op_gt (s_ix od_ix ix_lt (sv 0) s_int (fun _ _ => rfl)) s_int (nomark _)) (b_cons (u_set 2 (s_ix od_ix ix_lt (sv 0) s_int (fun _ _ => rfl)) nd)
    (b_cons (t_put 0 s_int (s_op od_div op_fdivN (sv 2) (sv 1)))
    (b_one (t_ret (s_op od_mod op_modN (sv 2) (sv 1)))))) b_nil)
    (b_cons (u_set 3 s_int nd)
    (b_cons (t_if (c_cmp od_lt op_lt (s_ix od_ix ix_lt (sv 0) s_int (fun _ _ => rfl)) (s_cb cd_len cr_len B.len PySem.boot_len (a_cons (s_ix od_ix ix_lt (sv 0) s_int (fun _ _ => rfl)) a_nil)) (nomark _)) (b_cons (u_set 3 (s_ix od_ix ix_lt (s_ix od_ix ix_lt (sv 0) s_int (fun _ _ => rfl)) (s_ix od_ix ix_lt (sv 0) s_int (fun _ _ => rfl)) (fun _ _ => rfl)) nd)
    (b_one (t_augC ip_add (sv 0) s_int s_int))) b_nil)
    (b_cons (t_if (c_cmp od_ge op_ge (sv 3) (s_op od_pow op_pow s_int s_int) (nomark _)) (b_cons (t_put 0 s_int (s_op od_div op_fdivN (sv 3) (sv 1)))
    (b_one (t_ret (s_op od_mod op_modN (sv 3) (sv 1))))) b_nil)
    (b_cons (u_set 4 (s_ix od_ix ix_lt (sv 0) s_int (fun _ _ => rfl)) nd)
    (b_cons (t_put 0 s_int (s_op od_mod op_modN (s_op od_add op_addD (s_op od_add op_addD (s_op od_add op_addD (s_op od_pow op_pow (sv 4) s_int) (s_op od_mul op_mul s_int (sv 4))) (s_op od_mul op_mul s_int (s_op od_mod op_modN (sv 3) s_int))) s_int) s_int))
    (b_one (t_ret (s_op od_mod op_modN (s_op od_div op_fdivN (s_ix od_ix ix_lt (sv 0) s_int (fun _ _ => rfl)) s_int) (sv 1))))))))))⟩
abbrev s__law_shuffled : Stmt := top 27
abbrev N__law_shuffled : List Str := ["_law_box_here", "_law_some", "_law_found", "_law_one"]
theorem sc__law_shuffled : FnScope N__law_shuffled ["_law_box_here", "_law_some"] (defScope s__law_shuffled) := ⟨rfl, rfl, rfl, by decide +kernel, rfl, by decide +kernel, by decide +kernel⟩
theorem ok__law_shuffled {f : Addr} {fd : FuncData} (F : FnPk K "_law_shuffled" "_law_shuffled" s__law_shuffled [] [] f fd) (B : Bl mg) (h__law_take : Kn P w K mg base (GY K ca T) 1 "_law_take" 2 m__law_take [] []) : FnOk P w K mg base (L2N.CX P w) 2 f fd ["_law_box_here", "_law_some"] (spOf (GY K ca T) 2 m__law_shuffled) :=
  fn_sim (GY K ca T) F sc__law_shuffled rfl fun cdv A outer s H E hr tk po => by
  have nd := sc__law_shuffled.nd
  exact ⟨_, (b_cons (u_own 2 (f_lst a_nil) nd)
    (b_cons (t_for po (i_seq (sv 1)) (u_g 3 nd) (b_one (t_ins 2 (u_call h__law_take (hr.mono (by decide)) tk (a_cons (sv 0) (a_cons (s_op od_add op_addD (u_lenA 2 B.len) s_int) a_nil))) (sv 3))))
    (b_one (t_retO 2))))⟩
abbrev s__law_of : Stmt := top 25
abbrev N__law_of : List Str := ["_law_box_here", "_law_some"]
theorem sc__law_of : FnScope N__law_of ["_law_box_here", "_law_some"] (defScope s__law_of) := ⟨rfl, rfl, rfl, by decide +kernel, rfl, by decide +kernel, by decide +kernel⟩
theorem ok__law_of {f : Addr} {fd : FuncData} (F : FnPk K "_law_of" "_law_of" s__law_of [] [] f fd) (B : Bl mg) (h__law_take : Kn P w K mg base (GY K ca T) 1 "_law_take" 2 m__law_take [] []) : FnOk P w K mg base (L2N.CX P w) 2 f fd ["_law_box_here", "_law_some"] (spOf (GY K ca T) 2 m__law_of) :=
  fn_sim (GY K ca T) F sc__law_of rfl fun cdv A outer s H E hr tk po => by
  have nd := sc__law_of.nd
  exact ⟨_, (b_one (t_ret (s_ix od_ix ix_lt (sv 1) (u_call h__law_take (hr.mono (by decide)) tk (a_cons (sv 0) (a_cons (s_cb cd_len cr_len B.len PySem.boot_len (a_cons (sv 1) a_nil)) a_nil))) (fun _ _ => rfl))))⟩
abbrev s__law_bent : Stmt := top 31
abbrev N__law_bent : List Str := ["_law_box_here", "_law_lines", "_law_size", "_law_way"]
theorem sc__law_bent : FnScope N__law_bent ["_law_box_here", "_law_lines", "_law_size"] (defScope s__law_bent) := ⟨rfl, rfl, rfl, by decide +kernel, rfl, by decide +kernel, by decide +kernel⟩
theorem ok__law_bent {f : Addr} {fd : FuncData} (F : FnPk K "_law_bent" "_law_bent" s__law_bent [] [] f fd) (h__law_take : Kn P w K mg base (GY K ca T) 1 "_law_take" 2 m__law_take [] []) (h__law_of : Kn P w K mg base (GY K ca T) 2 "_law_of" 2 m__law_of [] []) (h__law_shuffled : Kn P w K mg base (GY K ca T) 2 "_law_shuffled" 2 m__law_shuffled [] []) : FnOk P w K mg base (L2N.CX P w) 3 f fd ["_law_box_here", "_law_lines", "_law_size"] (spOf (GY K ca T) 3 m__law_bent_k06) :=
  fn_sim (GY K ca T) F sc__law_bent rfl fun cdv A outer s H E hr tk po => by
  have nd := sc__law_bent.nd
  exact ⟨_, (b_cons (u_set 3 (u_call h__law_take (hr.mono (by decide)) tk (a_cons (sv 0) (a_cons s_int a_nil))) nd)
    (b_cons (t_if (c_cmp od_eq (op_eqD hr.units) (sv 3) s_int (nomark _)) (b_one (t_ret (s_tup (a_cons (SF.val (f_sl (u_call h__law_shuffled (hr.mono (by decide)) tk (a_cons (sv 0) (a_cons (s_op od_add op_addD (sv 1) (SF.val (f_lst (a_cons (u_call h__law_of (hr.mono (by decide)) tk (a_cons (sv 0) (a_cons (SF.val (f_lst (a_cons (s_op od_shl op_shl s_int (sv 2)) (a_cons (s_un ud_neg un_neg s_int) (a_cons (s_op od_pow op_pow s_int s_int) a_nil))))) a_nil))) a_nil)))) a_nil))) (o_some (s_un ud_neg un_neg s_int)) o_none)) (a_cons (sv 2) a_nil))))) b_nil)
    (b_cons (t_if (c_cmp od_eq (op_eqD hr.units) (sv 3) s_int (nomark _)) (b_one (t_ret (s_tup (a_cons (sv 1) (a_cons (u_call h__law_of (hr.mono (by decide)) tk (a_cons (sv 0) (a_cons (SF.val (f_lst (a_cons (s_un ud_neg un_neg s_int) (a_cons s_int (a_cons (s_op od_pow op_pow s_int s_int) a_nil))))) a_nil))) a_nil))))) b_nil)
    (b_cons (t_if (c_cmp od_eq (op_eqD hr.units) (sv 3) s_int (nomark _)) (b_one (t_ret (s_tup (a_cons (SF.val (f_op oo_rep op_rep (SF.val (f_lst (a_cons s_int a_nil))) s_int)) (a_cons (sv 2) a_nil))))) b_nil)
    (b_one (t_ret (s_tup (a_cons (sv 1) (a_cons (sv 2) a_nil)))))))))⟩
abbrev s__law_numbers : Stmt := top 28
abbrev N__law_numbers : List Str := ["_law_box_here", "_law_count", "_law_many", "_law_at"]
theorem sc__law_numbers : FnScope N__law_numbers ["_law_box_here", "_law_count", "_law_many"] (defScope s__law_numbers) := ⟨rfl, rfl, rfl, by decide +kernel, rfl, by decide +kernel, by decide +kernel⟩
theorem ok__law_numbers {f : Addr} {fd : FuncData} (F : FnPk K "_law_numbers" "_law_numbers" s__law_numbers [] [] f fd) (B : Bl mg) (h__law_take : Kn P w K mg base (GY K ca T) 1 "_law_take" 2 m__law_take [] []) : FnOk P w K mg base (L2N.CX P w) 2 f fd ["_law_box_here", "_law_count", "_law_many"] (spOf (GY K ca T) 3 m__law_numbers) :=
  fn_sim (GY K ca T) F sc__law_numbers rfl fun cdv A outer s H E hr tk po => by
  have nd := sc__law_numbers.nd
  exact ⟨_, (b_one (t_retF (f_lc (own := [("_law_at", 3)]) nd (i_range1 B.range (a_cons (sv 1) a_nil)) (blkOk_by (own := [("_law_at", 3)]) (N := N__law_numbers) (sc := defScope s__law_numbers) (by decide +kernel)) (fun _ _ _ _ _ => (u_g 3 nd)) (fun _ _ _ _ _ => ts_nil) (fun _ _ _ _ _ => (u_call h__law_take (hr.mono (by decide)) takesN (a_cons (sv 0) (a_cons (s_op od_shl op_shl s_int (sv 2)) a_nil)))))))⟩
abbrev s_FoldU_initU : Stmt := inClass (top 21) 0
abbrev N_FoldU_initU : List Str := ["self", "rows", "size", "row"]
theorem sc_FoldU_initU : FnScope N_FoldU_initU ["self", "rows", "size"] (defScope s_FoldU_initU) := ⟨rfl, rfl, rfl, by decide +kernel, rfl, by decide +kernel, by decide +kernel⟩
theorem ok_FoldU_initU {f : Addr} {fd : FuncData} (F : FnPk K "__init__" "Fold.__init__" s_FoldU_initU [] [] f fd) (B : Bl mg) (c_MOST_DIGITS : ∃ u, mg "MOST_DIGITS" = some (.int 12 u)) (x_BadFold : KnX K mg (GY K ca T) "BadFold") (C_Fold : Cls K ((GY K ca T).ca "Fold")) (n_Fold_lines : NoAttr K ((GY K ca T).ca "Fold") "lines") (n_Fold_wide : NoAttr K ((GY K ca T).ca "Fold") "wide") : FnOk P w K mg base (L2N.CX P w) 1 f fd ["self", "rows", "size"] (spOf (GY K ca T) 3 m_FoldU_initU_k06) :=
  fn_sim (GY K ca T) F sc_FoldU_initU rfl fun cdv A outer s H E hr tk po => by
  have nd := sc_FoldU_initU.nd
  exact ⟨_, (b_cons (t_if (SW.sc (w_or (c_cmp od_lt op_lt (sv 2) s_int (nomark _)) (w_or (c_cmp od_gt op_gt (sv 2) (u_int c_MOST_DIGITS) (nomark _)) (w_or1 (c_cmp od_gt op_gt (s_cb cd_len cr_len B.len PySem.boot_len (a_cons (sv 1) a_nil)) (u_int c_MOST_DIGITS) (nomark _)))))) (b_one (u_raise x_BadFold tk)) b_nil)
    (b_cons (t_forA po (sv 1) (u_g 3 nd) (b_one (t_if (SW.sc (w_or (c_cmp od_lt op_lt (sv 3) s_int (nomark _)) (w_or1 (c_cmp od_gt op_gt (s_op od_shr op_shr (sv 3) (sv 2)) s_int (nomark _))))) (b_one (u_raise x_BadFold tk)) b_nil)))
    (b_cons (t_fld "Fold" C_Fold n_Fold_lines (sv 0) (s_ct cd_tupA call_tuple_of B.tuple PyProof.Rows.boot_tuple (a_cons (sv 1) a_nil)))
    (b_one (t_fld "Fold" C_Fold n_Fold_wide (sv 0) (sv 2))))))⟩
abbrev s__law_same : Stmt := top 26
abbrev N__law_same : List Str := ["_law_found", "_law_due", "_law_x", "_law_y"]
theorem sc__law_same : FnScope N__law_same ["_law_found", "_law_due"] (defScope s__law_same) := ⟨rfl, rfl, rfl, by decide +kernel, rfl, by decide +kernel, by decide +kernel⟩
theorem ok__law_same {f : Addr} {fd : FuncData} (F : FnP K "_law_same" "_law_same" s__law_same [] f fd) (g : mg "_law_same" = some (.ref f)) (b : Binds K fd ["_law_found", "_law_due"] [])  (B : Bl mg) : ∀ n, FnOk P w K mg base (L2N.CX P w) (n + 1) f fd ["_law_found", "_law_due"] (spOf (GY K ca T) 2 (m__law_same n))
  | 0 => ⟨fun vs H Q E h => h.1, fun A outer s H args us vs Q E hr e0 hb rv h => by
    obtain ⟨_, _, _, _, _, _, z⟩ := h
    exact False.elim z⟩
  | n + 1 => by
    have ih := kn_of F g b (ok__law_same F g b B n)
    exact fn_sim (GY K ca T) F sc__law_same rfl fun cdv A outer s H E hr tk po => by
      have nd := sc__law_same.nd
      exact ⟨_, (b_cons (t_if (c_val (s_isT B.isinstance (sv 1) (a_cons (s_bty B.list PyProof.Rows.boot_list) (a_cons (s_bty B.tuple PyProof.Rows.boot_tuple) a_nil)))) (b_cons (t_if (SW.sc (w_or (c_cmp od_ne (op_neD hr.units) (s_cb cd_isi call_isi B.isinstance (by decide +kernel : bootBuiltins "isinstance" = some (.builtin "isinstance")) (a_cons (sv 0) (a_cons (s_bty B.list PyProof.Rows.boot_list) a_nil))) (s_cb cd_isi call_isi B.isinstance (by decide +kernel : bootBuiltins "isinstance" = some (.builtin "isinstance")) (a_cons (sv 1) (a_cons (s_bty B.list PyProof.Rows.boot_list) a_nil))) (nomark _)) (w_or1 (c_cmp od_ne (op_neD hr.units) (s_cb cd_isi call_isi B.isinstance (by decide +kernel : bootBuiltins "isinstance" = some (.builtin "isinstance")) (a_cons (sv 0) (a_cons (s_bty B.tuple PyProof.Rows.boot_tuple) a_nil))) (s_cb cd_isi call_isi B.isinstance (by decide +kernel : bootBuiltins "isinstance" = some (.builtin "isinstance")) (a_cons (sv 1) (a_cons (s_bty B.tuple PyProof.Rows.boot_tuple) a_nil))) (nomark _))))) (b_one (t_ret s_bl)) b_nil)
    (b_one (t_ret (s_and (s_cmp od_eq (op_eqD hr.units) (s_cb cd_len cr_len B.len PySem.boot_len (a_cons (sv 0) a_nil)) (s_cb cd_len cr_len B.len PySem.boot_len (a_cons (sv 1) a_nil)) (nomark _)) (s_one (s_cb cd_all (cr_all rfl) B.all (by decide +kernel : bootBuiltins "all" = some (.builtin "all")) (a_cons (SF.val (f_lc (own := [("_law_x", 2), ("_law_y", 3)]) nd (i_zipA B.zip (a_cons (sv 0) (a_cons (sv 1) a_nil))) (blkOk_by (own := [("_law_x", 2), ("_law_y", 3)]) (N := N__law_same) (sc := defScope s__law_same) (by decide +kernel)) (fun _ _ _ _ _ => (g_tup (gs_cons (u_g 2 nd) (gs_cons (u_g 3 nd) gs_nil)))) (fun _ _ _ _ _ => ts_nil) (fun _ _ _ _ _ => (u_call ih (hr.mono (by omega)) takesN (a_cons (sv 2) (a_cons (sv 3) a_nil)))))) a_nil))))))) b_nil)
    (b_cons (t_if (SW.sc (w_or (c_cmp od_ne (op_neD hr.units) (s_cmp od_is op_isN (sv 0) s_non (nomark _)) (s_cmp od_is op_isN (sv 1) s_non (nomark _)) (nomark _)) (w_or1 (c_cmp od_ne (op_neD hr.units) (s_cb cd_isi call_isi B.isinstance (by decide +kernel : bootBuiltins "isinstance" = some (.builtin "isinstance")) (a_cons (sv 0) (a_cons (s_bty B.bool (by decide +kernel : bootBuiltins "bool" = some (.type "bool"))) a_nil))) (s_cb cd_isi call_isi B.isinstance (by decide +kernel : bootBuiltins "isinstance" = some (.builtin "isinstance")) (a_cons (sv 1) (a_cons (s_bty B.bool (by decide +kernel : bootBuiltins "bool" = some (.type "bool"))) a_nil))) (nomark _))))) (b_one (t_ret s_bl)) b_nil)
    (b_cons (t_if (c_cmp od_ne (op_neD hr.units) (s_cb cd_isi call_isi B.isinstance (by decide +kernel : bootBuiltins "isinstance" = some (.builtin "isinstance")) (a_cons (sv 0) (a_cons (s_bty B.int PyProof.Rows.boot_int) a_nil))) (s_cb cd_isi call_isi B.isinstance (by decide +kernel : bootBuiltins "isinstance" = some (.builtin "isinstance")) (a_cons (sv 1) (a_cons (s_bty B.int PyProof.Rows.boot_int) a_nil))) (nomark _)) (b_one (t_ret s_bl)) b_nil)
    (b_one (t_ret (s_and (s_cmp od_eq (op_eqD hr.units) (s_cb cd_isi call_isi B.isinstance (by decide +kernel : bootBuiltins "isinstance" = some (.builtin "isinstance")) (a_cons (sv 0) (a_cons (s_bty B.str (by decide +kernel : bootBuiltins "str" = some (.type "str"))) a_nil))) (s_cb cd_isi call_isi B.isinstance (by decide +kernel : bootBuiltins "isinstance" = some (.builtin "isinstance")) (a_cons (sv 1) (a_cons (s_bty B.str (by decide +kernel : bootBuiltins "str" = some (.type "str"))) a_nil))) (nomark _)) (s_one (s_cmp od_eq (op_eqD hr.units) (sv 0) (sv 1) (nomark _)))))))))⟩
abbrev s_FoldU_lenU : Stmt := inClass (top 21) 2
abbrev N_FoldU_lenU : List Str := ["self"]
theorem sc_FoldU_lenU : FnScope N_FoldU_lenU ["self"] (defScope s_FoldU_lenU) := ⟨rfl, rfl, rfl, by decide +kernel, rfl, by decide +kernel, by decide +kernel⟩
theorem ok_FoldU_lenU {f : Addr} {fd : FuncData} (F : FnPk K "__len__" "Fold.__len__" s_FoldU_lenU [] [] f fd) (B : Bl mg) (C_Fold : Cls K ((GY K ca T).ca "Fold")) (n_Fold_lines : NoAttr K ((GY K ca T).ca "Fold") "lines") : FnOk P w K mg base (L2N.CX P w) 1 f fd ["self"] (spOf (GY K ca T) 1 m_FoldU_lenU) :=
  fn_sim (GY K ca T) F sc_FoldU_lenU rfl fun cdv A outer s H E hr tk po => by
  have nd := sc_FoldU_lenU.nd
  exact ⟨_, (b_one (t_ret (s_cb cd_len cr_len B.len PySem.boot_len (a_cons (s_fld "Fold" C_Fold n_Fold_lines (sv 0)) a_nil))))⟩
abbrev s_Fold_size : Stmt := inClass (top 21) 6
abbrev N_Fold_size : List Str := ["self"]
theorem sc_Fold_size : FnScope N_Fold_size ["self"] (defScope s_Fold_size) := ⟨rfl, rfl, rfl, by decide +kernel, rfl, by decide +kernel, by decide +kernel⟩
theorem ok_Fold_size {f : Addr} {fd : FuncData} (F : FnPk K "size" "Fold.size" s_Fold_size [] [] f fd) (C_Fold : Cls K ((GY K ca T).ca "Fold")) (n_Fold_wide : NoAttr K ((GY K ca T).ca "Fold") "wide") : FnOk P w K mg base (L2N.CX P w) 1 f fd ["self"] (spOf (GY K ca T) 1 m_Fold_size) :=
  fn_sim (GY K ca T) F sc_Fold_size rfl fun cdv A outer s H E hr tk po => by
  have nd := sc_Fold_size.nd
  exact ⟨_, (b_one (t_ret (s_fld "Fold" C_Fold n_Fold_wide (sv 0))))⟩
abbrev s_Fold_many : Stmt := inClass (top 21) 5
abbrev N_Fold_many : List Str := ["self"]
theorem sc_Fold_many : FnScope N_Fold_many ["self"] (defScope s_Fold_many) := ⟨rfl, rfl, rfl, by decide +kernel, rfl, by decide +kernel, by decide +kernel⟩
theorem ok_Fold_many {f : Addr} {fd : FuncData} (F : FnPk K "many" "Fold.many" s_Fold_many [] [] f fd) (B : Bl mg) (C_Fold : Cls K ((GY K ca T).ca "Fold")) (n_Fold_lines : NoAttr K ((GY K ca T).ca "Fold") "lines") : FnOk P w K mg base (L2N.CX P w) 1 f fd ["self"] (spOf (GY K ca T) 1 m_Fold_many) :=
  fn_sim (GY K ca T) F sc_Fold_many rfl fun cdv A outer s H E hr tk po => by
  have nd := sc_Fold_many.nd
  exact ⟨_, (b_one (t_ret (s_cb cd_len cr_len B.len PySem.boot_len (a_cons (s_fld "Fold" C_Fold n_Fold_lines (sv 0)) a_nil))))⟩
abbrev s_Fold_rows : Stmt := inClass (top 21) 4
abbrev N_Fold_rows : List Str := ["self"]
theorem sc_Fold_rows : FnScope N_Fold_rows ["self"] (defScope s_Fold_rows) := ⟨rfl, rfl, rfl, by decide +kernel, rfl, by decide +kernel, by decide +kernel⟩
theorem ok_Fold_rows {f : Addr} {fd : FuncData} (F : FnPk K "rows" "Fold.rows" s_Fold_rows [] [] f fd) (C_Fold : Cls K ((GY K ca T).ca "Fold")) (n_Fold_lines : NoAttr K ((GY K ca T).ca "Fold") "lines") : FnOk P w K mg base (L2N.CX P w) 1 f fd ["self"] (spOf (GY K ca T) 1 m_Fold_rows) :=
  fn_sim (GY K ca T) F sc_Fold_rows rfl fun cdv A outer s H E hr tk po => by
  have nd := sc_Fold_rows.nd
  exact ⟨_, (b_one (t_ret (s_fld "Fold" C_Fold n_Fold_lines (sv 0))))⟩
abbrev s_FoldU_reprU : Stmt := inClass (top 21) 3
abbrev N_FoldU_reprU : List Str := ["self"]
theorem sc_FoldU_reprU : FnScope N_FoldU_reprU ["self"] (defScope s_FoldU_reprU) := ⟨rfl, rfl, rfl, by decide +kernel, rfl, by decide +kernel, by decide +kernel⟩
theorem ok_FoldU_reprU {f : Addr} {fd : FuncData} (F : FnPk K "__repr__" "Fold.__repr__" s_FoldU_reprU [] [] f fd) (B : Bl mg) (C_Fold : Cls K ((GY K ca T).ca "Fold")) (n_Fold_wide : NoAttr K ((GY K ca T).ca "Fold") "wide") (n_Fold_lines : NoAttr K ((GY K ca T).ca "Fold") "lines") : FnOk P w K mg base (L2N.CX P w) 1 f fd ["self"] (spOf (GY K ca T) 1 m_FoldU_reprU) :=
  fn_sim (GY K ca T) F sc_FoldU_reprU rfl fun cdv A outer s H E hr tk po => by
  have nd := sc_FoldU_reprU.nd
  exact ⟨_, (b_one (t_ret (s_fs (sj_cons s_str (sj_cons (s_fmt (s_cb cd_len cr_len B.len PySem.boot_len (a_cons (s_fld "Fold" C_Fold n_Fold_lines (sv 0)) a_nil))) (sj_cons s_str (sj_cons (s_fmt (s_fld "Fold" C_Fold n_Fold_wide (sv 0))) (sj_cons s_str sj_nil))))))))⟩
abbrev s_FoldU_eqU : Stmt := inClass (top 21) 1
abbrev N_FoldU_eqU : List Str := ["self", "other"]
theorem sc_FoldU_eqU : FnScope N_FoldU_eqU ["self", "other"] (defScope s_FoldU_eqU) := ⟨rfl, rfl, rfl, by decide +kernel, rfl, by decide +kernel, by decide +kernel⟩
theorem ok_FoldU_eqU {f : Addr} {fd : FuncData} (F : FnPk K "__eq__" "Fold.__eq__" s_FoldU_eqU [] [] f fd) (B : Bl mg) (g_Fold : mg "Fold" = some (.ref ((GY K ca T).ca "Fold"))) (i_Fold : C8.InsC K ((GY K ca T).ca "Fold")) (ne_Fold : NeC K ((GY K ca T).ca "Fold")) (C_Fold : Cls K ((GY K ca T).ca "Fold")) (n_Fold_lines : NoAttr K ((GY K ca T).ca "Fold") "lines") (n_Fold_wide : NoAttr K ((GY K ca T).ca "Fold") "wide") : FnOk P w K mg base (L2N.CX P w) 1 f fd ["self", "other"] (spOf (GY K ca T) 2 m_FoldU_eqU_k06) :=
  fn_sim (GY K ca T) F sc_FoldU_eqU rfl fun cdv A outer s H E hr tk po => by
  have nd := sc_FoldU_eqU.nd
  exact ⟨_, (b_one (t_ret (s_and (s_isCL "Fold" i_Fold ne_Fold B.isinstance (a_cons (sv 1) (a_cons (s_gcls g_Fold) a_nil))) (s_and (s_cmp od_eq (op_eqD hr.units) (s_fld "Fold" C_Fold n_Fold_lines (sv 0)) (s_fld "Fold" C_Fold n_Fold_lines (sv 1)) (nomark _)) (s_one (s_cmp od_eq (op_eqD hr.units) (s_fld "Fold" C_Fold n_Fold_wide (sv 0)) (s_fld "Fold" C_Fold n_Fold_wide (sv 1)) (nomark _)))))))⟩
abbrev s_law : Stmt := top 32
abbrev N_law : List Str := ["_law_script", "_law_box_here", "_law_turn", "_law_size", "_law_lines", "_law_wide", "_law_good", "_law_handed", "_law_told", "_law_fold", "_law_like", "_law_more", "_law_due", "_law_line", "_law_one"]
theorem sc_law : FnScope N_law ["_law_script"] (defScope s_law) := ⟨rfl, rfl, rfl, by decide +kernel, rfl, by decide +kernel, by decide +kernel⟩
theorem ok_law {f : Addr} {fd : FuncData} (mk : MkrF K mg base (GY K ca T) f (lamQ "law" (defScope s_law))) (F : FnPk K "law" "law" s_law [] [] f fd) (B : Bl mg) (h__law_box : Kn P w K mg base (GY K ca T) 1 "_law_box" 1 m__law_box [] []) (h__law_take : Kn P w K mg base (GY K ca T) 1 "_law_take" 2 m__law_take [] []) (h__law_numbers : Kn P w K mg base (GY K ca T) 2 "_law_numbers" 3 m__law_numbers [] []) (h__law_bent : Kn P w K mg base (GY K ca T) 3 "_law_bent" 3 m__law_bent_k06 [] []) (k_Fold : KnC P w K mg base (GY K ca T) 1 "Fold" 3 m_FoldU_initU_k06 [] []) (tri : Tri P w K mg base (GY K ca T) ["BadNumber", "BadFold"]) (h_FoldU_lenU : KnM P w K mg base (GY K ca T) 1 "Fold" "__len__" 1 m_FoldU_lenU [] []) (h_Fold_size : KnM P w K mg base (GY K ca T) 1 "Fold" "size" 1 m_Fold_size [] []) (h_Fold_many : KnM P w K mg base (GY K ca T) 1 "Fold" "many" 1 m_Fold_many [] []) (h_Fold_rows : KnM P w K mg base (GY K ca T) 1 "Fold" "rows" 1 m_Fold_rows [] []) (h__law_same : ∀ n, Kn P w K mg base (GY K ca T) (n + 1) "_law_same" 2 (m__law_same n) [] []) (h_FoldU_reprU : KnM P w K mg base (GY K ca T) 1 "Fold" "__repr__" 1 m_FoldU_reprU [] []) (h_FoldU_eqU : KnM P w K mg base (GY K ca T) 1 "Fold" "__eq__" 2 m_FoldU_eqU_k06 [] []) (ne_Fold : NeC K ((GY K ca T).ca "Fold")) : FnOk P w K mg base (L2N.CX P w) 6 f fd ["_law_script"] (spOf (GY K ca T) 1 m_law) :=
  fn_simL (GY K ca T) F sc_law rfl mk fun cdv A outer s H E M hr tk po => by
  have nd := sc_law.nd
  exact ⟨_, (b_cons (u_cell 1 (v_call h__law_box (hr.mono (by decide)) tk (a_cons (sv 0) a_nil)) nd)
    (b_cons (t_for po (i_range1 B.range (a_cons s_int a_nil)) (u_g 2 nd) (b_cons (u_set 3 (u_call h__law_take (hr.mono (by decide)) tk (a_cons (sv 1) (a_cons s_int a_nil))) nd)
    (b_cons (t_asg (u_call h__law_bent (hr.mono (by decide)) tk (a_cons (sv 1) (a_cons (u_call h__law_numbers (hr.mono (by decide)) tk (a_cons (sv 1) (a_cons (u_call h__law_take (hr.mono (by decide)) tk (a_cons (sv 1) (a_cons s_int a_nil))) (a_cons (sv 3) a_nil)))) (a_cons (sv 3) a_nil)))) (g_tup (gs_cons (u_g 4 nd) (gs_cons (u_g 5 nd) gs_nil))))
    (b_cons (u_set 6 (s_and (s_chain od_le od_le op_le op_le s_int (sv 5) s_int) (s_and (s_cmp od_le op_le (s_cb cd_len cr_len B.len PySem.boot_len (a_cons (sv 4) a_nil)) s_int (nomark _)) (s_one (s_cb cd_all (cr_all rfl) B.all (by decide +kernel : bootBuiltins "all" = some (.builtin "all")) (a_cons (SF.val (f_lc (own := [("_law_line", 13)]) nd (i_seq (sv 4)) (blkOk_by (own := [("_law_line", 13)]) (N := N_law) (sc := defScope s_law) (by decide +kernel)) (fun _ _ _ _ _ => (u_g 13 nd)) (fun _ _ _ _ _ => ts_nil) (fun _ _ _ _ _ => (s_chain od_le od_lt op_le op_lt s_int (sv 13) (s_op od_shl op_shl s_int (s_cb cd_max2 (call_max2 rfl) B.max (by decide +kernel : bootBuiltins "max" = some (.builtin "max")) (a_cons s_int (a_cons (s_cb cd_min2 (call_min2 rfl) B.min (by decide +kernel : bootBuiltins "min" = some (.builtin "min")) (a_cons s_int (a_cons (sv 5) a_nil))) a_nil)))))))) a_nil))))) nd)
    (b_cons (u_cell 7 (f_ct co_list call_list_of B.list PyProof.Rows.boot_list (a_cons (sv 4) a_nil)) nd)
    (b_cons (u_set 8 (s_tried (k := 2) tri M (LamX.lamS_by (sc := defScope s_law) (by decide +kernel)) (hr.mono (by decide)) (by decide) (fun A outer s H E f c' hr tk po => ⟨_, (u_new k_Fold (hr.mono (by decide)) tk (a_cons (sv 7) (a_cons (sv 5) a_nil)))⟩)) nd)
    (b_one (t_if (c_not (c_val (sv 6))) (b_one (t_if (c_cmp od_ne (op_neD hr.units) (sv 8) (s_tup (a_cons s_str a_nil)) (nomark _)) (b_one (t_ret s_bl)) b_nil)) (b_one (t_if (c_cmp od_ne (op_neD hr.units) (s_ix od_ix ix_lt (sv 8) s_int (fun _ _ => rfl)) s_str (nomark _)) (b_one (t_ret s_bl)) (b_cons (u_set 9 (s_ix od_ix ix_lt (sv 8) s_int (fun _ _ => rfl)) nd)
    (b_cons (t_appC 7 s_int)
    (b_cons (t_if (c_not (c_val (u_call (h__law_same 4) (hr.mono (by decide)) tk (a_cons (SF.val (f_lst (a_cons (u_meth0 "Fold" h_Fold_rows (hr.mono (by decide)) tk (sv 9)) (a_cons (u_meth0 "Fold" h_Fold_many (hr.mono (by decide)) tk (sv 9)) (a_cons (u_meth0 "Fold" h_Fold_size (hr.mono (by decide)) tk (sv 9)) (a_cons (s_lenOw "Fold" h_FoldU_lenU (hr.mono (by decide)) B.len (sv 9)) a_nil)))))) (a_cons (SF.val (f_lst (a_cons (s_ct cd_tup call_tuple_of B.tuple PyProof.Rows.boot_tuple (a_cons (sv 4) a_nil)) (a_cons (s_cb cd_len cr_len B.len PySem.boot_len (a_cons (sv 4) a_nil)) (a_cons (sv 5) (a_cons (s_cb cd_len cr_len B.len PySem.boot_len (a_cons (sv 4) a_nil)) a_nil)))))) a_nil))))) (b_one (t_ret s_bl)) b_nil)
    (b_cons (t_if (c_cmp od_ne (op_neD hr.units) (s_reprO "Fold" h_FoldU_reprU (hr.mono (by decide)) B.repr (sv 9)) (s_op od_addS op_add_str (s_op od_addS op_add_str (s_op od_addS op_add_str (s_op od_addS op_add_str s_str (s_ct cd_strI call_str_int B.str (by decide +kernel : bootBuiltins "str" = some (.type "str")) (a_cons (s_cb cd_len cr_len B.len PySem.boot_len (a_cons (sv 4) a_nil)) a_nil))) s_str) (s_ct cd_strI call_str_int B.str (by decide +kernel : bootBuiltins "str" = some (.type "str")) (a_cons (sv 5) a_nil))) s_str) (nomark _)) (b_one (t_ret s_bl)) b_nil)
    (b_cons (u_set 10 (u_new k_Fold (hr.mono (by decide)) tk (a_cons (s_ct cd_tup call_tuple_of B.tuple PyProof.Rows.boot_tuple (a_cons (sv 4) a_nil)) (a_cons (sv 5) a_nil))) nd)
    (b_cons (u_set 11 (SF.val (f_lst (a_cons (u_new k_Fold (hr.mono (by decide)) tk (a_cons (sv 4) (a_cons (s_cb cd_min2 (call_min2 rfl) B.min (by decide +kernel : bootBuiltins "min" = some (.builtin "min")) (a_cons s_int (a_cons (s_op od_add op_addD (sv 5) s_int) a_nil))) a_nil))) (a_cons (u_new k_Fold (hr.mono (by decide)) tk (a_cons (SF.val (f_sl (s_op od_add op_addD (SF.val (f_lst (a_cons s_int a_nil))) (sv 4)) (o_some (s_un ud_neg un_neg s_int)) o_none)) (a_cons (sv 5) a_nil))) (a_cons (u_new k_Fold (hr.mono (by decide)) tk (a_cons (SF.val (f_sl (sv 4) (o_some s_int) o_none)) (a_cons (sv 5) a_nil))) a_nil))))) nd)
    (b_cons (u_set 12 (SF.val (f_lst (a_cons (s_cmp od_eq (op_eqD hr.units) (sv 5) s_int (nomark _)) (a_cons (s_cmp od_eq (op_eqD hr.units) (SF.val (f_sl (s_op od_add op_addD (SF.val (f_lst (a_cons s_int a_nil))) (sv 4)) (o_some (s_un ud_neg un_neg s_int)) o_none)) (sv 4) (nomark _)) (a_cons (s_cmp od_eq (op_eqD hr.units) (sv 4) (SF.val (f_lst a_nil)) (nomark _)) a_nil))))) nd)
    (b_one (t_if (SW.sc (w_or (c_not (c_val (u_call (h__law_same 4) (hr.mono (by decide)) tk (a_cons (SF.val (f_lc (own := [("_law_one", 14)]) nd (i_seq (sv 11)) (blkOk_by (own := [("_law_one", 14)]) (N := N_law) (sc := defScope s_law) (by decide +kernel)) (fun _ _ _ _ _ => (u_g 14 nd)) (fun _ _ _ _ _ => ts_nil) (fun _ _ _ _ _ => (u_eq "Fold" h_FoldU_eqU (hr.mono (by decide)) (sv 9) (sv 14))))) (a_cons (sv 12) a_nil))))) (w_or (c_not (uc_eq "Fold" h_FoldU_eqU (hr.mono (by decide)) (sv 9) (sv 10))) (w_or (uc_neI "Fold" h_FoldU_eqU ne_Fold (hr.mono (by decide)) (sv 9) (sv 10)) (w_or1 (uc_eqL "Fold" h_FoldU_eqU (hr.mono (by decide)) (sv 9) (sv 4))))))) (b_one (t_ret s_bl)) b_nil)))))))))))))))))))
    (b_one (t_ret s_bl))))⟩
end
end K06
namespace K06
open PySem L2 Mm Fb
def d__law_tried : He.DefD := ⟨("_law_tried", none), "_law_tried", "_law_tried", defArgs s__law_tried, defBody s__law_tried, defScope s__law_tried, [], []⟩
def d__law_fold_word : He.DefD := ⟨("_law_fold_word", none), "_law_fold_word", "_law_fold_word", defArgs s__law_fold_word, defBody s__law_fold_word, defScope s__law_fold_word, [], []⟩
def d__law_box : He.DefD := ⟨("_law_box", none), "_law_box", "_law_box", defArgs s__law_box, defBody s__law_box, defScope s__law_box, [], []⟩
def d__law_take : He.DefD := ⟨("_law_take", none), "_law_take", "_law_take", defArgs s__law_take, defBody s__law_take, defScope s__law_take, [], []⟩
def d__law_shuffled : He.DefD := ⟨("_law_shuffled", none), "_law_shuffled", "_law_shuffled", defArgs s__law_shuffled, defBody s__law_shuffled, defScope s__law_shuffled, [], []⟩
def d__law_of : He.DefD := ⟨("_law_of", none), "_law_of", "_law_of", defArgs s__law_of, defBody s__law_of, defScope s__law_of, [], []⟩
def d__law_bent : He.DefD := ⟨("_law_bent", none), "_law_bent", "_law_bent", defArgs s__law_bent, defBody s__law_bent, defScope s__law_bent, [], []⟩
def d__law_numbers : He.DefD := ⟨("_law_numbers", none), "_law_numbers", "_law_numbers", defArgs s__law_numbers, defBody s__law_numbers, defScope s__law_numbers, [], []⟩
def d_FoldU_initU : He.DefD := ⟨("Fold", some "__init__"), "__init__", "Fold.__init__", defArgs s_FoldU_initU, defBody s_FoldU_initU, defScope s_FoldU_initU, [], []⟩
def d__law_same : He.DefD := ⟨("_law_same", none), "_law_same", "_law_same", defArgs s__law_same, defBody s__law_same, defScope s__law_same, [], []⟩
def d_FoldU_lenU : He.DefD := ⟨("Fold", some "__len__"), "__len__", "Fold.__len__", defArgs s_FoldU_lenU, defBody s_FoldU_lenU, defScope s_FoldU_lenU, [], []⟩
def d_Fold_size : He.DefD := ⟨("Fold", some "size"), "size", "Fold.size", defArgs s_Fold_size, defBody s_Fold_size, defScope s_Fold_size, [], []⟩
def d_Fold_many : He.DefD := ⟨("Fold", some "many"), "many", "Fold.many", defArgs s_Fold_many, defBody s_Fold_many, defScope s_Fold_many, [], []⟩
def d_Fold_rows : He.DefD := ⟨("Fold", some "rows"), "rows", "Fold.rows", defArgs s_Fold_rows, defBody s_Fold_rows, defScope s_Fold_rows, [], []⟩
def d_FoldU_reprU : He.DefD := ⟨("Fold", some "__repr__"), "__repr__", "Fold.__repr__", defArgs s_FoldU_reprU, defBody s_FoldU_reprU, defScope s_FoldU_reprU, [], []⟩
def d_FoldU_eqU : He.DefD := ⟨("Fold", some "__eq__"), "__eq__", "Fold.__eq__", defArgs s_FoldU_eqU, defBody s_FoldU_eqU, defScope s_FoldU_eqU, [], []⟩
def d_law : He.DefD := ⟨("law", none), "law", "law", defArgs s_law, defBody s_law, defScope s_law, [], []⟩
def fns : List He.DefD := [d__law_box, d__law_take, d__law_shuffled, d__law_of, d__law_bent, d__law_numbers, d_FoldU_initU, d__law_same, d_FoldU_lenU, d_Fold_size, d_Fold_many, d_Fold_rows, d_FoldU_reprU, d_FoldU_eqU, d_law, d__law_tried, d__law_fold_word]
def tf : List (He.Defn × Str) := [(("law", none), lamQ "law" (defScope s_law))]
def tfd : List He.Defn := [("law", none)]
def facl : List He.Fa := blFa ++ [.glo "_law_box", .glo "_law_take", .glo "_law_numbers", .glo "_law_of", .glo "_law_shuffled", .glo "_law_bent", .int "MOST_DIGITS" 12, .glo "BadFold", .exc "BadFold", .cls "Fold", .noat "Fold" "lines", .noat "Fold" "wide", .mkr "Fold", .glo "Fold", .glo "BadNumber", .glo "Unfit", .glo "NotPart", .glo "NotOnto", .glo "BadSize", .glo "NoBerth", .glo "BadSides", .glo "BadRows", .glo "_law_tried", .glo "_law_fold_word", .glo "BadText", .glo "FoldError", .meth "Fold" "__len__", .meth "Fold" "size", .meth "Fold" "many", .meth "Fold" "rows", .glo "_law_same", .meth "Fold" "__repr__", .meth "Fold" "__eq__", .glo "law"]
def exs : List (PySem.W.Frag → Bool) := [fun K => triXB K "BadNumber", fun K => triXB K "BadFold", fun K => insB K "Fold", fun K => neB K "Fold"]
def ex (K : PySem.W.Frag) : Bool := exs.all fun f => f K
abbrev R : PySem.W.OpenRow := PySem.W.OpenLaw.row PySem.Challenge.rw_foldberth_k06_folds_made_or_refused
def asl0 : List Addr := [3, 6, 4, 21, 31, 44, 56, 68, 80, 92, 104, 116, 128, 140, 159, 168, 175, 180, 187, 192, 314, 325, 332, 339, 344, 351, 356, 361, 368, 375]
def asl1 : List Addr := [380, 0, 20, 30, 43, 55, 67, 79, 91, 103, 115, 127, 139, 158, 167, 174, 179, 186, 191, 313, 324, 331, 338, 343, 350, 355, 360, 367, 374, 379]
def asl2 : List Addr := [15, 16, 17, 18, 19, 29, 32, 42, 54, 66, 78, 90, 102, 114, 126, 138, 156, 157, 162, 163, 164, 165, 166, 169, 170, 171, 172, 173, 176, 177]
def asl3 : List Addr := [178, 181, 182, 183, 184, 185, 188, 189, 190, 206, 213, 220, 227, 234, 241, 248, 255, 262, 269, 276, 283, 290, 297, 304, 311, 312, 315, 316, 319, 320]
def asl4 : List Addr := [321, 322, 323, 326, 327, 328, 329, 330, 333, 334, 335, 336, 337, 340, 341, 342, 345, 346, 347, 348, 349, 352, 353, 354, 357, 358, 359, 362, 363, 364]
def asl5 : List Addr := [365, 366, 369, 370, 371, 372, 373, 376, 377, 378, 155, 205, 212, 219, 226, 233, 240, 247, 254, 261, 268, 275, 282, 289, 296, 303, 310, 150, 151, 152]
def asl6 : List Addr := [153, 154, 200, 201, 202, 203, 204, 207, 208, 209, 210, 211, 214, 215, 216, 217, 218, 221, 222, 223, 224, 225, 228, 229, 230, 231, 232, 235, 236, 237]
def asl7 : List Addr := [238, 239, 242, 243, 244, 245, 246, 249, 250, 251, 252, 253, 256, 257, 258, 259, 260, 263, 264, 265, 266, 267, 270, 271, 272, 273, 274, 277, 278, 279]
def asl8 : List Addr := [280, 281, 284, 285, 286, 287, 288, 291, 292, 293, 294, 295, 298, 299, 300, 301, 302, 305, 306, 307, 308, 309]
def asl : List Addr := cStatics :: (asl0 ++ asl1 ++ asl2 ++ asl3 ++ asl4 ++ asl5 ++ asl6 ++ asl7 ++ asl8)
abbrev hk : PySem.W.Hook := hookZ asl facl fns [] tfd ex
def ob (s : PySem.W.SharedT) : He.AlX := obsZ asl facl fns [] tfd ex (HandSHeadRun.getT s)
theorem ob_eq (s : PySem.W.SharedT) : ob s = hk.obs s.abs := obsZ_eq (HandSHeadRun.getT_eq s)
def loose0 : List Str := ["_wall", "FoldError", "BadNumber", "BadFold", "Unfit", "NotPart", "NotOnto", "BadSides", "BadSize", "NoBerth", "BadRows", "BadText", "MOST_DIGITS", "top_of", "blended", "picked", "reduced", "basis_of", "Fold", "_law_box", "_law_take", "_law_of", "_law_same", "_law_shuffled", "_law_numbers", "_law_fold_word", "_law_tried", "_law_bent"]
def loose : List Str := loose0
set_option maxHeartbeats 0 in
theorem run (w : World) : HandSHeadRun.RunEq R (PySem.W.view R.prog [32]) hk ob 20000 loose w := by
  intro os
  kernel_rfl
theorem facts {P : Program} {w : World} {K : PySem.W.Frag} {h : Heap} {mg : Str → Option Value} {f : Addr} (X : K.In h) (G : h.Ns mainGlobals mg) (hfa : mg ("law" : Str) = some (.ref f)) (c : He.SaysX facl fns [] (tf.map (·.1)) ex w h K) :
    ∃ fd : FuncData, (∀ (s : Shared) (v : Value), BindsTo s fd ⟨[v], []⟩ [("_law_script", v)]) ∧ ∀ base : Heap, (∀ q ∈ tf, LamX.TabB base mg (He.cT K q.1).1 (He.cT K q.1).2) → FnOk P w K mg base (L2N.CX P w) 6 f fd ["_law_script"] (spOf (GY K (He.ga K) (Tof K tf)) 1 m_law) := by
  obtain ⟨fd__law_tried, F'__law_tried⟩ := c.t.d.def_ 15 (d := d__law_tried) rfl
  have F__law_tried : FnP K "_law_tried" "_law_tried" s__law_tried [] (He.ga K "_law_tried") fd__law_tried := F'__law_tried
  obtain ⟨fd__law_fold_word, F'__law_fold_word⟩ := c.t.d.def_ 16 (d := d__law_fold_word) rfl
  have F__law_fold_word : FnP K "_law_fold_word" "_law_fold_word" s__law_fold_word [] (He.ga K "_law_fold_word") fd__law_fold_word := F'__law_fold_word
  obtain ⟨fd__law_box, F'__law_box⟩ := c.t.d.def_ 0 (d := d__law_box) rfl
  have F__law_box : FnPk K "_law_box" "_law_box" s__law_box [] [] (He.ga K "_law_box") fd__law_box := F'__law_box
  obtain ⟨fd__law_take, F'__law_take⟩ := c.t.d.def_ 1 (d := d__law_take) rfl
  have F__law_take : FnPk K "_law_take" "_law_take" s__law_take [] [] (He.ga K "_law_take") fd__law_take := F'__law_take
  obtain ⟨fd__law_shuffled, F'__law_shuffled⟩ := c.t.d.def_ 2 (d := d__law_shuffled) rfl
  have F__law_shuffled : FnPk K "_law_shuffled" "_law_shuffled" s__law_shuffled [] [] (He.ga K "_law_shuffled") fd__law_shuffled := F'__law_shuffled
  obtain ⟨fd__law_of, F'__law_of⟩ := c.t.d.def_ 3 (d := d__law_of) rfl
  have F__law_of : FnPk K "_law_of" "_law_of" s__law_of [] [] (He.ga K "_law_of") fd__law_of := F'__law_of
  obtain ⟨fd__law_bent, F'__law_bent⟩ := c.t.d.def_ 4 (d := d__law_bent) rfl
  have F__law_bent : FnPk K "_law_bent" "_law_bent" s__law_bent [] [] (He.ga K "_law_bent") fd__law_bent := F'__law_bent
  obtain ⟨fd__law_numbers, F'__law_numbers⟩ := c.t.d.def_ 5 (d := d__law_numbers) rfl
  have F__law_numbers : FnPk K "_law_numbers" "_law_numbers" s__law_numbers [] [] (He.ga K "_law_numbers") fd__law_numbers := F'__law_numbers
  obtain ⟨fd_FoldU_initU, F'_FoldU_initU⟩ := c.t.d.def_ 6 (d := d_FoldU_initU) rfl
  have F_FoldU_initU : FnPk K "__init__" "Fold.__init__" s_FoldU_initU [] [] (He.ma K (He.ga K "Fold") "__init__") fd_FoldU_initU := F'_FoldU_initU
  obtain ⟨fd__law_same, F'__law_same⟩ := c.t.d.def_ 7 (d := d__law_same) rfl
  have F__law_same : FnPk K "_law_same" "_law_same" s__law_same [] [] (He.ga K "_law_same") fd__law_same := F'__law_same
  obtain ⟨fd_FoldU_lenU, F'_FoldU_lenU⟩ := c.t.d.def_ 8 (d := d_FoldU_lenU) rfl
  have F_FoldU_lenU : FnPk K "__len__" "Fold.__len__" s_FoldU_lenU [] [] (He.ma K (He.ga K "Fold") "__len__") fd_FoldU_lenU := F'_FoldU_lenU
  obtain ⟨fd_Fold_size, F'_Fold_size⟩ := c.t.d.def_ 9 (d := d_Fold_size) rfl
  have F_Fold_size : FnPk K "size" "Fold.size" s_Fold_size [] [] (He.ma K (He.ga K "Fold") "size") fd_Fold_size := F'_Fold_size
  obtain ⟨fd_Fold_many, F'_Fold_many⟩ := c.t.d.def_ 10 (d := d_Fold_many) rfl
  have F_Fold_many : FnPk K "many" "Fold.many" s_Fold_many [] [] (He.ma K (He.ga K "Fold") "many") fd_Fold_many := F'_Fold_many
  obtain ⟨fd_Fold_rows, F'_Fold_rows⟩ := c.t.d.def_ 11 (d := d_Fold_rows) rfl
  have F_Fold_rows : FnPk K "rows" "Fold.rows" s_Fold_rows [] [] (He.ma K (He.ga K "Fold") "rows") fd_Fold_rows := F'_Fold_rows
  obtain ⟨fd_FoldU_reprU, F'_FoldU_reprU⟩ := c.t.d.def_ 12 (d := d_FoldU_reprU) rfl
  have F_FoldU_reprU : FnPk K "__repr__" "Fold.__repr__" s_FoldU_reprU [] [] (He.ma K (He.ga K "Fold") "__repr__") fd_FoldU_reprU := F'_FoldU_reprU
  obtain ⟨fd_FoldU_eqU, F'_FoldU_eqU⟩ := c.t.d.def_ 13 (d := d_FoldU_eqU) rfl
  have F_FoldU_eqU : FnPk K "__eq__" "Fold.__eq__" s_FoldU_eqU [] [] (He.ma K (He.ga K "Fold") "__eq__") fd_FoldU_eqU := F'_FoldU_eqU
  obtain ⟨fd_law, F'_law⟩ := c.t.d.def_ 14 (d := d_law) rfl
  have F_law : FnPk K "law" "law" s_law [] [] (He.ga K "law") fd_law := F'_law
  have e := hfa.symm.trans (He.glo_ok X G (c.t.d.fact 53 (f := .glo "law") rfl))
  cases e
  have b := FunD.bindsA (ps := ["_law_script"]) F_law fun _ _ _ _ _ _ us hl => match us, hl with | [_], _ => rfl
  refine ⟨fd_law, fun s v => b s [v] rfl, fun base hTB => ?_⟩
  have ndT : (tf.map fun p => (He.cT K p.1).2).Nodup := by simp [tf]
  have B : Bl mg := bl_of X G fun f hf => c.t.d.facts (List.mem_append_left _ hf)
  have o__law_box := ok__law_box (P := P) (w := w) (mg := mg) (base := base) (ca := He.ga K) (T := Tof K tf) F__law_box B
  have h__law_box : Kn P w K mg base (GY K (He.ga K) (Tof K tf)) 1 "_law_box" 1 m__law_box [] [] := kn_of F__law_box (He.glo_ok X G (c.t.d.fact 20 (f := .glo "_law_box") rfl)) (F__law_box.bindsN (ps := ["_law_script"]) fun _ _ _ _ _ _ us hl => match us, hl with | [_], _ => rfl) o__law_box
  have o__law_take := ok__law_take (P := P) (w := w) (mg := mg) (base := base) (ca := He.ga K) (T := Tof K tf) F__law_take B
  have h__law_take : Kn P w K mg base (GY K (He.ga K) (Tof K tf)) 1 "_law_take" 2 m__law_take [] [] := kn_of F__law_take (He.glo_ok X G (c.t.d.fact 21 (f := .glo "_law_take") rfl)) (F__law_take.bindsN (ps := ["_law_box_here", "_law_sides"]) fun _ _ _ _ _ _ us hl => match us, hl with | [_, _], _ => rfl) o__law_take
  have o__law_numbers := ok__law_numbers (P := P) (w := w) (mg := mg) (base := base) (ca := He.ga K) (T := Tof K tf) F__law_numbers B h__law_take
  have h__law_numbers : Kn P w K mg base (GY K (He.ga K) (Tof K tf)) 2 "_law_numbers" 3 m__law_numbers [] [] := kn_of F__law_numbers (He.glo_ok X G (c.t.d.fact 22 (f := .glo "_law_numbers") rfl)) (F__law_numbers.bindsN (ps := ["_law_box_here", "_law_count", "_law_many"]) fun _ _ _ _ _ _ us hl => match us, hl with | [_, _, _], _ => rfl) o__law_numbers
  have o__law_of := ok__law_of (P := P) (w := w) (mg := mg) (base := base) (ca := He.ga K) (T := Tof K tf) F__law_of B h__law_take
  have h__law_of : Kn P w K mg base (GY K (He.ga K) (Tof K tf)) 2 "_law_of" 2 m__law_of [] [] := kn_of F__law_of (He.glo_ok X G (c.t.d.fact 23 (f := .glo "_law_of") rfl)) (F__law_of.bindsN (ps := ["_law_box_here", "_law_some"]) fun _ _ _ _ _ _ us hl => match us, hl with | [_, _], _ => rfl) o__law_of
  have o__law_shuffled := ok__law_shuffled (P := P) (w := w) (mg := mg) (base := base) (ca := He.ga K) (T := Tof K tf) F__law_shuffled B h__law_take
  have h__law_shuffled : Kn P w K mg base (GY K (He.ga K) (Tof K tf)) 2 "_law_shuffled" 2 m__law_shuffled [] [] := kn_of F__law_shuffled (He.glo_ok X G (c.t.d.fact 24 (f := .glo "_law_shuffled") rfl)) (F__law_shuffled.bindsN (ps := ["_law_box_here", "_law_some"]) fun _ _ _ _ _ _ us hl => match us, hl with | [_, _], _ => rfl) o__law_shuffled
  have o__law_bent := ok__law_bent (P := P) (w := w) (mg := mg) (base := base) (ca := He.ga K) (T := Tof K tf) F__law_bent h__law_take h__law_of h__law_shuffled
  have h__law_bent : Kn P w K mg base (GY K (He.ga K) (Tof K tf)) 3 "_law_bent" 3 m__law_bent_k06 [] [] := kn_of F__law_bent (He.glo_ok X G (c.t.d.fact 25 (f := .glo "_law_bent") rfl)) (F__law_bent.bindsN (ps := ["_law_box_here", "_law_lines", "_law_size"]) fun _ _ _ _ _ _ us hl => match us, hl with | [_, _, _], _ => rfl) o__law_bent
  have c_MOST_DIGITS : ∃ u, mg "MOST_DIGITS" = some (.int 12 u) := He.int_ok X G (c.t.d.fact 26 (f := .int "MOST_DIGITS" 12) rfl)
  have x_BadFold : KnX K mg (GY K (He.ga K) (Tof K tf)) "BadFold" := knX_of X G (c.t.d.fact 27 (f := .glo "BadFold") rfl) (c.t.d.fact 28 (f := .exc "BadFold") rfl)
  have C_Fold : Cls K ((GY K (He.ga K) (Tof K tf)).ca "Fold") := He.cls_ok (c.t.d.fact 29 (f := .cls "Fold") rfl)
  have n_Fold_lines : NoAttr K ((GY K (He.ga K) (Tof K tf)).ca "Fold") "lines" := He.noat_ok (c.t.d.fact 30 (f := .noat "Fold" "lines") rfl)
  have n_Fold_wide : NoAttr K ((GY K (He.ga K) (Tof K tf)).ca "Fold") "wide" := He.noat_ok (c.t.d.fact 31 (f := .noat "Fold" "wide") rfl)
  have o_FoldU_initU := ok_FoldU_initU (P := P) (w := w) (mg := mg) (base := base) (ca := He.ga K) (T := Tof K tf) F_FoldU_initU B c_MOST_DIGITS x_BadFold C_Fold n_Fold_lines n_Fold_wide
  have k_Fold : KnC P w K mg base (GY K (He.ga K) (Tof K tf)) 1 "Fold" 3 m_FoldU_initU_k06 [] [] := knC_of F_FoldU_initU (He.mkr_ok (c.t.d.fact 32 (f := .mkr "Fold") rfl)) (He.glo_ok X G (c.t.d.fact 33 (f := .glo "Fold") rfl)) (F_FoldU_initU.bindsN (ps := ["self", "rows", "size"]) fun _ _ _ _ _ _ us hl => match us, hl with | [_, _, _], _ => rfl) o_FoldU_initU
  have g_BadNumber : mg "BadNumber" = some (.ref ((GY K (He.ga K) (Tof K tf)).ca "BadNumber")) := He.glo_ok X G (c.t.d.fact 34 (f := .glo "BadNumber") rfl)
  have g_BadFold : mg "BadFold" = some (.ref ((GY K (He.ga K) (Tof K tf)).ca "BadFold")) := He.glo_ok X G (c.t.d.fact 27 (f := .glo "BadFold") rfl)
  have g_Unfit : mg "Unfit" = some (.ref ((GY K (He.ga K) (Tof K tf)).ca "Unfit")) := He.glo_ok X G (c.t.d.fact 35 (f := .glo "Unfit") rfl)
  have g_NotPart : mg "NotPart" = some (.ref ((GY K (He.ga K) (Tof K tf)).ca "NotPart")) := He.glo_ok X G (c.t.d.fact 36 (f := .glo "NotPart") rfl)
  have g_NotOnto : mg "NotOnto" = some (.ref ((GY K (He.ga K) (Tof K tf)).ca "NotOnto")) := He.glo_ok X G (c.t.d.fact 37 (f := .glo "NotOnto") rfl)
  have g_BadSize : mg "BadSize" = some (.ref ((GY K (He.ga K) (Tof K tf)).ca "BadSize")) := He.glo_ok X G (c.t.d.fact 38 (f := .glo "BadSize") rfl)
  have g_NoBerth : mg "NoBerth" = some (.ref ((GY K (He.ga K) (Tof K tf)).ca "NoBerth")) := He.glo_ok X G (c.t.d.fact 39 (f := .glo "NoBerth") rfl)
  have g_BadSides : mg "BadSides" = some (.ref ((GY K (He.ga K) (Tof K tf)).ca "BadSides")) := He.glo_ok X G (c.t.d.fact 40 (f := .glo "BadSides") rfl)
  have g_BadRows : mg "BadRows" = some (.ref ((GY K (He.ga K) (Tof K tf)).ca "BadRows")) := He.glo_ok X G (c.t.d.fact 41 (f := .glo "BadRows") rfl)
  have x_tri_BadNumber : TriX K (GY K (He.ga K) (Tof K tf)) "BadNumber" := triXB_ok (exAt (es := exs) c.more 0 rfl)
  have x_tri_BadFold : TriX K (GY K (He.ga K) (Tof K tf)) "BadFold" := triXB_ok (exAt (es := exs) c.more 1 rfl)
  have allx : ∀ c ∈ (["BadNumber", "BadFold"] : List Str), TriX K (GY K (He.ga K) (Tof K tf)) c := fun c hc => by
    simp only [List.mem_cons, List.not_mem_nil, or_false] at hc
    rcases hc with rfl | rfl
    · exact x_tri_BadNumber
    · exact x_tri_BadFold
  have tri : Tri P w K mg base (GY K (He.ga K) (Tof K tf)) ["BadNumber", "BadFold"] := ⟨⟨_, _, _, _, s__law_tried, s__law_fold_word, N__law_fold_word, F__law_tried, sc__law_tried, (F__law_tried.bindsN (ps := ["_law_ask"]) fun _ _ _ _ _ _ us hl => match us, hl with | [_], _ => rfl), (He.glo_ok X G (c.t.d.fact 42 (f := .glo "_law_tried") rfl)), ⟨_, _, _, _, _, _, _, _, _, _, _, _, _, _, _, _, _, _, _, _, _, _, _, rfl⟩, rfl, rfl, rfl, rfl, rfl, F__law_fold_word, sc__law_fold_word, rfl, (F__law_fold_word.bindsN (ps := ["_law_e"]) fun _ _ _ _ _ _ us hl => match us, hl with | [_], _ => rfl), (He.glo_ok X G (c.t.d.fact 43 (f := .glo "_law_fold_word") rfl)), fun c hc a oe hz hf cdv A outer s H hot => ok__law_fold_word B g_BadNumber g_BadFold g_Unfit g_NotPart g_NotOnto g_BadSize g_NoBerth g_BadSides g_BadRows (allx c hc) hz hf cdv A outer s H hot⟩, (He.glo_ok X G (c.t.d.fact 44 (f := .glo "BadText") rfl)), (He.glo_ok X G (c.t.d.fact 45 (f := .glo "FoldError") rfl)), allx⟩
  have o_FoldU_lenU := ok_FoldU_lenU (P := P) (w := w) (mg := mg) (base := base) (ca := He.ga K) (T := Tof K tf) F_FoldU_lenU B C_Fold n_Fold_lines
  have h_FoldU_lenU : KnM P w K mg base (GY K (He.ga K) (Tof K tf)) 1 "Fold" "__len__" 1 m_FoldU_lenU [] [] := knM_of F_FoldU_lenU (He.cls_ok (c.t.d.fact 29 (f := .cls "Fold") rfl)) (He.meth_ok (c.t.d.fact 46 (f := .meth "Fold" "__len__") rfl)) (F_FoldU_lenU.bindsN (ps := ["self"]) fun _ _ _ _ _ _ us hl => match us, hl with | [_], _ => rfl) o_FoldU_lenU
  have o_Fold_size := ok_Fold_size (P := P) (w := w) (mg := mg) (base := base) (ca := He.ga K) (T := Tof K tf) F_Fold_size C_Fold n_Fold_wide
  have h_Fold_size : KnM P w K mg base (GY K (He.ga K) (Tof K tf)) 1 "Fold" "size" 1 m_Fold_size [] [] := knM_of F_Fold_size (He.cls_ok (c.t.d.fact 29 (f := .cls "Fold") rfl)) (He.meth_ok (c.t.d.fact 47 (f := .meth "Fold" "size") rfl)) (F_Fold_size.bindsN (ps := ["self"]) fun _ _ _ _ _ _ us hl => match us, hl with | [_], _ => rfl) o_Fold_size
  have o_Fold_many := ok_Fold_many (P := P) (w := w) (mg := mg) (base := base) (ca := He.ga K) (T := Tof K tf) F_Fold_many B C_Fold n_Fold_lines
  have h_Fold_many : KnM P w K mg base (GY K (He.ga K) (Tof K tf)) 1 "Fold" "many" 1 m_Fold_many [] [] := knM_of F_Fold_many (He.cls_ok (c.t.d.fact 29 (f := .cls "Fold") rfl)) (He.meth_ok (c.t.d.fact 48 (f := .meth "Fold" "many") rfl)) (F_Fold_many.bindsN (ps := ["self"]) fun _ _ _ _ _ _ us hl => match us, hl with | [_], _ => rfl) o_Fold_many
  have o_Fold_rows := ok_Fold_rows (P := P) (w := w) (mg := mg) (base := base) (ca := He.ga K) (T := Tof K tf) F_Fold_rows C_Fold n_Fold_lines
  have h_Fold_rows : KnM P w K mg base (GY K (He.ga K) (Tof K tf)) 1 "Fold" "rows" 1 m_Fold_rows [] [] := knM_of F_Fold_rows (He.cls_ok (c.t.d.fact 29 (f := .cls "Fold") rfl)) (He.meth_ok (c.t.d.fact 49 (f := .meth "Fold" "rows") rfl)) (F_Fold_rows.bindsN (ps := ["self"]) fun _ _ _ _ _ _ us hl => match us, hl with | [_], _ => rfl) o_Fold_rows
  have o__law_same := ok__law_same (P := P) (w := w) (mg := mg) (base := base) (ca := He.ga K) (T := Tof K tf) F__law_same (He.glo_ok X G (c.t.d.fact 50 (f := .glo "_law_same") rfl)) (F__law_same.bindsN (ps := ["_law_found", "_law_due"]) fun _ _ _ _ _ _ us hl => match us, hl with | [_, _], _ => rfl) B
  have h__law_same : ∀ n, Kn P w K mg base (GY K (He.ga K) (Tof K tf)) (n + 1) "_law_same" 2 (m__law_same n) [] [] := fun n => kn_of F__law_same (He.glo_ok X G (c.t.d.fact 50 (f := .glo "_law_same") rfl)) (F__law_same.bindsN (ps := ["_law_found", "_law_due"]) fun _ _ _ _ _ _ us hl => match us, hl with | [_, _], _ => rfl) (o__law_same n)
  have o_FoldU_reprU := ok_FoldU_reprU (P := P) (w := w) (mg := mg) (base := base) (ca := He.ga K) (T := Tof K tf) F_FoldU_reprU B C_Fold n_Fold_wide n_Fold_lines
  have h_FoldU_reprU : KnM P w K mg base (GY K (He.ga K) (Tof K tf)) 1 "Fold" "__repr__" 1 m_FoldU_reprU [] [] := knM_of F_FoldU_reprU (He.cls_ok (c.t.d.fact 29 (f := .cls "Fold") rfl)) (He.meth_ok (c.t.d.fact 51 (f := .meth "Fold" "__repr__") rfl)) (F_FoldU_reprU.bindsN (ps := ["self"]) fun _ _ _ _ _ _ us hl => match us, hl with | [_], _ => rfl) o_FoldU_reprU
  have g_Fold : mg "Fold" = some (.ref ((GY K (He.ga K) (Tof K tf)).ca "Fold")) := He.glo_ok X G (c.t.d.fact 33 (f := .glo "Fold") rfl)
  have i_Fold : C8.InsC K ((GY K (He.ga K) (Tof K tf)).ca "Fold") := insB_ok (He.cls_ok (c.t.d.fact 29 (f := .cls "Fold") rfl)) (exAt (es := exs) c.more 2 rfl)
  have ne_Fold : NeC K ((GY K (He.ga K) (Tof K tf)).ca "Fold") := neB_ok (exAt (es := exs) c.more 3 rfl)
  have o_FoldU_eqU := ok_FoldU_eqU (P := P) (w := w) (mg := mg) (base := base) (ca := He.ga K) (T := Tof K tf) F_FoldU_eqU B g_Fold i_Fold ne_Fold C_Fold n_Fold_lines n_Fold_wide
  have h_FoldU_eqU : KnM P w K mg base (GY K (He.ga K) (Tof K tf)) 1 "Fold" "__eq__" 2 m_FoldU_eqU_k06 [] [] := knM_of F_FoldU_eqU (He.cls_ok (c.t.d.fact 29 (f := .cls "Fold") rfl)) (He.meth_ok (c.t.d.fact 52 (f := .meth "Fold" "__eq__") rfl)) (F_FoldU_eqU.bindsN (ps := ["self", "other"]) fun _ _ _ _ _ _ us hl => match us, hl with | [_, _], _ => rfl) o_FoldU_eqU
  have mk_law := mkrF_of (ca := He.ga K) (mg := mg) (base := base) (tf := tf) 0 rfl ndT F_law hTB
  have o_law := ok_law (P := P) (w := w) (mg := mg) (base := base) (ca := He.ga K) (T := Tof K tf) mk_law F_law B h__law_box h__law_take h__law_numbers h__law_bent k_Fold tri h_FoldU_lenU h_Fold_size h_Fold_many h_Fold_rows h__law_same h_FoldU_reprU h_FoldU_eqU ne_Fold
  exact o_law
end K06
namespace K06
open PySem L2 Mm Fb Gf
/-! ### a fold's making -/
noncomputable abbrev iB : MS := sIf (cOr (cB (eOp iLt (eV 3) (eC (.int 0)))) (cB (eOp iGt (eOp iShr (eV 3) (eV 2)) (eC (.int 0))))) (sRaise "BadFold") sNil
def okI (w : Nat) (i : Int) : Bool := decide (0 ≤ i) && decide (i < ((2 ^ w : Nat) : Int))
theorem shr_ok {i : Int} {w : Nat} (h0 : 0 ≤ i) : (0 < i >>> w) ↔ ((2 ^ w : Nat) : Int) ≤ i := by
  obtain ⟨n, rfl⟩ := Int.eq_ofNat_of_zero_le h0
  have e : ((n : Int) >>> w) = ((n >>> w : Nat) : Int) := rfl
  rw [e, Nat.shiftRight_eq_div_pow]
  have p : 0 < 2 ^ w := Nat.two_pow_pos w
  constructor
  · intro h
    have h : 0 < n / 2 ^ w := by omega
    have := (Nat.div_pos_iff.mp h).2
    omega
  · intro h
    have : 0 < n / 2 ^ w := Nat.div_pos (by omega) p
    omega
theorem iB_ok (S : Sto) (x0 x1 : Sl) (w : Nat) (i : Int) : iB [x0, x1, .v (.int w), .v (.int i)] S = if okI w i = true then .nx [x0, x1, .v (.int w), .v (.int i)] S else .exc "BadFold" none [x0, x1, .v (.int w), .v (.int i)] S := by
  have nn : ¬ ((w : Int) < 0) := by omega
  unfold okI
  by_cases h0 : i < 0
  · have : ¬ 0 ≤ i := by omega
    simp [iB, h0, this, nn]
  · have p : 0 ≤ i := by omega
    have q := shr_ok (w := w) p
    by_cases h1 : ((2 ^ w : Nat) : Int) ≤ i
    · have t := q.mpr h1
      have : ¬ i < ((2 ^ w : Nat) : Int) := by omega
      have t' : 0 < i / 2 ^ w := by
        have := t
        rw [Int.shiftRight_eq_div_pow] at this
        simpa using this
      simp [iB, h0, p, nn, -Int.natCast_pow, this, t']
    · have t : ¬ 0 < i >>> w := fun z => h1 (q.mp z)
      have : i < ((2 ^ w : Nat) : Int) := by omega
      have t' : i / 2 ^ w ≤ 0 := by
        have := t
        rw [Int.shiftRight_eq_div_pow] at this
        simpa using this
      have t2 : ¬ 0 < i / 2 ^ w := by omega
      simp [iB, h0, p, nn, -Int.natCast_pow, this, t', t2]
/-- the loop over told numbers -/
theorem iF_ok (S : Sto) (x0 x1 : Sl) (w : Nat) : ∀ (is : List Int) (s : Sl), (is.all (okI w) = true → ∃ s', forL (gN 3) iB (is.map D.int) [x0, x1, .v (.int w), s] S = .nx [x0, x1, .v (.int w), s'] S) ∧ (is.all (okI w) = false → ∃ e, forL (gN 3) iB (is.map D.int) [x0, x1, .v (.int w), s] S = .exc "BadFold" none e S)
  | [], s => ⟨fun _ => ⟨s, rfl⟩, fun h => by cases h⟩
  | i :: is, s => by
    have b := iB_ok S x0 x1 w i
    obtain ⟨h1, h2⟩ := iF_ok S x0 x1 w is (.v (.int i))
    have st : forL (gN 3) iB ((i :: is).map D.int) [x0, x1, .v (.int w), s] S = match iB [x0, x1, .v (.int w), .v (.int i)] S with
        | .nx e S1 => forL (gN 3) iB (is.map D.int) e S1
        | .ct e S1 => forL (gN 3) iB (is.map D.int) e S1
        | .bk e S1 => .nx e S1
        | o => o := rfl
    rw [st, b, List.all_cons]
    cases h : okI w i with
    | true => exact ⟨fun z => h1 z, fun z => h2 z⟩
    | false => exact ⟨fun z => (by cases z), fun _ => ⟨_, rfl⟩⟩
theorem iL_ok (S : Sto) (x0 x1 : Sl) (w : Nat) (n : Nat) (is : List Int) (hS : S[n]? = some (.lst (is.map D.int))) : ∀ (m i : Nat) (s : Sl), i ≤ is.length ∧ is.length < m + i → forLive (gN 3) iB n m i [x0, x1, .v (.int w), s] S = forL (gN 3) iB ((is.drop i).map D.int) [x0, x1, .v (.int w), s] S
  | 0, i, s, h => by omega
  | m + 1, i, s, h => by
    unfold forLive
    rw [hS]
    simp only [List.getElem?_map]
    by_cases hi : i < is.length
    · have ed : is.drop i = is[i] :: is.drop (i + 1) := List.drop_eq_getElem_cons hi
      rw [List.getElem?_eq_getElem hi, ed]
      have b := iB_ok S x0 x1 w is[i]
      have ih := iL_ok S x0 x1 w n is hS m (i + 1) (.v (.int is[i])) (by omega)
      have st : forL (gN 3) iB ((is[i] :: is.drop (i + 1)).map D.int) [x0, x1, .v (.int w), s] S = match iB [x0, x1, .v (.int w), .v (.int is[i])] S with
        | .nx e S1 => forL (gN 3) iB ((is.drop (i + 1)).map D.int) e S1
        | .ct e S1 => forL (gN 3) iB ((is.drop (i + 1)).map D.int) e S1
        | .bk e S1 => .nx e S1
        | o => o := rfl
      rw [st]
      show (match iB [x0, x1, .v (.int w), .v (.int is[i])] S with
        | .nx e S1 => forLive (gN 3) iB n m (i + 1) e S1
        | .ct e S1 => forLive (gN 3) iB n m (i + 1) e S1
        | .bk e S1 => .nx e S1
        | o => o) = _
      rw [b]
      cases okI w is[i] with
      | true => exact ih
      | false => rfl
    · rw [List.getElem?_eq_none (by omega), List.drop_eq_nil_of_le (by omega)]
      rfl
/-- what a fold is made of: told numbers, or a cell of them -/
def Src (S : Sto) (a : D) (is : List Int) : Prop := a = .tup (is.map D.int) ∨ a = .lst (is.map D.int) ∨ ∃ n, a = .ref n ∧ S[n]? = some (.lst (is.map D.int))
theorem Src.app {S : Sto} {a : D} {is : List Int} (h : Src S a is) (c : Cell) : Src (S ++ [c]) a is := by
  rcases h with h | h | ⟨n, h, e⟩
  · exact .inl h
  · exact .inr (.inl h)
  · exact .inr (.inr ⟨n, h, by rw [List.getElem?_append_left (List.getElem?_eq_some_iff.mp e).1]; exact e⟩)
theorem sA_ok {S : Sto} {a : D} {is : List Int} (h : Src S a is) (x0 : Sl) (w : Nat) (s : Sl) (hl : is.length ≤ 100000) : sForA (eV 1) (gN 3) iB [x0, .v a, .v (.int w), s] S = forL (gN 3) iB (is.map D.int) [x0, .v a, .v (.int w), s] S := by
  rcases h with rfl | rfl | ⟨n, rfl, e⟩
  · rfl
  · rfl
  · have := iL_ok S x0 (.v (.ref n)) w n is e 100001 0 s ⟨by omega, by omega⟩
    exact this
theorem len_ok {S : Sto} {a : D} {is : List Int} (h : Src S a is) : fLen S [a] = some (.int is.length) := by
  rcases h with rfl | rfl | ⟨n, rfl, e⟩
  · simp
  · simp
  · simp [fLen, e]
theorem tup_ok {S : Sto} {a : D} {is : List Int} (h : Src S a is) : fTupA S [a] = some (.tup (is.map D.int)) := by
  rcases h with rfl | rfl | ⟨n, rfl, e⟩
  · rfl
  · rfl
  · simp [fTupA, e]
/-- whether a fold is made -/
def good (is : List Int) (W : Int) : Bool := decide (0 ≤ W) && decide (W ≤ 12) && decide (is.length ≤ 12) && is.all (okI W.toNat)
theorem init_bad {S : Sto} {a : D} {is : List Int} {W : Int} (h : Src S a is) (hl : is.length ≤ 100000) (hg : good is W = false) : popI "Fold" S (m_FoldU_initU_k06 [.ref S.length, a, .int W] (S ++ [.ins "Fold" []])) = .exc "BadFold" none S := by
  have e : m_FoldU_initU_k06 [.ref S.length, a, .int W] (S ++ [.ins "Fold" []]) = .exc "BadFold" none (S ++ [.ins "Fold" []]) := by
    have h' := h.app (.ins "Fold" [])
    have ln := len_ok h'
    unfold m_FoldU_initU_k06
    by_cases h0 : W < 0
    · simp [h0]
    · by_cases h1 : 12 < W
      · simp [h0, h1]
      · by_cases h2 : 12 < is.length
        · have h2' : (12 : Int) < is.length := by omega
          simp [h0, h1, ln, h2']
        · have h2' : ¬ (12 : Int) < is.length := by omega
          obtain ⟨w, rfl⟩ := Int.eq_ofNat_of_zero_le (by omega : 0 ≤ W)
          have al : is.all (okI w) = false := by
            have g0 : (0 : Int) ≤ w := by omega
            have g1 : (w : Int) ≤ 12 := by omega
            have g2 : is.length ≤ 12 := by omega
            unfold good at hg
            rw [decide_eq_true g0, decide_eq_true g1, decide_eq_true g2] at hg
            simpa using hg
          obtain ⟨e1, k⟩ := (iF_ok (S ++ [.ins "Fold" []]) (.v (.ref S.length)) (.v a) w is .no).2 al
          have k := (sA_ok h' (.v (.ref S.length)) w .no hl).trans k
          simp [-sForA_eq, h0, h1, ln, h2', k]
  rw [e]
  exact popI_exc
theorem init_ok {S : Sto} {a : D} {rs : List Nat} {w : Nat} (h : Src S a (rs.map Int.ofNat)) (F : FOk rs w) : popI "Fold" S (m_FoldU_initU_k06 [.ref S.length, a, .int w] (S ++ [.ins "Fold" []])) = .ok (fold rs w) S := by
  have h1 := F.len
  have h2 := F.wide
  have n1 : ¬ ((w : Int) < 0) := by omega
  have n2 : ¬ ((12 : Int) < w) := by omega
  have n3 : ¬ ((12 : Int) < rs.length) := by omega
  have run : m_FoldU_initU_k06 [.ref S.length, a, .int w] (S ++ [.ins "Fold" []]) = .ok (.val .non) (S ++ [.ins "Fold" [("lines", .tup (nl rs)), ("wide", nd w)]]) := by
    have h' := h.app (.ins "Fold" [])
    have ln := len_ok h'
    have al : (rs.map Int.ofNat).all (okI w) = true := by
      rw [List.all_eq_true]
      intro x hx
      obtain ⟨r, hr, rfl⟩ := List.mem_map.mp hx
      have := F.lt r hr
      unfold okI
      have : (Int.ofNat r) < ((2 ^ w : Nat) : Int) := by show (r : Int) < _; omega
      simp only [decide_eq_true this, Bool.and_true, decide_eq_true_eq]
      exact Int.natCast_nonneg r
    obtain ⟨s', k⟩ := (iF_ok (S ++ [.ins "Fold" []]) (.v (.ref S.length)) (.v a) w _ .no).1 al
    have k := (sA_ok h' (.v (.ref S.length)) w .no (by simp; omega)).trans k
    have ap : ∀ c, fTupA (S ++ [c]) [a] = some (.tup (nl rs)) := fun c => by rw [tup_ok (h.app c), nl_eq]
    rw [List.length_map] at ln
    unfold m_FoldU_initU_k06
    simp [-sForA_eq, n1, n2, n3, ln, k, set_last, putFD, ap, show ¬ ("lines" : Str) = "wide" by decide]
  rw [run]
  have u : underF S.length [("lines", .tup (nl rs)), ("wide", nd w)] := by
    refine ⟨?_, ?_, trivial⟩
    · unfold D.under
      exact under_nl _ _
    · unfold D.under
      trivial
  unfold popI
  simp only [List.getLast?_append, List.getLast?_singleton, Option.some_or]
  rw [if_pos ⟨rfl, rfl, u⟩]
  rfl
theorem eqm_ok6 (S : Sto) (rs ss : List Nat) (v w : Nat) : m_FoldU_eqU_k06 [fold rs v, fold ss w] S = .ok (.val (.bl (decide (rs = ss) && decide (v = w)))) S := by
  simp [m_FoldU_eqU_k06, fold]
  by_cases h : rs = ss <;> by_cases h2 : v = w <;> simp [h, h2] <;> omega
theorem eql_ok6 (S : Sto) (rs : List Nat) (v : Nat) (ds : List D) : m_FoldU_eqU_k06 [fold rs v, .lst ds] S = .ok (.val (.bl false)) S := by
  simp [m_FoldU_eqU_k06, fold]
end K06
namespace K06
open PySem L2 Mm Fb Gf
theorem cut12 (xs : List D) : cutD xs (some (-12)) none = xs.drop (xs.length - 12) := by
  have e : ((-12 : Int) + xs.length).toNat = xs.length - 12 := by omega
  simp only [cutD, HT.sIx_none]
  have k : HT.sIx xs.length 0 (some (-12)) = xs.length - 12 := by
    simp [HT.sIx]
    omega
  rw [k, List.take_of_length_le (by simp)]
theorem cut1d (xs : List D) : cutD xs (some 1) none = xs.drop 1 := cut_hiA xs 1
/-- what is asked: told lists and a width -/
theorem bent_ok {R : Sto} {b : Cell} (hb : Bx b) {ys : List Nat} {z : Nat} (hz : z ≤ 12) (hl : ys.length ≤ 12) : ∃ (b' : Cell) (is : List Int) (W : Int), m__law_bent_k06 [.ref 0, .lst (nl ys), .int z] (b :: R) = .ok (.val (.tup [.lst (is.map D.int), .int W])) (b' :: R) ∧ Bx b' ∧ is.length ≤ 13 := by
  obtain ⟨b1, r, t, hb1, hr⟩ := takeKR (R := R) hb 5 5 rfl (by decide) (by decide)
  have pw := powB_nat (i := 1) (by decide) z (by omega)
  have p20 : powB 10 20 = true := powB_of (by omega) (by omega) (by decide)
  have z3 := szB_of (n := 3) (by omega)
  have z1 := szB_of (n := 1) (by omega)
  have nz : (ys.map Int.ofNat).map D.int = nl ys := (nl_eq ys).symm
  have z2 := szB_of (n := 2) (by omega)
  by_cases h0 : r = 0
  · obtain ⟨b2, d, t2, hb2, hd⟩ := ofLR (R := R) hb1 [.int (2 ^ z), .int (-1), .int 100000000000000000000] (by simp) (by simp)
    obtain ⟨i, rfl⟩ : ∃ i, d = .int i := by
      simp at hd
      rcases hd with rfl | rfl | rfl <;> exact ⟨_, rfl⟩
    obtain ⟨b3, zs, t3, hb3, pz⟩ := shuffledIR (R := R) hb2 (ys.map Int.ofNat ++ [i]) (by simp; omega)
    have lz := pz.length_eq
    rw [List.map_append, nz] at t3
    have t3 : m__law_shuffled [.ref 0, .lst (nl ys ++ [.int i])] (b2 :: R) = _ := t3
    have zl := szB_of (n := ys.length + 1) (by omega)
    have zc := szB_of (n := zs.length - (zs.length - 12)) (by omega)
    refine ⟨b3, zs.drop (zs.length - 12), z, ?_, hb3, by simp; omega⟩
    subst h0
    unfold m__law_bent_k06
    simp [-List.map_map, -List.map_drop, z2, t, z3, pw, p20, t2, nz, t3, zl, zc, cut12, z1]
    exact List.map_drop.symm
  · have h0' : ¬ ((r : Int) = 0) := by omega
    by_cases h1 : r = 1
    · obtain ⟨b2, d, t2, hb2, hd⟩ := ofLR (R := R) hb1 [.int (-1), .int 13, .int 100000000000000000000] (by simp) (by simp)
      obtain ⟨i, rfl⟩ : ∃ i, d = .int i := by
        simp at hd
        rcases hd with rfl | rfl | rfl <;> exact ⟨_, rfl⟩
      refine ⟨b2, ys.map Int.ofNat, i, ?_, hb2, by simp; omega⟩
      subst h1
      unfold m__law_bent_k06
      simp [-List.map_map, -List.map_drop, z2, t, z3, p20, t2, nz]
    · have h1' : ¬ ((r : Int) = 1) := by omega
      by_cases h2 : r = 2
      · have Rp := fRep_of (b1 :: R) (.int 0) 13 (by omega)
        have Rp : fRep (b1 :: R) (.lst [.int 0]) (.int 13) = _ := Rp
        have z13 := szB_of (n := 13) (by omega)
        refine ⟨b1, List.replicate 13 0, z, ?_, hb1, by simp⟩
        subst h2
        unfold m__law_bent_k06
        simp [-List.map_map, -List.map_drop, z2, t, z1, Rp, z13]
      · have h2' : ¬ ((r : Int) = 2) := by omega
        refine ⟨b1, ys.map Int.ofNat, z, ?_, hb1, by simp; omega⟩
        unfold m__law_bent_k06
        simp [-List.map_map, -List.map_drop, z2, t, h0, h1, h2, h0', h1', h2', nz]
end K06
namespace K06
open PySem L2 Mm Fb Gf
noncomputable def xk0 : MS := sCell 1 (fCall m__law_box [] (aCons (eV 0) aNil))
noncomputable def xk1 : MS := sAsg (eCall m__law_take [] (aCons (eV 1) (aCons (eC (.int 13)) aNil))) (gN 3)
noncomputable def xk2 : MS := sAsg (eCall m__law_bent_k06 [] (aCons (eV 1) (aCons (eCall m__law_numbers [] (aCons (eV 1) (aCons (eCall m__law_take [] (aCons (eV 1) (aCons (eC (.int 13)) aNil))) (aCons (eV 3) aNil)))) (aCons (eV 3) aNil)))) (gT (gNC (gN 4) (gNC (gN 5) gN0)))
noncomputable def xk3 : MS := sAsg (eAnd (eChain iLe iLe (eC (.int 0)) (eV 5) (eC (.int 12))) (eAnd (eOp iLe (eCB fLen (aCons (eV 4) aNil)) (eC (.int 12))) (eCB fAll (aCons (mFrz (fLc (itL (eV 4)) (gN 13) cYes (eChain iLe iLt (eC (.int 0)) (eV 13) (eOp iShl (eC (.int 1)) (eCB fMax2 (aCons (eC (.int 0)) (aCons (eCB fMin2 (aCons (eC (.int 12)) (aCons (eV 5) aNil))) aNil))))) [13])) aNil)))) (gN 6)
noncomputable def xk4 : MS := sCell 7 (fCB fListOf (aCons (eV 4) aNil))
noncomputable def xk5 : MS := sAsg (eTried ["BadNumber", "BadFold"] (eNew "Fold" m_FoldU_initU_k06 [] (aCons (eV 7) (aCons (eV 5) aNil)))) (gN 8)
noncomputable def xk6 : MS := sIf (cB (eOp fNe (eV 8) (eTup (aCons (eC (.str "badfold")) aNil)))) (sRet (eC (.bl false))) sNil
noncomputable def xk7 : MS := sRet (eC (.bl false))
noncomputable def xk8 : MS := sAsg (eOp fIx (eV 8) (eC (.int 1))) (gN 9)
noncomputable def xk9 : MS := sAppC 7 (eC (.int 0))
noncomputable def xk10 : MS := sRet (eC (.bl false))
noncomputable def xk11 : MS := sIf (cNot (cB (eCall (m__law_same 4) [] (aCons (mFrz (fLst (aCons (eMeth "Fold" "rows" m_Fold_rows [] (eV 9) aNil) (aCons (eMeth "Fold" "many" m_Fold_many [] (eV 9) aNil) (aCons (eMeth "Fold" "size" m_Fold_size [] (eV 9) aNil) (aCons (eLenOw "Fold" m_FoldU_lenU (eV 9)) aNil)))))) (aCons (mFrz (fLst (aCons (eCB fTupOf (aCons (eV 4) aNil)) (aCons (eCB fLen (aCons (eV 4) aNil)) (aCons (eV 5) (aCons (eCB fLen (aCons (eV 4) aNil)) aNil)))))) aNil))))) xk10 sNil
noncomputable def xk12 : MS := sIf (cB (eOp fNe (eReprO "Fold" m_FoldU_reprU (eV 9)) (eOp fAddS (eOp fAddS (eOp fAddS (eOp fAddS (eC (.str "Fold(")) (eCB fStrI (aCons (eCB fLen (aCons (eV 4) aNil)) aNil))) (eC (.str " to "))) (eCB fStrI (aCons (eV 5) aNil))) (eC (.str ")"))))) (sRet (eC (.bl false))) sNil
noncomputable def xk13 : MS := sAsg (eNew "Fold" m_FoldU_initU_k06 [] (aCons (eCB fTupOf (aCons (eV 4) aNil)) (aCons (eV 5) aNil))) (gN 10)
noncomputable def xk14 : MS := sAsg (mFrz (fLst (aCons (eNew "Fold" m_FoldU_initU_k06 [] (aCons (eV 4) (aCons (eCB fMin2 (aCons (eC (.int 12)) (aCons (eOp dAdd (eV 5) (eC (.int 1))) aNil))) aNil))) (aCons (eNew "Fold" m_FoldU_initU_k06 [] (aCons (mFrz (fSl (eOp dAdd (mFrz (fLst (aCons (eC (.int 0)) aNil))) (eV 4)) (oSome (eUn fNeg (eC (.int 12)))) oNone)) (aCons (eV 5) aNil))) (aCons (eNew "Fold" m_FoldU_initU_k06 [] (aCons (mFrz (fSl (eV 4) (oSome (eC (.int 1))) oNone)) (aCons (eV 5) aNil))) aNil))))) (gN 11)
noncomputable def xk15 : MS := sAsg (mFrz (fLst (aCons (eOp fEq (eV 5) (eC (.int 12))) (aCons (eOp fEq (mFrz (fSl (eOp dAdd (mFrz (fLst (aCons (eC (.int 0)) aNil))) (eV 4)) (oSome (eUn fNeg (eC (.int 12)))) oNone)) (eV 4)) (aCons (eOp fEq (eV 4) (mFrz (fLst aNil))) aNil))))) (gN 12)
noncomputable def xk16 : MS := sIf (cOr (cNot (cB (eCall (m__law_same 4) [] (aCons (mFrz (fLc (itL (eV 11)) (gN 14) cYes (eEqI "Fold" m_FoldU_eqU_k06 (eV 9) (eV 14)) [14])) (aCons (eV 12) aNil))))) (cOr (cNot (cB (eEqI "Fold" m_FoldU_eqU_k06 (eV 9) (eV 10)))) (cOr (cB (eNeI "Fold" m_FoldU_eqU_k06 (eV 9) (eV 10))) (cB (eEqL "Fold" m_FoldU_eqU_k06 (eV 9) (eV 4)))))) (sRet (eC (.bl false))) sNil
noncomputable def xr17 : MS := sSeq xk15 xk16
noncomputable def xr18 : MS := sSeq xk14 xr17
noncomputable def xr19 : MS := sSeq xk13 xr18
noncomputable def xr20 : MS := sSeq xk12 xr19
noncomputable def xr21 : MS := sSeq xk11 xr20
noncomputable def xr22 : MS := sSeq xk9 xr21
noncomputable def xr23 : MS := sSeq xk8 xr22
noncomputable def xk24 : MS := sIf (cB (eOp fNe (eOp fIx (eV 8) (eC (.int 0))) (eC (.str "told")))) xk7 xr23
noncomputable def xk25 : MS := sIf (cNot (cB (eV 6))) xk6 xk24
noncomputable def xr26 : MS := sSeq xk5 xk25
noncomputable def xr27 : MS := sSeq xk4 xr26
noncomputable def xr28 : MS := sSeq xk3 xr27
noncomputable def xr29 : MS := sSeq xk2 xr28
noncomputable def xr30 : MS := sSeq xk1 xr29
noncomputable def xk31 : MS := sFor (itR1 (aCons (eC (.int 5)) aNil)) (gN 2) xr30
noncomputable def xk32 : MS := sRet (eC (.bl true))
noncomputable def xr33 : MS := sSeq xk31 xk32
noncomputable def xr34 : MS := sSeq xk0 xr33
theorem m_law_eq : m_law = mFn 15 xr34 := rfl
theorem seq_of {a b : MS} {e e1 : Envr} {S S1 : Sto} (h : a e S = .nx e1 S1) : sSeq a b e S = b e1 S1 := by
  rw [sSeq_eq, h]
abbrev E (ns : List Int) (s2 s3 s4 s5 s6 s7 s8 s9 s10 s11 s12 : Sl) : Envr := [.v (.scr ns), .v (.ref 0), s2, s3, s4, s5, s6, s7, s8, s9, s10, s11, s12, .no, .no]
/-! ### whether the fold is to be made -/
theorem x3_ok {ns : List Int} {S : Sto} {is : List Int} {W : Int} (hl : is.length ≤ 13) (s2 s3 s6 s7 s8 s9 s10 s11 s12 : Sl) : xk3 (E ns s2 s3 (.v (.lst (is.map D.int))) (.v (.int W)) s6 s7 s8 s9 s10 s11 s12) S = .nx (E ns s2 s3 (.v (.lst (is.map D.int))) (.v (.int W)) (.v (.bl (good is W))) s7 s8 s9 s10 s11 s12) S := by
  unfold xk3 good
  by_cases h0 : 0 ≤ W
  · by_cases h1 : W ≤ 12
    · by_cases h2 : is.length ≤ 12
      · have h2' : (is.length : Int) ≤ 12 := by omega
        obtain ⟨w, rfl⟩ := Int.eq_ofNat_of_zero_le h0
        have m1 : (if (w : Int) < 12 then (w : Int) else 12) = w := by split <;> omega
        have m2 : (if (0 : Int) < w then (w : Int) else 0) = w := by split <;> omega
        have m3 : (if 0 < w then (w : Int) else 0) = w := by split <;> omega
        have pw := powB_nat (i := 1) (by decide) w (by omega)
        have lc := flc_of (mi := itL (eV 4)) (te := eChain iLe iLt (eC (.int 0)) (eV 13) (eOp iShl (eC (.int 1)) (eCB fMax2 (aCons (eC (.int 0)) (aCons (eCB fMin2 (aCons (eC (.int 12)) (aCons (eV 5) aNil))) aNil))))) (k := 13) (vs := [13]) (env := E ns s2 s3 (.v (.lst (is.map D.int))) (.v (.int w)) s6 s7 s8 s9 s10 s11 s12) (S := S) D.int (fun i => .bl (okI w i)) is (by simp) (by omega) fun y hy => by
          unfold okI
          by_cases q : 0 ≤ y
          · simp [q, m1, m2, m3, pw]
          · simp [q]
        have fa := fAll_eq S (is.map (okI w))
        rw [List.map_map] at fa
        have fa : fAll S [.lst (is.map fun i => .bl (okI w i))] = _ := fa
        simp [-fLc_eq, lc, fa, h0, h1, h2, h2']
      · have h2' : ¬ (is.length : Int) ≤ 12 := by omega
        simp [-fLc_eq, h0, h1, h2, h2']
    · simp [-fLc_eq, h0, h1]
  · simp [-fLc_eq, h0]
/-! ### tried -/
theorem x5_bad {ns : List Int} {S : Sto} {n : Nat} {is : List Int} {W : Int} (h : Src S (.ref n) is) (hl : is.length ≤ 13) (hg : good is W = false) (s2 s3 s4 s6 s8 s9 s10 s11 s12 : Sl) : xk5 (E ns s2 s3 s4 (.v (.int W)) s6 (.v (.ref n)) s8 s9 s10 s11 s12) S = .nx (E ns s2 s3 s4 (.v (.int W)) s6 (.v (.ref n)) (.v (.tup [.str "badfold"])) s9 s10 s11 s12) S := by
  have i := init_bad h (by omega) hg
  unfold xk5
  simp [i, tryW_exc]
theorem x5_good {ns : List Int} {S : Sto} {n : Nat} {rs : List Nat} {w : Nat} (h : Src S (.ref n) (rs.map Int.ofNat)) (F : FOk rs w) (s2 s3 s4 s6 s8 s9 s10 s11 s12 : Sl) : xk5 (E ns s2 s3 s4 (.v (nd w)) s6 (.v (.ref n)) s8 s9 s10 s11 s12) S = .nx (E ns s2 s3 s4 (.v (nd w)) s6 (.v (.ref n)) (.v (.tup [.str "told", fold rs w])) s9 s10 s11 s12) S := by
  have i := init_ok h F
  unfold xk5
  simp [i, tryW]
/-! ### the text of a fold -/
def tA (n : Nat) : Str := Str.empty ++ "Fold(" ++ Str.ofString (n : Int).repr
def tB (n : Nat) : Str := tA n ++ " to "
def tC (n w : Nat) : Str := tB n ++ Str.ofString (w : Int).repr
def tD (n w : Nat) : Str := tC n w ++ ")"
def uA (n : Nat) : Str := "Fold(" ++ Str.ofString (n : Int).repr
def uB (n : Nat) : Str := uA n ++ " to "
def uC (n w : Nat) : Str := uB n ++ Str.ofString (w : Int).repr
def tE (n w : Nat) : Str := uC n w ++ ")"
theorem all12 {p : Nat → Bool} (h : (List.range 13).all p = true) {n : Nat} (hn : n ≤ 12) : p n = true := List.all_eq_true.mp h n (List.mem_range.mpr (by omega))
def ck1 (n : Nat) : Bool := szB (Str.empty ++ ("Fold(" : Str)).length && szB (Str.ofString (n : Int).repr).length && szB (tA n).length && szB (" to " : Str).length && szB (tB n).length && szB (")" : Str).length && szB (("Fold(" : Str).length + (Str.ofString (n : Int).repr).length) && szB ((uA n).length + (" to " : Str).length)
def ck2 (n w : Nat) : Bool := szB (tC n w).length && szB (tD n w).length && szB ((uB n).length + (Str.ofString (w : Int).repr).length) && szB ((uC n w).length + (")" : Str).length) && decide (tD n w = tE n w) && PyData.strOk (tE n w)
theorem ck1_ok {n : Nat} (hn : n ≤ 12) : ck1 n = true := all12 (by decide +kernel) hn
theorem ck2_all : (List.range 13).all (fun n => (List.range 13).all fun w => ck2 n w) = true := by decide +kernel
theorem ck2_ok {n w : Nat} (hn : n ≤ 12) (hw : w ≤ 12) : ck2 n w = true := all12 (all12 (p := fun n => (List.range 13).all fun w => ck2 n w) ck2_all hn) hw
theorem repr_ok {S : Sto} {rs : List Nat} {w : Nat} (F : FOk rs w) : m_FoldU_reprU [fold rs w] S = .ok (.val (.str (tD rs.length w))) S := by
  have c1 := ck1_ok F.len
  have c2 := ck2_ok F.len F.wide
  unfold ck1 at c1
  unfold ck2 at c2
  simp only [Bool.and_eq_true] at c1 c2
  obtain ⟨⟨⟨⟨⟨⟨⟨q0, qn⟩, qa⟩, qt⟩, qb⟩, qe⟩, _⟩, _⟩ := c1
  obtain ⟨⟨⟨⟨⟨qc, qd⟩, _⟩, _⟩, _⟩, _⟩ := c2
  have fA : (Str.empty ++ "Fold(" ++ Str.ofString (rs.length : Int).repr : Str) = tA rs.length := rfl
  have fB : tA rs.length ++ " to " = tB rs.length := rfl
  have fC : tB rs.length ++ Str.ofString (w : Int).repr = tC rs.length w := rfl
  have fD : tC rs.length w ++ ")" = tD rs.length w := rfl
  have l1 : rs.length.log2 < 1920 := by have := Nat.log2_le_self rs.length; have := F.len; omega
  have l2 : w.log2 < 1920 := by have := Nat.log2_le_self w; have := F.wide; omega
  have qw : szB (Str.ofString (w : Int).repr).length = true := by
    have := ck1_ok F.wide
    unfold ck1 at this
    simp only [Bool.and_eq_true] at this
    exact this.1.1.1.1.1.1.2
  simp [m_FoldU_reprU, q0, fA, fB, fC, fD, qa, qb, qc, qd, l1, l2, qn, qw, qt, qe]
theorem x12_ok {ns : List Int} {S : Sto} {rs : List Nat} {w : Nat} (F : FOk rs w) (s2 s3 s6 s7 s8 s10 s11 s12 : Sl) : xk12 (E ns s2 s3 (.v (.lst (nl rs))) (.v (nd w)) s6 s7 s8 (.v (fold rs w)) s10 s11 s12) S = .nx (E ns s2 s3 (.v (.lst (nl rs))) (.v (nd w)) s6 s7 s8 (.v (fold rs w)) s10 s11 s12) S := by
  have c1 := ck1_ok F.len
  have c2 := ck2_ok F.len F.wide
  unfold ck1 at c1
  unfold ck2 at c2
  simp only [Bool.and_eq_true, decide_eq_true_eq] at c1 c2
  obtain ⟨⟨_, z1⟩, z2⟩ := c1
  obtain ⟨⟨⟨⟨_, z3⟩, z4⟩, te⟩, so⟩ := c2
  have rp := repr_ok (S := S) F
  rw [te] at rp
  have ins : insOf "Fold" S (fold rs w) = some (ffs rs w) := by simp [fold]
  have fA : ("Fold(" ++ Str.ofString (rs.length : Int).repr : Str) = uA rs.length := rfl
  have fB : uA rs.length ++ " to " = uB rs.length := rfl
  have fC : uB rs.length ++ Str.ofString (w : Int).repr = uC rs.length w := rfl
  have fD : uC rs.length w ++ ")" = tE rs.length w := rfl
  have l1 : rs.length.log2 < 1920 := by have := Nat.log2_le_self rs.length; have := F.len; omega
  have l2 : w.log2 < 1920 := by have := Nat.log2_le_self w; have := F.wide; omega
  have fs : ∀ i : Int, fStrI S [.int i] = if decide (i.natAbs.log2 < 1920) then some (.str (Str.ofString i.repr)) else none := fun _ => rfl
  have qs : ∀ a c : Str, fAddS S (.str a) (.str c) = if szB (a.length + c.length) then some (.str (a ++ c)) else none := fun _ _ => rfl
  have ne := fNe_str S so so
  unfold xk12
  simp [rp, ins, fs, qs, z1, z2, z3, z4, fA, fB, fC, fD, l1, l2, ne]
end K06
namespace K06
open PySem L2 Mm Fb Gf
variable {ns : List Int} {S : Sto} {rs : List Nat} {w : Nat}
theorem x11_ok (F : FOk rs w) (s2 s3 s6 s7 s8 s10 s11 s12 : Sl) : xk11 (E ns s2 s3 (.v (.lst (nl rs))) (.v (nd w)) s6 s7 s8 (.v (fold rs w)) s10 s11 s12) S = .nx (E ns s2 s3 (.v (.lst (nl rs))) (.v (nd w)) s6 s7 s8 (.v (fold rs w)) s10 s11 s12) S := by
  have z4 := szB_of (n := 4) (by omega)
  have bb : bBnd (rs.length : Int) 9223372036854775807 = true := by
    have := F.len
    simp [bBnd]
    try omega
  have pl : plainN 4 (.lst [.tup (nl rs), .int rs.length, .int w, .int rs.length]) = true := by
    have := F.len
    have a : ∀ d ∈ nl rs, plainN 2 d = true := fun d hd => by
      obtain ⟨x, _, rfl⟩ := mem_nl.mp hd
      rfl
    simp only [plainN, List.all_cons, List.all_nil, Bool.and_true, Bool.and_eq_true, decide_eq_true_eq, List.all_eq_true, List.length_cons, List.length_nil]
    refine ⟨by omega, ⟨by simp; omega, a⟩⟩
  have sm := same_refl S 4 _ pl
  unfold xk11
  simp [m_Fold_rows, m_Fold_many, m_Fold_size, m_FoldU_lenU, z4, sm, bb]
/-! ### the likes -/
noncomputable def sl0 : ME := mFrz (fSl (eOp dAdd (mFrz (fLst (aCons (eC (.int 0)) aNil))) (eV 4)) (oSome (eUn fNeg (eC (.int 12)))) oNone)
noncomputable def sl1 : ME := mFrz (fSl (eV 4) (oSome (eC (.int 1))) oNone)
noncomputable def xmin : ME := eCB fMin2 (aCons (eC (.int 12)) (aCons (eOp dAdd (eV 5) (eC (.int 1))) aNil))
theorem x14_eq : xk14 = sAsg (mFrz (fLst (aCons (eNew "Fold" m_FoldU_initU_k06 [] (aCons (eV 4) (aCons xmin aNil))) (aCons (eNew "Fold" m_FoldU_initU_k06 [] (aCons sl0 (aCons (eV 5) aNil))) (aCons (eNew "Fold" m_FoldU_initU_k06 [] (aCons sl1 (aCons (eV 5) aNil))) aNil))))) (gN 11) := rfl
theorem x15_eq : xk15 = sAsg (mFrz (fLst (aCons (eOp fEq (eV 5) (eC (.int 12))) (aCons (eOp fEq sl0 (eV 4)) (aCons (eOp fEq (eV 4) (mFrz (fLst aNil))) aNil))))) (gN 12) := rfl
def cs (rs : List Nat) : List Nat := (0 :: rs).drop (rs.length + 1 - 12)
theorem sl0_ok (F : FOk rs w) (s2 s3 s5 s6 s7 s8 s9 s10 s11 s12 : Sl) : sl0 (E ns s2 s3 (.v (.lst (nl rs))) s5 s6 s7 s8 s9 s10 s11 s12) S = .ok (.lst (nl (cs rs))) S := by
  have h := F.len
  have z1 := szB_of (n := 1) (by omega)
  have z2 := szB_of (n := 1 + rs.length) (by omega)
  have e : (D.int 0 :: nl rs) = nl (0 :: rs) := rfl
  have c : cutD (nl (0 :: rs)) (some (-12)) none = nl (cs rs) := by
    rw [cut12]
    simp only [nl, List.length_map, cs, List.length_cons]
    exact List.map_drop.symm
  have z3 := szB_of (n := (cs rs).length) (by simp [cs]; omega)
  have e2 : fSl (eOp dAdd (mFrz (fLst (aCons (eC (.int 0)) aNil))) (eV 4)) (oSome (eUn fNeg (eC (.int 12)))) oNone (E ns s2 s3 (.v (.lst (nl rs))) s5 s6 s7 s8 s9 s10 s11 s12) S = .ok (.lst (nl (cs rs))) S := by
    have c : cutD (D.int 0 :: nl rs) (some (-12)) none = nl (cs rs) := c
    simp [z1, z2, c]
  unfold sl0
  rw [mFrz_eq, e2]
  rfl
theorem sl1_ok (F : FOk rs w) (s2 s3 s5 s6 s7 s8 s9 s10 s11 s12 : Sl) : sl1 (E ns s2 s3 (.v (.lst (nl rs))) s5 s6 s7 s8 s9 s10 s11 s12) S = .ok (.lst (nl (rs.drop 1))) S := by
  have c : cutD (nl rs) (some 1) none = nl (rs.drop 1) := by
    rw [cut1d]
    exact List.map_drop.symm
  have e2 : fSl (eV 4) (oSome (eC (.int 1))) oNone (E ns s2 s3 (.v (.lst (nl rs))) s5 s6 s7 s8 s9 s10 s11 s12) S = .ok (.lst (nl (rs.drop 1))) S := by
    simp [c]
  unfold sl1
  rw [mFrz_eq, e2]
  rfl
theorem xmin_ok (s2 s3 s4 s6 s7 s8 s9 s10 s11 s12 : Sl) : xmin (E ns s2 s3 s4 (.v (nd w)) s6 s7 s8 s9 s10 s11 s12) S = .ok (nd (min 12 (w + 1))) S := by
  have m : (if (w : Int) + 1 < 12 then (w : Int) + 1 else 12) = ((min 12 (w + 1) : Nat) : Int) := by split <;> omega
  unfold xmin
  simp [m]
  try omega
theorem F_min (F : FOk rs w) : FOk rs (min 12 (w + 1)) := ⟨F.len, by omega, fun r hr => Nat.lt_of_lt_of_le (F.lt r hr) (Nat.pow_le_pow_right (by decide) (by have := F.wide; omega))⟩
theorem F_cs (F : FOk rs w) : FOk (cs rs) w := ⟨by simp [cs]; have := F.len; omega, F.wide, fun r hr => by
  have := List.mem_of_mem_drop hr
  rcases List.mem_cons.mp this with rfl | h
  · exact Nat.two_pow_pos w
  · exact F.lt r h⟩
theorem F_tl (F : FOk rs w) : FOk (rs.drop 1) w := ⟨by simp; have := F.len; omega, F.wide, fun r hr => F.lt r (List.mem_of_mem_drop hr)⟩
theorem src_nl (S : Sto) (rs : List Nat) : Src S (.lst (nl rs)) (rs.map Int.ofNat) := .inr (.inl (by rw [nl_eq]))
theorem src_tl (S : Sto) (rs : List Nat) : Src S (.tup (nl rs)) (rs.map Int.ofNat) := .inl (by rw [nl_eq])
theorem x13_ok (F : FOk rs w) (s2 s3 s6 s7 s8 s9 s10 s11 s12 : Sl) : xk13 (E ns s2 s3 (.v (.lst (nl rs))) (.v (nd w)) s6 s7 s8 s9 s10 s11 s12) S = .nx (E ns s2 s3 (.v (.lst (nl rs))) (.v (nd w)) s6 s7 s8 s9 (.v (fold rs w)) s11 s12) S := by
  have i := init_ok (src_tl S rs) F
  unfold xk13
  simp [i]
theorem x14_ok (F : FOk rs w) (s2 s3 s6 s7 s8 s9 s10 s11 s12 : Sl) : xk14 (E ns s2 s3 (.v (.lst (nl rs))) (.v (nd w)) s6 s7 s8 s9 s10 s11 s12) S = .nx (E ns s2 s3 (.v (.lst (nl rs))) (.v (nd w)) s6 s7 s8 s9 s10 (.v (.lst [fold rs (min 12 (w + 1)), fold (cs rs) w, fold (rs.drop 1) w])) s12) S := by
  have i1 := init_ok (src_nl S rs) (F_min F)
  have i2 := init_ok (src_nl S (cs rs)) (F_cs F)
  have i3 := init_ok (src_nl S (rs.drop 1)) (F_tl F)
  have a := sl0_ok (ns := ns) (S := S) F s2 s3 (.v (nd w)) s6 s7 s8 s9 s10 s11 s12
  have b := sl1_ok (ns := ns) (S := S) F s2 s3 (.v (nd w)) s6 s7 s8 s9 s10 s11 s12
  have c := xmin_ok (ns := ns) (S := S) (w := w) s2 s3 (.v (.lst (nl rs))) s6 s7 s8 s9 s10 s11 s12
  have z3 := szB_of (n := 3) (by omega)
  rw [x14_eq]
  simp only [sAsg_eq, mFrz_eq, fLst_eq, aCons_eq, aNil_eq, eNew_eq, eV_eq, List.getElem?_cons_succ, List.getElem?_cons_zero, a, b, c, bind_ok', List.cons_append, List.nil_append, List.append_nil, i1, i2, i3, fin_eq, List.length_cons, List.length_nil, z3, if_true, d_lst, out_ok', gN_eq, List.set_cons_succ, List.set_cons_zero]
theorem x15_ok (F : FOk rs w) (s2 s3 s6 s7 s8 s9 s10 s11 s12 : Sl) : xk15 (E ns s2 s3 (.v (.lst (nl rs))) (.v (nd w)) s6 s7 s8 s9 s10 s11 s12) S = .nx (E ns s2 s3 (.v (.lst (nl rs))) (.v (nd w)) s6 s7 s8 s9 s10 s11 (.v (.lst ([decide (w = 12), decide (cs rs = rs), decide (rs = [])].map D.bl)))) S := by
  have a := sl0_ok (ns := ns) (S := S) F s2 s3 (.v (nd w)) s6 s7 s8 s9 s10 s11 s12
  have z3 := szB_of (n := 3) (by omega)
  have z0 := szB_of (n := 0) (by omega)
  have e : decide ((w : Int) = 12) = decide (w = 12) := decide_eq_decide.mpr (by omega)
  rw [x15_eq]
  simp [a, z3, z0, e]
theorem x16_ok (F : FOk rs w) (s2 s3 s6 s7 s8 : Sl) : xk16 (E ns s2 s3 (.v (.lst (nl rs))) (.v (nd w)) s6 s7 s8 (.v (fold rs w)) (.v (fold rs w)) (.v (.lst [fold rs (min 12 (w + 1)), fold (cs rs) w, fold (rs.drop 1) w])) (.v (.lst ([decide (w = 12), decide (cs rs = rs), decide (rs = [])].map D.bl)))) S = .nx (E ns s2 s3 (.v (.lst (nl rs))) (.v (nd w)) s6 s7 s8 (.v (fold rs w)) (.v (fold rs w)) (.v (.lst [fold rs (min 12 (w + 1)), fold (cs rs) w, fold (rs.drop 1) w])) (.v (.lst ([decide (w = 12), decide (cs rs = rs), decide (rs = [])].map D.bl)))) S := by
  have lc := flc_of (mi := itL (eV 11)) (te := eEqI "Fold" m_FoldU_eqU_k06 (eV 9) (eV 14)) (k := 14) (vs := [14]) (env := E ns s2 s3 (.v (.lst (nl rs))) (.v (nd w)) s6 s7 s8 (.v (fold rs w)) (.v (fold rs w)) (.v (.lst [fold rs (min 12 (w + 1)), fold (cs rs) w, fold (rs.drop 1) w])) (.v (.lst ([decide (w = 12), decide (cs rs = rs), decide (rs = [])].map D.bl)))) (S := S)
    (fun p : List Nat × Nat => fold p.1 p.2) (fun p => .bl (decide (rs = p.1) && decide (w = p.2))) [(rs, min 12 (w + 1)), (cs rs, w), (rs.drop 1, w)] rfl (by simp) fun y hy => by
      have e := eqm_ok6 S rs y.1 w y.2
      simp [e]
  have q1 : decide (w = min 12 (w + 1)) = decide (w = 12) := decide_eq_decide.mpr (by have := F.wide; omega)
  have q2 : decide (rs = cs rs) = decide (cs rs = rs) := decide_eq_decide.mpr ⟨fun h => h.symm, fun h => h.symm⟩
  have q3 : decide (rs = rs.drop 1) = decide (rs = []) := decide_eq_decide.mpr (by cases rs with
    | nil => simp
    | cons x xs =>
      refine ⟨fun h => ?_, fun h => by cases h⟩
      have := congrArg List.length h
      simp at this)
  simp only [List.map_cons, List.map_nil, decide_true, Bool.true_and, Bool.and_true, q1, q2, q3] at lc
  have sm := same_bls 2 [decide (w = 12), decide (cs rs = rs), decide (rs = [])] [decide (w = 12), decide (cs rs = rs), decide (rs = [])] S (by simp)
  simp only [List.map_cons, List.map_nil, decide_true] at sm
  have e1 := eqm_ok6 S rs rs w w
  have e2 := eql_ok6 S rs w (nl rs)
  simp only [decide_true, Bool.and_true] at e1
  unfold xk16
  simp [-fLc_eq, -List.drop_one, lc, sm, e1, e2]
end K06
namespace K06
open PySem L2 Mm Fb Gf
theorem good_nat {is : List Int} {W : Int} (h : good is W = true) : ∃ (rs : List Nat) (w : Nat), is = rs.map Int.ofNat ∧ W = (w : Int) ∧ FOk rs w := by
  unfold good at h
  simp only [Bool.and_eq_true, decide_eq_true_eq, List.all_eq_true] at h
  obtain ⟨⟨⟨h0, h1⟩, h2⟩, h3⟩ := h
  obtain ⟨w, rfl⟩ := Int.eq_ofNat_of_zero_le h0
  have h3 : ∀ i ∈ is, 0 ≤ i ∧ i < ((2 ^ w : Nat) : Int) := fun i hi => by
    have := h3 i hi
    unfold okI at this
    simp only [Bool.and_eq_true, decide_eq_true_eq] at this
    exact this
  have e : is = (is.map Int.toNat).map Int.ofNat := by
    rw [List.map_map]
    conv => lhs; rw [← List.map_id is]
    refine List.map_congr_left fun i hi => ?_
    have := (h3 i hi).1
    show i = ((i.toNat : Nat) : Int)
    omega
  refine ⟨is.map Int.toNat, w, e, rfl, by simpa using h2, by omega, fun r hr => ?_⟩
  obtain ⟨i, hi, rfl⟩ := List.mem_map.mp hr
  obtain ⟨a, b⟩ := h3 i hi
  omega
theorem rest_ok (ns : List Int) (S : Sto) {rs : List Nat} {w : Nat} (F : FOk rs w) (s2 s3 s6 s7 s8 s10 s11 s12 : Sl) : ∃ s10' s11' s12', xr21 (E ns s2 s3 (.v (.lst (nl rs))) (.v (nd w)) s6 s7 s8 (.v (fold rs w)) s10 s11 s12) S = .nx (E ns s2 s3 (.v (.lst (nl rs))) (.v (nd w)) s6 s7 s8 (.v (fold rs w)) s10' s11' s12') S := by
  refine ⟨.v (fold rs w), .v (.lst [fold rs (min 12 (w + 1)), fold (cs rs) w, fold (rs.drop 1) w]), .v (.lst ([decide (w = 12), decide (cs rs = rs), decide (rs = [])].map D.bl)), ?_⟩
  unfold xr21
  rw [seq_of (x11_ok F s2 s3 s6 s7 s8 s10 s11 s12)]
  unfold xr20
  rw [seq_of (x12_ok F s2 s3 s6 s7 s8 s10 s11 s12)]
  unfold xr19
  rw [seq_of (x13_ok F s2 s3 s6 s7 s8 _ s10 s11 s12)]
  unfold xr18
  rw [seq_of (x14_ok F s2 s3 s6 s7 s8 _ _ s11 s12)]
  unfold xr17
  rw [seq_of (x15_ok F s2 s3 s6 s7 s8 _ _ _ s12)]
  exact x16_ok F s2 s3 s6 s7 s8
theorem body_ok (ns : List Int) {b : Cell} (hb : Bx b) (R : Sto) (s2 s3 s4 s5 s6 s7 s8 s9 s10 s11 s12 : Sl) : ∃ b' R' s3' s4' s5' s6' s7' s8' s9' s10' s11' s12', xr30 (E ns s2 s3 s4 s5 s6 s7 s8 s9 s10 s11 s12) (b :: R) = .nx (E ns s2 s3' s4' s5' s6' s7' s8' s9' s10' s11' s12') (b' :: R') ∧ Bx b' := by
  obtain ⟨b1, z, t1, hb1, l1⟩ := takeKR (R := R) hb 13 13 rfl (by decide) (by decide)
  obtain ⟨b2, c, t2, hb2, l2⟩ := takeKR (R := R) hb1 13 13 rfl (by decide) (by decide)
  obtain ⟨b3, ys, t3, hb3, l3, lt3⟩ := numbers_okR (R := R) hb2 c z (by omega) (by omega)
  obtain ⟨b4, is, W, t4, hb4, l4⟩ := bent_ok (R := R) hb3 (ys := ys) (z := z) (by omega) (by omega)
  have c1 : xk1 (E ns s2 s3 s4 s5 s6 s7 s8 s9 s10 s11 s12) (b :: R) = .nx (E ns s2 (.v (nd z)) s4 s5 s6 s7 s8 s9 s10 s11 s12) (b1 :: R) := by
    unfold xk1
    simp [t1]
  have c2 : xk2 (E ns s2 (.v (nd z)) s4 s5 s6 s7 s8 s9 s10 s11 s12) (b1 :: R) = .nx (E ns s2 (.v (nd z)) (.v (.lst (is.map D.int))) (.v (.int W)) s6 s7 s8 s9 s10 s11 s12) (b4 :: R) := by
    unfold xk2
    simp [t2, t3, t4]
  have c3 := x3_ok (ns := ns) (S := b4 :: R) (W := W) l4 s2 (.v (nd z)) s6 s7 s8 s9 s10 s11 s12
  have c4 : xk4 (E ns s2 (.v (nd z)) (.v (.lst (is.map D.int))) (.v (.int W)) (.v (.bl (good is W))) s7 s8 s9 s10 s11 s12) (b4 :: R) = .nx (E ns s2 (.v (nd z)) (.v (.lst (is.map D.int))) (.v (.int W)) (.v (.bl (good is W))) (.v (.ref (R.length + 1))) s8 s9 s10 s11 s12) (b4 :: (R ++ [.lst (is.map D.int)])) := by
    unfold xk4
    simp [fListOf]
  have src : Src (b4 :: (R ++ [.lst (is.map D.int)])) (.ref (R.length + 1)) is := .inr (.inr ⟨R.length + 1, rfl, by simp⟩)
  unfold xr30
  rw [seq_of c1]
  unfold xr29
  rw [seq_of c2]
  unfold xr28
  rw [seq_of c3]
  unfold xr27
  rw [seq_of c4]
  unfold xr26
  cases hg : good is W with
  | false =>
    rw [seq_of (x5_bad src l4 hg s2 (.v (nd z)) (.v (.lst (is.map D.int))) (.v (.bl false)) s8 s9 s10 s11 s12)]
    have z1 := szB_of (n := 1) (by omega)
    have ne := fNe_word (b4 :: (R ++ [.lst (is.map D.int)])) sok_badfold sok_badfold
    refine ⟨b4, R ++ [.lst (is.map D.int)], .v (nd z), .v (.lst (is.map D.int)), .v (.int W), .v (.bl false), .v (.ref (R.length + 1)), .v (.tup [.str "badfold"]), s9, s10, s11, s12, ?_, hb4⟩
    unfold xk25 xk6
    simp [z1, ne]
  | true =>
    obtain ⟨rs, w, rfl, rfl, F⟩ := good_nat hg
    rw [seq_of (x5_good src F s2 (.v (nd z)) (.v (.lst ((rs.map Int.ofNat).map D.int))) (.v (.bl true)) s8 s9 s10 s11 s12), ← nl_eq]
    have zl := szB_of (n := rs.length + 1) (by have := F.len; omega)
    have ne := fNe_str (b4 :: (R ++ [.lst (nl rs)])) sok_told sok_told
    obtain ⟨s10', s11', s12', k⟩ := rest_ok ns (b4 :: (R ++ [.lst (nl rs ++ [.int 0])])) F s2 (.v (nd z)) (.v (.bl true)) (.v (.ref (R.length + 1))) (.v (.tup [.str "told", fold rs w])) s10 s11 s12
    refine ⟨b4, R ++ [.lst (nl rs ++ [.int 0])], .v (nd z), .v (.lst (nl rs)), .v (nd w), .v (.bl true), .v (.ref (R.length + 1)), .v (.tup [.str "told", fold rs w]), .v (fold rs w), s10', s11', s12', ?_, hb4⟩
    have c8 : xk8 (E ns s2 (.v (nd z)) (.v (.lst (nl rs))) (.v (nd w)) (.v (.bl true)) (.v (.ref (R.length + 1))) (.v (.tup [.str "told", fold rs w])) s9 s10 s11 s12) (b4 :: (R ++ [.lst (nl rs)])) = .nx (E ns s2 (.v (nd z)) (.v (.lst (nl rs))) (.v (nd w)) (.v (.bl true)) (.v (.ref (R.length + 1))) (.v (.tup [.str "told", fold rs w])) (.v (fold rs w)) s10 s11 s12) (b4 :: (R ++ [.lst (nl rs)])) := by
      unfold xk8
      simp
    have c9 : xk9 (E ns s2 (.v (nd z)) (.v (.lst (nl rs))) (.v (nd w)) (.v (.bl true)) (.v (.ref (R.length + 1))) (.v (.tup [.str "told", fold rs w])) (.v (fold rs w)) s10 s11 s12) (b4 :: (R ++ [.lst (nl rs)])) = .nx (E ns s2 (.v (nd z)) (.v (.lst (nl rs))) (.v (nd w)) (.v (.bl true)) (.v (.ref (R.length + 1))) (.v (.tup [.str "told", fold rs w])) (.v (fold rs w)) s10 s11 s12) (b4 :: (R ++ [.lst (nl rs ++ [.int 0])])) := by
      unfold xk9
      simp [sAppC, zl]
    have c25 : xk25 (E ns s2 (.v (nd z)) (.v (.lst (nl rs))) (.v (nd w)) (.v (.bl true)) (.v (.ref (R.length + 1))) (.v (.tup [.str "told", fold rs w])) s9 s10 s11 s12) (b4 :: (R ++ [.lst (nl rs)])) = xr23 (E ns s2 (.v (nd z)) (.v (.lst (nl rs))) (.v (nd w)) (.v (.bl true)) (.v (.ref (R.length + 1))) (.v (.tup [.str "told", fold rs w])) s9 s10 s11 s12) (b4 :: (R ++ [.lst (nl rs)])) := by
      unfold xk25 xk24
      simp [ne]
    rw [c25]
    unfold xr23
    rw [seq_of c8]
    unfold xr22
    rw [seq_of c9]
    exact k
theorem pure_law (ns : List Int) (hl : ns.length ≤ 63) (hb : ∀ z ∈ ns, Builtin.Int.intBits z ≤ 1048576) : ∃ S, m_law [.scr ns] [] = .ok (.val (.bl true)) S := by
  obtain ⟨b, e1, hb0⟩ := box_ok ns []
  have key := forL_inv (g := gN 2) (b := xr30) (I := fun ds env S => ∃ (b' : Cell) (R : Sto) (s2 s3 s4 s5 s6 s7 s8 s9 s10 s11 s12 : Sl), S = b' :: R ∧ Bx b' ∧ env = E ns s2 s3 s4 s5 s6 s7 s8 s9 s10 s11 s12)
    (fun d ds env S h => by
      obtain ⟨b', R, s2, s3, s4, s5, s6, s7, s8, s9, s10, s11, s12, rfl, hb', rfl⟩ := h
      obtain ⟨b2, R2, t3, t4, t5, t6, t7, t8, t9, t10, t11, t12, e, hb2⟩ := body_ok ns hb' R (.v d) s3 s4 s5 s6 s7 s8 s9 s10 s11 s12
      exact ⟨E ns (.v d) s3 s4 s5 s6 s7 s8 s9 s10 s11 s12, rfl, _, _, .inl e, b2, R2, _, _, _, _, _, _, _, _, _, _, _, rfl, hb2, rfl⟩) (rngD 0 5) (E ns .no .no .no .no .no .no .no .no .no .no .no) [b] ⟨b, [], _, _, _, _, _, _, _, _, _, _, _, rfl, hb0, rfl⟩
  obtain ⟨e', S', kk, b', R, q2, q3, q4, q5, q6, q7, q8, q9, q10, q11, q12, rfl, hb', rfl⟩ := key
  refine ⟨b' :: R, ?_⟩
  rw [m_law_eq]
  have st : startE 15 [D.scr ns] = [.v (.scr ns), .no, .no, .no, .no, .no, .no, .no, .no, .no, .no, .no, .no, .no, .no] := rfl
  have rg : rgB 5 = true := rgB_nat (n := 5) (by omega)
  have c0 : xk0 [.v (.scr ns), .no, .no, .no, .no, .no, .no, .no, .no, .no, .no, .no, .no, .no, .no] [] = .nx (E ns .no .no .no .no .no .no .no .no .no .no .no) [b] := by
    unfold xk0
    simp only [sCell_eq, fCall_eq, aCons_eq, aNil_eq, eV_eq, List.getElem?_cons_zero, bind_ok', List.append_nil, e1, rOwn_own, out_ok', List.length_nil, List.nil_append, List.set_cons_succ, List.set_cons_zero]
  have c31 : xk31 (E ns .no .no .no .no .no .no .no .no .no .no .no) [b] = .nx (E ns q2 q3 q4 q5 q6 q7 q8 q9 q10 q11 q12) (b' :: R) := by
    unfold xk31
    simp only [sFor_eq, itR1_eq, aCons_eq, aNil_eq, eC_eq, bind_ok', List.append_nil, rg, if_true, out_ok']
    rw [show (5 : Int).toNat = 5 from rfl]
    exact kk
  simp only [mFn_eq, st]
  unfold xr34
  rw [seq_of c0]
  unfold xr33
  rw [seq_of c31]
  unfold xk32
  simp
end K06
open PySem PySem.W PySem.Calls PyProof.Rows in
set_option maxHeartbeats 0 in
theorem PySem.Challenge.cw_foldberth_k06_folds_made_or_refused_holds : PySem.Challenge.rw_foldberth_k06_folds_made_or_refused.Holds := by
  w_on; o_law
  refine HandSHeadRun.head_any (r := OpenLaw.row PySem.Challenge.rw_foldberth_k06_folds_made_or_refused) (q := view (OpenLaw.row PySem.Challenge.rw_foldberth_k06_folds_made_or_refused).prog [32]) (H := K06.hk) (ob := K06.ob) (M := 20000) (loose := K06.loose) (d := HandSHeadRun.topDef (OpenLaw.row PySem.Challenge.rw_foldberth_k06_folds_made_or_refused).prog 32) (kwd := []) K06.ob_eq
    (by kernel_rfl) (fun s => by kernel_rfl) K06.run (by kernel_rfl) (by kernel_rfl) (by kernel_rfl) (by rfl) (by first | assumption | decide +kernel) (by decide +kernel) ⟨rfl, rfl, rfl, rfl, rfl, by decide +kernel⟩ ?hw ?hc
  case hw => w_witness2
  case hc =>
    refine LamX.walk_ofTsE (l := PySem.Challenge.rw_foldberth_k06_folds_made_or_refused) (n := 63) (k := 6) (x := "_law_script") (CX := fun w => L2N.CX (PySem.Challenge.rw_foldberth_k06_folds_made_or_refused).prog w) rfl (by decide) (by kernel_rfl) ⟨rfl, by decide, by decide⟩ ?F (fun w H s e s' z => Mm.cx_none _ w H s e s' z)
    intro w mg fa h Y G hmg0
    obtain ⟨K, KX, c⟩ := Y
    have hmg : mg ("law" : PySem.Str) = some (.ref fa) := by
      have e : (HandSHeadRun.topDef (OpenLaw.row PySem.Challenge.rw_foldberth_k06_folds_made_or_refused).prog 32).name = ("law" : PySem.Str) := by kernel_rfl
      rw [← e]
      exact hmg0
    obtain ⟨fd, hb, hF⟩ := K06.facts (P := (PySem.Challenge.rw_foldberth_k06_folds_made_or_refused).prog) (w := w) KX G hmg c
    exact ⟨K, KX, Mm.law_atT K06.tf c KX hb K06.pure_law hF⟩
