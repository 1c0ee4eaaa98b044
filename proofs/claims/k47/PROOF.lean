import PyProof.Rows.All
import Wide.All
import OpenK.AllK
import Wide.FinOn
import KE.KStateDown
import HandS.ForMost
import HandS.Defaults
import HandS.Head2
import HandS.HeadEnd
import HandS.HeadHook2
import HandS.Wide
import HandS.IsInst
import HandS.Star
import HandS.Evl
import HandS.TryOnly
import HandS.ExcOwn
import HandS.WordsExc
import HandS.Zip
import HandS.Rev
import HandS.TupAny
import HandS.Style
import HandS.Steps
import KE.GoesEnum
import PySem.Challenge.RW_restchains_k47_whole_beats_there_and_bac
set_option Elab.async false
set_option linter.all false
set_option maxRecDepth 100000
set_option maxHeartbeats 4000000
/-! GA: a layer of data over HandS. A frame's slots, the values of expressions and the lists that a def owns are told as plain data;
the addresses and the heap are hidden in one state. -/
namespace G
open PySem PySem.Spec PyProof.Rows L2

/-! ### data -/
inductive D where
  | non | bl (b : Bool) | int (i : Int) | str (x : Str) | ty (n : String) | ref (a : Addr)
  | lst (xs : List D) | tup (xs : List D) | ins (C : Addr) (fs : List (Str × D)) | dic (kvs : List (Key × D))
/-- a slot, a value: plain data, or the i-th thing that is owned, or unknown -/
inductive T where
  | v (d : D) | own (i : Nat) | no
/-- what an owned thing holds -/
inductive OD where
  | lst (xs : List D) | ins (C : Addr) (fs : List (Str × D)) | dic (kvs : List (Key × D)) | gone

mutual
def Rep (K : PySem.W.Frag) (H : Hp) : D → V → Prop
  | .non, v => v = .non
  | .bl b, v => v = .bl b
  | .int i, v => v = .int i
  | .str x, v => v = .str x
  | .ty n, v => v = .ty n
  | .ref a, v => v = .ref a
  | .lst ds, v => ∃ a vs, v = .ref a ∧ SqL K H a vs ∧ RepL K H ds vs
  | .tup ds, v => ∃ a vs, v = .ref a ∧ SqT K H a vs ∧ RepL K H ds vs
  | .ins C fs, v => ∃ a dx vs, v = .ref a ∧ H a = some (.ins C dx vs) ∧ RepF K H fs vs
  | .dic kvs, v => ∃ a ws, v = .ref a ∧ H a = some (.dK ws) ∧ RepK K H kvs ws
def RepL (K : PySem.W.Frag) (H : Hp) : List D → List V → Prop
  | [], vs => vs = []
  | d :: ds, vs => ∃ v r, vs = v :: r ∧ Rep K H d v ∧ RepL K H ds r
def RepF (K : PySem.W.Frag) (H : Hp) : List (Str × D) → List (Str × V) → Prop
  | [], vs => vs = []
  | p :: ds, vs => ∃ v r, vs = (p.1, v) :: r ∧ Rep K H p.2 v ∧ RepF K H ds r
def RepK (K : PySem.W.Frag) (H : Hp) : List (Key × D) → List (Key × V) → Prop
  | [], vs => vs = []
  | p :: ds, vs => ∃ v r, vs = (p.1, v) :: r ∧ Rep K H p.2 v ∧ RepK K H ds r
end

def Ex (H H' : Hp) : Prop := ∀ a o, H a = some o → H' a = some o
theorem Ex.refl (H : Hp) : Ex H H := fun _ _ h => h
theorem Ex.trans {H H1 H2 : Hp} (a : Ex H H1) (b : Ex H1 H2) : Ex H H2 := fun x o h => b x o (a x o h)
theorem Ex.l {K : PySem.W.Frag} {H H' : Hp} {a : Addr} {xs : List V} (e : Ex H H') (h : SqL K H a xs) : SqL K H' a xs := Evl.ex_l e h
theorem Ex.t {K : PySem.W.Frag} {H H' : Hp} {a : Addr} {xs : List V} (e : Ex H H') (h : SqT K H a xs) : SqT K H' a xs := Evl.ex_t e h

mutual
theorem Rep.ex {K : PySem.W.Frag} {H H' : Hp} (e : Ex H H') : ∀ (d : D) {v : V}, Rep K H d v → Rep K H' d v
  | .non, _, h => h
  | .bl _, _, h => h
  | .int _, _, h => h
  | .str _, _, h => h
  | .ty _, _, h => h
  | .ref _, _, h => h
  | .lst ds, _, h => by
    obtain ⟨a, vs, e1, h1, h2⟩ := h
    exact ⟨a, vs, e1, e.l h1, RepL.ex e ds h2⟩
  | .tup ds, _, h => by
    obtain ⟨a, vs, e1, h1, h2⟩ := h
    exact ⟨a, vs, e1, e.t h1, RepL.ex e ds h2⟩
  | .ins C fs, _, h => by
    obtain ⟨a, dx, vs, e1, h1, h2⟩ := h
    exact ⟨a, dx, vs, e1, e _ _ h1, RepF.ex e fs h2⟩
  | .dic kvs, _, h => by
    obtain ⟨a, ws, e1, h1, h2⟩ := h
    exact ⟨a, ws, e1, e _ _ h1, RepK.ex e kvs h2⟩
theorem RepL.ex {K : PySem.W.Frag} {H H' : Hp} (e : Ex H H') : ∀ (ds : List D) {vs : List V}, RepL K H ds vs → RepL K H' ds vs
  | [], _, h => h
  | d :: ds, _, h => by
    obtain ⟨v, r, e1, h1, h2⟩ := h
    exact ⟨v, r, e1, Rep.ex e d h1, RepL.ex e ds h2⟩
theorem RepF.ex {K : PySem.W.Frag} {H H' : Hp} (e : Ex H H') : ∀ (ds : List (Str × D)) {vs : List (Str × V)}, RepF K H ds vs → RepF K H' ds vs
  | [], _, h => h
  | p :: ds, _, h => by
    obtain ⟨v, r, e1, h1, h2⟩ := h
    exact ⟨v, r, e1, Rep.ex e p.2 h1, RepF.ex e ds h2⟩
theorem RepK.ex {K : PySem.W.Frag} {H H' : Hp} (e : Ex H H') : ∀ (ds : List (Key × D)) {vs : List (Key × V)}, RepK K H ds vs → RepK K H' ds vs
  | [], _, h => h
  | p :: ds, _, h => by
    obtain ⟨v, r, e1, h1, h2⟩ := h
    exact ⟨v, r, e1, Rep.ex e p.2 h1, RepK.ex e ds h2⟩
end
theorem RepL.length {K : PySem.W.Frag} {H : Hp} : ∀ {ds : List D} {vs : List V}, RepL K H ds vs → vs.length = ds.length
  | [], _, h => by rw [show _ = [] from h] <;> rfl
  | d :: ds, _, h => by
    obtain ⟨v, r, e1, h1, h2⟩ := h
    rw [e1, List.length_cons, List.length_cons, RepL.length h2]
theorem RepL.get {K : PySem.W.Frag} {H : Hp} : ∀ {ds : List D} {vs : List V} {i : Nat} {d : D}, RepL K H ds vs → ds[i]? = some d → ∃ v, vs[i]? = some v ∧ Rep K H d v
  | [], _, _, _, _, h => by simp at h
  | d :: ds, _, 0, _, h, q => by
    obtain ⟨v, r, e1, h1, h2⟩ := h
    have e : d = _ := Option.some.inj q
    subst e e1
    exact ⟨v, rfl, h1⟩
  | d :: ds, _, i + 1, _, h, q => by
    obtain ⟨v, r, e1, h1, h2⟩ := h
    subst e1
    exact RepL.get (i := i) h2 q
theorem RepL.append {K : PySem.W.Frag} {H : Hp} : ∀ {ds es : List D} {vs ws : List V}, RepL K H ds vs → RepL K H es ws → RepL K H (ds ++ es) (vs ++ ws)
  | [], _, _, _, h, q => by
    rw [show _ = [] from h]
    exact q
  | d :: ds, _, _, _, h, q => by
    obtain ⟨v, r, e1, h1, h2⟩ := h
    subst e1
    exact ⟨v, _, rfl, h1, RepL.append h2 q⟩
theorem RepL.take {K : PySem.W.Frag} {H : Hp} : ∀ {ds : List D} {vs : List V} (n : Nat), RepL K H ds vs → RepL K H (ds.take n) (vs.take n)
  | ds, vs, 0, _ => by
    rw [List.take_zero, List.take_zero]
    exact rfl
  | [], _, n + 1, h => by
    rw [show _ = [] from h]
    exact rfl
  | d :: ds, _, n + 1, h => by
    obtain ⟨v, r, e1, h1, h2⟩ := h
    subst e1
    exact ⟨v, _, rfl, h1, RepL.take n h2⟩
theorem RepL.drop {K : PySem.W.Frag} {H : Hp} : ∀ {ds : List D} {vs : List V} (n : Nat), RepL K H ds vs → RepL K H (ds.drop n) (vs.drop n)
  | ds, vs, 0, h => h
  | [], _, n + 1, h => by
    rw [show _ = [] from h]
    exact rfl
  | d :: ds, _, n + 1, h => by
    obtain ⟨v, r, e1, h1, h2⟩ := h
    subst e1
    exact RepL.drop n h2
theorem RepL.set {K : PySem.W.Frag} {H : Hp} {e : D} {w : V} (q : Rep K H e w) : ∀ {ds : List D} {vs : List V} (n : Nat), RepL K H ds vs → RepL K H (ds.set n e) (vs.set n w)
  | [], _, n, h => by
    rw [show _ = [] from h]
    exact rfl
  | d :: ds, _, 0, h => by
    obtain ⟨v, r, e1, h1, h2⟩ := h
    subst e1
    exact ⟨w, _, rfl, q, h2⟩
  | d :: ds, _, n + 1, h => by
    obtain ⟨v, r, e1, h1, h2⟩ := h
    subst e1
    exact ⟨v, _, rfl, h1, RepL.set q n h2⟩
theorem RepF.look {K : PySem.W.Frag} {H : Hp} {f : Str} : ∀ {ds : List (Str × D)} {vs : List (Str × V)} {d : D}, RepF K H ds vs → ds.lookup f = some d → ∃ v, vs.lookup f = some v ∧ Rep K H d v
  | [], _, _, _, h => by cases h
  | p :: ds, _, d, h, q => by
    obtain ⟨v, r, e1, h1, h2⟩ := h
    subst e1
    rw [List.lookup_cons] at q ⊢
    cases e : (f == p.1) with
    | true =>
      rw [e] at q
      have e2 : p.2 = d := Option.some.inj q
      subst e2
      exact ⟨v, rfl, h1⟩
    | false =>
      rw [e] at q
      exact RepF.look h2 q
theorem RepF.none {K : PySem.W.Frag} {H : Hp} {f : Str} : ∀ {ds : List (Str × D)} {vs : List (Str × V)}, RepF K H ds vs → ds.lookup f = none → vs.lookup f = none
  | [], _, h, _ => by rw [show _ = [] from h] <;> rfl
  | p :: ds, _, h, q => by
    obtain ⟨v, r, e1, h1, h2⟩ := h
    subst e1
    rw [List.lookup_cons] at q ⊢
    cases e : (f == p.1) with
    | true =>
      rw [e] at q
      cases q
    | false =>
      rw [e] at q
      exact RepF.none h2 q
theorem RepF.length {K : PySem.W.Frag} {H : Hp} : ∀ {ds : List (Str × D)} {vs : List (Str × V)}, RepF K H ds vs → vs.length = ds.length
  | [], _, h => by rw [show _ = [] from h] <;> rfl
  | d :: ds, _, h => by
    obtain ⟨v, r, e1, h1, h2⟩ := h
    rw [e1, List.length_cons, List.length_cons, RepF.length h2]

/-! ### the state -/
structure Bs where
  B : Hp
  Z : List Addr
  A0 : List Addr
def live : List Addr → List OD → List Addr
  | _ :: A, .gone :: O => live A O
  | a :: A, _ :: O => a :: live A O
  | _, _ => []
def hid (L : List Addr) (H : Hp) : Hp := fun a => if a ∈ L then none else H a
theorem hid_some {L : List Addr} {H : Hp} {a : Addr} {o : HO} : hid L H a = some o ↔ a ∉ L ∧ H a = some o := by
  unfold hid
  by_cases h : a ∈ L
  · rw [if_pos h]
    exact ⟨fun z => (nomatch z), fun z => absurd h z.1⟩
  · rw [if_neg h]
    exact ⟨fun z => ⟨h, z⟩, fun z => z.2⟩
theorem hid_ex {L : List Addr} {H : Hp} : Ex (hid L H) H := fun _ _ h => (hid_some.mp h).2
theorem hid_mono {L M : List Addr} {H H' : Hp} (e : ∀ a o, a ∉ L → H a = some o → H' a = some o) (s : ∀ a o, a ∉ L → H a = some o → a ∉ M) : Ex (hid L H) (hid M H') := fun a o h => by
  obtain ⟨h1, h2⟩ := hid_some.mp h
  exact hid_some.mpr ⟨s a o h1 h2, e a o h1 h2⟩

def CellOk (K : PySem.W.Frag) (F H : Hp) (a : Addr) : OD → Prop
  | .lst ds => ∃ vs, H a = some (.lst vs) ∧ RepL K F ds vs
  | .ins C fs => ∃ dx vs, H a = some (.ins C dx vs) ∧ RepF K F fs vs
  | .dic kvs => ∃ ws, H a = some (.dK ws) ∧ RepK K F kvs ws
  | .gone => True
theorem CellOk.ex {K : PySem.W.Frag} {F F' H H' : Hp} {a : Addr} {o : OD} (e : Ex F F') (h : ∀ u, H a = some u → H' a = some u) (c : CellOk K F H a o) : CellOk K F' H' a o := by
  cases o with
  | lst ds =>
    obtain ⟨vs, h1, h2⟩ := c
    exact ⟨vs, h _ h1, h2.ex e⟩
  | ins C fs =>
    obtain ⟨dx, vs, h1, h2⟩ := c
    exact ⟨dx, vs, h _ h1, h2.ex e⟩
  | dic kvs =>
    obtain ⟨ws, h1, h2⟩ := c
    exact ⟨ws, h _ h1, h2.ex e⟩
  | gone => trivial
/-- what is frozen -/
def Fz (b : Bs) (A : List Addr) (O : List OD) (H : Hp) : Hp := hid (live A O ++ b.Z) H

structure StO (K : PySem.W.Frag) (b : Bs) (A : List Addr) (O : List OD) (H : Hp) : Prop where
  len : A.length = O.length
  pre : ∃ M, A = b.A0 ++ M
  ext : Ex b.B (hid (live A O) H)
  zs : ∀ z ∈ b.Z, ∃ o, b.B z = some o
  nd : A.Nodup
  inh : ∀ a ∈ A, ∃ o, H a = some o
  cell : ∀ (i : Nat) (a : Addr) (o : OD), A[i]? = some a → O[i]? = some o → CellOk K (Fz b A O H) H a o

theorem live_mem : ∀ {A : List Addr} {O : List OD} {a : Addr}, a ∈ live A O → ∃ (i : Nat) (o : OD), A[i]? = some a ∧ O[i]? = some o ∧ o ≠ OD.gone
  | [], _, _, h => by simp [live] at h
  | _ :: _, [], _, h => by simp [live] at h
  | c :: A, o :: O, a, h => by
    have key : a ∈ live A O → ∃ (i : Nat) (o' : OD), (c :: A)[i]? = some a ∧ (o :: O)[i]? = some o' ∧ o' ≠ OD.gone := fun h => by
      obtain ⟨i, o', h1, h2, h3⟩ := live_mem h
      exact ⟨i + 1, o', h1, h2, h3⟩
    cases o with
    | gone => exact key h
    | lst ds =>
      rcases List.mem_cons.mp h with e | h
      · exact ⟨0, _, by rw [e] <;> rfl, rfl, fun z => by cases z⟩
      · exact key h
    | ins C fs =>
      rcases List.mem_cons.mp h with e | h
      · exact ⟨0, _, by rw [e] <;> rfl, rfl, fun z => by cases z⟩
      · exact key h
    | dic kvs =>
      rcases List.mem_cons.mp h with e | h
      · exact ⟨0, _, by rw [e] <;> rfl, rfl, fun z => by cases z⟩
      · exact key h
theorem live_at : ∀ {A : List Addr} {O : List OD} {i : Nat} {a : Addr} {o : OD}, A[i]? = some a → O[i]? = some o → o ≠ .gone → a ∈ live A O
  | [], _, _, _, _, h, _, _ => by simp at h
  | _ :: _, [], _, _, _, _, h, _ => by simp at h
  | c :: A, u :: O, 0, a, o, h1, h2, h3 => by
    have e1 : c = a := Option.some.inj h1
    have e2 : u = o := Option.some.inj h2
    subst e1 e2
    cases u with
    | gone => exact absurd rfl h3
    | lst ds => exact List.mem_cons_self
    | ins C fs => exact List.mem_cons_self
    | dic kvs => exact List.mem_cons_self
  | c :: A, u :: O, i + 1, a, o, h1, h2, h3 => by
    have ih : a ∈ live A O := live_at (i := i) h1 h2 h3
    cases u with
    | gone => exact ih
    | lst ds => exact List.mem_cons_of_mem _ ih
    | ins C fs => exact List.mem_cons_of_mem _ ih
    | dic kvs => exact List.mem_cons_of_mem _ ih

section
variable {K : PySem.W.Frag} {b : Bs} {A A' A2 : List Addr} {O O' O2 : List OD} {H H' H2 : Hp}
theorem StO.some_at (s : StO K b A O H) {a : Addr} (h : a ∈ live A O) : ∃ o, H a = some o := by
  obtain ⟨i, o, h1, h2, h3⟩ := live_mem h
  have c := s.cell i a o h1 h2
  cases o with
  | gone => exact absurd rfl h3
  | lst ds =>
    obtain ⟨vs, q, _⟩ := c
    exact ⟨_, q⟩
  | ins C fs =>
    obtain ⟨dx, vs, q, _⟩ := c
    exact ⟨_, q⟩
  | dic kvs =>
    obtain ⟨ws, q, _⟩ := c
    exact ⟨_, q⟩
theorem StO.z_at (s : StO K b A O H) {a : Addr} (h : a ∈ b.Z) : a ∉ live A O ∧ ∃ o, H a = some o := by
  obtain ⟨o, q⟩ := s.zs a h
  obtain ⟨h1, h2⟩ := hid_some.mp (s.ext a o q)
  exact ⟨h1, o, h2⟩
theorem StO.fresh (s : StO K b A O H) {p : Addr} (h : H p = none) : p ∉ live A O ++ b.Z := fun hm => by
  rcases List.mem_append.mp hm with hm | hm
  · obtain ⟨o, q⟩ := s.some_at hm
    rw [h] at q
    cases q
  · obtain ⟨_, o, q⟩ := s.z_at hm
    rw [h] at q
    cases q
/-- the next state sees what this one sees -/
structure Nxt (b : Bs) (A : List Addr) (O : List OD) (H : Hp) (A' : List Addr) (O' : List OD) (H' : Hp) : Prop where
  pre : ∃ M, A' = A ++ M
  ext : Ex (Fz b A O H) (Fz b A' O' H')
theorem Nxt.refl : Nxt b A O H A O H := ⟨⟨[], (List.append_nil A).symm⟩, Ex.refl _⟩
theorem Nxt.trans (x : Nxt b A O H A' O' H') (y : Nxt b A' O' H' A2 O2 H2) : Nxt b A O H A2 O2 H2 := by
  obtain ⟨M, e⟩ := x.pre
  obtain ⟨N, e2⟩ := y.pre
  exact ⟨⟨M ++ N, by rw [e2, e, List.append_assoc]⟩, x.ext.trans y.ext⟩
theorem Nxt.at_ (x : Nxt b A O H A' O' H') {i : Nat} {a : Addr} (h : A[i]? = some a) : A'[i]? = some a := by
  obtain ⟨M, e⟩ := x.pre
  rw [e, List.getElem?_append_left (List.getElem?_eq_some_iff.mp h).1]
  exact h

def RepT (K : PySem.W.Frag) (F : Hp) (A : List Addr) : T → Option V → Prop
  | .v d, o => ∃ v, o = some v ∧ Rep K F d v
  | .own i, o => ∃ a, A[i]? = some a ∧ o = some (.ref a)
  | .no, _ => True
theorem RepT.nxt {t : T} {o : Option V} (x : Nxt b A O H A' O' H') (h : RepT K (Fz b A O H) A t o) : RepT K (Fz b A' O' H') A' t o := by
  cases t with
  | v d =>
    obtain ⟨v, e, r⟩ := h
    exact ⟨v, e, r.ex x.ext⟩
  | own i =>
    obtain ⟨a, e, r⟩ := h
    exact ⟨a, x.at_ e, r⟩
  | no => trivial
def RepS (K : PySem.W.Frag) (F : Hp) (A : List Addr) (ts : List T) (σ : L2.St) : Prop := ts.length = σ.length ∧ ∀ (i : Nat) (t : T), ts[i]? = some t → ∃ o, σ[i]? = some o ∧ RepT K F A t o
theorem RepS.nxt {ts : List T} {σ : L2.St} (x : Nxt b A O H A' O' H') (h : RepS K (Fz b A O H) A ts σ) : RepS K (Fz b A' O' H') A' ts σ :=
  ⟨h.1, fun i t e => let ⟨o, e1, r⟩ := h.2 i t e; ⟨o, e1, r.nxt x⟩⟩
theorem RepS.set {F : Hp} {ts : List T} {σ : L2.St} {t : T} {v : V} (h : RepS K F A ts σ) (r : RepT K F A t (some v)) (i : Nat) : RepS K F A (ts.set i t) (σ.set i (some v)) := by
  refine ⟨by rw [List.length_set, List.length_set]; exact h.1, fun j u e => ?_⟩
  rw [List.getElem?_set] at e
  by_cases hij : i = j
  · subst hij
    rw [if_pos rfl] at e
    by_cases hl : i < ts.length
    · rw [if_pos hl] at e
      have e2 : t = u := Option.some.inj e
      subst e2
      refine ⟨some v, ?_, r⟩
      rw [List.getElem?_set_self (by rw [← h.1]; exact hl)]
    · rw [if_neg hl] at e
      cases e
  · rw [if_neg hij] at e
    obtain ⟨o, e1, r1⟩ := h.2 j u e
    refine ⟨o, ?_, r1⟩
    rw [List.getElem?_set_ne hij]
    exact e1
/-- what a list of values stands for -/
def RepTs (K : PySem.W.Frag) (F : Hp) (A : List Addr) : List T → List V → Prop
  | [], vs => vs = []
  | t :: ts, vs => ∃ v r, vs = v :: r ∧ RepT K F A t (some v) ∧ RepTs K F A ts r
theorem RepTs.nxt (x : Nxt b A O H A' O' H') : ∀ {ts : List T} {vs : List V}, RepTs K (Fz b A O H) A ts vs → RepTs K (Fz b A' O' H') A' ts vs
  | [], _, h => h
  | t :: ts, _, h => by
    obtain ⟨v, r, e, h1, h2⟩ := h
    exact ⟨v, r, e, h1.nxt x, RepTs.nxt x h2⟩
theorem RepTs.length {F : Hp} : ∀ {ts : List T} {vs : List V}, RepTs K F A ts vs → vs.length = ts.length
  | [], _, h => by rw [show _ = [] from h] <;> rfl
  | t :: ts, _, h => by
    obtain ⟨v, r, e, h1, h2⟩ := h
    rw [e, List.length_cons, List.length_cons, RepTs.length h2]
theorem RepTs.get {F : Hp} : ∀ {ts : List T} {vs : List V} {i : Nat} {t : T}, RepTs K F A ts vs → ts[i]? = some t → ∃ v, vs[i]? = some v ∧ RepT K F A t (some v)
  | [], _, _, _, _, h => by simp at h
  | t :: ts, _, 0, _, h, q => by
    obtain ⟨v, r, e1, h1, h2⟩ := h
    have e : t = _ := Option.some.inj q
    subst e e1
    exact ⟨v, rfl, h1⟩
  | t :: ts, _, i + 1, _, h, q => by
    obtain ⟨v, r, e1, h1, h2⟩ := h
    subst e1
    exact RepTs.get (i := i) h2 q
/-- plain data only -/
def unv : List T → Option (List D)
  | [] => some []
  | .v d :: r => (unv r).map (d :: ·)
  | _ :: _ => none
theorem RepTs.plain {F : Hp} : ∀ {ts : List T} {vs : List V} {ds : List D}, unv ts = some ds → RepTs K F A ts vs → RepL K F ds vs
  | [], _, ds, e, h => by
    have e2 : [] = ds := Option.some.inj e
    subst e2
    exact h
  | .v d :: ts, _, ds, e, h => by
    obtain ⟨v, r, e1, h1, h2⟩ := h
    have e3 : (unv ts).map (d :: ·) = some ds := e
    cases q : unv ts with
    | none =>
      rw [q] at e3
      cases e3
    | some es =>
      rw [q] at e3
      have e4 : d :: es = ds := Option.some.inj e3
      subst e4
      obtain ⟨w, e5, r5⟩ := h1
      have e6 := Option.some.inj e5
      subst e6
      exact ⟨v, r, e1, r5, RepTs.plain q h2⟩
  | .own _ :: _, _, _, e, _ => by cases e
  | .no :: _, _, _, e, _ => by cases e

/-! ### new frozen objects, owned ones -/
theorem StO.lay (s : StO K b A O H) {p : Addr} (hp : H p = none) (o : HO) : StO K b A O (upd H p o) ∧ Nxt b A O H A O (upd H p o) ∧ Fz b A O (upd H p o) p = some o := by
  have hn := s.fresh hp
  have e1 : Ex H (upd H p o) := fun a u h => by
    rw [upd_ne (ne_of_none h hp)]
    exact h
  have e2 : Ex (Fz b A O H) (Fz b A O (upd H p o)) := hid_mono (fun a u _ h => e1 a u h) fun a u h _ => h
  refine ⟨⟨s.len, s.pre, s.ext.trans (hid_mono (fun a u _ h => e1 a u h) fun a u h _ => h), s.zs, s.nd, fun a h => let ⟨u, q⟩ := s.inh a h; ⟨u, e1 a u q⟩, fun i a u h1 h2 => (s.cell i a u h1 h2).ex e2 (e1 a)⟩, ⟨⟨[], (List.append_nil A).symm⟩, e2⟩, ?_⟩
  exact hid_some.mpr ⟨hn, upd_same⟩
theorem live_append : ∀ {A : List Addr} {O : List OD}, A.length = O.length → ∀ (p : Addr) (o : OD), live (A ++ [p]) (O ++ [o]) = live A O ++ live [p] [o]
  | [], [], _, p, o => rfl
  | [], _ :: _, h, _, _ => by simp at h
  | _ :: _, [], h, _, _ => by simp at h
  | a :: A, u :: O, h, p, o => by
    have ih := live_append (A := A) (O := O) (by simpa using h) p o
    cases u <;> simp only [List.cons_append, live, ih]
theorem live1_sub {p : Addr} {o : OD} : ∀ a ∈ live [p] [o], a = p := fun a h => by
  cases o <;> simp [live] at h <;> exact h
/-- p, new, becomes the next owned thing -/
theorem StO.own (s : StO K b A O H) {p : Addr} (hp : H p = none) {u : HO} {o : OD} (c : CellOk K (Fz b A O H) (upd H p u) p o) : StO K b (A ++ [p]) (O ++ [o]) (upd H p u) ∧ Nxt b A O H (A ++ [p]) (O ++ [o]) (upd H p u) := by
  have hn := s.fresh hp
  have hA : p ∉ A := fun z => by
    obtain ⟨x, q⟩ := s.inh p z
    rw [hp] at q
    cases q
  have e1 : Ex H (upd H p u) := fun a w h => by
    rw [upd_ne (ne_of_none h hp)]
    exact h
  have hl := live_append s.len p o
  have sub : ∀ a w, a ∉ live A O → H a = some w → a ∉ live (A ++ [p]) (O ++ [o]) := fun a w h1 h2 h3 => by
    rw [hl] at h3
    rcases List.mem_append.mp h3 with h3 | h3
    · exact h1 h3
    · have e := live1_sub a h3
      rw [e, hp] at h2
      cases h2
  have e2 : Ex (Fz b A O H) (Fz b (A ++ [p]) (O ++ [o]) (upd H p u)) := hid_mono (fun a w _ h => e1 a w h) fun a w h1 h2 h3 => by
    rcases List.mem_append.mp h3 with h3 | h3
    · exact sub a w (fun z => h1 (List.mem_append_left _ z)) h2 h3
    · exact h1 (List.mem_append_right _ h3)
  obtain ⟨M, eM⟩ := s.pre
  refine ⟨⟨by rw [List.length_append, List.length_append, s.len] <;> rfl, ⟨M ++ [p], by rw [eM, List.append_assoc]⟩, s.ext.trans (hid_mono (fun a w _ h => e1 a w h) sub), s.zs, ?_, fun a h => ?_, fun i a w h1 h2 => ?_⟩, ⟨⟨[p], rfl⟩, e2⟩⟩
  · rw [List.nodup_append]
    refine ⟨s.nd, by simp, fun x hx y hy => ?_⟩
    rw [List.mem_singleton.mp hy]
    intro z
    exact hA (z ▸ hx)
  · rcases List.mem_append.mp h with h | h
    · obtain ⟨x, q⟩ := s.inh a h
      exact ⟨x, e1 a x q⟩
    · rw [List.mem_singleton.mp h]
      exact ⟨u, upd_same⟩
  · by_cases hi : i < A.length
    · rw [List.getElem?_append_left hi] at h1
      rw [List.getElem?_append_left (by rw [← s.len]; exact hi)] at h2
      exact (s.cell i a w h1 h2).ex e2 (e1 a)
    · rw [List.getElem?_append_right (by omega)] at h1
      rw [List.getElem?_append_right (by rw [← s.len]; omega)] at h2
      have hz : i - A.length = 0 := by
        cases q : i - A.length with
        | zero => rfl
        | succ n =>
          rw [q] at h1
          simp at h1
      rw [hz] at h1
      rw [show i - O.length = 0 by rw [← s.len]; exact hz] at h2
      have e3 : p = a := Option.some.inj h1
      have e4 : o = w := Option.some.inj h2
      subst e3 e4
      exact c.ex e2 fun _ h => h
/-- the i-th owned thing changes -/
theorem live_set : ∀ {A : List Addr} {O : List OD} {i : Nat} {o u : OD}, O[i]? = some u → u ≠ .gone → o ≠ .gone → live A (O.set i o) = live A O
  | [], O, _, _, _, _, _, _ => by cases O <;> rfl
  | _ :: _, [], _, _, _, h, _, _ => by simp at h
  | a :: A, w :: O, 0, o, u, h, h1, h2 => by
    have e : w = u := Option.some.inj h
    subst e
    cases w <;> cases o <;> first | rfl | exact absurd rfl h1 | exact absurd rfl h2
  | a :: A, w :: O, i + 1, o, u, h, h1, h2 => by
    have ih := live_set (A := A) (O := O) (i := i) h h1 h2
    cases w <;> simp only [List.set_cons_succ, live, ih]
theorem StO.put (s : StO K b A O H) {i : Nat} {a : Addr} {u o : OD} {w : HO} (hA : A[i]? = some a) (hO : O[i]? = some u) (hu : u ≠ .gone) (ho : o ≠ .gone) (c : CellOk K (Fz b A O H) (upd H a w) a o) :
    StO K b A (O.set i o) (upd H a w) ∧ Nxt b A O H A (O.set i o) (upd H a w) := by
  have hl : live A (O.set i o) = live A O := live_set hO hu ho
  have hm : a ∈ live A O := live_at hA hO hu
  have e2 : Ex (Fz b A O H) (Fz b A (O.set i o) (upd H a w)) := by
    unfold Fz
    rw [hl]
    refine hid_mono (fun y x h1 h2 => ?_) fun _ _ h _ => h
    have hne : y ≠ a := fun z => h1 (List.mem_append_left _ (by rw [z]; exact hm))
    rw [upd_ne hne]
    exact h2
  refine ⟨⟨by rw [List.length_set]; exact s.len, s.pre, ?_, s.zs, s.nd, fun c h => ?_, fun j y x h1 h2 => ?_⟩, ⟨⟨[], (List.append_nil A).symm⟩, e2⟩⟩
  · rw [hl]
    refine s.ext.trans (hid_mono (fun y x h1 h2 => ?_) fun _ _ h _ => h)
    have hne : y ≠ a := fun z => h1 (by rw [z]; exact hm)
    rw [upd_ne hne]
    exact h2
  · by_cases z : c = a
    · exact ⟨w, by rw [z, upd_same]⟩
    · obtain ⟨x, q⟩ := s.inh c h
      exact ⟨x, by rw [upd_ne z]; exact q⟩
  · rw [List.getElem?_set] at h2
    by_cases hij : i = j
    · subst hij
      rw [if_pos rfl] at h2
      rw [hA] at h1
      have e3 : a = y := Option.some.inj h1
      subst e3
      by_cases hlt : i < O.length
      · rw [if_pos hlt] at h2
        have e4 : o = x := Option.some.inj h2
        subst e4
        exact c.ex e2 fun _ h => h
      · rw [if_neg hlt] at h2
        cases h2
    · rw [if_neg hij] at h2
      have hne : y ≠ a := fun z => hij (nd_ix s.nd hA (z ▸ h1))
      refine (s.cell j y x h1 h2).ex e2 fun q hq => ?_
      rw [upd_ne hne]
      exact hq
end
end G

set_option Elab.async false
set_option linter.all false
set_option maxRecDepth 100000
set_option maxHeartbeats 4000000
namespace G
open PySem PySem.Spec PyProof.Rows L2

/-! ### what is wanted -/
abbrev PT' := T → List OD → Prop
abbrev PB := Bool → List OD → Prop
abbrev PL := List T → List OD → Prop
/-- an exception: its class, its own fields (none: no dict of its own) -/
abbrev XX := Value → Option (List (Str × D)) → List OD → Prop
def RepX (K : PySem.W.Frag) (F H : Hp) : Option (List (Str × D)) → Option Addr → Prop
  | none, d => d = none
  | some fs, d => ∃ dx vs, d = some dx ∧ H dx = some (.xd vs) ∧ RepF K F fs vs
/-- what an exception leaves is wanted -/
def KX (K : PySem.W.Frag) (W : WX) (b : Bs) (A : List Addr) (O : List OD) (σ : L2.St) (H : Hp) (X : XX) : Prop :=
  ∀ C fs A' O' H' d, X C fs O' → StO K b A' O' H' → Nxt b A O H A' O' H' → RepX K (Fz b A' O' H') H' fs d → W C d σ H'
def KV' (K : PySem.W.Frag) (b : Bs) (A : List Addr) (O : List OD) (H : Hp) (P : PT') (Q : VK) : Prop :=
  ∀ t v A' O' H', P t O' → StO K b A' O' H' → Nxt b A O H A' O' H' → RepT K (Fz b A' O' H') A' t (some v) → Q v H'
def KB (K : PySem.W.Frag) (b : Bs) (A : List Addr) (O : List OD) (H : Hp) (P : PB) (Q : Bool → Hp → Prop) : Prop :=
  ∀ c A' O' H', P c O' → StO K b A' O' H' → Nxt b A O H A' O' H' → Q c H'
def KL (K : PySem.W.Frag) (b : Bs) (A : List Addr) (O : List OD) (H : Hp) (P : PL) (Q : List V → Hp → Prop) : Prop :=
  ∀ ts vs A' O' H', P ts O' → StO K b A' O' H' → Nxt b A O H A' O' H' → RepTs K (Fz b A' O' H') A' ts vs → Q vs H'
section
variable {K : PySem.W.Frag} {W : WX} {b : Bs} {A A' : List Addr} {O O' : List OD} {H H' : Hp} {σ : L2.St}
theorem KX.nxt {X : XX} (k : KX K W b A O σ H X) (n : Nxt b A O H A' O' H') : KX K W b A' O' σ H' X := fun C fs A2 O2 H2 d x s m r => k C fs A2 O2 H2 d x s (n.trans m) r
theorem KV'.nxt {P : PT'} {Q : VK} (k : KV' K b A O H P Q) (n : Nxt b A O H A' O' H') : KV' K b A' O' H' P Q := fun t v A2 O2 H2 x s m r => k t v A2 O2 H2 x s (n.trans m) r
theorem KB.nxt {P : PB} {Q : Bool → Hp → Prop} (k : KB K b A O H P Q) (n : Nxt b A O H A' O' H') : KB K b A' O' H' P Q := fun c A2 O2 H2 x s m => k c A2 O2 H2 x s (n.trans m)
theorem KL.nxt {P : PL} {Q : List V → Hp → Prop} (k : KL K b A O H P Q) (n : Nxt b A O H A' O' H') : KL K b A' O' H' P Q := fun ts vs A2 O2 H2 x s m r => k ts vs A2 O2 H2 x s (n.trans m) r
end

/-! ### readings over data -/
def WE (K : PySem.W.Frag) (W : WX) (te : TE) (O : List OD) (ts : List T) (P : PT') (X : XX) : Prop :=
  ∀ b A σ H Q, StO K b A O H → RepS K (Fz b A O H) A ts σ → KV' K b A O H P Q → KX K W b A O σ H X → te σ H Q
def WT (K : PySem.W.Frag) (W : WX) (tt : TT) (O : List OD) (ts : List T) (P : PB) (X : XX) : Prop :=
  ∀ b A σ H Q, StO K b A O H → RepS K (Fz b A O H) A ts σ → KB K b A O H P Q → KX K W b A O σ H X → tt σ H Q
def WA (K : PySem.W.Frag) (W : WX) (ta : TA) (O : List OD) (ts : List T) (P : PL) (X : XX) : Prop :=
  ∀ b A σ H Q, StO K b A O H → RepS K (Fz b A O H) A ts σ → KL K b A O H P Q → KX K W b A O σ H X → ta σ H Q
/-- by values -/
def WR (K : PySem.W.Frag) (r : R2) (x y : T) (O : List OD) (P : PT') : Prop :=
  ∀ b A H Q v u, StO K b A O H → RepT K (Fz b A O H) A x (some v) → RepT K (Fz b A O H) A y (some u) → KV' K b A O H P Q → r v u H Q
def WU (K : PySem.W.Frag) (r : V → Hp → VK → Prop) (x : T) (O : List OD) (P : PT') : Prop :=
  ∀ b A H Q v, StO K b A O H → RepT K (Fz b A O H) A x (some v) → KV' K b A O H P Q → r v H Q
def WC (K : PySem.W.Frag) (r : List V → Hp → VK → Prop) (xs : List T) (O : List OD) (P : PT') : Prop :=
  ∀ b A H Q vs, StO K b A O H → RepTs K (Fz b A O H) A xs vs → KV' K b A O H P Q → r vs H Q
def WM (K : PySem.W.Frag) (r : V → List V → Hp → VK → Prop) (x : T) (xs : List T) (O : List OD) (P : PT') : Prop :=
  ∀ b A H Q v vs, StO K b A O H → RepT K (Fz b A O H) A x (some v) → RepTs K (Fz b A O H) A xs vs → KV' K b A O H P Q → r v vs H Q

/-! ### ends of a block -/
structure DE where
  nx : List T → List OD → Prop
  rt : PT'
  bk : List T → List OD → Prop := fun _ _ => False
  ct : List T → List OD → Prop := fun _ _ => False
  xe : Value → Option (List (Str × D)) → List T → List OD → Prop := fun _ _ _ _ => False
def KN (K : PySem.W.Frag) (b : Bs) (A : List Addr) (O : List OD) (H : Hp) (N : List T → List OD → Prop) (Q : L2.St → Hp → Prop) : Prop :=
  ∀ ts σ A' O' H', N ts O' → StO K b A' O' H' → Nxt b A O H A' O' H' → RepS K (Fz b A' O' H') A' ts σ → Q σ H'
structure KS (K : PySem.W.Frag) (W : WX) (b : Bs) (A : List Addr) (O : List OD) (H : Hp) (E : DE) (D : Ends) : Prop where
  nx : KN K b A O H E.nx D.nx
  rt : KV' K b A O H E.rt D.rt
  bk : KN K b A O H E.bk D.bk
  ct : KN K b A O H E.ct D.ct
  xe : ∀ C fs ts σ A' O' H' d, E.xe C fs ts O' → StO K b A' O' H' → Nxt b A O H A' O' H' → RepS K (Fz b A' O' H') A' ts σ → RepX K (Fz b A' O' H') H' fs d → W C d σ H'
def WS (K : PySem.W.Frag) (W : WX) (t : TS) (O : List OD) (ts : List T) (E : DE) : Prop :=
  ∀ b A σ H D, StO K b A O H → RepS K (Fz b A O H) A ts σ → KS K W b A O H E D → t D σ H
section
variable {K : PySem.W.Frag} {W : WX} {b : Bs} {A A' : List Addr} {O O' : List OD} {H H' : Hp} {σ : L2.St}
theorem KN.nxt {N : List T → List OD → Prop} {Q : L2.St → Hp → Prop} (k : KN K b A O H N Q) (n : Nxt b A O H A' O' H') : KN K b A' O' H' N Q := fun ts σ A2 O2 H2 x s m r => k ts σ A2 O2 H2 x s (n.trans m) r
theorem KS.nxt {E : DE} {D : Ends} (k : KS K W b A O H E D) (n : Nxt b A O H A' O' H') : KS K W b A' O' H' E D :=
  ⟨k.nx.nxt n, k.rt.nxt n, k.bk.nxt n, k.ct.nxt n, fun C fs ts σ A2 O2 H2 d x s m r q => k.xe C fs ts σ A2 O2 H2 d x s (n.trans m) r q⟩
theorem KS.kx {E : DE} {D : Ends} {ts : List T} (k : KS K W b A O H E D) (rs : RepS K (Fz b A O H) A ts σ) : KX K W b A O σ H (fun C fs O' => E.xe C fs ts O') :=
  fun C fs A' O' H' d x s m r => k.xe C fs ts σ A' O' H' d x s m (rs.nxt m) r
end

/-! ### expressions -/
section
variable {K : PySem.W.Frag} {W : WX} {O : List OD} {ts : List T} {P : PT'} {PB' : PB} {PL' : PL} {X : XX} {te ta tb tc : TE} {tt uu : TT} {tr : TA} {r r' : R2}
theorem WE.imp {P' : PT'} (h : WE K W te O ts P X) (q : ∀ t O', P t O' → P' t O') : WE K W te O ts P' X := fun b A σ H Q s rs k kx => h b A σ H Q s rs (fun t v A' O' H' p => k t v A' O' H' (q t O' p)) kx
theorem w_var {i : Nat} {t : T} (h : ts[i]? = some t) (hn : t ≠ .no) (k : P t O) : WE K W (tVar i) O ts P X := fun b A σ H Q s rs kv _ => by
  obtain ⟨o, e, rt⟩ := rs.2 i t h
  cases t with
  | v d =>
    obtain ⟨v, e2, rd⟩ := rt
    subst e2
    exact ⟨v, e, kv _ v A O H k s Nxt.refl ⟨v, rfl, rd⟩⟩
  | own j =>
    obtain ⟨a, e1, e2⟩ := rt
    subst e2
    exact ⟨_, e, kv _ _ A O H k s Nxt.refl ⟨a, e1, rfl⟩⟩
  | no => exact absurd rfl hn
theorem w_v {i : Nat} {d : D} (h : ts[i]? = some (.v d)) (k : P (.v d) O) : WE K W (tVar i) O ts P X := w_var h (fun z => by cases z) k
theorem w_o {i j : Nat} (h : ts[i]? = some (.own j)) (k : P (.own j) O) : WE K W (tVar i) O ts P X := w_var h (fun z => by cases z) k
theorem w_c {v : V} {d : D} (h : ∀ H, Rep K H d v) (k : P (.v d) O) : WE K W (tC v) O ts P X := fun b A σ H Q s rs kv _ => kv _ v A O H k s Nxt.refl ⟨v, rfl, h _⟩
theorem w_ci {i : Int} (k : P (.v (.int i)) O) : WE K W (tC (.int i)) O ts P X := w_c (d := .int i) (fun _ => rfl) k
theorem w_cb {i : Bool} (k : P (.v (.bl i)) O) : WE K W (tC (.bl i)) O ts P X := w_c (d := .bl i) (fun _ => rfl) k
theorem w_cs {i : Str} (k : P (.v (.str i)) O) : WE K W (tC (.str i)) O ts P X := w_c (d := .str i) (fun _ => rfl) k
theorem w_cn (k : P (.v .non) O) : WE K W (tC .non) O ts P X := w_c (d := .non) (fun _ => rfl) k
theorem w_cr {a : Addr} (k : P (.v (.ref a)) O) : WE K W (tC (.ref a)) O ts P X := w_c (d := .ref a) (fun _ => rfl) k
theorem w_cty {a : String} (k : P (.v (.ty a)) O) : WE K W (tC (.ty a)) O ts P X := w_c (d := .ty a) (fun _ => rfl) k
theorem w_op (h : WE K W ta O ts (fun x O1 => WE K W tb O1 ts (fun y O2 => WR K r x y O2 P) X) X) : WE K W (tOp r ta tb) O ts P X := fun b A σ H Q s rs kv kx => by
  refine h b A σ H _ s rs (fun x v A1 O1 H1 p1 s1 n1 r1 => ?_) kx
  refine p1 b A1 σ H1 _ s1 (rs.nxt n1) (fun y u A2 O2 H2 p2 s2 n2 r2 => ?_) (kx.nxt n1)
  exact p2 b A2 H2 Q v u s2 (r1.nxt n2) r2 (kv.nxt (n1.trans n2))
theorem w_un {r : V → Hp → VK → Prop} (h : WE K W ta O ts (fun x O1 => WU K r x O1 P) X) : WE K W (tUn r ta) O ts P X := fun b A σ H Q s rs kv kx =>
  h b A σ H _ s rs (fun x v A1 O1 H1 p1 s1 n1 r1 => p1 b A1 H1 Q v s1 r1 (kv.nxt n1)) kx
theorem w_I0 {g : Int → Int → V} {i j : Int} {d : D} (hd : ∀ H, Rep K H d (g i j)) (k : P (.v d) O) : WR K (rI0 g) (.v (.int i)) (.v (.int j)) O P := fun b A H Q v u s r1 r2 kv => by
  obtain ⟨_, e1, rfl⟩ := r1
  obtain ⟨_, e2, rfl⟩ := r2
  cases e1
  cases e2
  exact ⟨i, j, rfl, rfl, kv _ _ A O H k s Nxt.refl ⟨_, rfl, hd _⟩⟩
theorem w_I {C : Int → Int → Prop} {g : Int → Int → V} {i j : Int} {d : D} (hc : C i j) (hd : ∀ H, Rep K H d (g i j)) (k : P (.v d) O) : WR K (rI C g) (.v (.int i)) (.v (.int j)) O P := fun b A H Q v u s r1 r2 kv => by
  obtain ⟨_, e1, rfl⟩ := r1
  obtain ⟨_, e2, rfl⟩ := r2
  cases e1
  cases e2
  exact ⟨i, j, rfl, rfl, hc, kv _ _ A O H k s Nxt.refl ⟨_, rfl, hd _⟩⟩
theorem w_Ui {g : Int → V} {i : Int} {d : D} (hd : ∀ H, Rep K H d (g i)) (k : P (.v d) O) : WU K (rU g) (.v (.int i)) O P := fun b A H Q v s r1 kv => by
  obtain ⟨_, e1, rfl⟩ := r1
  cases e1
  exact ⟨i, rfl, kv _ _ A O H k s Nxt.refl ⟨_, rfl, hd _⟩⟩
/-- values that are no objects -/
def scalD : D → Option V
  | .non => some .non
  | .bl b => some (.bl b)
  | .int i => some (.int i)
  | .str x => some (.str x)
  | _ => none
theorem scalD_rep {K : PySem.W.Frag} {H : Hp} {d : D} {v w : V} (h : scalD d = some v) (r : Rep K H d w) : w = v := by
  cases d <;> first | (have e := Option.some.inj h; subst e; exact r) | cases h
theorem w_eq {d e : D} {v u : V} (h1 : scalD d = some v) (h2 : scalD e = some u) (hs : scal v u = true) (k : P (.v (.bl (decide (v = u)))) O) : WR K rEq (.v d) (.v e) O P := fun b A H Q x y s r1 r2 kv => by
  obtain ⟨_, e1, q1⟩ := r1
  obtain ⟨_, e2, q2⟩ := r2
  cases e1
  cases e2
  rw [scalD_rep h1 q1, scalD_rep h2 q2]
  exact ⟨hs, kv _ _ A O H k s Nxt.refl ⟨_, rfl, rfl⟩⟩
theorem w_ne {d e : D} {v u : V} (h1 : scalD d = some v) (h2 : scalD e = some u) (hs : scal v u = true) (k : P (.v (.bl (!decide (v = u)))) O) : WR K rNe (.v d) (.v e) O P := fun b A H Q x y s r1 r2 kv => by
  obtain ⟨_, e1, q1⟩ := r1
  obtain ⟨_, e2, q2⟩ := r2
  cases e1
  cases e2
  rw [scalD_rep h1 q1, scalD_rep h2 q2]
  exact ⟨hs, kv _ _ A O H k s Nxt.refl ⟨_, rfl, rfl⟩⟩
theorem dI (i j : Int) : decide (V.int i = V.int j) = decide (i = j) := by
  by_cases h : i = j
  · subst h
    simp
  · rw [decide_eq_false h, decide_eq_false (fun z => h (V.int.inj z))]
theorem w_eqI {i j : Int} (k : P (.v (.bl (decide (i = j)))) O) : WR K rEq (.v (.int i)) (.v (.int j)) O P := w_eq rfl rfl rfl (by rw [dI]; exact k)
theorem w_neI {i j : Int} (k : P (.v (.bl (!decide (i = j)))) O) : WR K rNe (.v (.int i)) (.v (.int j)) O P := w_ne rfl rfl rfl (by rw [dI]; exact k)
/-! tests -/
theorem w_test (h : WE K W te O ts (fun t O' => ∃ c, t = .v (.bl c) ∧ PB' c O') X) : WT K W (tTest te) O ts PB' X := fun b A σ H Q s rs kb kx =>
  h b A σ H _ s rs (fun t v A1 O1 H1 p1 s1 n1 r1 => by
    obtain ⟨c, rfl, p⟩ := p1
    obtain ⟨_, e, rfl⟩ := r1
    cases e
    exact ⟨c, rfl, kb c A1 O1 H1 p s1 n1⟩) kx
theorem w_B (h : WE K W te O ts (fun t O' => ∃ c, t = .v (.bl c) ∧ PB' c O') X) : WT K W (tB te) O ts PB' X := w_test h
theorem w_and (h : WT K W tt O ts (fun c O' => (c = true → WT K W uu O' ts PB' X) ∧ (c = false → PB' false O')) X) : WT K W (tAnd tt uu) O ts PB' X := fun b A σ H Q s rs kb kx =>
  h b A σ H _ s rs (fun c A1 O1 H1 p1 s1 n1 => by
    cases c with
    | true => exact iteT (p1.1 rfl b A1 σ H1 Q s1 (rs.nxt n1) (kb.nxt n1) (kx.nxt n1))
    | false => exact iteF (kb false A1 O1 H1 (p1.2 rfl) s1 n1)) kx
theorem w_or (h : WT K W tt O ts (fun c O' => (c = true → PB' true O') ∧ (c = false → WT K W uu O' ts PB' X)) X) : WT K W (tOr tt uu) O ts PB' X := fun b A σ H Q s rs kb kx =>
  h b A σ H _ s rs (fun c A1 O1 H1 p1 s1 n1 => by
    cases c with
    | true => exact iteT (kb true A1 O1 H1 (p1.1 rfl) s1 n1)
    | false => exact iteF (p1.2 rfl b A1 σ H1 Q s1 (rs.nxt n1) (kb.nxt n1) (kx.nxt n1))) kx
theorem w_not (h : WT K W tt O ts (fun c O' => PB' (!c) O') X) : WT K W (tNot tt) O ts PB' X := fun b A σ H Q s rs kb kx =>
  h b A σ H _ s rs (fun c A1 O1 H1 p1 s1 n1 => kb (!c) A1 O1 H1 p1 s1 n1) kx
theorem w_andV (h : WE K W ta O ts (fun t O' => ∃ c, t = .v (.bl c) ∧ (c = true → WE K W tb O' ts P X) ∧ (c = false → P (.v (.bl false)) O')) X) : WE K W (tAndV ta tb) O ts P X := fun b A σ H Q s rs kv kx =>
  h b A σ H _ s rs (fun t v A1 O1 H1 p1 s1 n1 r1 => by
    obtain ⟨c, rfl, pt, pf⟩ := p1
    obtain ⟨_, e, rfl⟩ := r1
    cases e
    refine ⟨c, rfl, ?_⟩
    cases c with
    | true => exact iteT (pt rfl b A1 σ H1 Q s1 (rs.nxt n1) (kv.nxt n1) (kx.nxt n1))
    | false => exact iteF (kv _ _ A1 O1 H1 (pf rfl) s1 n1 ⟨_, rfl, rfl⟩)) kx
theorem w_orV (h : WE K W ta O ts (fun t O' => ∃ c, t = .v (.bl c) ∧ (c = true → P (.v (.bl true)) O') ∧ (c = false → WE K W tb O' ts P X)) X) : WE K W (tOrV ta tb) O ts P X := fun b A σ H Q s rs kv kx =>
  h b A σ H _ s rs (fun t v A1 O1 H1 p1 s1 n1 r1 => by
    obtain ⟨c, rfl, pt, pf⟩ := p1
    obtain ⟨_, e, rfl⟩ := r1
    cases e
    refine ⟨c, rfl, ?_⟩
    cases c with
    | true => exact iteT (kv _ _ A1 O1 H1 (pt rfl) s1 n1 ⟨_, rfl, rfl⟩)
    | false => exact iteF (pf rfl b A1 σ H1 Q s1 (rs.nxt n1) (kv.nxt n1) (kx.nxt n1))) kx
theorem w_notV (h : WE K W ta O ts (fun t O' => ∃ c, t = .v (.bl c) ∧ P (.v (.bl (!c))) O') X) : WE K W (tNotV ta) O ts P X := fun b A σ H Q s rs kv kx =>
  h b A σ H _ s rs (fun t v A1 O1 H1 p1 s1 n1 r1 => by
    obtain ⟨c, rfl, p⟩ := p1
    obtain ⟨_, e, rfl⟩ := r1
    cases e
    exact ⟨c, rfl, kv _ _ A1 O1 H1 p s1 n1 ⟨_, rfl, rfl⟩⟩) kx
theorem w_ife (h : WT K W tt O ts (fun c O' => (c = true → WE K W ta O' ts P X) ∧ (c = false → WE K W tb O' ts P X)) X) : WE K W (tIf tt ta tb) O ts P X := fun b A σ H Q s rs kv kx =>
  h b A σ H _ s rs (fun c A1 O1 H1 p1 s1 n1 => by
    cases c with
    | true => exact iteT (p1.1 rfl b A1 σ H1 Q s1 (rs.nxt n1) (kv.nxt n1) (kx.nxt n1))
    | false => exact iteF (p1.2 rfl b A1 σ H1 Q s1 (rs.nxt n1) (kv.nxt n1) (kx.nxt n1))) kx
theorem w_chain {t3 : TE} (h : WE K W ta O ts (fun x O1 => WE K W tb O1 ts (fun y O2 => WR K r x y O2 (fun z O3 => ∃ c, z = .v (.bl c) ∧ (c = true → WE K W t3 O3 ts (fun w' O4 => WR K r' y w' O4 P) X) ∧ (c = false → P (.v (.bl false)) O3))) X) X) :
    WE K W (tChain r r' ta tb t3) O ts P X := fun b A σ H Q s rs kv kx => by
  refine h b A σ H _ s rs (fun x v A1 O1 H1 p1 s1 n1 r1 => ?_) kx
  refine p1 b A1 σ H1 _ s1 (rs.nxt n1) (fun y u A2 O2 H2 p2 s2 n2 r2 => ?_) (kx.nxt n1)
  refine p2 b A2 H2 _ v u s2 (r1.nxt n2) r2 (fun z w' A3 O3 H3 p3 s3 n3 r3 => ?_)
  obtain ⟨c, rfl, pt, pf⟩ := p3
  obtain ⟨_, e, rfl⟩ := r3
  cases e
  refine ⟨c, rfl, ?_⟩
  have n13 := (n1.trans n2).trans n3
  cases c with
  | true => exact iteT (pt rfl b A3 σ H3 _ s3 (rs.nxt n13) (fun y4 u4 A4 O4 H4 p4 s4 n4 r4 => p4 b A4 H4 Q u u4 s4 (r2.nxt (n3.trans n4)) r4 (kv.nxt (n13.trans n4))) (kx.nxt n13))
  | false => exact iteF (kv _ _ A3 O3 H3 (pf rfl) s3 n13 ⟨_, rfl, rfl⟩)
/-! arguments, displays -/
theorem w_nil (k : PL' [] O) : WA K W tNil O ts PL' X := fun b A σ H Q s rs kl _ => kl [] [] A O H k s Nxt.refl rfl
theorem w_cons (h : WE K W te O ts (fun x O1 => WA K W tr O1 ts (fun xs O2 => PL' (x :: xs) O2) X) X) : WA K W (tCons te tr) O ts PL' X := fun b A σ H Q s rs kl kx =>
  h b A σ H _ s rs (fun x v A1 O1 H1 p1 s1 n1 r1 => p1 b A1 σ H1 _ s1 (rs.nxt n1) (fun xs vs A2 O2 H2 p2 s2 n2 r2 => kl _ _ A2 O2 H2 p2 s2 (n1.trans n2) ⟨v, vs, rfl, r1.nxt n2, r2⟩) (kx.nxt n1)) kx
theorem w_tup (h : WA K W tr O ts (fun xs O1 => ∃ ds, unv xs = some ds ∧ xs.length ≤ sizeLine ∧ P (.v (.tup ds)) O1) X) : WE K W (tTup tr) O ts P X := fun b A σ H Q s rs kv kx =>
  h b A σ H _ s rs (fun xs vs A1 O1 H1 p1 s1 n1 r1 => by
    obtain ⟨ds, e, l, p⟩ := p1
    refine ⟨by rw [r1.length]; exact l, fun p' hp => ?_⟩
    obtain ⟨s2, n2, q⟩ := s1.lay hp (.tup vs)
    exact kv _ _ A1 O1 _ p s2 (n1.trans n2) ⟨_, rfl, p', vs, rfl, SqT.of q, (r1.plain e).ex n2.ext⟩) kx
theorem w_lst (h : WA K W tr O ts (fun xs O1 => ∃ ds, unv xs = some ds ∧ xs.length ≤ sizeLine ∧ P (.v (.lst ds)) O1) X) : WE K W (tLst tr) O ts P X := fun b A σ H Q s rs kv kx =>
  h b A σ H _ s rs (fun xs vs A1 O1 H1 p1 s1 n1 r1 => by
    obtain ⟨ds, e, l, p⟩ := p1
    refine ⟨by rw [r1.length]; exact l, fun p' hp => ?_⟩
    obtain ⟨s2, n2, q⟩ := s1.lay hp (.lst vs)
    exact kv _ _ A1 O1 _ p s2 (n1.trans n2) ⟨_, rfl, p', vs, rfl, SqL.of q, (r1.plain e).ex n2.ext⟩) kx
/-- a list that is owned -/
theorem w_lstO (h : WA K W tr O ts (fun xs O1 => ∃ ds, unv xs = some ds ∧ xs.length ≤ sizeLine ∧ P (.own O1.length) (O1 ++ [.lst ds])) X) : WE K W (tLst tr) O ts P X := fun b A σ H Q s rs kv kx =>
  h b A σ H _ s rs (fun xs vs A1 O1 H1 p1 s1 n1 r1 => by
    obtain ⟨ds, e, l, p⟩ := p1
    refine ⟨by rw [r1.length]; exact l, fun p' hp => ?_⟩
    obtain ⟨s2, n2⟩ := s1.own (o := .lst ds) hp ⟨vs, upd_same, r1.plain e⟩
    refine kv _ _ _ _ _ p s2 (n1.trans n2) ⟨p', ?_, rfl⟩
    rw [← s1.len, List.getElem?_append_right (Nat.le_refl _), Nat.sub_self]
    exact rfl) kx
theorem w_call {rc : List V → Hp → VK → Prop} (h : WA K W tr O ts (fun xs O1 => WC K rc xs O1 P) X) : WE K W (tCB rc tr) O ts P X := fun b A σ H Q s rs kv kx =>
  h b A σ H _ s rs (fun xs vs A1 O1 H1 p1 s1 n1 r1 => p1 b A1 H1 Q vs s1 r1 (kv.nxt n1)) kx
end
end G

set_option Elab.async false
set_option linter.all false
set_option maxRecDepth 100000
set_option maxHeartbeats 4000000
namespace G
open PySem PySem.Spec PyProof.Rows L2

/-! ### statements -/
section
variable {K : PySem.W.Frag} {W : WX} {O : List OD} {ts : List T} {E : DE} {t u : TS} {te : TE} {tt : TT} {ta : TA}
theorem WS.imp {E' : DE} (h : WS K W t O ts E) (hn : ∀ ts O, E.nx ts O → E'.nx ts O) (hr : ∀ t O, E.rt t O → E'.rt t O) (hb : ∀ ts O, E.bk ts O → E'.bk ts O) (hc : ∀ ts O, E.ct ts O → E'.ct ts O) (hx : ∀ C fs ts O, E.xe C fs ts O → E'.xe C fs ts O) : WS K W t O ts E' :=
  fun b A σ H D s rs ks => h b A σ H D s rs ⟨fun ts σ A' O' H' p => ks.nx ts σ A' O' H' (hn _ _ p), fun t v A' O' H' p => ks.rt t v A' O' H' (hr _ _ p), fun ts σ A' O' H' p => ks.bk ts σ A' O' H' (hb _ _ p), fun ts σ A' O' H' p => ks.ct ts σ A' O' H' (hc _ _ p),
    fun C fs ts σ A' O' H' d p => ks.xe C fs ts σ A' O' H' d (hx _ _ _ _ p)⟩
theorem s_next (k : E.nx ts O) : WS K W tNext O ts E := fun b A σ H D s rs ks => ks.nx ts σ A O H k s Nxt.refl rs
theorem s_brk (k : E.bk ts O) : WS K W tBreak O ts E := fun b A σ H D s rs ks => ks.bk ts σ A O H k s Nxt.refl rs
theorem s_cont (k : E.ct ts O) : WS K W tCont O ts E := fun b A σ H D s rs ks => ks.ct ts σ A O H k s Nxt.refl rs
theorem s_seq (h : WS K W t O ts { E with nx := fun ts' O' => WS K W u O' ts' E }) : WS K W (tSeq t u) O ts E := fun b A σ H D s rs ks =>
  h b A σ H { D with nx := u D } s rs ⟨fun ts' σ' A' O' H' p s' n' rs' => p b A' σ' H' D s' rs' (ks.nxt n'), ks.rt, ks.bk, ks.ct, ks.xe⟩
/-- the same, with a word between -/
theorem s_cut (M : List T → List OD → Prop) (h : WS K W t O ts { E with nx := M }) (k : ∀ ts' O', M ts' O' → WS K W u O' ts' E) : WS K W (tSeq t u) O ts E :=
  s_seq (WS.imp h (fun ts O p => k ts O p) (fun _ _ p => p) (fun _ _ p => p) (fun _ _ p => p) (fun _ _ _ _ p => p))
theorem s_drop (h : WE K W te O ts (fun _ O' => E.nx ts O') (fun C fs O' => E.xe C fs ts O')) : WS K W (tDrop te) O ts E := fun b A σ H D s rs ks =>
  h b A σ H _ s rs (fun t v A' O' H' p s' n' r' => ks.nx ts σ A' O' H' p s' n' (rs.nxt n')) (ks.kx rs)
theorem s_ret (h : WE K W te O ts E.rt (fun C fs O' => E.xe C fs ts O')) : WS K W (tRet te) O ts E := fun b A σ H D s rs ks => h b A σ H _ s rs ks.rt (ks.kx rs)
theorem s_retN (k : E.rt (.v .non) O) : WS K W tRetN O ts E := fun b A σ H D s rs ks => ks.rt (.v .non) .non A O H k s Nxt.refl ⟨_, rfl, rfl⟩
theorem s_if (h : WT K W tt O ts (fun c O' => (c = true → WS K W t O' ts E) ∧ (c = false → WS K W u O' ts E)) (fun C fs O' => E.xe C fs ts O')) : WS K W (tIfS tt t u) O ts E := fun b A σ H D s rs ks =>
  h b A σ H _ s rs (fun c A1 O1 H1 p1 s1 n1 => by
    cases c with
    | true => exact iteT (p1.1 rfl b A1 σ H1 D s1 (rs.nxt n1) (ks.nxt n1))
    | false => exact iteF (p1.2 rfl b A1 σ H1 D s1 (rs.nxt n1) (ks.nxt n1))) (ks.kx rs)

/-! targets -/
theorem repT_int {F : Hp} {A : List Addr} (i : Int) : RepT K F A (.v (.int i)) (some (.int i)) := ⟨_, rfl, rfl⟩
def WG (K : PySem.W.Frag) (W : WX) (g : TG) (t : T) (O : List OD) (ts : List T) (N : List T → List OD → Prop) : Prop :=
  ∀ b A σ H Q v, StO K b A O H → RepS K (Fz b A O H) A ts σ → RepT K (Fz b A O H) A t (some v) → KN K b A O H N Q → g v σ H Q
def WGs (K : PySem.W.Frag) (W : WX) (g : TGs) (xs : List T) (O : List OD) (ts : List T) (N : List T → List OD → Prop) : Prop :=
  ∀ b A σ H Q vs, StO K b A O H → RepS K (Fz b A O H) A ts σ → RepTs K (Fz b A O H) A xs vs → KN K b A O H N Q → g vs σ H Q
theorem g_name {i : Nat} {x : T} {N : List T → List OD → Prop} (k : N (ts.set i x) O) : WG K W (gName i) x O ts N := fun b A σ H Q v s rs r kn => kn _ _ A O H k s Nxt.refl (rs.set r i)
theorem g_nil {N : List T → List OD → Prop} (k : N ts O) : WGs K W gNil [] O ts N := fun b A σ H Q vs s rs r kn => ⟨r, kn ts σ A O H k s Nxt.refl rs⟩
theorem g_cons {g : TG} {gs : TGs} {x : T} {xs : List T} {N : List T → List OD → Prop} (h : WG K W g x O ts (fun ts' O' => WGs K W gs xs O' ts' N)) : WGs K W (gCons g gs) (x :: xs) O ts N := fun b A σ H Q vs s rs r kn => by
  obtain ⟨v, r', rfl, r1, r2⟩ := r
  exact ⟨v, r', rfl, h b A σ H _ v s rs r1 fun ts' σ' A' O' H' p s' n' rs' => p b A' σ' H' Q r' s' rs' (r2.nxt n') (kn.nxt n')⟩
theorem repTs_v {F : Hp} {A : List Addr} : ∀ {ds : List D} {vs : List V}, RepL K F ds vs → RepTs K F A (ds.map T.v) vs
  | [], _, h => h
  | d :: ds, _, h => by
    obtain ⟨v, r, e, h1, h2⟩ := h
    exact ⟨v, r, e, ⟨v, rfl, h1⟩, repTs_v h2⟩
/-- a, b = a tuple -/
theorem g_tup {n : Nat} {gs : TGs} {ds : List D} {N : List T → List OD → Prop} (hl : ds.length = n) (h : WGs K W gs (ds.map T.v) O ts N) : WG K W (gTup K n gs) (.v (.tup ds)) O ts N := fun b A σ H Q v s rs r kn => by
  obtain ⟨_, e, a, vs, rfl, h1, h2⟩ := r
  cases e
  exact ⟨a, vs, rfl, (hid_ex : Ex (Fz b A O H) H).t h1, by rw [h2.length]; exact hl, h b A σ H Q vs s rs (repTs_v h2) kn⟩
theorem s_asg {g : TG} (h : WE K W te O ts (fun t O' => WG K W g t O' ts E.nx) (fun C fs O' => E.xe C fs ts O')) : WS K W (tAsg te g) O ts E := fun b A σ H D s rs ks =>
  h b A σ H _ s rs (fun t v A' O' H' p s' n' r' => p b A' σ H' D.nx v s' (rs.nxt n') r' (ks.nx.nxt n')) (ks.kx rs)
theorem s_set {i : Nat} (h : WE K W te O ts (fun t O' => E.nx (ts.set i t) O') (fun C fs O' => E.xe C fs ts O')) : WS K W (tAsg te (gName i)) O ts E := s_asg (h.imp fun t O' p => g_name p)
theorem s_par {i j : Nat} (h : WA K W ta O ts (fun xs O' => ∃ x y, xs = [x, y] ∧ E.nx ((ts.set i x).set j y) O') (fun C fs O' => E.xe C fs ts O')) : WS K W (tPar i j ta) O ts E := fun b A σ H D s rs ks =>
  h b A σ H _ s rs (fun xs vs A' O' H' p s' n' r' => by
    obtain ⟨x, y, rfl, q⟩ := p
    obtain ⟨v, _, rfl, r1, w', _, rfl, r2, rfl⟩ := r'
    exact ⟨v, w', rfl, ks.nx _ _ A' O' H' q s' n' (((rs.nxt n').set r1 i).set r2 j)⟩) (ks.kx rs)
theorem s_aug {i : Nat} {f : Int → Int → Int} {a : Int} (ha : ts[i]? = some (.v (.int a))) (h : WE K W te O ts (fun t O' => ∃ c, t = .v (.int c) ∧ E.nx (ts.set i (.v (.int (f a c)))) O') (fun C fs O' => E.xe C fs ts O')) : WS K W (tAug i te (ipI f)) O ts E := fun b A σ H D s rs ks => by
  obtain ⟨o, e, v, rfl, rd⟩ := rs.2 i _ ha
  refine ⟨v, e, h b A σ H _ s rs (fun t y A' O' H' p s' n' r' => ?_) (ks.kx rs)⟩
  obtain ⟨c, rfl, q⟩ := p
  obtain ⟨_, e2, rd2⟩ := r'
  cases e2
  exact ⟨a, c, rd, rd2, ks.nx _ _ A' O' H' q s' n' ((rs.nxt n').set (repT_int (f a c)) i)⟩

/-! ### loops -/
/-- what a for loop's source is, over data: the items, as they come -/
def WI (K : PySem.W.Frag) (W : WX) (wi : TI) (O : List OD) (ts : List T) (S : (Nat → Option T) → List OD → Prop) (X : XX) : Prop :=
  ∀ b A σ H R, StO K b A O H → RepS K (Fz b A O H) A ts σ →
    (∀ J f A' O' H', S f O' → StO K b A' O' H' → Nxt b A O H A' O' H' →
      (∀ i A2 O2 H2, StO K b A2 O2 H2 → Nxt b A' O' H' A2 O2 H2 → (f i = none → (∀ j, j < i → f j ≠ none) → J.stop i H2) ∧ (∀ t, f i = some t → J.go i H2 ∧ ∀ x H3, J.yld i H2 x H3 → StO K b A2 O2 H3 ∧ Nxt b A2 O2 H2 A2 O2 H3 ∧ RepT K (Fz b A2 O2 H3) A2 t (some x))) → R J H') →
    KX K W b A O σ H X → wi σ H R
/-- the items of a list of data -/
def itD (ds : List D) : Nat → Option T := fun i => (ds[i]?).map T.v
theorem itD_none {ds : List D} {i : Nat} (h : itD ds i = none) : ds.length ≤ i := by
  unfold itD at h
  cases q : ds[i]? with
  | none => exact List.getElem?_eq_none_iff.mp q
  | some d =>
    rw [q] at h
    cases h
theorem itD_some {ds : List D} {i : Nat} {t : T} (h : itD ds i = some t) : ∃ d, ds[i]? = some d ∧ t = .v d := by
  unfold itD at h
  cases q : ds[i]? with
  | none =>
    rw [q] at h
    cases h
  | some d =>
    rw [q] at h
    exact ⟨d, rfl, (Option.some.inj h).symm⟩
theorem i_list {tl : TE} {S : (Nat → Option T) → List OD → Prop} {X : XX} (h : WE K W tl O ts (fun t O' => ∃ ds, t = .v (.lst ds) ∧ S (itD ds) O') X) : WI K W (iList K tl) O ts S X := fun b A σ H R s rs k kx =>
  h b A σ H _ s rs (fun t v A' O' H' p s' n' r' => by
    obtain ⟨ds, rfl, q⟩ := p
    obtain ⟨_, e, a, vs, rfl, h1, h2⟩ := r'
    cases e
    have h1' := (hid_ex : Ex (Fz b A' O' H') H').l h1
    refine ⟨a, rfl, ⟨vs, h1'⟩, k _ _ A' O' H' q s' n' fun i A2 O2 H2 s2 n2 => ⟨fun hn _ => ⟨vs, hid_ex.l (n2.ext.l h1), by rw [h2.length]; exact itD_none hn⟩, fun t ht => ?_⟩⟩
    obtain ⟨d, e1, rfl⟩ := itD_some ht
    obtain ⟨v, e2, r⟩ := h2.get e1
    have h2' : SqL K H2 a vs := hid_ex.l (n2.ext.l h1)
    refine ⟨⟨vs, v, h2', e2⟩, fun x H3 y => ?_⟩
    obtain ⟨rfl, y⟩ := y
    have e3 := (y vs h2').symm.trans e2
    have e4 : x = v := Option.some.inj e3
    subst e4
    exact ⟨s2, Nxt.refl, ⟨_, rfl, r.ex n2.ext⟩⟩) kx
theorem i_tup {tl : TE} {S : (Nat → Option T) → List OD → Prop} {X : XX} (h : WE K W tl O ts (fun t O' => ∃ ds, t = .v (.tup ds) ∧ S (itD ds) O') X) : WI K W (iTup K tl) O ts S X := fun b A σ H R s rs k kx =>
  h b A σ H _ s rs (fun t v A' O' H' p s' n' r' => by
    obtain ⟨ds, rfl, q⟩ := p
    obtain ⟨_, e, a, vs, rfl, h1, h2⟩ := r'
    cases e
    have h1' := (hid_ex : Ex (Fz b A' O' H') H').t h1
    refine ⟨a, rfl, ⟨vs, h1'⟩, k _ _ A' O' H' q s' n' fun i A2 O2 H2 s2 n2 => ⟨fun hn _ => ⟨vs, hid_ex.t (n2.ext.t h1), by rw [h2.length]; exact itD_none hn⟩, fun t ht => ?_⟩⟩
    obtain ⟨d, e1, rfl⟩ := itD_some ht
    obtain ⟨v, e2, r⟩ := h2.get e1
    have h2' : SqT K H2 a vs := hid_ex.t (n2.ext.t h1)
    refine ⟨⟨vs, v, h2', e2⟩, fun x H3 y => ?_⟩
    obtain ⟨rfl, y⟩ := y
    have e3 := (y vs h2').symm.trans e2
    have e4 : x = v := Option.some.inj e3
    subst e4
    exact ⟨s2, Nxt.refl, ⟨_, rfl, r.ex n2.ext⟩⟩) kx
/-- the integers from lo on, n of them -/
def itR (lo c : Int) (n : Nat) : Nat → Option T := fun i => if i < n then some (.v (.int (lo + (i : Int) * c))) else none
theorem itR_none {lo c : Int} {n i : Nat} (h : itR lo c n i = none) : n ≤ i := by
  unfold itR at h
  by_cases q : i < n
  · rw [if_pos q] at h
    cases h
  · omega
theorem itR_some {lo c : Int} {n i : Nat} {t : T} (h : itR lo c n i = some t) : i < n ∧ t = .v (.int (lo + (i : Int) * c)) := by
  unfold itR at h
  by_cases q : i < n
  · rw [if_pos q] at h
    exact ⟨q, (Option.some.inj h).symm⟩
  · rw [if_neg q] at h
    cases h
theorem r_facts {b : Bs} {lo : Int} {n : Nat} {A' : List Addr} {O' : List OD} {H' : Hp} (i : Nat) (A2 : List Addr) (O2 : List OD) (H2 : Hp) (s2 : StO K b A2 O2 H2) :
    (itR lo 1 n i = none → (∀ j, j < i → itR lo 1 n j ≠ none) → (Itr lo n).stop i H2) ∧ (∀ t, itR lo 1 n i = some t → (Itr lo n).go i H2 ∧ ∀ x H3, (Itr lo n).yld i H2 x H3 → StO K b A2 O2 H3 ∧ Nxt b A2 O2 H2 A2 O2 H3 ∧ RepT K (Fz b A2 O2 H3) A2 t (some x)) := by
  refine ⟨fun hn _ => itR_none hn, fun t ht => ?_⟩
  obtain ⟨hi, rfl⟩ := itR_some ht
  refine ⟨hi, fun x H3 y => ?_⟩
  obtain ⟨rfl, rfl⟩ := y
  exact ⟨s2, Nxt.refl, ⟨_, rfl, by rw [Int.mul_one]; exact rfl⟩⟩
theorem i_rng1 {S : (Nat → Option T) → List OD → Prop} {X : XX} (h : WA K W ta O ts (fun xs O' => ∃ j : Int, xs = [.v (.int j)] ∧ (-(2 ^ 62) ≤ j ∧ j < 2 ^ 62) ∧ S (itR 0 1 j.toNat) O') X) : WI K W (iRng1 ta) O ts S X := fun b A σ H R s rs k kx =>
  h b A σ H _ s rs (fun xs vs A' O' H' p s' n' r' => by
    obtain ⟨j, rfl, hj, q⟩ := p
    obtain ⟨v, _, rfl, ⟨_, e, rfl⟩, rfl⟩ := r'
    cases e
    exact ⟨j, rfl, hj.1, hj.2, k _ _ A' O' H' q s' n' fun i A2 O2 H2 s2 _ => r_facts (A' := A') (O' := O') (H' := H') i A2 O2 H2 s2⟩) kx
theorem i_rng2 {S : (Nat → Option T) → List OD → Prop} {X : XX} (h : WA K W ta O ts (fun xs O' => ∃ i j : Int, xs = [.v (.int i), .v (.int j)] ∧ (-(2 ^ 62) ≤ i ∧ i < 2 ^ 62 ∧ -(2 ^ 62) ≤ j ∧ j < 2 ^ 62) ∧ S (itR i 1 (j - i).toNat) O') X) : WI K W (iRng2 ta) O ts S X := fun b A σ H R s rs k kx =>
  h b A σ H _ s rs (fun xs vs A' O' H' p s' n' r' => by
    obtain ⟨i, j, rfl, hj, q⟩ := p
    obtain ⟨v, _, rfl, ⟨_, e, rfl⟩, w', _, rfl, ⟨_, e2, rfl⟩, rfl⟩ := r'
    cases e
    cases e2
    exact ⟨i, j, rfl, hj, k _ _ A' O' H' q s' n' fun i A2 O2 H2 s2 _ => r_facts (A' := A') (O' := O') (H' := H') i A2 O2 H2 s2⟩) kx
theorem i_rng3 {S : (Nat → Option T) → List OD → Prop} {X : XX} (h : WA K W ta O ts (fun xs O' => ∃ (i j c : Int) (n : Nat), xs = [.v (.int i), .v (.int j), .v (.int c)] ∧ RgC i j c n ∧ S (itR i c n) O') X) : WI K W (iRng3 ta) O ts S X := fun b A σ H R s rs k kx =>
  h b A σ H _ s rs (fun xs vs A' O' H' p s' n' r' => by
    obtain ⟨i, j, c, n, rfl, hj, q⟩ := p
    obtain ⟨v, _, rfl, ⟨_, e, rfl⟩, w', _, rfl, ⟨_, e2, rfl⟩, w2, _, rfl, ⟨_, e3, rfl⟩, rfl⟩ := r'
    cases e
    cases e2
    cases e3
    refine ⟨i, j, c, n, rfl, hj, k _ _ A' O' H' q s' n' fun i' A2 O2 H2 s2 _ => ⟨fun hn _ => itR_none hn, fun t ht => ?_⟩⟩
    obtain ⟨hi, rfl⟩ := itR_some ht
    refine ⟨hi, fun x H3 y => ?_⟩
    obtain ⟨rfl, rfl⟩ := y
    exact ⟨s2, Nxt.refl, ⟨_, rfl, rfl⟩⟩) kx

/-- a for loop by an invariant over the turn, the slots and the owned things; n: the number of items -/
theorem s_for {wi : TI} {g : TG} {tb : TS} (h : WI K W wi O ts (fun f O1 => ∃ (n : Nat) (I : Nat → List T → List OD → Prop), (∀ i, i < n → f i ≠ none) ∧ f n = none ∧ I 0 ts O1 ∧
      (∀ i t ts' O', i < n → f i = some t → I i ts' O' → WG K W g t O' ts' (fun ts2 O2 => WS K W tb O2 ts2 { E with nx := I (i + 1), ct := I (i + 1), bk := E.nx })) ∧ (∀ ts' O', I n ts' O' → E.nx ts' O')) (fun C fs O' => E.xe C fs ts O')) : WS K W (tFor wi g tb) O ts E := fun b A σ H D s rs ks =>
  h b A σ H _ s rs (fun J f A1 O1 H1 p s1 n1 fc => by
    obtain ⟨n, I, hf, hn, h0, hs, hd⟩ := p
    refine ⟨fun i m σ' H' => m = n - i ∧ i ≤ n ∧ ∃ ts' A' O', I i ts' O' ∧ StO K b A' O' H' ∧ Nxt b A1 O1 H1 A' O' H' ∧ RepS K (Fz b A' O' H') A' ts' σ', ⟨n, by omega, Nat.zero_le _, ts, A1, O1, h0, s1, Nxt.refl, rs.nxt n1⟩, ?_⟩
    rintro i m σ' H' ⟨rfl, hi, ts', A', O', hI, s', n', rs'⟩
    obtain ⟨c1, c2⟩ := fc i A' O' H' s' n'
    by_cases hlt : i < n
    · right
      obtain ⟨t, ht⟩ := Option.ne_none_iff_exists'.mp (hf i hlt)
      obtain ⟨hgo, hy⟩ := c2 t ht
      refine ⟨hgo, fun σ2 H2 => ∃ ts2 A2 O2, I (i + 1) ts2 O2 ∧ StO K b A2 O2 H2 ∧ Nxt b A1 O1 H1 A2 O2 H2 ∧ RepS K (Fz b A2 O2 H2) A2 ts2 σ2, fun σ2 H2 q => ⟨n - (i + 1), by omega, rfl, hlt, q⟩, fun x H3 y => ?_⟩
      obtain ⟨s3, n3, r3⟩ := hy x H3 y
      refine hs i t ts' O' hlt ht hI b A' σ' H3 _ x s3 (rs'.nxt n3) r3 fun ts4 σ4 A4 O4 H4 p4 s4 n4 rs4 => ?_
      have n14 := (n'.trans n3).trans n4
      refine p4 b A4 σ4 H4 _ s4 rs4 ⟨fun ts5 σ5 A5 O5 H5 p5 s5 n5 rs5 => ⟨ts5, A5, O5, p5, s5, n14.trans n5, rs5⟩, ks.rt.nxt (n1.trans n14), ks.nx.nxt (n1.trans n14), fun ts5 σ5 A5 O5 H5 p5 s5 n5 rs5 => ⟨ts5, A5, O5, p5, s5, n14.trans n5, rs5⟩,
        fun C fs ts5 σ5 A5 O5 H5 d p5 s5 n5 rs5 rx => ks.xe C fs ts5 σ5 A5 O5 H5 d p5 s5 ((n1.trans n14).trans n5) rs5 rx⟩
    · left
      have e : i = n := by omega
      subst e
      exact ⟨c1 hn hf, ks.nx ts' σ' A' O' H' (hd ts' O' hI) s' (n1.trans n') rs'⟩) (ks.kx rs)
/-- while: an invariant with a measure -/
theorem s_while {tb : TS} (I : Nat → List T → List OD → Prop) (m0 : Nat) (h0 : I m0 ts O)
    (hs : ∀ m ts' O', I m ts' O' → WT K W tt O' ts' (fun c O2 => (c = true → WS K W tb O2 ts' { E with nx := fun ts3 O3 => ∃ m', m' < m ∧ I m' ts3 O3, ct := fun ts3 O3 => ∃ m', m' < m ∧ I m' ts3 O3, bk := E.nx }) ∧ (c = false → E.nx ts' O2)) (fun C fs O2 => E.xe C fs ts' O2)) :
    WS K W (tWhile tt tb) O ts E := fun b A σ H D s rs ks => by
  refine ⟨fun m σ' H' => ∃ ts' A' O', I m ts' O' ∧ StO K b A' O' H' ∧ Nxt b A O H A' O' H' ∧ RepS K (Fz b A' O' H') A' ts' σ', ⟨m0, ts, A, O, h0, s, Nxt.refl, rs⟩, ?_⟩
  rintro m σ' H' ⟨ts', A', O', hI, s', n', rs'⟩
  refine hs m ts' O' hI b A' σ' H' _ s' rs' (fun c A2 O2 H2 p2 s2 n2 => ?_) ((ks.nxt n').kx rs')
  cases c with
  | true =>
    refine iteT ⟨fun σ3 H3 => ∃ m', m' < m ∧ ∃ ts3 A3 O3, I m' ts3 O3 ∧ StO K b A3 O3 H3 ∧ Nxt b A O H A3 O3 H3 ∧ RepS K (Fz b A3 O3 H3) A3 ts3 σ3, fun σ3 H3 q => q, ?_⟩
    have n12 := n'.trans n2
    exact p2.1 rfl b A2 σ' H2 _ s2 (rs'.nxt n2) ⟨fun ts3 σ3 A3 O3 H3 ⟨m', l, p3⟩ s3 n3 rs3 => ⟨m', l, ts3, A3, O3, p3, s3, n12.trans n3, rs3⟩, ks.rt.nxt n12, ks.nx.nxt n12, fun ts3 σ3 A3 O3 H3 ⟨m', l, p3⟩ s3 n3 rs3 => ⟨m', l, ts3, A3, O3, p3, s3, n12.trans n3, rs3⟩,
      fun C fs ts3 σ3 A3 O3 H3 d p3 s3 n3 rs3 rx => ks.xe C fs ts3 σ3 A3 O3 H3 d p3 s3 (n12.trans n3) rs3 rx⟩
  | false => exact iteF (ks.nx ts' σ' A2 O2 H2 (p2.2 rfl) s2 (n'.trans n2) (rs'.nxt n2))
end
end G

set_option Elab.async false
set_option linter.all false
set_option maxRecDepth 100000
set_option maxHeartbeats 4000000
namespace G
open PySem PySem.Spec PyProof.Rows L2

/-! ### owned things are given up -/
theorem live_app : ∀ {A M : List Addr} {O N : List OD}, A.length = O.length → live (A ++ M) (O ++ N) = live A O ++ live M N
  | [], _, [], _, _ => rfl
  | [], _, _ :: _, _, h => by simp at h
  | _ :: _, _, [], _, h => by simp at h
  | a :: A, M, u :: O, N, h => by
    have ih := live_app (A := A) (O := O) (M := M) (N := N) (by simpa using h)
    cases u <;> simp only [List.cons_append, live, ih]
section
variable {K : PySem.W.Frag} {b : Bs} {A M : List Addr} {O N : List OD} {H : Hp}
theorem StO.drop (s : StO K b (A ++ M) (O ++ N) H) (hl : A.length = O.length) (hp : ∃ L, A = b.A0 ++ L) : StO K b A O H ∧ Ex (Fz b (A ++ M) (O ++ N) H) (Fz b A O H) := by
  have e := live_app (M := M) (N := N) hl
  have sub : ∀ a, a ∈ live A O → a ∈ live (A ++ M) (O ++ N) := fun a h => by
    rw [e]
    exact List.mem_append_left _ h
  have x : Ex (Fz b (A ++ M) (O ++ N) H) (Fz b A O H) := hid_mono (fun _ _ _ h => h) fun a o h _ z => by
    rcases List.mem_append.mp z with z | z
    · exact h (List.mem_append_left _ (sub a z))
    · exact h (List.mem_append_right _ z)
  refine ⟨⟨hl, hp, s.ext.trans (hid_mono (fun _ _ _ h => h) fun a o h _ z => h (sub a z)), s.zs, (List.nodup_append.mp s.nd).1, fun a h => s.inh a (List.mem_append_left _ h), fun i a o h1 h2 => ?_⟩, x⟩
  have l1 : i < A.length := (List.getElem?_eq_some_iff.mp h1).1
  exact (s.cell i a o (by rw [List.getElem?_append_left l1]; exact h1) (by rw [List.getElem?_append_left (by rw [← hl]; exact l1)]; exact h2)).ex x fun _ h => h
end

/-! ### a def's promise over data -/
def okG : List OD → Bool
  | [] => true
  | .gone :: _ => false
  | _ :: r => okG r
theorem okG_live : ∀ {A : List Addr} {O : List OD}, A.length = O.length → okG O = true → live A O = A
  | [], [], _, _ => rfl
  | [], _ :: _, h, _ => by simp at h
  | _ :: _, [], h, _ => by simp at h
  | a :: A, o :: O, h, g => by
    cases o with
    | gone => cases g
    | lst ds => exact congrArg (a :: ·) (okG_live (A := A) (O := O) (by simpa using h) g)
    | ins C fs => exact congrArg (a :: ·) (okG_live (A := A) (O := O) (by simpa using h) g)
    | dic kvs => exact congrArg (a :: ·) (okG_live (A := A) (O := O) (by simpa using h) g)
theorem okG_at : ∀ {O : List OD} {i : Nat} {o : OD}, okG O = true → O[i]? = some o → o ≠ .gone
  | [], _, _, _, h => by simp at h
  | o :: O, 0, _, g, h => by
    have e : o = _ := Option.some.inj h
    subst e
    intro z
    subst z
    cases g
  | o :: O, i + 1, _, g, h => by
    have g2 : okG O = true := by
      cases o with
      | gone => cases g
      | lst ds => exact g
      | ins C fs => exact g
      | dic kvs => exact g
    exact okG_at (i := i) g2 h

abbrev SpD := List T → List OD → PT' → XX → Prop
/-- the promise, over the heap -/
def lift (K : PySem.W.Frag) (sp : SpD) : Sp := fun vs H Q E => ∃ (Z A : List Addr) (O : List OD) (ts : List T) (P : PT') (X : XX),
  StO K ⟨hid A H, Z, A⟩ A O H ∧ okG O = true ∧ RepTs K (Fz ⟨hid A H, Z, A⟩ A O H) A ts vs ∧ sp ts O P X ∧
  (∀ t v O' H', P t O' → okG O' = true → StO K ⟨hid A H, Z, A⟩ A O' H' → RepT K (Fz ⟨hid A H, Z, A⟩ A O' H') A t (some v) → Q v H') ∧
  (∀ C fs O' H' d, X C fs O' → okG O' = true → StO K ⟨hid A H, Z, A⟩ A O' H' → RepX K (Fz ⟨hid A H, Z, A⟩ A O' H') H' fs d → E C d H')
theorem lift_len {K : PySem.W.Frag} {sp : SpD} {n : Nat} (h : ∀ ts O P X, sp ts O P X → ts.length = n) : ∀ vs H Q E, lift K sp vs H Q E → vs.length = n := fun vs H Q E ⟨_, _, _, ts, _, _, _, _, r, p, _, _⟩ => by
  rw [r.length]
  exact h _ _ _ _ p
/-- what a def hands back: an owned list of its own becomes plain data -/
def retOk (n : Nat) (P : PT') (t : T) (O : List OD) : Prop := okG (O.take n) = true ∧ match t with
  | .v d => P (.v d) (O.take n)
  | .own i => if i < n then P (.own i) (O.take n) else (match O[i]? with
    | some (.lst ds) => P (.v (.lst ds)) (O.take n)
    | some (.ins C fs) => P (.v (.ins C fs)) (O.take n)
    | some (.dic kvs) => P (.v (.dic kvs)) (O.take n)
    | _ => False)
  | .no => False
def bodyE (n : Nat) (P : PT') (X : XX) : DE where
  nx := fun _ O' => okG (O'.take n) = true ∧ P (.v .non) (O'.take n)
  rt := retOk n P
  xe := fun C fs _ O' => okG (O'.take n) = true ∧ X C fs (O'.take n)
def startT (N : Nat) (ts : List T) : List T := ts ++ List.replicate (N - ts.length) .no
theorem repS_start {K : PySem.W.Frag} {F : Hp} {A : List Addr} {N : List Str} {ts : List T} {vs : List V} (r : RepTs K F A ts vs) : RepS K F A (startT N.length ts) (L2.start N vs) := by
  have hl := r.length
  refine ⟨?_, fun i t h => ?_⟩
  · unfold startT L2.start
    rw [List.length_append, List.length_append, List.length_replicate, List.length_replicate, List.length_map, hl]
  · unfold startT at h
    unfold L2.start
    by_cases hi : i < ts.length
    · rw [List.getElem?_append_left hi] at h
      obtain ⟨v, e, q⟩ := r.get h
      refine ⟨some v, ?_, q⟩
      rw [List.getElem?_append_left (by rw [List.length_map, hl]; exact hi), List.getElem?_map, e]
      exact rfl
    · rw [List.getElem?_append_right (by omega)] at h
      rw [List.getElem?_append_right (by rw [List.length_map, hl]; omega), List.length_map, hl]
      rw [List.getElem?_replicate] at h ⊢
      by_cases h2 : i - ts.length < N.length - ts.length
      · rw [if_pos h2] at h ⊢
        have e : T.no = t := Option.some.inj h
        subst e
        exact ⟨_, rfl, trivial⟩
      · rw [if_neg h2] at h
        cases h
theorem enter {K : PySem.W.Frag} {sp : SpD} {t : TS} {N : List Str} {vs : List V} {H : Hp} {Q : VK} {E : XK} (h : lift K sp vs H Q E)
    (hb : ∀ ts O P X, sp ts O P X → okG O = true → WS K (fun c d _ H => E c d H) t O (startT N.length ts) (bodyE O.length P X)) : t { nx := fun _ H' => Q .non H', rt := Q } (L2.start N vs) H := by
  obtain ⟨Z, A, O, ts, P, X, s, g, r, p, hq, hx⟩ := h
  have hlen := s.len
  have shut : ∀ {A' O' H'}, StO K ⟨hid A H, Z, A⟩ A' O' H' → ∃ M, A' = A ++ M ∧ StO K ⟨hid A H, Z, A⟩ A (O'.take O.length) H' ∧ Ex (Fz ⟨hid A H, Z, A⟩ A' O' H') (Fz ⟨hid A H, Z, A⟩ A (O'.take O.length) H') := fun {A' O' H'} s' => by
    obtain ⟨M, e⟩ := s'.pre
    have e : A' = A ++ M := e
    subst e
    have l1 := s'.len
    rw [List.length_append] at l1
    have e2 : O' = O'.take O.length ++ O'.drop O.length := (List.take_append_drop _ _).symm
    have s2 := s'
    rw [e2] at s2
    obtain ⟨s3, x3⟩ := s2.drop (by rw [List.length_take]; omega) ⟨[], (List.append_nil A).symm⟩
    refine ⟨M, rfl, s3, ?_⟩
    rw [← e2] at x3
    exact x3
  refine hb ts O P X p g _ A _ H _ s (repS_start r) ⟨fun ts' σ' A' O' H' q s' _ _ => ?_, fun t v A' O' H' q s' _ rt => ?_, fun _ _ _ _ _ q => q.elim, fun _ _ _ _ _ q => q.elim, fun C fs ts' σ' A' O' H' d q s' _ _ rx => ?_⟩
  · obtain ⟨M, _, s3, _⟩ := shut s'
    exact hq (.v .non) .non _ H' q.2 q.1 s3 ⟨_, rfl, rfl⟩
  · obtain ⟨M, e, s3, x3⟩ := shut s'
    obtain ⟨q1, q2⟩ := q
    cases t with
    | v d =>
      obtain ⟨w, e4, r4⟩ := rt
      exact hq (.v d) v _ H' q2 q1 s3 ⟨w, e4, r4.ex x3⟩
    | own i =>
      obtain ⟨a, e4, e5⟩ := rt
      have ev : v = .ref a := Option.some.inj e5
      subst ev
      have q3 : if i < O.length then P (.own i) (O'.take O.length) else (match O'[i]? with
        | some (.lst ds) => P (.v (.lst ds)) (O'.take O.length)
        | some (.ins C fs) => P (.v (.ins C fs)) (O'.take O.length)
        | some (.dic kvs) => P (.v (.dic kvs)) (O'.take O.length)
        | _ => False) := q2
      by_cases hi : i < O.length
      · rw [if_pos hi] at q3
        refine hq (.own i) _ _ H' q3 q1 s3 ⟨a, ?_, rfl⟩
        rw [e, List.getElem?_append_left (by rw [hlen]; exact hi)] at e4
        exact e4
      · rw [if_neg hi] at q3
        have hn : a ∉ A := fun hm => by
          have nd := s'.nd
          rw [e] at nd e4
          rw [List.getElem?_append_right (by rw [hlen]; omega)] at e4
          exact (List.nodup_append.mp nd).2.2 a hm a (List.mem_of_getElem? e4) rfl
        have fz : ∀ o, H' a = some o → Fz ⟨hid A H, Z, A⟩ A (O'.take O.length) H' a = some o := fun o ho => hid_some.mpr ⟨fun z => by
          rcases List.mem_append.mp z with z | z
          · rw [okG_live s3.len q1] at z
            exact hn z
          · obtain ⟨o2, z2⟩ := s3.zs a z
            have z3 := (hid_some.mp z2).2
            have zz := s'.z_at (a := a) z
            cases ho' : O'[i]? with
            | none =>
              rw [ho'] at q3
              exact q3
            | some w =>
              rw [ho'] at q3
              have ng : w ≠ .gone := fun zz2 => by
                subst zz2
                exact q3
              exact zz.1 (live_at e4 ho' ng), ho⟩
        cases ho : O'[i]? with
        | none =>
          rw [ho] at q3
          exact q3.elim
        | some w =>
          rw [ho] at q3
          have c := s'.cell i a w e4 ho
          cases w with
          | gone => exact q3.elim
          | lst ds =>
            obtain ⟨us, c1, c2⟩ := c
            exact hq (.v (.lst ds)) _ _ H' q3 q1 s3 ⟨_, rfl, a, us, rfl, SqL.of (fz _ c1), c2.ex x3⟩
          | ins C fs =>
            obtain ⟨dx, us, c1, c2⟩ := c
            exact hq (.v (.ins C fs)) _ _ H' q3 q1 s3 ⟨_, rfl, a, dx, us, rfl, fz _ c1, c2.ex x3⟩
          | dic kvs =>
            obtain ⟨us, c1, c2⟩ := c
            exact hq (.v (.dic kvs)) _ _ H' q3 q1 s3 ⟨_, rfl, a, us, rfl, fz _ c1, c2.ex x3⟩
    | no => exact q2.elim
  · obtain ⟨M, _, s3, x3⟩ := shut s'
    refine hx C fs _ H' d q.2 q.1 s3 ?_
    cases fs with
    | none => exact rx
    | some l =>
      obtain ⟨dx, us, r1, r2, r3⟩ := rx
      exact ⟨dx, us, r1, r2, r3.ex x3⟩

/-! ### calls -/
section
variable {K : PySem.W.Frag} {W : WX} {O : List OD} {ts : List T} {P : PT'} {X : XX} {sp : SpD} {te ta : TE} {tr : TA} {E : XK}
theorem unv_reps {F : Hp} {A A' : List Addr} : ∀ {xs : List T} {vs : List V} {ds : List D}, unv xs = some ds → RepTs K F A xs vs → RepTs K F A' xs vs
  | [], _, _, _, h => h
  | .v d :: xs, _, ds, e, h => by
    obtain ⟨v, r, e1, ⟨w, e2, r2⟩, h2⟩ := h
    have e3 : (unv xs).map (d :: ·) = some ds := e
    cases q : unv xs with
    | none =>
      rw [q] at e3
      cases e3
    | some es => exact ⟨v, r, e1, ⟨w, e2, r2⟩, unv_reps q h2⟩
  | .own _ :: _, _, _, e, _ => by cases e
  | .no :: _, _, _, e, _ => by cases e
/-- into a def that is handed plain data alone -/
theorem lift_p {b : Bs} {A : List Addr} {O : List OD} {H : Hp} {σ : L2.St} {Q : VK} {vs : List V} {xs : List T} {ds : List D} (s : StO K b A O H) (r : RepTs K (Fz b A O H) A xs vs) (hx : unv xs = some ds) (hE : ∀ C d H, W C d σ H → E C d H)
    (p : sp xs [] (fun t _ => (∃ d, t = .v d) ∧ P t O) (fun C fs _ => X C fs O)) (kv : KV' K b A O H P Q) (kx : KX K W b A O σ H X) : lift K sp vs H Q E := by
  have eh : hid [] H = H := by
    funext a
    unfold hid
    rw [if_neg (by simp)]
  have nz : ∀ a, a ∈ live A O ++ b.Z → ∃ o, H a = some o := fun a h => by
    rcases List.mem_append.mp h with h | h
    · exact s.some_at h
    · exact (s.z_at h).2
  have back : ∀ {H'}, StO K ⟨hid [] H, live A O ++ b.Z, []⟩ [] [] H' → StO K b A O H' ∧ Nxt b A O H A O H' := fun {H'} s' => by
    have x : Ex H H' := by
      have x1 := s'.ext
      have e2 : hid (live [] []) H' = H' := by
        funext a
        show hid [] H' a = H' a
        unfold hid
        rw [if_neg (by simp)]
      rw [e2] at x1
      have x2 : Ex (hid [] H) H' := x1
      rw [eh] at x2
      exact x2
    have x3 : Ex (Fz b A O H) (Fz b A O H') := hid_mono (fun a o _ h => x a o h) fun _ _ h _ => h
    exact ⟨⟨s.len, s.pre, s.ext.trans (hid_mono (fun a o _ h => x a o h) fun _ _ h _ => h), s.zs, s.nd, fun a h => let ⟨o, q⟩ := s.inh a h; ⟨o, x a o q⟩, fun i a o h1 h2 => (s.cell i a o h1 h2).ex x3 (x a)⟩, ⟨[], (List.append_nil A).symm⟩, x3⟩
  refine ⟨live A O ++ b.Z, [], [], xs, _, _, ⟨rfl, ⟨[], rfl⟩, ?_, fun z hz => ?_, List.nodup_nil, fun a h => (by simp at h), fun i a o h _ => (by simp at h)⟩, rfl, unv_reps hx r, p, fun t v O' H' ⟨⟨d, e⟩, q⟩ g s' rt => ?_, fun C fs O' H' d q g s' rx => ?_⟩
  · show Ex (hid [] H) (hid [] H)
    exact Ex.refl _
  · obtain ⟨o, q⟩ := nz z hz
    exact ⟨o, by show hid [] H z = some o; rw [eh]; exact q⟩
  · have e0 : O' = [] := List.length_eq_zero_iff.mp s'.len.symm
    subst e0
    obtain ⟨s2, n2⟩ := back s'
    subst e
    exact kv _ v A O H' q s2 n2 rt
  · have e0 : O' = [] := List.length_eq_zero_iff.mp s'.len.symm
    subst e0
    obtain ⟨s2, n2⟩ := back s'
    exact hE C d H' (kx C fs A O H' d q s2 n2 rx)
theorem w_fn (hE : ∀ C d σ H, W C d σ H → E C d H) (h : WA K W tr O ts (fun xs O1 => ∃ ds, unv xs = some ds ∧ sp xs [] (fun t _ => (∃ d, t = .v d) ∧ P t O1) (fun C fs _ => X C fs O1)) X) : WE K W (tCall (lift K sp) [] E tr) O ts P X := fun b A σ H Q s rs kv kx =>
  h b A σ H _ s rs (fun xs vs A1 O1 H1 p1 s1 n1 r1 => by
    obtain ⟨ds, e, p⟩ := p1
    rw [List.append_nil]
    exact lift_p (W := W) (σ := σ) s1 r1 e (fun C d H => hE C d σ H) p (kv.nxt n1) (kx.nxt n1)) kx
/-- .. one that lets no exception out -/
theorem w_fn0 (h : WA K W tr O ts (fun xs O1 => ∃ ds, unv xs = some ds ∧ sp xs [] (fun t _ => (∃ d, t = .v d) ∧ P t O1) (fun _ _ _ => False)) X) : WE K W (tCall (lift K sp) [] E0 tr) O ts P X := fun b A σ H Q s rs kv kx =>
  h b A σ H _ s rs (fun xs vs A1 O1 H1 p1 s1 n1 r1 => by
    obtain ⟨ds, e, p⟩ := p1
    rw [List.append_nil]
    exact lift_p (W := fun _ _ _ _ => False) (X := fun _ _ _ => False) (σ := σ) s1 r1 e (fun C d H z => z) p (kv.nxt n1) (fun C fs A' O' H' d z => z.elim)) kx
end
end G

set_option Elab.async false
set_option linter.all false
set_option maxRecDepth 100000
set_option maxHeartbeats 4000000
namespace G
open PySem PySem.Spec PyProof.Rows L2

section
variable {K : PySem.W.Frag} {W : WX} {O : List OD} {ts : List T} {P : PT'} {X : XX} {sp : SpD} {te ta : TE} {tr : TA} {E : XK}
/-- into a def that is handed one owned thing, the i-th one (by it .own 0) -/
def tr1 (i : Nat) : List T → Option (List T)
  | [] => some []
  | .v d :: r => (tr1 i r).map (.v d :: ·)
  | .own j :: r => if j = i then (tr1 i r).map (.own 0 :: ·) else none
  | .no :: _ => none
abbrev un1 (i : Nat) : T → T
  | .own _ => .own i
  | t => t
theorem tr1_reps {F : Hp} {A : List Addr} {i : Nat} {a : Addr} (ha : A[i]? = some a) : ∀ {xs ys : List T} {vs : List V}, tr1 i xs = some ys → RepTs K F A xs vs → RepTs K F [a] ys vs
  | [], ys, _, e, h => by
    have e2 : [] = ys := Option.some.inj e
    subst e2
    exact h
  | .v d :: xs, ys, _, e, h => by
    obtain ⟨v, r, e1, ⟨w, e2, r2⟩, h2⟩ := h
    have e3 : (tr1 i xs).map (.v d :: ·) = some ys := e
    cases q : tr1 i xs with
    | none =>
      rw [q] at e3
      cases e3
    | some es =>
      rw [q] at e3
      have e4 : .v d :: es = ys := Option.some.inj e3
      subst e4
      exact ⟨v, r, e1, ⟨w, e2, r2⟩, tr1_reps ha q h2⟩
  | .own j :: xs, ys, _, e, h => by
    obtain ⟨v, r, e1, ⟨c, e2, r2⟩, h2⟩ := h
    have e3 : (if j = i then (tr1 i xs).map (.own 0 :: ·) else none) = some ys := e
    by_cases hj : j = i
    · rw [if_pos hj] at e3
      subst hj
      cases q : tr1 j xs with
      | none =>
        rw [q] at e3
        cases e3
      | some es =>
        rw [q] at e3
        have e4 : .own 0 :: es = ys := Option.some.inj e3
        subst e4
        rw [ha] at e2
        have e5 : a = c := Option.some.inj e2
        subst e5
        exact ⟨v, r, e1, ⟨a, rfl, r2⟩, tr1_reps ha q h2⟩
    · rw [if_neg hj] at e3
      cases e3
  | .no :: _, _, _, e, _ => by cases e
theorem lift_1 {b : Bs} {A : List Addr} {H : Hp} {σ : L2.St} {Q : VK} {vs : List V} {xs ys : List T} {i : Nat} {o : OD} (s : StO K b A O H) (r : RepTs K (Fz b A O H) A xs vs) (hx : tr1 i xs = some ys) (ho : O[i]? = some o) (ng : okG [o] = true) (hE : ∀ C d H, W C d σ H → E C d H)
    (p : sp ys [o] (fun t O' => ∃ o', O' = [o'] ∧ t ≠ .no ∧ P (un1 i t) (O.set i o')) (fun C fs O' => ∃ o', O' = [o'] ∧ X C fs (O.set i o'))) (kv : KV' K b A O H P Q) (kx : KX K W b A O σ H X) : lift K sp vs H Q E := by
  have ng1 : o ≠ .gone := fun z => by
    subst z
    cases ng
  have hi : i < A.length := by
    rw [s.len]
    exact (List.getElem?_eq_some_iff.mp ho).1
  obtain ⟨a, ha⟩ : ∃ a, A[i]? = some a := ⟨A[i], List.getElem?_eq_getElem hi⟩
  have hl : a ∈ live A O := live_at ha ho ng1
  have lv1 : ∀ {o' : OD}, o' ≠ .gone → live [a] [o'] = [a] := fun {o'} h => by
    cases o' with
    | gone => exact absurd rfl h
    | _ => rfl
  have mem : ∀ x, x ∈ [a] ++ ((live A O).filter (fun y => y != a) ++ b.Z) ↔ x ∈ live A O ++ b.Z := fun x => by
    simp only [List.mem_append, List.mem_singleton, List.mem_filter, bne_iff_ne, ne_eq]
    constructor
    · rintro (rfl | ⟨h, _⟩ | h)
      · exact .inl hl
      · exact .inl h
      · exact .inr h
    · rintro (h | h)
      · by_cases hx : x = a
        · exact .inl hx
        · exact .inr (.inl ⟨h, hx⟩)
      · exact .inr (.inr h)
  have hid_eq : ∀ H0 : Hp, hid ([a] ++ ((live A O).filter (fun y => y != a) ++ b.Z)) H0 = hid (live A O ++ b.Z) H0 := fun H0 => by
    funext x
    unfold hid
    by_cases hx : x ∈ live A O ++ b.Z
    · rw [if_pos hx, if_pos ((mem x).mpr hx)]
    · rw [if_neg hx, if_neg fun z => hx ((mem x).mp z)]
  have fzc : ∀ {o' : OD} {H0 : Hp}, o' ≠ .gone → Fz ⟨hid [a] H, (live A O).filter (fun y => y != a) ++ b.Z, [a]⟩ [a] [o'] H0 = hid (live A O ++ b.Z) H0 := fun {o' H0} h => by
    show hid (live [a] [o'] ++ ((live A O).filter (fun y => y != a) ++ b.Z)) H0 = _
    rw [lv1 h]
    exact hid_eq H0
  have back : ∀ {o' : OD} {H' : Hp}, o' ≠ .gone → StO K ⟨hid [a] H, (live A O).filter (fun y => y != a) ++ b.Z, [a]⟩ [a] [o'] H' → StO K b A (O.set i o') H' ∧ Nxt b A O H A (O.set i o') H' ∧ Fz b A (O.set i o') H' = hid (live A O ++ b.Z) H' := fun {o' H'} g s' => by
    have x : ∀ c u, c ≠ a → H c = some u → H' c = some u := fun c u hc h => by
      have x1 : Ex (hid [a] H) (hid (live [a] [o']) H') := s'.ext
      exact (hid_some.mp (x1 c u (hid_some.mpr ⟨by simpa using hc, h⟩))).2
    have el : live A (O.set i o') = live A O := live_set ho ng1 g
    have x3 : Ex (Fz b A O H) (Fz b A (O.set i o') H') := by
      unfold Fz
      rw [el]
      exact hid_mono (fun c u hc h => x c u (fun z => hc (List.mem_append_left _ (by rw [z]; exact hl))) h) fun _ _ h _ => h
    refine ⟨⟨by rw [List.length_set]; exact s.len, s.pre, ?_, s.zs, s.nd, fun c h => ?_, fun j c u h1 h2 => ?_⟩, ⟨⟨[], (List.append_nil A).symm⟩, x3⟩, by unfold Fz; rw [el]⟩
    · rw [el]
      exact s.ext.trans (hid_mono (fun c u hc h => x c u (fun z => hc (by rw [z]; exact hl)) h) fun _ _ h _ => h)
    · by_cases z : c = a
      · rw [z]
        exact s'.inh a List.mem_cons_self
      · obtain ⟨u, q⟩ := s.inh c h
        exact ⟨u, x c u z q⟩
    · rw [List.getElem?_set] at h2
      by_cases hij : i = j
      · subst hij
        rw [if_pos rfl] at h2
        rw [ha] at h1
        have e3 : a = c := Option.some.inj h1
        subst e3
        by_cases hlt : i < O.length
        · rw [if_pos hlt] at h2
          have e4 : o' = u := Option.some.inj h2
          subst e4
          have c := s'.cell 0 a o' rfl rfl
          refine c.ex (fun y w h => ?_) fun _ h => h
          rw [fzc g] at h
          unfold Fz
          rw [el]
          exact h
        · rw [if_neg hlt] at h2
          cases h2
      · rw [if_neg hij] at h2
        have hne : c ≠ a := fun z => hij (nd_ix s.nd ha (z ▸ h1))
        exact (s.cell j c u h1 h2).ex x3 fun w h => x c w hne h
  have one : ∀ {o' : OD}, okG [o'] = true → o' ≠ .gone := fun {o'} g z => by
    subst z
    cases g
  refine ⟨(live A O).filter (fun y => y != a) ++ b.Z, [a], [o], ys, _, _, ⟨rfl, ⟨[], rfl⟩, ?_, fun z hz => ?_, by simp, fun c h => ?_, fun j c u h1 h2 => ?_⟩, ng, ?_, p, fun t v O' H' ⟨o', e, hn, q⟩ g s' rt => ?_, fun C fs O' H' d ⟨o', e, q⟩ g s' rx => ?_⟩
  · show Ex (hid [a] H) (hid (live [a] [o]) H)
    rw [lv1 ng1]
    exact Ex.refl _
  · have hz' : z ≠ a ∧ ∃ u, H z = some u := by
      rcases List.mem_append.mp hz with hz | hz
      · obtain ⟨h1, h2⟩ := List.mem_filter.mp hz
        exact ⟨by simpa using h2, s.some_at h1⟩
      · obtain ⟨h1, h2⟩ := s.z_at hz
        exact ⟨fun z => h1 (by rw [z]; exact hl), h2⟩
    obtain ⟨h1, u, h2⟩ := hz'
    exact ⟨u, hid_some.mpr ⟨by simpa using h1, h2⟩⟩
  · rw [List.mem_singleton.mp h]
    exact s.some_at hl
  · have hj : j = 0 := by
      cases j with
      | zero => rfl
      | succ n => simp at h1
    subst hj
    have e1 : a = c := Option.some.inj h1
    have e2 : o = u := Option.some.inj h2
    subst e1 e2
    rw [fzc ng1]
    exact s.cell i a o ha ho
  · rw [fzc ng1]
    exact tr1_reps ha hx r
  · subst e
    have g1 := one g
    obtain ⟨s2, n2, f2⟩ := back g1 s'
    rw [fzc g1] at rt
    refine kv _ v A _ H' q s2 n2 ?_
    rw [f2]
    cases t with
    | v d => exact rt
    | own j =>
      obtain ⟨c, e1, e2⟩ := rt
      have hj : j = 0 := by
        cases j with
        | zero => rfl
        | succ n => simp at e1
      subst hj
      have e3 : a = c := Option.some.inj e1
      subst e3
      exact ⟨a, ha, e2⟩
    | no => exact absurd rfl hn
  · subst e
    have g1 := one g
    obtain ⟨s2, n2, f2⟩ := back g1 s'
    refine hE C d H' (kx C fs A _ H' d q s2 n2 ?_)
    rw [f2]
    rw [fzc g1] at rx
    exact rx
theorem w_fn1 (i : Nat) (hE : ∀ C d σ H, W C d σ H → E C d H) (h : WA K W tr O ts (fun xs O1 => ∃ ys o, tr1 i xs = some ys ∧ O1[i]? = some o ∧ okG [o] = true ∧
    sp ys [o] (fun t O' => ∃ o', O' = [o'] ∧ t ≠ .no ∧ P (un1 i t) (O1.set i o')) (fun C fs O' => ∃ o', O' = [o'] ∧ X C fs (O1.set i o'))) X) : WE K W (tCall (lift K sp) [] E tr) O ts P X := fun b A σ H Q s rs kv kx =>
  h b A σ H _ s rs (fun xs vs A1 O1 H1 p1 s1 n1 r1 => by
    obtain ⟨ys, o, e, ho, ng, p⟩ := p1
    rw [List.append_nil]
    exact lift_1 (W := W) (σ := σ) s1 r1 e ho ng (fun C d H => hE C d σ H) p (kv.nxt n1) (kx.nxt n1)) kx
theorem w_fn10 (i : Nat) (h : WA K W tr O ts (fun xs O1 => ∃ ys o, tr1 i xs = some ys ∧ O1[i]? = some o ∧ okG [o] = true ∧
    sp ys [o] (fun t O' => ∃ o', O' = [o'] ∧ t ≠ .no ∧ P (un1 i t) (O1.set i o')) (fun C fs O' => False)) X) : WE K W (tCall (lift K sp) [] E0 tr) O ts P X := fun b A σ H Q s rs kv kx =>
  h b A σ H _ s rs (fun xs vs A1 O1 H1 p1 s1 n1 r1 => by
    obtain ⟨ys, o, e, ho, ng, p⟩ := p1
    rw [List.append_nil]
    have x0 : (fun (C : Value) (fs : Option (List (Str × D))) (O' : List OD) => ∃ o', O' = [o'] ∧ (fun _ _ _ => False : XX) C fs (O1.set i o')) = fun _ _ _ => False := by
      funext C fs O'
      exact propext ⟨fun ⟨_, _, z⟩ => z, fun z => z.elim⟩
    exact lift_1 (W := fun _ _ _ _ => False) (X := fun _ _ _ => False) (σ := σ) s1 r1 e ho ng (fun C d H z => z) (by rw [x0]; exact p) (kv.nxt n1) (fun C fs A' O' H' d z => z.elim)) kx

/-! ### instances -/
theorem StO.lay2 {b : Bs} {A : List Addr} {H : Hp} (s : StO K b A O H) {p : Addr} (hp : H p = none) (o : HO) : StO K b A O (upd H p o) ∧ Nxt b A O H A O (upd H p o) := ⟨(s.lay hp o).1, (s.lay hp o).2.1⟩
/-- C(..): __init__ is handed the new instance as the owned thing 0, of no fields -/
theorem w_make0 {C : Addr} (h : WA K W tr O ts (fun xs O1 => ∃ ds, unv xs = some ds ∧ sp (.own 0 :: xs) [.ins C []] (fun t O' => t = .v .non ∧ ∃ fs, O' = [.ins C fs] ∧ P (.v (.ins C fs)) O1) (fun _ _ _ => False)) X) :
    WE K W (tMake C (lift K sp) [] E0 tr) O ts P X := fun b A σ H Q s rs kv kx =>
  h b A σ H _ s rs (fun xs vs A1 O1 H1 p1 s1 n1 r1 x dx hx hdx hne => by
    obtain ⟨ds, e, p⟩ := p1
    rw [List.append_nil]
    obtain ⟨s2, n2⟩ := s1.lay2 hdx (.own x)
    have hx2 : upd H1 dx (.own x) x = none := by
      rw [upd_ne hne.symm]
      exact hx
    obtain ⟨s3, n3⟩ := s2.own (u := .ins C dx []) (o := .ins C []) hx2 ⟨dx, [], upd_same, rfl⟩
    have n13 := n2.trans n3
    have hat : (A1 ++ [x])[A1.length]? = some x := by
      rw [List.getElem?_append_right (Nat.le_refl _), Nat.sub_self]
      exact rfl
    have hoat : (O1 ++ [OD.ins C []])[A1.length]? = some (.ins C []) := by
      rw [s1.len, List.getElem?_append_right (Nat.le_refl _), Nat.sub_self]
      exact rfl
    have tr : tr1 A1.length (.own A1.length :: xs) = some (.own 0 :: xs) := by
      have z : ∀ {xs : List T} {ds : List D}, unv xs = some ds → tr1 A1.length xs = some xs := fun {xs} => by
        induction xs with
        | nil => exact fun _ => rfl
        | cons t xs ih =>
          intro ds e
          cases t with
          | v d =>
            have e3 : (unv xs).map (d :: ·) = some ds := e
            cases q : unv xs with
            | none =>
              rw [q] at e3
              cases e3
            | some es =>
              show (tr1 A1.length xs).map (T.v d :: ·) = _
              rw [ih q]
              exact rfl
          | own j => cases e
          | no => cases e
      show (if A1.length = A1.length then (tr1 A1.length xs).map (T.own 0 :: ·) else none) = _
      rw [if_pos rfl, z e]
      exact rfl
    refine lift_1 (W := fun _ _ _ _ => False) (X := fun _ _ _ => False) (σ := σ) (P := fun t O' => t = .v .non ∧ ∃ fs, O' = O1 ++ [.ins C fs] ∧ P (.v (.ins C fs)) O1) s3 (xs := .own A1.length :: xs) ⟨.ref x, vs, rfl, ⟨x, hat, rfl⟩, r1.nxt n13⟩ tr hoat rfl (fun C d H z => z) ?_
      (fun t v A' O' H' q s' n' rt => ?_) (fun C fs A' O' H' d z => z.elim)
    · have x0 : (fun (C' : Value) (fs : Option (List (Str × D))) (O' : List OD) => ∃ o', O' = [o'] ∧ (fun _ _ _ => False : XX) C' fs ((O1 ++ [OD.ins C []]).set A1.length o')) = fun _ _ _ => False := by
        funext C fs O'
        exact propext ⟨fun ⟨_, _, z⟩ => z, fun z => z.elim⟩
      rw [x0]
      have pq : (fun (t : T) (O' : List OD) => ∃ o', O' = [o'] ∧ t ≠ .no ∧ (un1 A1.length t = .v .non ∧ ∃ fs, (O1 ++ [OD.ins C []]).set A1.length o' = O1 ++ [.ins C fs] ∧ P (.v (.ins C fs)) O1)) = fun t O' => t = .v .non ∧ ∃ fs, O' = [.ins C fs] ∧ P (.v (.ins C fs)) O1 := by
        have es : ∀ o' : OD, (O1 ++ [OD.ins C []]).set A1.length o' = O1 ++ [o'] := fun o' => by
          rw [s1.len, List.set_append_right _ _ (Nat.le_refl _), Nat.sub_self]
          exact rfl
        funext t O'
        refine propext ⟨?_, ?_⟩
        · rintro ⟨o', rfl, hn, hu, fs, e1, q⟩
          rw [es] at e1
          have e2 : o' = .ins C fs := by
            have := List.append_cancel_left e1
            injection this
          subst e2
          refine ⟨?_, fs, rfl, q⟩
          cases t with
          | v d => exact hu
          | own j => cases hu
          | no => exact absurd rfl hn
        · rintro ⟨rfl, fs, rfl, q⟩
          exact ⟨_, rfl, (fun z => by cases z), rfl, fs, es _, q⟩
      rw [pq]
      exact p
    · obtain ⟨rfl, fs, rfl, q⟩ := q
      obtain ⟨_, e1, e2⟩ := rt
      cases e1
      obtain ⟨M, eM⟩ := n'.pre
      have l2 := s'.len
      have eM0 : M = [] := by
        have l3 : A'.length = (A1 ++ [x] ++ M).length := by rw [eM]
        rw [List.length_append, List.length_append] at l3
        rw [List.length_append] at l2
        have l4 := s1.len
        refine List.length_eq_zero_iff.mp ?_
        simp only [List.length_singleton] at l2 l3
        omega
      subst eM0
      rw [List.append_nil] at eM
      subst eM
      have c := s'.cell A1.length x (.ins C fs) hat (by rw [s1.len, List.getElem?_append_right (Nat.le_refl _), Nat.sub_self]; exact rfl)
      obtain ⟨s4, x4⟩ := s'.drop s1.len s1.pre
      obtain ⟨dx', us, c1, c2⟩ := c
      have nA : x ∉ A1 := fun hm => (List.nodup_append.mp s'.nd).2.2 x hm x (List.mem_singleton.mpr rfl) rfl
      have nz : x ∉ live A1 O1 ++ b.Z := fun z => by
        rcases List.mem_append.mp z with z | z
        · obtain ⟨j, o, z1, _, _⟩ := live_mem z
          exact nA (List.mem_of_getElem? z1)
        · have zz := s1.z_at (a := x) z
          obtain ⟨o, zz⟩ := zz.2
          rw [hx] at zz
          cases zz
      have fz : Fz b A1 O1 H' x = some (.ins C dx' us) := hid_some.mpr ⟨nz, c1⟩
      refine ⟨e2, kv _ _ A1 O1 H' q s4 (n1.trans ⟨⟨[], (List.append_nil A1).symm⟩, ?_⟩) ⟨_, rfl, x, dx', us, rfl, fz, c2.ex x4⟩⟩
      exact (n13.ext.trans n'.ext).trans x4) kx
end
end G

set_option Elab.async false
set_option linter.all false
set_option maxRecDepth 100000
set_option maxHeartbeats 4000000
namespace G
open PySem PySem.Spec PyProof.Rows L2

/-! ### fields, methods -/
/-- an instance: plain, or owned -/
def InsD (x : T) (O : List OD) (C : Addr) (fs : List (Str × D)) : Prop := x = .v (.ins C fs) ∨ ∃ i, x = .own i ∧ O[i]? = some (.ins C fs)
theorem insD_v {O : List OD} {C : Addr} {fs : List (Str × D)} : InsD (.v (.ins C fs)) O C fs := .inl rfl
theorem insD_o {O : List OD} {C : Addr} {fs : List (Str × D)} {i : Nat} (h : O[i]? = some (.ins C fs)) : InsD (.own i) O C fs := .inr ⟨i, rfl, h⟩
theorem insD_at {K : PySem.W.Frag} {b : Bs} {A : List Addr} {O : List OD} {H : Hp} {x : T} {C : Addr} {fs : List (Str × D)} {v : V} (h : InsD x O C fs) (s : StO K b A O H) (r : RepT K (Fz b A O H) A x (some v)) :
    ∃ a dx vs, v = .ref a ∧ H a = some (.ins C dx vs) ∧ RepF K (Fz b A O H) fs vs := by
  rcases h with rfl | ⟨i, rfl, ho⟩
  · obtain ⟨_, e, a, dx, vs, rfl, h1, h2⟩ := r
    cases e
    exact ⟨a, dx, vs, rfl, (hid_some.mp h1).2, h2⟩
  · obtain ⟨a, ha, e⟩ := r
    cases e
    obtain ⟨dx, vs, h1, h2⟩ := s.cell i a _ ha ho
    exact ⟨a, dx, vs, rfl, h1, h2⟩
section
variable {K : PySem.W.Frag} {W : WX} {O : List OD} {ts : List T} {P : PT'} {X : XX} {sp : SpD} {te ta tv : TE} {tr : TA} {E : XK} {DE' : DE} {C : Addr} {f m : Str}
theorem w_fld (c : Cls K C) (n : NoAttr K C f) (h : WE K W ta O ts (fun x O1 => ∃ fs d, InsD x O1 C fs ∧ fs.lookup f = some d ∧ P (.v d) O1) X) : WE K W (tFld K ta f) O ts P X := fun b A σ H Q s rs kv kx =>
  h b A σ H _ s rs (fun x v A1 O1 H1 p1 s1 n1 r1 => by
    obtain ⟨fs, d, hi, hl, p⟩ := p1
    obtain ⟨a, dx, vs, rfl, h1, h2⟩ := insD_at hi s1 r1
    obtain ⟨w, e, r⟩ := h2.look hl
    exact ⟨a, C, dx, vs, w, rfl, h1, c, n, e, kv _ w A1 O1 H1 p s1 n1 ⟨w, rfl, r⟩⟩) kx
theorem w_con {cv : V} {u : Value} {d : D} (c : Cls K C) (k : Con K C f cv u) (hd : ∀ H, Rep K H d cv) (h : WE K W ta O ts (fun x O1 => ∃ fs, InsD x O1 C fs ∧ fs.lookup f = none ∧ P (.v d) O1) X) : WE K W (tCon K ta f) O ts P X := fun b A σ H Q s rs kv kx =>
  h b A σ H _ s rs (fun x v A1 O1 H1 p1 s1 n1 r1 => by
    obtain ⟨fs, hi, hl, p⟩ := p1
    obtain ⟨a, dx, vs, rfl, h1, h2⟩ := insD_at hi s1 r1
    exact ⟨a, C, dx, vs, cv, u, rfl, h1, c, k, h2.none hl, kv _ _ A1 O1 H1 p s1 n1 ⟨_, rfl, hd _⟩⟩) kx
def putD (f : Str) (d : D) : List (Str × D) → List (Str × D)
  | [] => [(f, d)]
  | p :: r => if p.1 = f then (f, d) :: r else p :: putD f d r
theorem repF_put {F : Hp} {f : Str} {d : D} {v : V} (q : Rep K F d v) : ∀ {fs : List (Str × D)} {vs : List (Str × V)}, RepF K F fs vs → RepF K F (putD f d fs) (putF f v vs)
  | [], _, h => by
    rw [show _ = [] from h]
    exact ⟨v, [], rfl, q, rfl⟩
  | p :: fs, _, h => by
    obtain ⟨w, r, e1, h1, h2⟩ := h
    subst e1
    show RepF K F (if p.1 = f then (f, d) :: fs else p :: putD f d fs) (putF f v ((p.1, w) :: r))
    unfold putF
    by_cases e : p.1 = f
    · rw [if_pos e]
      first
        | (rw [if_pos e]; exact ⟨v, r, rfl, q, h2⟩)
        | (rw [if_pos e.symm]; exact ⟨v, r, rfl, q, h2⟩)
        | (simp only [e, beq_self_eq_true, if_true]; exact ⟨v, r, rfl, q, h2⟩)
    · rw [if_neg e]
      first
        | (rw [if_neg e]; exact ⟨w, _, rfl, h1, repF_put q h2⟩)
        | (rw [if_neg (Ne.symm e)]; exact ⟨w, _, rfl, h1, repF_put q h2⟩)
        | (simp only [beq_iff_eq, e, if_false]; exact ⟨w, _, rfl, h1, repF_put q h2⟩)
theorem s_fld (c : Cls K C) (n : NoAttr K C f) (h : WE K W tv O ts (fun y O1 => WE K W ta O1 ts (fun x O2 => ∃ i fs d, x = .own i ∧ y = .v d ∧ O2[i]? = some (.ins C fs) ∧ fs.length < 1000 ∧ DE'.nx ts (O2.set i (.ins C (putD f d fs)))) (fun C fs O' => DE'.xe C fs ts O')) (fun C fs O' => DE'.xe C fs ts O')) :
    WS K W (sFld K ta tv f) O ts DE' := fun b A σ H D s rs ks =>
  h b A σ H _ s rs (fun y v A1 O1 H1 p1 s1 n1 r1 => by
    refine p1 b A1 σ H1 _ s1 (rs.nxt n1) (fun x u A2 O2 H2 p2 s2 n2 r2 => ?_) ((ks.kx rs).nxt n1)
    obtain ⟨i, fs, d, rfl, rfl, ho, hz, q⟩ := p2
    obtain ⟨a, ha, e⟩ := r2
    cases e
    obtain ⟨dx, vs, h1, h2⟩ := s2.cell i a _ ha ho
    obtain ⟨w, e2, rw'⟩ := r1.nxt n2
    cases e2
    obtain ⟨s3, n3⟩ := s2.put (w := .ins C dx (putF f v vs)) (o := .ins C (putD f d fs)) ha ho (fun z => by cases z) (fun z => by cases z) ⟨dx, _, upd_same, repF_put rw' h2⟩
    refine ⟨a, C, dx, vs, rfl, h1, c, n, by rw [h2.length]; exact hz, ks.nx ts σ A2 _ _ q s3 ((n1.trans n2).trans n3) (rs.nxt ((n1.trans n2).trans n3))⟩) (ks.kx rs)
/-- o.m(..) of a plain instance -/
theorem w_meth0 (h : WE K W ta O ts (fun x O1 => ∃ fs, x = .v (.ins C fs) ∧ fs.lookup m = none ∧ WA K W tr O1 ts (fun xs O2 => ∃ ds, unv xs = some ds ∧ sp (.v (.ins C fs) :: xs) [] (fun t _ => (∃ d, t = .v d) ∧ P t O2) (fun _ _ _ => False)) X) X) :
    WE K W (tMeth C m (lift K sp) [] E0 ta tr) O ts P X := fun b A σ H Q s rs kv kx =>
  h b A σ H _ s rs (fun x v A1 O1 H1 p1 s1 n1 r1 => by
    obtain ⟨fs, rfl, hm, p⟩ := p1
    obtain ⟨a, dx, vs, rfl, h1, h2⟩ := insD_at insD_v s1 r1
    refine ⟨a, dx, vs, rfl, h1, h2.none hm, p b A1 σ H1 _ s1 (rs.nxt n1) (fun xs us A2 O2 H2 p2 s2 n2 r2 => ?_) (kx.nxt n1)⟩
    obtain ⟨ds, e, q⟩ := p2
    rw [List.append_nil]
    exact lift_p (W := fun _ _ _ _ => False) (X := fun _ _ _ => False) (σ := σ) s2 (xs := .v (.ins C fs) :: xs) (ds := .ins C fs :: ds) ⟨.ref a, us, rfl, r1.nxt n2, r2⟩ (by show (unv xs).map _ = _; rw [e] <;> rfl) (fun C d H z => z) q (kv.nxt (n1.trans n2)) (fun C fs A' O' H' d z => z.elim)) kx
theorem w_meth (hE : ∀ C d σ H, W C d σ H → E C d H) (h : WE K W ta O ts (fun x O1 => ∃ fs, x = .v (.ins C fs) ∧ fs.lookup m = none ∧ WA K W tr O1 ts (fun xs O2 => ∃ ds, unv xs = some ds ∧ sp (.v (.ins C fs) :: xs) [] (fun t _ => (∃ d, t = .v d) ∧ P t O2) (fun C fs _ => X C fs O2)) X) X) :
    WE K W (tMeth C m (lift K sp) [] E ta tr) O ts P X := fun b A σ H Q s rs kv kx =>
  h b A σ H _ s rs (fun x v A1 O1 H1 p1 s1 n1 r1 => by
    obtain ⟨fs, rfl, hm, p⟩ := p1
    obtain ⟨a, dx, vs, rfl, h1, h2⟩ := insD_at insD_v s1 r1
    refine ⟨a, dx, vs, rfl, h1, h2.none hm, p b A1 σ H1 _ s1 (rs.nxt n1) (fun xs us A2 O2 H2 p2 s2 n2 r2 => ?_) (kx.nxt n1)⟩
    obtain ⟨ds, e, q⟩ := p2
    rw [List.append_nil]
    exact lift_p (W := W) (σ := σ) s2 (xs := .v (.ins C fs) :: xs) (ds := .ins C fs :: ds) ⟨.ref a, us, rfl, r1.nxt n2, r2⟩ (by show (unv xs).map _ = _; rw [e] <;> rfl) (fun C d H => hE C d σ H) q (kv.nxt (n1.trans n2)) (kx.nxt (n1.trans n2))) kx
end

/-! ### lists and tuples -/
def LstD (x : T) (O : List OD) (ds : List D) : Prop := x = .v (.lst ds) ∨ ∃ i, x = .own i ∧ O[i]? = some (.lst ds)
theorem lstD_v {O : List OD} {ds : List D} : LstD (.v (.lst ds)) O ds := .inl rfl
theorem lstD_o {O : List OD} {ds : List D} {i : Nat} (h : O[i]? = some (.lst ds)) : LstD (.own i) O ds := .inr ⟨i, rfl, h⟩
theorem lstD_at {K : PySem.W.Frag} {b : Bs} {A : List Addr} {O : List OD} {H : Hp} {x : T} {ds : List D} {v : V} (h : LstD x O ds) (s : StO K b A O H) (r : RepT K (Fz b A O H) A x (some v)) :
    ∃ a vs, v = .ref a ∧ SqL K H a vs ∧ RepL K (Fz b A O H) ds vs := by
  rcases h with rfl | ⟨i, rfl, ho⟩
  · obtain ⟨_, e, a, vs, rfl, h1, h2⟩ := r
    cases e
    exact ⟨a, vs, rfl, hid_ex.l h1, h2⟩
  · obtain ⟨a, ha, e⟩ := r
    cases e
    obtain ⟨vs, h1, h2⟩ := s.cell i a _ ha ho
    exact ⟨a, vs, rfl, SqL.of h1, h2⟩
theorem tupD_at {K : PySem.W.Frag} {F H : Hp} {A : List Addr} {ds : List D} {v : V} (e : Ex F H) (r : RepT K F A (.v (.tup ds)) (some v)) : ∃ a vs, v = .ref a ∧ SqT K H a vs ∧ RepL K F ds vs := by
  obtain ⟨_, e1, a, vs, rfl, h1, h2⟩ := r
  cases e1
  exact ⟨a, vs, rfl, e.t h1, h2⟩
theorem atI_rep {K : PySem.W.Frag} {F : Hp} {ds : List D} {vs : List V} {i : Int} {d : D} (r : RepL K F ds vs) (h : atI ds i = some d) : ∃ v, atI vs i = some v ∧ Rep K F d v := by
  unfold atI at h ⊢
  rw [r.length]
  cases q : ixN ds.length i with
  | none =>
    rw [q] at h
    cases h
  | some j =>
    rw [q] at h
    exact r.get h
section
variable {K : PySem.W.Frag} {W : WX} {O : List OD} {ts : List T} {P : PT'} {X : XX} {te ta tv : TE} {tr : TA} {DE' : DE}
theorem w_ixL {x : T} {ds : List D} {i : Int} {d : D} (hx : LstD x O ds) (h : atI ds i = some d) (k : P (.v d) O) : WR K (rIxL K) x (.v (.int i)) O P := fun b A H Q v u s r1 r2 kv => by
  obtain ⟨a, vs, rfl, h1, h2⟩ := lstD_at hx s r1
  obtain ⟨_, e2, rfl⟩ := r2
  cases e2
  obtain ⟨w, e, r⟩ := atI_rep h2 h
  exact ⟨a, vs, i, w, rfl, rfl, h1, e, kv _ w A O H k s Nxt.refl ⟨w, rfl, r⟩⟩
theorem w_ixT {ds : List D} {i : Int} {d : D} (h : atI ds i = some d) (k : P (.v d) O) : WR K (rIxT K) (.v (.tup ds)) (.v (.int i)) O P := fun b A H Q v u s r1 r2 kv => by
  obtain ⟨a, vs, rfl, h1, h2⟩ := tupD_at (hid_ex : Ex (Fz b A O H) H) r1
  obtain ⟨_, e2, rfl⟩ := r2
  cases e2
  obtain ⟨w, e, r⟩ := atI_rep h2 h
  exact ⟨a, vs, i, w, rfl, rfl, h1, e, kv _ w A O H k s Nxt.refl ⟨w, rfl, r⟩⟩
theorem atI_0 {α : Type} {x : α} {r : List α} : atI (x :: r) 0 = some x := atI_nat (j := 0) rfl
theorem atI_1 {α : Type} {x y : α} {r : List α} : atI (x :: y :: r) 1 = some y := atI_nat (j := 1) rfl
theorem atI_2 {α : Type} {x y z : α} {r : List α} : atI (x :: y :: z :: r) 2 = some z := atI_nat (j := 2) rfl
/-- xs[i] = e -/
theorem g_setL {te ti : TE} {x : T} {N : List T → List OD → Prop} (h : WE K W te O ts (fun y O1 => WE K W ti O1 ts (fun z O2 => ∃ (i : Nat) (ds : List D) (k : Int) (j : Nat) (d : D), y = .own i ∧ z = .v (.int k) ∧ x = .v d ∧ O2[i]? = some (.lst ds) ∧ ixN ds.length k = some j ∧ N ts (O2.set i (.lst (ds.set j d)))) (fun _ _ _ => False)) (fun _ _ _ => False)) :
    WG K W (gSub te ti rSetL) x O ts N := fun b A σ H Q v s rs r kn => by
  refine h b A σ H _ s rs (fun y u A1 O1 H1 p1 s1 n1 r1 => ?_) (fun C fs A' O' H' d z => z.elim)
  refine p1 b A1 σ H1 _ s1 (rs.nxt n1) (fun z w A2 O2 H2 p2 s2 n2 r2 => ?_) (fun C fs A' O' H' d z => z.elim)
  obtain ⟨i, ds, k, j, d, rfl, rfl, rfl, ho, hk, q⟩ := p2
  obtain ⟨a, ha, e⟩ := r1.nxt n2
  cases e
  obtain ⟨_, e2, rfl⟩ := r2
  cases e2
  obtain ⟨vs, h1, h2⟩ := s2.cell i a _ ha ho
  obtain ⟨v', e3, rd⟩ := r.nxt (n1.trans n2)
  cases e3
  obtain ⟨s3, n3⟩ := s2.put (w := .lst (vs.set j v)) (o := .lst (ds.set j d)) ha ho (fun z => by cases z) (fun z => by cases z) ⟨_, upd_same, h2.set rd j⟩
  exact ⟨a, vs, k, j, rfl, rfl, h1, by rw [h2.length]; exact hk, kn ts σ A2 _ _ q s3 ((n1.trans n2).trans n3) (rs.nxt ((n1.trans n2).trans n3))⟩
/-! methods of lists -/
theorem w_bmL {rm : V → List V → Hp → VK → Prop} (h : WE K W ta O ts (fun x O1 => ∃ ds, LstD x O1 ds ∧ WA K W tr O1 ts (fun xs O2 => WM K rm x xs O2 P) X) X) : WE K W (tBM K "list" rm ta tr) O ts P X := fun b A σ H Q s rs kv kx =>
  h b A σ H _ s rs (fun x v A1 O1 H1 p1 s1 n1 r1 => by
    obtain ⟨ds, hx, p⟩ := p1
    obtain ⟨a, vs, rfl, h1, h2⟩ := lstD_at hx s1 r1
    exact ⟨.inl ⟨rfl, vs, h1⟩, p b A1 σ H1 _ s1 (rs.nxt n1) (fun xs us A2 O2 H2 p2 s2 n2 r2 => p2 b A2 H2 Q _ us s2 (r1.nxt n2) r2 (kv.nxt (n1.trans n2))) (kx.nxt n1)⟩) kx
theorem w_bmL0 {rm : V → List V → Hp → VK → Prop} (h : WE K W ta O ts (fun x O1 => ∃ ds, LstD x O1 ds ∧ WM K rm x [] O1 P) X) : WE K W (tBM0 K "list" rm ta) O ts P X := fun b A σ H Q s rs kv kx =>
  h b A σ H _ s rs (fun x v A1 O1 H1 p1 s1 n1 r1 => by
    obtain ⟨ds, hx, p⟩ := p1
    obtain ⟨a, vs, rfl, h1, h2⟩ := lstD_at hx s1 r1
    exact ⟨.inl ⟨rfl, vs, h1⟩, p b A1 H1 Q _ [] s1 r1 rfl (kv.nxt n1)⟩) kx
theorem m_append {i : Nat} {ds : List D} {d : D} (ho : O[i]? = some (.lst ds)) (hz : ds.length < sizeLine) (k : P (.v .non) (O.set i (.lst (ds ++ [d])))) : WM K rAppend (.own i) [.v d] O P := fun b A H Q v vs s r1 r2 kv => by
  obtain ⟨a, ha, e⟩ := r1
  cases e
  obtain ⟨us, h1, h2⟩ := s.cell i a _ ha ho
  obtain ⟨w, _, rfl, ⟨w2, e2, rd⟩, rfl⟩ := r2
  cases e2
  obtain ⟨s3, n3⟩ := s.put (w := .lst (us ++ [w])) (o := .lst (ds ++ [d])) ha ho (fun z => by cases z) (fun z => by cases z) ⟨_, upd_same, h2.append ⟨w, [], rfl, rd, rfl⟩⟩
  exact ⟨a, us, w, rfl, rfl, h1, by rw [h2.length]; exact hz, kv _ .non A _ _ k s3 n3 ⟨_, rfl, rfl⟩⟩
theorem m_pop {i : Nat} {ds : List D} {d : D} (ho : O[i]? = some (.lst ds)) (hz : ds[ds.length - 1]? = some d) (k : P (.v d) (O.set i (.lst ds.dropLast))) : WM K rPop (.own i) [] O P := fun b A H Q v vs s r1 r2 kv => by
  obtain ⟨a, ha, e⟩ := r1
  cases e
  obtain ⟨us, h1, h2⟩ := s.cell i a _ ha ho
  obtain ⟨w, e2, rd⟩ := h2.get hz
  have dl : RepL K (Fz b A O H) ds.dropLast us.dropLast := by
    rw [List.dropLast_eq_take, List.dropLast_eq_take, h2.length]
    exact h2.take _
  obtain ⟨s3, n3⟩ := s.put (w := .lst us.dropLast) (o := .lst ds.dropLast) ha ho (fun z => by cases z) (fun z => by cases z) ⟨_, upd_same, dl⟩
  exact ⟨a, us, w, rfl, r2, h1, by rw [h2.length]; exact e2, kv _ w A _ _ k s3 n3 ⟨w, rfl, rd.ex n3.ext⟩⟩

/-! slices -/
def WO (K : PySem.W.Frag) (W : WX) (to : TO) (O : List OD) (ts : List T) (P : Option Int → List OD → Prop) (X : XX) : Prop :=
  ∀ b A σ H Q, StO K b A O H → RepS K (Fz b A O H) A ts σ → (∀ c A' O' H', P c O' → StO K b A' O' H' → Nxt b A O H A' O' H' → Q c H') → KX K W b A O σ H X → to σ H Q
theorem o_none {PO' : Option Int → List OD → Prop} (k : PO' none O) : WO K W tNoPart O ts PO' X := fun b A σ H Q s rs kb _ => kb none A O H k s Nxt.refl
theorem o_some {PO' : Option Int → List OD → Prop} (h : WE K W te O ts (fun t O' => ∃ i, t = .v (.int i) ∧ PO' (some i) O') X) : WO K W (tPart te) O ts PO' X := fun b A σ H Q s rs kb kx =>
  h b A σ H _ s rs (fun t v A1 O1 H1 p1 s1 n1 r1 => by
    obtain ⟨i, rfl, p⟩ := p1
    obtain ⟨_, e, rfl⟩ := r1
    cases e
    exact ⟨i, rfl, kb _ A1 O1 H1 p s1 n1⟩) kx
def cutD (xs : List D) (lo hi : Option Int) : List D := (xs.drop (HT.sIx xs.length 0 lo)).take (HT.sIx xs.length xs.length hi - HT.sIx xs.length 0 lo)
theorem cut_rep {F : Hp} {ds : List D} {vs : List V} (r : RepL K F ds vs) (lo hi : Option Int) : RepL K F (cutD ds lo hi) (cutV vs lo hi) := by
  unfold cutD cutV
  rw [r.length]
  exact (r.drop _).take _
theorem w_slL {tl th : TO} (h : WE K W te O ts (fun x O1 => WO K W tl O1 ts (fun lo O2 => WO K W th O2 ts (fun hi O3 => ∃ ds, LstD x O3 ds ∧ P (.v (.lst (cutD ds lo hi))) O3) X) X) X) : WE K W (tSl (rSlL K) te tl th) O ts P X := fun b A σ H Q s rs kv kx =>
  h b A σ H _ s rs (fun x v A1 O1 H1 p1 s1 n1 r1 => p1 b A1 σ H1 _ s1 (rs.nxt n1) (fun lo A2 O2 H2 p2 s2 n2 => p2 b A2 σ H2 _ s2 (rs.nxt (n1.trans n2)) (fun hi A3 O3 H3 p3 s3 n3 => by
    obtain ⟨ds, hx, p⟩ := p3
    obtain ⟨a, vs, rfl, h1, h2⟩ := lstD_at hx s3 (r1.nxt (n2.trans n3))
    refine ⟨a, vs, rfl, h1, fun p' hp => ?_⟩
    obtain ⟨s4, n4, q⟩ := s3.lay hp (.lst (cutV vs lo hi))
    exact kv _ _ A3 O3 _ p s4 (((n1.trans n2).trans n3).trans n4) ⟨_, rfl, p', _, rfl, SqL.of q, (cut_rep h2 lo hi).ex n4.ext⟩) (kx.nxt (n1.trans n2))) (kx.nxt n1)) kx
/-- a tuple's slice; the whole is the tuple itself -/
def rSlT2 (K : PySem.W.Frag) : V → Option Int → Option Int → Hp → VK → Prop := fun x lo hi H Q => ∃ a xs, x = .ref a ∧ SqT K H a xs ∧ (¬ (HT.sIx xs.length 0 lo = 0 ∧ HT.sIx xs.length xs.length hi = xs.length) ∧ ∀ p, H p = none → Q (.ref p) (upd H p (.tup (cutV xs lo hi))))

/-! ### built-in calls -/
theorem c_int {i : Int} (k : P (.v (.int i)) O) : WC K (fun xs H Q => (∃ i, xs = [.int i] ∧ Q (.int i) H) ∨ ∃ k, xs = [.bl k] ∧ Q (.int (if k then 1 else 0)) H) [.v (.int i)] O P := fun b A H Q vs s r kv => by
  obtain ⟨v, _, rfl, ⟨_, e, rfl⟩, rfl⟩ := r
  cases e
  exact .inl ⟨i, rfl, kv _ _ A O H k s Nxt.refl ⟨_, rfl, rfl⟩⟩
theorem c_intB {c : Bool} (k : P (.v (.int (if c then 1 else 0))) O) : WC K (fun xs H Q => (∃ i, xs = [.int i] ∧ Q (.int i) H) ∨ ∃ k, xs = [.bl k] ∧ Q (.int (if k then 1 else 0)) H) [.v (.bl c)] O P := fun b A H Q vs s r kv => by
  obtain ⟨v, _, rfl, ⟨_, e, rfl⟩, rfl⟩ := r
  cases e
  exact .inr ⟨c, rfl, kv _ _ A O H k s Nxt.refl ⟨_, rfl, rfl⟩⟩
theorem c_abs {i : Int} (k : P (.v (.int (if i < 0 then -i else i))) O) : WC K (fun xs H Q => ∃ i, xs = [.int i] ∧ Q (.int (if i < 0 then -i else i)) H) [.v (.int i)] O P := fun b A H Q vs s r kv => by
  obtain ⟨v, _, rfl, ⟨_, e, rfl⟩, rfl⟩ := r
  cases e
  exact ⟨i, rfl, kv _ _ A O H k s Nxt.refl ⟨_, rfl, rfl⟩⟩
def rLen (K : PySem.W.Frag) : List V → Hp → VK → Prop := fun xs H Q => ∃ x n, xs = [x] ∧ LenV K x H n ∧ Q (.int n) H
theorem cr_len {X : Cx} : CallR X (.builtin "len") (rLen X.K) := call_len
theorem c_lenL {x : T} {ds : List D} (hx : LstD x O ds) (k : P (.v (.int ds.length)) O) : WC K (rLen K) [x] O P := fun b A H Q vs s r kv => by
  obtain ⟨v, _, rfl, r1, rfl⟩ := r
  obtain ⟨a, us, rfl, h1, h2⟩ := lstD_at hx s r1
  refine ⟨.ref a, ds.length, rfl, .inl ⟨us, h1, h2.length.symm⟩, kv _ _ A O H k s Nxt.refl ⟨_, rfl, rfl⟩⟩
theorem c_lenT {ds : List D} (k : P (.v (.int ds.length)) O) : WC K (rLen K) [.v (.tup ds)] O P := fun b A H Q vs s r kv => by
  obtain ⟨v, _, rfl, r1, rfl⟩ := r
  obtain ⟨a, us, rfl, h1, h2⟩ := tupD_at (hid_ex : Ex (Fz b A O H) H) r1
  refine ⟨.ref a, ds.length, rfl, .inr ⟨us, h1, h2.length.symm⟩, kv _ _ A O H k s Nxt.refl ⟨_, rfl, rfl⟩⟩
theorem c_lenS {x : Str} (hz : x.length ≤ sizeLine) (k : P (.v (.int x.length)) O) : WC K (rLen K) [.v (.str x)] O P := fun b A H Q vs s r kv => by
  obtain ⟨v, _, rfl, ⟨_, e, rfl⟩, rfl⟩ := r
  cases e
  exact ⟨.str x, x.length, rfl, ⟨hz, rfl⟩, kv _ _ A O H k s Nxt.refl ⟨_, rfl, rfl⟩⟩
def rListOf (K : PySem.W.Frag) : List V → Hp → VK → Prop := fun xs H Q => ∃ p ys, xs = [.ref p] ∧ (SqL K H p ys ∨ SqT K H p ys) ∧ ∀ l, H l = none → Q (.ref l) (upd H l (.lst ys))
theorem cr_list {X : Cx} : CallR X (.type "list") (rListOf X.K) := call_list_of
def rTupOf (K : PySem.W.Frag) : List V → Hp → VK → Prop := fun xs H Q => ∃ p ys, xs = [.ref p] ∧ ((SqL K H p ys ∧ ∀ l, H l = none → Q (.ref l) (upd H l (.tup ys))) ∨ (SqT K H p ys ∧ Q (.ref p) H))
theorem cr_tup {X : Cx} : CallR X (.type "tuple") (rTupOf X.K) := call_tuple_of
theorem c_listL {x : T} {ds : List D} (hx : LstD x O ds) (k : P (.v (.lst ds)) O) : WC K (rListOf K) [x] O P := fun b A H Q vs s r kv => by
  obtain ⟨v, _, rfl, r1, rfl⟩ := r
  obtain ⟨a, us, rfl, h1, h2⟩ := lstD_at hx s r1
  refine ⟨a, us, rfl, .inl h1, fun p hp => ?_⟩
  obtain ⟨s2, n2, q⟩ := s.lay hp (.lst us)
  exact kv _ _ A O _ k s2 n2 ⟨_, rfl, p, us, rfl, SqL.of q, h2.ex n2.ext⟩
theorem c_listT {ds : List D} (k : P (.v (.lst ds)) O) : WC K (rListOf K) [.v (.tup ds)] O P := fun b A H Q vs s r kv => by
  obtain ⟨v, _, rfl, r1, rfl⟩ := r
  obtain ⟨a, us, rfl, h1, h2⟩ := tupD_at (hid_ex : Ex (Fz b A O H) H) r1
  refine ⟨a, us, rfl, .inr h1, fun p hp => ?_⟩
  obtain ⟨s2, n2, q⟩ := s.lay hp (.lst us)
  exact kv _ _ A O _ k s2 n2 ⟨_, rfl, p, us, rfl, SqL.of q, h2.ex n2.ext⟩
theorem c_tupL {x : T} {ds : List D} (hx : LstD x O ds) (k : P (.v (.tup ds)) O) : WC K (rTupOf K) [x] O P := fun b A H Q vs s r kv => by
  obtain ⟨v, _, rfl, r1, rfl⟩ := r
  obtain ⟨a, us, rfl, h1, h2⟩ := lstD_at hx s r1
  refine ⟨a, us, rfl, .inl ⟨h1, fun p hp => ?_⟩⟩
  obtain ⟨s2, n2, q⟩ := s.lay hp (.tup us)
  exact kv _ _ A O _ k s2 n2 ⟨_, rfl, p, us, rfl, SqT.of q, h2.ex n2.ext⟩
theorem c_tupT {ds : List D} (k : P (.v (.tup ds)) O) : WC K (rTupOf K) [.v (.tup ds)] O P := fun b A H Q vs s r kv => by
  obtain ⟨v, _, rfl, r1, rfl⟩ := r
  obtain ⟨a, us, rfl, h1, h2⟩ := tupD_at (hid_ex : Ex (Fz b A O H) H) r1
  exact ⟨a, us, rfl, .inr ⟨h1, kv _ _ A O H k s Nxt.refl r1⟩⟩
/-! lists of ints, of bools -/
def dI' (ns : List Int) : List D := ns.map D.int
def dB (bs : List Bool) : List D := bs.map D.bl
theorem rep_ints {F : Hp} : ∀ {ns : List Int} {vs : List V}, RepL K F (ns.map D.int) vs → vs = ns.map V.int
  | [], _, h => h
  | n :: ns, _, h => by
    obtain ⟨v, r, rfl, rfl, h2⟩ := h
    rw [rep_ints h2] <;> rfl
theorem rep_bools {F : Hp} : ∀ {ns : List Bool} {vs : List V}, RepL K F (ns.map D.bl) vs → vs = ns.map V.bl
  | [], _, h => h
  | n :: ns, _, h => by
    obtain ⟨v, r, rfl, rfl, h2⟩ := h
    rw [rep_bools h2] <;> rfl
theorem ints_rep {F : Hp} : ∀ {ns : List Int}, RepL K F (ns.map D.int) (ns.map V.int)
  | [] => rfl
  | n :: ns => ⟨_, _, rfl, rfl, ints_rep (ns := ns)⟩
theorem c_sum {x : T} {ns : List Int} (hx : LstD x O (ns.map D.int)) (k : P (.v (.int ns.sum)) O) : WC K (rSum K) [x] O P := fun b A H Q vs s r kv => by
  obtain ⟨v, _, rfl, r1, rfl⟩ := r
  obtain ⟨a, us, rfl, h1, h2⟩ := lstD_at hx s r1
  rw [rep_ints h2] at h1
  exact ⟨a, ns, rfl, h1, kv _ _ A O H k s Nxt.refl ⟨_, rfl, rfl⟩⟩
theorem c_all {x : T} {bs : List Bool} (hx : LstD x O (bs.map D.bl)) (k : P (.v (.bl (bs.all id))) O) : WC K (rAll K) [x] O P := fun b A H Q vs s r kv => by
  obtain ⟨v, _, rfl, r1, rfl⟩ := r
  obtain ⟨a, us, rfl, h1, h2⟩ := lstD_at hx s r1
  rw [rep_bools h2] at h1
  exact ⟨a, bs, rfl, h1, kv _ _ A O H k s Nxt.refl ⟨_, rfl, rfl⟩⟩
theorem c_any {x : T} {bs : List Bool} (hx : LstD x O (bs.map D.bl)) (k : P (.v (.bl (bs.any id))) O) : WC K (rAny K) [x] O P := fun b A H Q vs s r kv => by
  obtain ⟨v, _, rfl, r1, rfl⟩ := r
  obtain ⟨a, us, rfl, h1, h2⟩ := lstD_at hx s r1
  rw [rep_bools h2] at h1
  exact ⟨a, bs, rfl, h1, kv _ _ A O H k s Nxt.refl ⟨_, rfl, rfl⟩⟩
end
end G

set_option Elab.async false
set_option linter.all false
set_option maxRecDepth 100000
set_option maxHeartbeats 4000000
namespace G
open PySem PySem.Spec PyProof.Rows L2

/-! ### comprehensions -/
def wipeT (ts : List T) : List Nat → List T
  | [] => ts
  | v :: vs => (wipeT ts vs).set v .no
theorem repS_wipe {K : PySem.W.Frag} {F : Hp} {A : List Addr} {ts : List T} {σ : L2.St} (h : RepS K F A ts σ) : ∀ vs : List Nat, RepS K F A (wipeT ts vs) (wipe σ vs)
  | [] => h
  | v :: vs => by
    have ih := repS_wipe h vs
    refine ⟨by show ((wipeT ts vs).set v .no).length = ((wipe σ vs).set v none).length; rw [List.length_set, List.length_set]; exact ih.1, fun j u e => ?_⟩
    have e : ((wipeT ts vs).set v .no)[j]? = some u := e
    show ∃ o, ((wipe σ vs).set v none)[j]? = some o ∧ _
    rw [List.getElem?_set] at e
    by_cases hij : v = j
    · subst hij
      rw [if_pos rfl] at e
      by_cases hl : v < (wipeT ts vs).length
      · rw [if_pos hl] at e
        have e2 : T.no = u := Option.some.inj e
        subst e2
        refine ⟨none, ?_, trivial⟩
        rw [List.getElem?_set_self (by rw [← ih.1]; exact hl)]
      · rw [if_neg hl] at e
        cases e
    · rw [if_neg hij] at e
      obtain ⟨o, e1, r1⟩ := ih.2 j u e
      refine ⟨o, ?_, r1⟩
      rw [List.getElem?_set_ne hij]
      exact e1
/-- the target touches the block's own slots alone -/
def Tgt (g : TG) (vs : List Nat) : Prop := ∀ v σ H (Q : L2.St → Hp → Prop), g v σ H Q → g v σ H fun σ2 H2 => wipe σ2 vs = wipe σ vs ∧ Q σ2 H2
def Tgts (g : TGs) (vs : List Nat) : Prop := ∀ xs σ H (Q : L2.St → Hp → Prop), g xs σ H Q → g xs σ H fun σ2 H2 => wipe σ2 vs = wipe σ vs ∧ Q σ2 H2
theorem wipe_get {σ : L2.St} : ∀ (vs : List Nat) (i : Nat), (wipe σ vs)[i]? = if i ∈ vs then (σ[i]?).map (fun _ => none) else σ[i]?
  | [], i => by simp [wipe]
  | v :: vs, i => by
    show ((wipe σ vs).set v none)[i]? = _
    rw [List.getElem?_set, wipe_get vs i]
    by_cases h : v = i
    · subst h
      rw [if_pos rfl, if_pos List.mem_cons_self]
      by_cases hl : v < (wipe σ vs).length
      · rw [if_pos hl]
        rw [wipe_length] at hl
        rw [List.getElem?_eq_getElem hl] <;> rfl
      · rw [if_neg hl]
        rw [wipe_length] at hl
        rw [List.getElem?_eq_none (by omega)] <;> rfl
    · rw [if_neg h]
      by_cases hm : i ∈ vs
      · rw [if_pos hm, if_pos (List.mem_cons_of_mem _ hm)]
      · rw [if_neg hm, if_neg (fun z => by rcases List.mem_cons.mp z with z | z; exact h z.symm; exact hm z)]
theorem wipe_set {σ : L2.St} {j : Nat} {o : Option V} {vs : List Nat} (h : j ∈ vs) : wipe (σ.set j o) vs = wipe σ vs := by
  refine List.ext_getElem? fun i => ?_
  rw [wipe_get, wipe_get, List.getElem?_set]
  by_cases hi : i ∈ vs
  · rw [if_pos hi, if_pos hi]
    by_cases hj : j = i
    · subst hj
      rw [if_pos rfl]
      by_cases hl : j < σ.length
      · rw [if_pos hl, List.getElem?_eq_getElem hl] <;> rfl
      · rw [if_neg hl, List.getElem?_eq_none (by omega)]
    · rw [if_neg hj]
  · have hne : ¬ j = i := fun z => hi (z ▸ h)
    rw [if_neg hi, if_neg hi, if_neg hne]
theorem tgt_name {j : Nat} {vs : List Nat} (h : j ∈ vs) : Tgt (gName j) vs := fun v σ H Q q => ⟨wipe_set h, q⟩
theorem tgt_nil {vs : List Nat} : Tgts gNil vs := fun xs σ H Q q => ⟨q.1, rfl, q.2⟩
theorem TGs_mono {g : TGs} {vs : List Nat} (h : Tgts g vs) {xs : List V} {σ : L2.St} {H : Hp} {Q : L2.St → Hp → Prop} (q : g xs σ H Q) : g xs σ H fun σ2 H2 => wipe σ2 vs = wipe σ vs ∧ Q σ2 H2 := h xs σ H Q q
theorem tgt_cons1 {j : Nat} {gs : TGs} {vs : List Nat} (h : j ∈ vs) (hs : Tgts gs vs) : Tgts (gCons (gName j) gs) vs := fun xs σ H Q q => by
  obtain ⟨v, r, rfl, q⟩ := q
  refine ⟨v, r, rfl, ?_⟩
  have q2 := hs r (σ.set j (some v)) H Q q
  rw [wipe_set h] at q2
  exact q2
theorem tgt_tup {K : PySem.W.Frag} {n : Nat} {gs : TGs} {vs : List Nat} (h : Tgts gs vs) : Tgt (gTup K n gs) vs := fun v σ H Q q => by
  obtain ⟨a, xs, e, h1, h2, q⟩ := q
  exact ⟨a, xs, e, h1, h2, h xs σ H Q q⟩

section
variable {K : PySem.W.Frag} {W : WX} {O : List OD} {ts : List T} {P : PT'} {X : XX} {te : TE} {tt : TT}
/-- no exception may leave -/
abbrev X0 : XX := fun _ _ _ => False
theorem w_yes {PB' : PB} (k : PB' true O) : WT K W tYes O ts PB' X := fun b A σ H Q s rs kb _ => kb true A O H k s Nxt.refl
theorem w_lc {wi : TI} {g : TG} {vs : List Nat} (hg : Tgt g vs) (h : WI K W wi O ts (fun f O1 => ∃ (n : Nat) (I : Nat → List D → List OD → Prop), (∀ i, i < n → f i ≠ none) ∧ f n = none ∧ I 0 [] O1 ∧ (∀ i acc O', I i acc O' → O'.length = O1.length) ∧
      (∀ i t acc O', i < n → f i = some t → I i acc O' → WG K W g t (O' ++ [.lst acc]) (wipeT ts vs) (fun ts2 O2 => WT K W tt O2 ts2 (fun c O3 =>
        (c = true → WE K W te O3 ts2 (fun y O4 => ∃ d O5, y = .v d ∧ O4 = O5 ++ [.lst acc] ∧ acc.length < sizeLine ∧ I (i + 1) (acc ++ [d]) O5) X0) ∧ (c = false → ∃ O5, O3 = O5 ++ [.lst acc] ∧ I (i + 1) acc O5)) X0)) ∧
      (∀ acc O', I n acc O' → P (.v (.lst acc)) O')) X) : WE K W (tLc wi g tt te vs) O ts P X := fun b A σ H Q s rs kv kx =>
  h b A σ H _ s rs (fun J f A1 O1 H1 p s1 n1 fc => by
    obtain ⟨n, I, hf, hn, h0, hlen, hs, hd⟩ := p
    intro Dl hD
    obtain ⟨s2, n2⟩ := s1.own (u := .lst []) (o := .lst []) hD ⟨[], upd_same, rfl⟩
    have at_ : ∀ {O' : List OD} {acc : List D}, O'.length = O1.length → (O' ++ [OD.lst acc])[A1.length]? = some (.lst acc) := fun {O' acc} e => by
      rw [s1.len, List.getElem?_append_right (by omega), e, Nat.sub_self]
      exact rfl
    have atA : (A1 ++ [Dl])[A1.length]? = some Dl := by
      rw [List.getElem?_append_right (Nat.le_refl _), Nat.sub_self]
      exact rfl
    refine ⟨fun i m H' => m = n - i ∧ i ≤ n ∧ ∃ acc O', I i acc O' ∧ StO K b (A1 ++ [Dl]) (O' ++ [.lst acc]) H' ∧ Nxt b A1 O1 H1 (A1 ++ [Dl]) (O' ++ [.lst acc]) H', ⟨n, by omega, Nat.zero_le _, [], O1, h0, s2, n2⟩, ?_⟩
    rintro i m H' ⟨rfl, hi, acc, O', hI, s', n'⟩
    have hl := hlen i acc O' hI
    obtain ⟨c1, c2⟩ := fc i _ _ H' s' n'
    by_cases hlt : i < n
    · right
      obtain ⟨t, ht⟩ := Option.ne_none_iff_exists'.mp (hf i hlt)
      obtain ⟨hgo, hy⟩ := c2 t ht
      refine ⟨hgo, fun H2 => ∃ acc2 O2, I (i + 1) acc2 O2 ∧ StO K b (A1 ++ [Dl]) (O2 ++ [.lst acc2]) H2 ∧ Nxt b A1 O1 H1 (A1 ++ [Dl]) (O2 ++ [.lst acc2]) H2, fun H2 q => ⟨n - (i + 1), by omega, rfl, hlt, q⟩, fun x H3 y => ?_⟩
      obtain ⟨s3, n3, r3⟩ := hy x H3 y
      have rsw : RepS K (Fz b (A1 ++ [Dl]) (O' ++ [.lst acc]) H3) (A1 ++ [Dl]) (wipeT ts vs) (wipe σ vs) := repS_wipe (rs.nxt ((n1.trans n').trans n3)) vs
      have key := hs i t acc O' hlt ht hI b (A1 ++ [Dl]) (wipe σ vs) H3 (fun σ2 H2 => tt σ2 H2 fun c H4 => if c = true then te σ2 H4 fun y H5 => ∃ acc, H5 Dl = some (.lst acc) ∧ acc.length < sizeLine ∧ ∃ acc2 O2, I (i + 1) acc2 O2 ∧ StO K b (A1 ++ [Dl]) (O2 ++ [.lst acc2]) (upd H5 Dl (.lst (acc ++ [y]))) ∧ Nxt b A1 O1 H1 (A1 ++ [Dl]) (O2 ++ [.lst acc2]) (upd H5 Dl (.lst (acc ++ [y])))
        else ∃ acc2 O2, I (i + 1) acc2 O2 ∧ StO K b (A1 ++ [Dl]) (O2 ++ [.lst acc2]) H4 ∧ Nxt b A1 O1 H1 (A1 ++ [Dl]) (O2 ++ [.lst acc2]) H4) x s3 rsw r3 fun ts4 σ4 A4 O4 H4 p4 s4 n4 rs4 => ?_
      · have k2 := hg x (wipe σ vs) H3 _ key
        have ww : wipe (wipe σ vs) vs = wipe σ vs := by
          refine List.ext_getElem? fun i => ?_
          rw [wipe_get, wipe_get]
          by_cases hi : i ∈ vs
          · rw [if_pos hi, if_pos hi]
            cases σ[i]? <;> rfl
          · rw [if_neg hi, if_neg hi]
        rw [ww] at k2
        exact k2
      · have n14 := (n'.trans n3).trans n4
        refine p4 b A4 σ4 H4 _ s4 rs4 (fun c A5 O5 H5 p5 s5 n5 => ?_) (fun C fs A' O' H' d z => z.elim)
        have n15 := n14.trans n5
        have prefixA : ∀ {A6 O6 H6}, Nxt b A1 O1 H1 A6 O6 H6 → Nxt b (A1 ++ [Dl]) (O' ++ [.lst acc]) H' A6 O6 H6 → StO K b A6 O6 H6 → O6.length = O1.length + 1 → A6 = A1 ++ [Dl] := fun {A6 O6 H6} n6 m6 s6 l6 => by
          obtain ⟨M, e⟩ := m6.pre
          have l7 := s6.len
          rw [e, List.length_append, List.length_append, s1.len] at l7
          have : M.length = 0 := by
            simp only [List.length_singleton] at l7
            omega
          rw [e, List.length_eq_zero_iff.mp this, List.append_nil]
        cases c with
        | true =>
          refine iteT (p5.1 rfl b A5 σ4 H5 _ s5 (rs4.nxt n5) (fun y v A6 O6 H6 p6 s6 n6 r6 => ?_) (fun C fs A' O' H' d z => z.elim))
          obtain ⟨d, O7, rfl, rfl, hz, hI2⟩ := p6
          have hl7 := hlen _ _ _ hI2
          have eA := prefixA (n'.trans (((n3.trans n4).trans n5).trans n6)) (((n3.trans n4).trans n5).trans n6) s6 (by rw [List.length_append, hl7] <;> rfl)
          subst eA
          obtain ⟨us, h1, h2⟩ := s6.cell A1.length Dl _ atA (at_ hl7)
          obtain ⟨w, e2, rd⟩ := r6
          cases e2
          refine ⟨us, h1, by rw [h2.length]; exact hz, acc ++ [d], O7, hI2, ?_⟩
          obtain ⟨s8, n8⟩ := s6.put (w := .lst (us ++ [v])) (o := .lst (acc ++ [d])) atA (at_ hl7) (fun z => by cases z) (fun z => by cases z) ⟨_, upd_same, h2.append ⟨v, [], rfl, rd, rfl⟩⟩
          have es : (O7 ++ [OD.lst acc]).set A1.length (.lst (acc ++ [d])) = O7 ++ [.lst (acc ++ [d])] := by
            rw [s1.len, ← hl7, List.set_append_right _ _ (Nat.le_refl _), Nat.sub_self]
            exact rfl
          rw [es] at s8 n8
          exact ⟨s8, n'.trans ((((n3.trans n4).trans n5).trans n6).trans n8)⟩
        | false =>
          refine iteF ?_
          obtain ⟨O7, rfl, hI2⟩ := p5.2 rfl
          have hl7 := hlen _ _ _ hI2
          have eA := prefixA (n'.trans ((n3.trans n4).trans n5)) ((n3.trans n4).trans n5) s5 (by rw [List.length_append, hl7] <;> rfl)
          subst eA
          exact ⟨acc, O7, hI2, s5, n'.trans ((n3.trans n4).trans n5)⟩
    · left
      have e : i = n := by omega
      subst e
      refine ⟨c1 hn hf, ?_⟩
      obtain ⟨us, h1, h2⟩ := s'.cell A1.length Dl _ atA (at_ hl)
      obtain ⟨s5, x5⟩ := s'.drop (by rw [hl]; exact s1.len) s1.pre
      have nA : Dl ∉ A1 := fun hm => (List.nodup_append.mp s'.nd).2.2 Dl hm Dl (List.mem_singleton.mpr rfl) rfl
      have nz : Dl ∉ live A1 O' ++ b.Z := fun z => by
        rcases List.mem_append.mp z with z | z
        · obtain ⟨j, o, z1, _, _⟩ := live_mem z
          exact nA (List.mem_of_getElem? z1)
        · have zz := s1.z_at (a := Dl) z
          obtain ⟨o, zz⟩ := zz.2
          rw [hD] at zz
          cases zz
      exact kv _ _ A1 O' H' (hd acc O' hI) s5 (n1.trans ⟨⟨[], (List.append_nil A1).symm⟩, n'.ext.trans x5⟩) ⟨_, rfl, Dl, us, rfl, SqL.of (hid_some.mpr ⟨nz, h1⟩), h2.ex x5⟩) kx
end

/-! ### equality of data -/
mutual
def toP : D → PyData
  | .non => .none
  | .bl b => .bool b
  | .int i => .int i
  | .str x => .str x
  | .lst ds => .list (toPs ds)
  | .tup ds => .tuple (toPs ds)
  | _ => .none
def toPs : List D → List PyData
  | [] => []
  | d :: ds => toP d :: toPs ds
end
mutual
/-- data that can be compared, of depth at most n -/
def pl : Nat → D → Bool
  | _, .non => true
  | _, .bl _ => true
  | _, .int _ => true
  | _, .str x => PyData.canLay0 (.str x)
  | n + 1, .lst ds => pls n ds
  | n + 1, .tup ds => pls n ds
  | _, _ => false
def pls : Nat → List D → Bool
  | _, [] => true
  | n, d :: ds => pl n d && pls n ds
end
mutual
theorem rep_dp {K : PySem.W.Frag} {H : Hp} : ∀ (n : Nat) (d : D) {v : V}, pl n d = true → Rep K H d v → Dp K H v (toP d)
  | _, .non, _, _, r => by rw [show _ = V.non from r]; exact .non
  | _, .bl b, _, _, r => by rw [show _ = V.bl b from r]; exact .bl b
  | _, .int b, _, _, r => by rw [show _ = V.int b from r]; exact .int b
  | _, .str b, _, _, r => by rw [show _ = V.str b from r]; exact .str b
  | n + 1, .lst ds, _, h, r => by
    obtain ⟨a, vs, rfl, h1, h2⟩ := r
    exact .lst h1 (reps_dp n ds h h2)
  | n + 1, .tup ds, _, h, r => by
    obtain ⟨a, vs, rfl, h1, h2⟩ := r
    exact .tup h1 (reps_dp n ds h h2)
  | 0, .lst ds, _, h, _ => by cases h
  | 0, .tup ds, _, h, _ => by cases h
  | 0, .ins _ _, _, h, _ => by cases h
  | _ + 1, .ins _ _, _, h, _ => by cases h
  | 0, .ref _, _, h, _ => by cases h
  | _ + 1, .ref _, _, h, _ => by cases h
  | 0, .ty _, _, h, _ => by cases h
  | _ + 1, .ty _, _, h, _ => by cases h
  | 0, .dic _, _, h, _ => by cases h
  | _ + 1, .dic _, _, h, _ => by cases h
theorem reps_dp {K : PySem.W.Frag} {H : Hp} : ∀ (n : Nat) (ds : List D) {vs : List V}, pls n ds = true → RepL K H ds vs → DpAll K H vs (toPs ds)
  | _, [], _, _, r => by rw [show _ = [] from r]; exact .nil
  | n, d :: ds, _, h, r => by
    obtain ⟨v, s, rfl, r1, r2⟩ := r
    have h' : (pl n d && pls n ds) = true := h
    obtain ⟨h1, h2⟩ := Bool.and_eq_true_iff.mp h'
    exact .cons (rep_dp n d h1 r1) (reps_dp n ds h2 r2)
end
mutual
theorem pl_shape : ∀ (n : Nat) (d : D), pl n d = true → (toP d).canLay0 = true ∧ (toP d).depth ≤ n
  | _, .non, _ => ⟨by simp only [toP, PyData.canLay0], by simp only [toP, PyData.depth]; omega⟩
  | _, .bl b, _ => ⟨by simp only [toP, PyData.canLay0], by simp only [toP, PyData.depth]; omega⟩
  | _, .int b, _ => ⟨by simp only [toP, PyData.canLay0], by simp only [toP, PyData.depth]; omega⟩
  | _, .str b, h => ⟨h, by simp only [toP, PyData.depth]; omega⟩
  | n + 1, .lst ds, h => by
    obtain ⟨h1, h2⟩ := pls_shape n ds h
    exact ⟨by simp only [toP, PyData.canLay0]; exact h1, by simp only [toP, PyData.depth]; omega⟩
  | n + 1, .tup ds, h => by
    obtain ⟨h1, h2⟩ := pls_shape n ds h
    exact ⟨by simp only [toP, PyData.canLay0]; exact h1, by simp only [toP, PyData.depth]; omega⟩
  | 0, .lst ds, h => by cases h
  | 0, .tup ds, h => by cases h
  | 0, .ins _ _, h => by cases h
  | _ + 1, .ins _ _, h => by cases h
  | 0, .ref _, h => by cases h
  | _ + 1, .ref _, h => by cases h
  | 0, .ty _, h => by cases h
  | _ + 1, .ty _, h => by cases h
  | 0, .dic _, h => by cases h
  | _ + 1, .dic _, h => by cases h
theorem pls_shape : ∀ (n : Nat) (ds : List D), pls n ds = true → PyData.canLayAll0 (toPs ds) = true ∧ PyData.depthAll (toPs ds) ≤ n
  | n, [], _ => ⟨by simp only [toPs, PyData.canLayAll0], by simp only [toPs, PyData.depthAll]; omega⟩
  | n, d :: ds, h => by
    have h' : (pl n d && pls n ds) = true := h
    obtain ⟨h1, h2⟩ := Bool.and_eq_true_iff.mp h'
    obtain ⟨a1, a2⟩ := pl_shape n d h1
    obtain ⟨b1, b2⟩ := pls_shape n ds h2
    exact ⟨by simp only [toPs, PyData.canLayAll0, a1, b1, Bool.and_self], by simp only [toPs, PyData.depthAll]; omega⟩
end
theorem pl_shaped {d : D} (h : pl 60 d = true) : SeqAt.shaped (toP d) = true := by
  obtain ⟨h1, h2⟩ := pl_shape 60 d h
  unfold SeqAt.shaped
  rw [h1, decide_eq_true (by omega)] <;> rfl
def eqD (d e : D) : Bool := PyData.eqv (toP d) (toP e)
/-- a value, or an owned list, as data -/
def ValD (x : T) (O : List OD) (d : D) : Prop := x = .v d ∨ ∃ i ds, x = .own i ∧ O[i]? = some (.lst ds) ∧ d = .lst ds
theorem valD_v {O : List OD} {d : D} : ValD (.v d) O d := .inl rfl
theorem valD_o {O : List OD} {i : Nat} {ds : List D} (h : O[i]? = some (.lst ds)) : ValD (.own i) O (.lst ds) := .inr ⟨i, ds, rfl, h, rfl⟩
theorem valD_dp {K : PySem.W.Frag} {b : Bs} {A : List Addr} {O : List OD} {H : Hp} {x : T} {d : D} {v : V} (hp : pl 60 d = true) (h : ValD x O d) (s : StO K b A O H) (r : RepT K (Fz b A O H) A x (some v)) : Dp K H v (toP d) := by
  rcases h with rfl | ⟨i, ds, rfl, ho, rfl⟩
  · obtain ⟨_, e, r⟩ := r
    cases e
    exact rep_dp 60 d hp (r.ex hid_ex)
  · obtain ⟨a, ha, e⟩ := r
    cases e
    obtain ⟨vs, h1, h2⟩ := s.cell i a _ ha ho
    have h2' : RepL K H ds vs := h2.ex hid_ex
    exact rep_dp 60 (.lst ds) hp ⟨a, vs, rfl, SqL.of h1, h2'⟩
section
variable {K : PySem.W.Frag} {W : WX} {O : List OD} {ts : List T} {P : PT'} {X : XX} {te : TE} {tr : TA}
theorem w_eqD {x y : T} {d e : D} (hx : ValD x O d) (hy : ValD y O e) (h1 : pl 60 d = true) (h2 : pl 60 e = true) (k : P (.v (.bl (eqD d e))) O) : WR K (rEqD K) x y O P := fun b A H Q v u s r1 r2 kv =>
  ⟨toP d, toP e, valD_dp h1 hx s r1, valD_dp h2 hy s r2, pl_shaped h1, pl_shaped h2, kv _ _ A O H k s Nxt.refl ⟨_, rfl, rfl⟩⟩
theorem w_neD {x y : T} {d e : D} (hx : ValD x O d) (hy : ValD y O e) (h1 : pl 60 d = true) (h2 : pl 60 e = true) (k : P (.v (.bl (!eqD d e))) O) : WR K (rNeD K) x y O P := fun b A H Q v u s r1 r2 kv =>
  ⟨toP d, toP e, valD_dp h1 hx s r1, valD_dp h2 hy s r2, pl_shaped h1, pl_shaped h2, kv _ _ A O H k s Nxt.refl ⟨_, rfl, rfl⟩⟩
/-! is None -/
def isNon : D → Bool
  | .non => true
  | _ => false
theorem isNon_v {F : Hp} {d : D} {v : V} (r : Rep K F d v) : decide (v = .non) = isNon d := by
  cases d with
  | non => rw [show v = .non from r] <;> rfl
  | bl b => rw [show v = .bl b from r] <;> rfl
  | int b => rw [show v = .int b from r] <;> rfl
  | str b => rw [show v = .str b from r] <;> rfl
  | ty b => rw [show v = .ty b from r] <;> rfl
  | ref b => rw [show v = .ref b from r] <;> rfl
  | lst ds =>
    obtain ⟨a, vs, rfl, _⟩ := r
    rfl
  | tup ds =>
    obtain ⟨a, vs, rfl, _⟩ := r
    rfl
  | ins C fs =>
    obtain ⟨a, dx, vs, rfl, _⟩ := r
    rfl
  | dic kvs =>
    obtain ⟨a, vs, rfl, _⟩ := r
    rfl
theorem w_isN {d : D} (k : P (.v (.bl (isNon d))) O) : WR K rIsN (.v d) (.v .non) O P := fun b A H Q v u s r1 r2 kv => by
  obtain ⟨_, e1, q1⟩ := r1
  obtain ⟨_, e2, rfl⟩ := r2
  cases e1
  cases e2
  refine ⟨rfl, ?_⟩
  rw [isNon_v q1]
  exact kv _ _ A O H k s Nxt.refl ⟨_, rfl, rfl⟩
theorem w_notN {d : D} (k : P (.v (.bl (!isNon d))) O) : WR K rNotN (.v d) (.v .non) O P := fun b A H Q v u s r1 r2 kv => by
  obtain ⟨_, e1, q1⟩ := r1
  obtain ⟨_, e2, rfl⟩ := r2
  cases e1
  cases e2
  refine ⟨rfl, ?_⟩
  rw [isNon_v q1]
  exact kv _ _ A O H k s Nxt.refl ⟨_, rfl, rfl⟩
/-! slices of tuples, sums of lists and tuples, stars -/
theorem cutV_whole {xs : List V} {lo hi : Option Int} (h : HT.sIx xs.length 0 lo = 0 ∧ HT.sIx xs.length xs.length hi = xs.length) : cutV xs lo hi = xs := by
  unfold cutV
  rw [h.1, h.2, Nat.sub_zero, List.drop_zero, List.take_length]
theorem w_slT {tl th : TO} (h : WE K W te O ts (fun x O1 => WO K W tl O1 ts (fun lo O2 => WO K W th O2 ts (fun hi O3 => ∃ ds, x = .v (.tup ds) ∧ P (.v (.tup (cutD ds lo hi))) O3) X) X) X) : WE K W (tSl (rSlA K) te tl th) O ts P X := fun b A σ H Q s rs kv kx =>
  h b A σ H _ s rs (fun x v A1 O1 H1 p1 s1 n1 r1 => p1 b A1 σ H1 _ s1 (rs.nxt n1) (fun lo A2 O2 H2 p2 s2 n2 => p2 b A2 σ H2 _ s2 (rs.nxt (n1.trans n2)) (fun hi A3 O3 H3 p3 s3 n3 => by
    obtain ⟨ds, rfl, p⟩ := p3
    have r3 := r1.nxt (n2.trans n3)
    obtain ⟨_, e3, a, vs, rfl, h1, h2⟩ := r3
    cases e3
    refine ⟨a, vs, rfl, (hid_ex : Ex (Fz b A3 O3 H3) H3).t h1, fun hw => ?_, fun _ p' hp => ?_⟩
    · have c := cut_rep h2 lo hi
      rw [cutV_whole hw] at c
      exact kv _ _ A3 O3 _ p s3 ((n1.trans n2).trans n3) ⟨_, rfl, a, vs, rfl, h1, c⟩
    · obtain ⟨s4, n4, q⟩ := s3.lay hp (.tup (cutV vs lo hi))
      exact kv _ _ A3 O3 _ p s4 (((n1.trans n2).trans n3).trans n4) ⟨_, rfl, p', _, rfl, SqT.of q, (cut_rep h2 lo hi).ex n4.ext⟩) (kx.nxt (n1.trans n2))) (kx.nxt n1)) kx
theorem w_catT {ds es : List D} (hz : ds.length + es.length ≤ sizeLine) (k : P (.v (.tup (ds ++ es))) O) : WR K (rCatA K) (.v (.tup ds)) (.v (.tup es)) O P := fun b A H Q v u s r1 r2 kv => by
  obtain ⟨_, e1, a, vs, rfl, h1, h2⟩ := r1
  obtain ⟨_, e2, c, us, rfl, h3, h4⟩ := r2
  cases e1
  cases e2
  have x : Ex (Fz b A O H) H := hid_ex
  refine ⟨a, c, vs, us, rfl, rfl, x.t h1, x.t h3, by rw [h2.length, h4.length]; exact hz, fun e => ?_, fun _ e => ?_, fun _ _ p hp => ?_⟩
  · subst e
    have e0 : ds = [] := List.length_eq_zero_iff.mp h2.length.symm
    subst e0
    exact kv _ _ A O H k s Nxt.refl ⟨_, rfl, c, us, rfl, h3, h4⟩
  · subst e
    have e0 : es = [] := List.length_eq_zero_iff.mp h4.length.symm
    subst e0
    rw [List.append_nil] at k
    exact kv _ _ A O H k s Nxt.refl ⟨_, rfl, a, vs, rfl, h1, h2⟩
  · obtain ⟨s4, n4, q⟩ := s.lay hp (.tup (vs ++ us))
    exact kv _ _ A O _ k s4 n4 ⟨_, rfl, p, _, rfl, SqT.of q, (h2.append h4).ex n4.ext⟩
theorem repTs_app {F : Hp} {A : List Addr} {ys : List T} {us : List V} (q : RepTs K F A ys us) : ∀ {ds : List D} {vs : List V}, RepL K F ds vs → RepTs K F A (ds.map T.v ++ ys) (vs ++ us)
  | [], _, h => by
    rw [show _ = [] from h]
    exact q
  | d :: ds, _, h => by
    obtain ⟨v, r, rfl, h1, h2⟩ := h
    exact ⟨v, r ++ us, rfl, ⟨v, rfl, h1⟩, repTs_app q h2⟩
/-- *xs in a display or a call -/
theorem w_star {PL' : PL} (h : WE K W te O ts (fun x O1 => ∃ ds, (ValD x O1 (.lst ds) ∨ x = .v (.tup ds)) ∧ WA K W tr O1 ts (fun ys O2 => PL' (ds.map T.v ++ ys) O2) X) X) : WA K W (StX.tStar K te tr) O ts PL' X := fun b A σ H Q s rs kl kx =>
  h b A σ H _ s rs (fun x v A1 O1 H1 p1 s1 n1 r1 => by
    obtain ⟨ds, hx, p⟩ := p1
    have key : ∃ a vs, v = .ref a ∧ (SqT K H1 a vs ∨ SqL K H1 a vs) ∧ RepL K (Fz b A1 O1 H1) ds vs := by
      rcases hx with hx | rfl
      · have hx' : LstD x O1 ds := by
          rcases hx with rfl | ⟨i, es, rfl, ho, e⟩
          · exact .inl rfl
          · cases e
            exact .inr ⟨i, rfl, ho⟩
        obtain ⟨a, vs, e, h1, h2⟩ := lstD_at hx' s1 r1
        exact ⟨a, vs, e, .inr h1, h2⟩
      · obtain ⟨a, vs, e, h1, h2⟩ := tupD_at (hid_ex : Ex (Fz b A1 O1 H1) H1) r1
        exact ⟨a, vs, e, .inl h1, h2⟩
    obtain ⟨a, vs, rfl, h1, h2⟩ := key
    refine ⟨a, vs, rfl, h1, p b A1 σ H1 _ s1 (rs.nxt n1) (fun ys us A2 O2 H2 p2 s2 n2 r2 => kl _ _ A2 O2 H2 p2 s2 (n1.trans n2) ?_) (kx.nxt n1)⟩
    exact repTs_app r2 (h2.ex n2.ext)) kx
end
end G

set_option Elab.async false
set_option linter.all false
set_option maxRecDepth 100000
set_option maxHeartbeats 4000000
namespace G
open PySem PySem.Spec PyProof.Rows L2

/-! ### enumerate(x), x told by how its iterator begins -/
set_option maxHeartbeats 4000000 in
theorem meets_enum1 {v : Value} {o : Obj} {H : Heap → Prop} (B : Begins v o H) :
    Meets (Builtin.«enumerate.__new__» ⟨[.type "enumerate", v], []⟩) (fun _ R s => H s.heap ∧
      R (.ok (.ret (.ref (s.heap.push o).objs.size))) { s with heap := (s.heap.push o).push { cls := .type "enumerate", data := .fields #[.none, .bool false, .ref s.heap.objs.size, rawInt 0, .none, .none] } }) :=
  .of_wp fun prog w A R s h => by
    obtain ⟨hp, g, d, tk, os⟩ := s
    obtain ⟨h1, h⟩ := h
    have hsub := sub_enumerate
    have go : ∀ {A' : Around} {E : Value → Shared → Prop} {Q : Value → Shared → Prop}, Q (.ref hp.objs.size) ⟨hp.push o, g, d, tk, os⟩ → wpAny (model prog w) A' (pyIter v) Q E ⟨hp, g, d, tk, os⟩ :=
      fun q => B.iter prog w _ _ ⟨hp, g, d, tk, os⟩ _ h1 q
    wp_walk using go
    refine wpAny_stack_any fun st => wpAny_pure ?_
    split
    · rename_i c _ _ _ _ _
      cases (c == Value.type "enumerate") <;> (wp_walk using go; exact ⟨_, rfl, h⟩)
    · wp_walk using go
      exact ⟨_, rfl, h⟩
theorem call_enum1 {prog : Program} {w : World} {A : Around} {E : Value → Shared → Prop} {s : Shared} {v : Value} {o : Obj} {H : Heap → Prop} {Q : Value → Shared → Prop} (B : Begins v o H) (h1 : H s.heap)
    (h : ∀ h', IsEnum h' (s.heap.objs.size + 1) s.heap.objs.size 0 .none → h'.get? s.heap.objs.size = some o → (∀ b u, s.heap.get? b = some u → h'.get? b = some u) → Q (.ref (s.heap.objs.size + 1)) { s with heap := h' }) :
    wpAny (model prog w) A (call (.type "enumerate") [v]) Q E s := by
  refine callType_new F.called_enumerate (by decide) (F.typeCall_enumerate_1 _) (F.newCall_enumerate_1 _) (fun obj => F.args_object_init_2 obj _) F.entry_enumerate_new (meets_enum1 B) ⟨h1, ?_⟩
  have hz : (s.heap.push o).objs.size = s.heap.objs.size + 1 := Heap.size_push ..
  show _ ∧ _
  rw [hz]
  have he : IsEnum ((s.heap.push o).push { cls := .type "enumerate", data := .fields #[.none, .bool false, .ref s.heap.objs.size, rawInt 0, .none, .none] }) (s.heap.objs.size + 1) s.heap.objs.size 0 .none := by
    have q := Heap.get?_push_size (s.heap.push o) (o := { cls := .type "enumerate", data := .fields #[.none, .bool false, .ref s.heap.objs.size, rawInt 0, .none, .none] }) rfl
    rw [hz] at q
    exact q
  exact ⟨⟨_, he, rfl⟩, h _ he (Heap.get?_push_of_some _ (Heap.get?_push_size _ B.free)) fun b u x => Heap.get?_push_of_some _ (Heap.get?_push_of_some _ x)⟩
/-- the tuple at a, each item in a new pair -/
def IteT (K : PySem.W.Frag) (a : Addr) : It where
  go := fun i H => ∃ (xs : List V) (x : V), SqT K H a xs ∧ xs[i]? = some x
  yld := fun i H v H' => ∃ p x, v = .ref p ∧ H p = none ∧ H' = upd H p (.tup [.int (i : Nat), x]) ∧ ∀ xs, SqT K H a xs → xs[i]? = some x
  stop := fun i H => ∃ xs : List V, SqT K H a xs ∧ xs.length = i
theorem turn_enumT {P : Program} {w : World} {K : PySem.W.Frag} {elts : List Expr} {kk : Nat} {tpos : Pos} (a e it : Addr) (hae : a ≠ e) (hai : a ≠ it) :
    Turn P w K (.Tuple elts kk tpos) (IteT K a) [e, it] e (fun i h => (∃ old, IsEnum h e it ((i : Nat) : Int) old) ∧ h.IsTupleIter it a i ∧ e ≠ it) where
  mem := by simp
  obj := fun i h st b hb => by
    obtain ⟨⟨old, he⟩, ⟨o, ho, hc, hd⟩, _⟩ := st
    rcases (show b = e ∨ b = it by simpa using hb) with z | z
    · subst z
      exact ⟨_, he, fun v q => nomatch q⟩
    · subst z
      exact ⟨o, ho, fun v q => by rw [hd] at q; cases q⟩
  keep := fun i h h' st k => by
    obtain ⟨⟨old, he⟩, ⟨o, ho, r⟩, hne⟩ := st
    exact ⟨⟨old, k e (by simp) _ he⟩, ⟨o, k it (by simp) _ ho, r⟩, hne⟩
  item := by
    intro X hP hw hK hc i pins s σ H E I hf st hg
    subst hP hw hK
    obtain ⟨⟨old, he⟩, hit, hne⟩ := st
    obtain ⟨xs, x, hq, hx⟩ := hg
    obtain ⟨its, rv, p, hz⟩ := I.tuple hq
    obtain ⟨u, hu, ru⟩ := rv.get hx
    have hel : e < s.heap.objs.size := Heap.lt_size he
    have hil : it < s.heap.objs.size := by
      obtain ⟨_, q, _⟩ := hit
      exact Heap.lt_size q
    have hi : i < its.toArray.size := by
      rw [List.size_toArray]
      exact (List.getElem?_eq_some_iff.mp hu).1
    have D := Draws.tuple (prog := X.prog) (w := X.w) (A := X.A.in1) (I.ok.hd hc) it a hai its.toArray
    refine wpAny_pyNext_enum_itemC D he ⟨hit, p⟩ hi hne (by simp only [List.mem_cons, List.not_mem_nil, or_false, not_or]; exact ⟨hne, Ne.symm hae⟩) fun x' h' tk hx' ho hst hT hsz hk => ?_
    have ex : x' = u := by
      have q : its.toArray[i]? = some x' := hx'
      rw [List.getElem?_toArray, hu] at q
      exact (Option.some.inj q).symm
    subst ex
    refine ⟨_, rfl, wpAny_letOwnedTupleGo_enum (s := { s with heap := h', toks := tk + 1 }) ho fun h'' he' sb => ?_⟩
    have hT2 : h''.get? s.heap.objs.size = some { cls := .type "tuple", data := .seq #[.int i tk, x'] } := (sb.2 _ (Nat.ne_of_gt hel)).trans hT
    have new : ObjOk X.prog X.w (upd H s.heap.objs.size (.tup [.int (i : Nat), x])) h'' s.heap.objs.size (.tup [.int (i : Nat), x]) :=
      ⟨by show 2 ≤ sizeLine; decide, [.int i tk, x'], .cons ⟨_, rfl⟩ (.cons ru .nil), ⟨_, hT2, rfl, _, rfl⟩⟩
    have I1 : Inv X pins σ (upd H s.heap.objs.size (.tup [.int (i : Nat), x])) { s with heap := h'', toks := tk + 1 } :=
      I.turnedNew (ch := [e, it]) (fun b ob hb q => (sb.2 b (fun z => hb (by simp [z]))).trans (hk b ob (fun z => hb (by simp [z])) (fun z => hb (by simp [z])) q)) hf (Nat.le_refl _) new
    refine ⟨.ref s.heap.objs.size, _, I1, rfl, ⟨_, x, rfl, I.hok.fresh (Nat.le_refl _), rfl, fun ys hy => by rw [I.tuple_inj hy hq]; exact hx⟩, ⟨⟨x', ?_⟩, ?_, hne⟩, fun b hb => ?_⟩
    · have e1 : ((i + 1 : Nat) : Int) = (i : Int) + 1 := by omega
      rw [e1]
      exact he'
    · obtain ⟨o, ho2, r⟩ := hst.1
      exact ⟨o, (sb.2 it (Ne.symm hne)).trans ho2, r⟩
    · have hb' : b < s.heap.objs.size := by
        rcases (show b = e ∨ b = it by simpa using hb) with z | z
        · rw [z]; exact hel
        · rw [z]; exact hil
      rw [upd_ne (Nat.ne_of_lt hb')]
      exact (hf b hb).1
  done := by
    intro X hP hw hK hc i pins s σ H E I hf st hg
    subst hP hw hK
    obtain ⟨⟨old, he⟩, hit, hne⟩ := st
    obtain ⟨xs, hq, hx⟩ := hg
    obtain ⟨its, rv, p, hz⟩ := I.tuple hq
    obtain ⟨f0, f1, f2, f3, f4, f5⟩ := hf it (by simp)
    have hl := rv.length
    have D := Draws.tuple (prog := X.prog) (w := X.w) (A := X.A.in1) (I.ok.hd hc) it a hai its.toArray
    have hii : i = its.toArray.size := by
      rw [List.size_toArray]
      omega
    subst hii
    exact wpAny_pyNext_enum_endD D he ⟨hit, p⟩ fun h' eb => ⟨rfl, I.turned (t' := s.toks) (fun b o hb q => eb b o hb q) f0 f1 f3 f4 f5⟩
  self := fun A i s Q E st h => let ⟨⟨_, he⟩, _⟩ := st; wpAny_pyIter_enum he h

def iEnumT (K : PySem.W.Frag) (ta : TA) : TI := fun σ H R => ta σ H fun vs H1 => ∃ a xs, vs = [.ref a] ∧ SqT K H1 a xs ∧ R (IteT K a) H1
theorem pi_enumT {X : Cx} {e : Expr} {ta : TA} {p pos tpos : Pos} {elts : List Expr} {kk : Nat} (hg : Gl X "enumerate") (hm : X.mg "enumerate" = none) (ha : PA X [e] ta) (hs : starEach [e] X.env = [(false, eval e X.env)] := by rfl) :
    PI X (.Tuple elts kk tpos) (.Call (.Name "enumerate" p) [e] [] pos) (iEnumT X.K ta) := by
  refine ⟨fun pins s σ H R I h => ?_⟩
  refine Call_ (ld_blt I hg hm boot_enumerate (PyProof.Rows.callWith_type1 (thn (ha.run pos pins s σ H _ I h) fun us s1 ⟨vs, H1, I1, r1, q1⟩ => ?_) hs rfl))
  obtain ⟨a, xs, ex, hq, q⟩ := q1
  subst ex
  obtain rfl : us = [Value.ref a] := Vals.ref1 r1
  obtain ⟨its, rv, p', hz⟩ := I1.tuple hq
  have la : a < s1.heap.objs.size := by
    obtain ⟨o, ho, _⟩ := p'
    exact Heap.lt_size ho
  refine call_enum1 (begins_tuple a its.toArray) p' fun h' he hit hk => wpAny_pyIter_enum he ?_
  have I2 : Inv X pins σ H1 { s1 with heap := h' } := I1.kept (t' := s1.toks) hk
  refine ⟨s1.heap.objs.size + 1, [s1.heap.objs.size + 1, s1.heap.objs.size], _, _, H1, rfl, I2, turn_enumT a (s1.heap.objs.size + 1) s1.heap.objs.size (Nat.ne_of_lt (Nat.lt_succ_of_lt la)) (Nat.ne_of_lt la), ⟨⟨.none, he⟩, ⟨_, hit, rfl, rfl⟩, Nat.succ_ne_self _⟩, fun b hb => ?_, q⟩
  have hle : s1.heap.objs.size ≤ b := by
    rcases (show b = s1.heap.objs.size + 1 ∨ b = s1.heap.objs.size by simpa using hb) with z | z
    · rw [z]; exact Nat.le_add_right _ _
    · rw [z]; exact Nat.le_refl _
  exact I1.fpOk hle (I1.hok.fresh hle)

section
variable {K : PySem.W.Frag} {W : WX} {O : List OD} {ts : List T} {X : XX} {ta : TA}
def itE (ds : List D) : Nat → Option T := fun i => (ds[i]?).map fun d => T.v (.tup [.int (i : Nat), d])
theorem itE_none {ds : List D} {i : Nat} (h : itE ds i = none) : ds.length ≤ i := by
  unfold itE at h
  cases q : ds[i]? with
  | none => exact List.getElem?_eq_none_iff.mp q
  | some d =>
    rw [q] at h
    cases h
theorem itE_some {ds : List D} {i : Nat} {t : T} (h : itE ds i = some t) : ∃ d, ds[i]? = some d ∧ t = .v (.tup [.int (i : Nat), d]) := by
  unfold itE at h
  cases q : ds[i]? with
  | none =>
    rw [q] at h
    cases h
  | some d =>
    rw [q] at h
    exact ⟨d, rfl, (Option.some.inj h).symm⟩
theorem itE_len {ds : List D} {i : Nat} (h : itE ds i = none) (hj : ∀ j, j < i → itE ds j ≠ none) : ds.length = i := by
  have h1 := itE_none h
  by_cases e : ds.length = i
  · exact e
  · exact absurd (by unfold itE; rw [List.getElem?_eq_none (Nat.le_refl _)] <;> rfl) (hj ds.length (by omega))
theorem pair_laid {b : Bs} {A : List Addr} {H : Hp} {p : Addr} {x y : V} {d e : D} (s : StO K b A O H) (hp : H p = none) (r1 : Rep K (Fz b A O H) d x) (r2 : Rep K (Fz b A O H) e y) :
    StO K b A O (upd H p (.tup [x, y])) ∧ Nxt b A O H A O (upd H p (.tup [x, y])) ∧ RepT K (Fz b A O (upd H p (.tup [x, y]))) A (.v (.tup [d, e])) (some (.ref p)) := by
  obtain ⟨s2, n2, q⟩ := s.lay hp (.tup [x, y])
  exact ⟨s2, n2, _, rfl, p, _, rfl, SqT.of q, x, [y], rfl, r1.ex n2.ext, y, [], rfl, r2.ex n2.ext, rfl⟩
theorem i_enumL {S : (Nat → Option T) → List OD → Prop} (h : WA K W ta O ts (fun xs O' => ∃ ds, xs = [.v (.lst ds)] ∧ S (itE ds) O') X) : WI K W (iEnum K ta) O ts S X := fun b A σ H R s rs k kx =>
  h b A σ H _ s rs (fun xs vs A' O' H' p s' n' r' => by
    obtain ⟨ds, rfl, q⟩ := p
    obtain ⟨v, _, rfl, ⟨_, e, a, us, rfl, h1, h2⟩, rfl⟩ := r'
    cases e
    refine ⟨a, us, rfl, hid_ex.l h1, k _ _ A' O' H' q s' n' fun i A2 O2 H2 s2 n2 => ⟨fun hn _ => ⟨us, hid_ex.l (n2.ext.l h1), by rw [h2.length]; exact itE_none hn⟩, fun t ht => ?_⟩⟩
    obtain ⟨d, e1, rfl⟩ := itE_some ht
    obtain ⟨v, e2, r⟩ := h2.get e1
    have h2' : SqL K H2 a us := hid_ex.l (n2.ext.l h1)
    refine ⟨⟨us, v, h2', e2⟩, fun x H3 y => ?_⟩
    obtain ⟨p, w, rfl, hp, rfl, y⟩ := y
    have e4 : w = v := Option.some.inj ((y us h2').symm.trans e2)
    subst e4
    exact pair_laid s2 hp (d := .int (i : Nat)) (by exact rfl) (r.ex n2.ext)) kx
theorem i_enumT {S : (Nat → Option T) → List OD → Prop} (h : WA K W ta O ts (fun xs O' => ∃ ds, xs = [.v (.tup ds)] ∧ S (itE ds) O') X) : WI K W (iEnumT K ta) O ts S X := fun b A σ H R s rs k kx =>
  h b A σ H _ s rs (fun xs vs A' O' H' p s' n' r' => by
    obtain ⟨ds, rfl, q⟩ := p
    obtain ⟨v, _, rfl, ⟨_, e, a, us, rfl, h1, h2⟩, rfl⟩ := r'
    cases e
    refine ⟨a, us, rfl, hid_ex.t h1, k _ _ A' O' H' q s' n' fun i A2 O2 H2 s2 n2 => ⟨fun hn hj => ⟨us, hid_ex.t (n2.ext.t h1), by rw [h2.length]; exact itE_len hn hj⟩, fun t ht => ?_⟩⟩
    obtain ⟨d, e1, rfl⟩ := itE_some ht
    obtain ⟨v, e2, r⟩ := h2.get e1
    have h2' : SqT K H2 a us := hid_ex.t (n2.ext.t h1)
    refine ⟨⟨us, v, h2', e2⟩, fun x H3 y => ?_⟩
    obtain ⟨p, w, rfl, hp, rfl, y⟩ := y
    have e4 : w = v := Option.some.inj ((y us h2').symm.trans e2)
    subst e4
    exact pair_laid s2 hp (d := .int (i : Nat)) (by exact rfl) (r.ex n2.ext)) kx
/-- zip of two lists, of two tuples -/
def itZ (ds es : List D) : Nat → Option T := fun i => match ds[i]?, es[i]? with
  | some d, some e => some (.v (.tup [d, e]))
  | _, _ => none
theorem itZ_none {ds es : List D} {i : Nat} (h : itZ ds es i = none) : ds.length ≤ i ∨ es.length ≤ i := by
  unfold itZ at h
  cases q : ds[i]? with
  | none => exact .inl (List.getElem?_eq_none_iff.mp q)
  | some d =>
    cases q2 : es[i]? with
    | none => exact .inr (List.getElem?_eq_none_iff.mp q2)
    | some e =>
      rw [q, q2] at h
      cases h
theorem itZ_some {ds es : List D} {i : Nat} {t : T} (h : itZ ds es i = some t) : ∃ d e, ds[i]? = some d ∧ es[i]? = some e ∧ t = .v (.tup [d, e]) := by
  unfold itZ at h
  cases q : ds[i]? with
  | none =>
    rw [q] at h
    cases h
  | some d =>
    cases q2 : es[i]? with
    | none =>
      rw [q, q2] at h
      cases h
    | some e =>
      rw [q, q2] at h
      exact ⟨d, e, rfl, rfl, (Option.some.inj h).symm⟩
theorem i_zipL {S : (Nat → Option T) → List OD → Prop} (h : WA K W ta O ts (fun xs O' => ∃ ds es, xs = [.v (.lst ds), .v (.lst es)] ∧ S (itZ ds es) O') X) : WI K W (RZ.iZipA K ta) O ts S X := fun b A σ H R s rs k kx =>
  h b A σ H _ s rs (fun xs vs A' O' H' p s' n' r' => by
    obtain ⟨ds, es, rfl, q⟩ := p
    obtain ⟨v, _, rfl, ⟨_, e, a, us, rfl, h1, h2⟩, v', _, rfl, ⟨_, e', c, ws, rfl, h3, h4⟩, rfl⟩ := r'
    cases e
    cases e'
    refine ⟨a, c, us, ws, rfl, .inl ⟨hid_ex.l h1, hid_ex.l h3, k _ _ A' O' H' q s' n' fun i A2 O2 H2 s2 n2 => ⟨fun hn _ => ⟨us, ws, hid_ex.l (n2.ext.l h1), hid_ex.l (n2.ext.l h3), by rw [h2.length, h4.length]; exact itZ_none hn⟩, fun t ht => ?_⟩⟩⟩
    obtain ⟨d, e, e1, e2, rfl⟩ := itZ_some ht
    obtain ⟨v, e3, r3⟩ := h2.get e1
    obtain ⟨v', e4, r4⟩ := h4.get e2
    have k1 : SqL K H2 a us := hid_ex.l (n2.ext.l h1)
    have k2 : SqL K H2 c ws := hid_ex.l (n2.ext.l h3)
    refine ⟨⟨us, ws, v, v', k1, k2, e3, e4⟩, fun x H3 y => ?_⟩
    obtain ⟨p, w, w', rfl, hp, rfl, y1, y2⟩ := y
    have e5 : w = v := Option.some.inj ((y1 us k1).symm.trans e3)
    have e6 : w' = v' := Option.some.inj ((y2 ws k2).symm.trans e4)
    subst e5 e6
    exact pair_laid s2 hp (r3.ex n2.ext) (r4.ex n2.ext)) kx
theorem i_zipT {S : (Nat → Option T) → List OD → Prop} (h : WA K W ta O ts (fun xs O' => ∃ ds es, xs = [.v (.tup ds), .v (.tup es)] ∧ S (itZ ds es) O') X) : WI K W (RZ.iZipA K ta) O ts S X := fun b A σ H R s rs k kx =>
  h b A σ H _ s rs (fun xs vs A' O' H' p s' n' r' => by
    obtain ⟨ds, es, rfl, q⟩ := p
    obtain ⟨v, _, rfl, ⟨_, e, a, us, rfl, h1, h2⟩, v', _, rfl, ⟨_, e', c, ws, rfl, h3, h4⟩, rfl⟩ := r'
    cases e
    cases e'
    refine ⟨a, c, us, ws, rfl, .inr ⟨hid_ex.t h1, hid_ex.t h3, k _ _ A' O' H' q s' n' fun i A2 O2 H2 s2 n2 => ⟨fun hn _ => ⟨us, ws, hid_ex.t (n2.ext.t h1), hid_ex.t (n2.ext.t h3), by rw [h2.length, h4.length]; exact itZ_none hn⟩, fun t ht => ?_⟩⟩⟩
    obtain ⟨d, e, e1, e2, rfl⟩ := itZ_some ht
    obtain ⟨v, e3, r3⟩ := h2.get e1
    obtain ⟨v', e4, r4⟩ := h4.get e2
    have k1 : SqT K H2 a us := hid_ex.t (n2.ext.t h1)
    have k2 : SqT K H2 c ws := hid_ex.t (n2.ext.t h3)
    refine ⟨⟨us, ws, v, v', k1, k2, e3, e4⟩, fun x H3 y => ?_⟩
    obtain ⟨p, w, w', rfl, hp, rfl, y1, y2⟩ := y
    have e5 : w = v := Option.some.inj ((y1 us k1).symm.trans e3)
    have e6 : w' = v' := Option.some.inj ((y2 ws k2).symm.trans e4)
    subst e5 e6
    exact pair_laid s2 hp (r3.ex n2.ext) (r4.ex n2.ext)) kx
/-! three at once; an operator on an attribute -/
theorem s_par3 {E : DE} {i j l : Nat} (h : WA K W ta O ts (fun xs O' => ∃ x y z, xs = [x, y, z] ∧ E.nx (((ts.set i x).set j y).set l z) O') (fun C fs O' => E.xe C fs ts O')) : WS K W (tPar3 i j l ta) O ts E := fun b A σ H D s rs ks =>
  h b A σ H _ s rs (fun xs vs A' O' H' p s' n' r' => by
    obtain ⟨x, y, z, rfl, q⟩ := p
    obtain ⟨v, _, rfl, r1, w', _, rfl, r2, w2, _, rfl, r3, rfl⟩ := r'
    exact ⟨v, w', w2, rfl, ks.nx _ _ A' O' H' q s' n' ((((rs.nxt n').set r1 i).set r2 j).set r3 l)⟩) (ks.kx rs)
/-! ### isinstance -/
/-- what of the text an own class must have that isinstance may look at its instances -/
structure InsTy (K : PySem.W.Frag) (C : Addr) : Prop where
  cl : Cls K C
  ha : PySem.W.findIn K (.ref C) "__class__" = some (some (.builtin "object.__class__"))
  hn : PySem.W.specialIn K (.builtin "object.__class__") "__get__" = some (some (.builtin "getset_descriptor.__get__"))
  ht : PySem.W.takesIn K (.builtin "object.__class__") = some true
  hm : PySem.W.mroIn K C (.type "object") = some true
inductive TyD (K : PySem.W.Frag) : D → Value → Prop where
  | non : TyD K .non (.type "NoneType")
  | bl (b : Bool) : TyD K (.bl b) (.type "bool")
  | int (i : Int) : TyD K (.int i) (.type "int")
  | str (x : Str) : TyD K (.str x) (.type "str")
  | lst (ds : List D) : TyD K (.lst ds) (.type "list")
  | tup (ds : List D) : TyD K (.tup ds) (.type "tuple")
  | dic (kvs : List (Key × D)) : TyD K (.dic kvs) (.type "dict")
  | ins (C : Addr) (fs : List (Str × D)) (h : InsTy K C) : TyD K (.ins C fs) (.ref C)
theorem sqL_ty {H : Hp} {a : Addr} {vs : List V} (h : SqL K H a vs) : TyX K H (.ref a) (.type "list") := by
  rcases h with (h | ⟨o, h⟩) | h
  · exact .base (.lst h)
  · exact .base (.frz h)
  · obtain ⟨o, its, n, h1, h2, _⟩ := h
    exact .kList h1 h2
theorem sqT_ty {H : Hp} {a : Addr} {vs : List V} (h : SqT K H a vs) : TyX K H (.ref a) (.type "tuple") := by
  rcases h with (h | ⟨o, h⟩) | h
  · exact .base (.tup h)
  · exact .fTuple h
  · obtain ⟨o, its, n, h1, h2, _⟩ := h
    exact .kTuple h1 h2
theorem TyD.tyX {H : Hp} {d : D} {t : Value} {v : V} (h : TyD K d t) (r : Rep K H d v) : TyX K H v t := by
  cases h with
  | non => rw [show v = .non from r]; exact .base .non
  | bl b => rw [show v = .bl b from r]; exact .base (.bl b)
  | int i => rw [show v = .int i from r]; exact .base (.int i)
  | str x => rw [show v = .str x from r]; exact .base (.str x)
  | lst ds =>
    obtain ⟨a, vs, rfl, h1, _⟩ := r
    exact sqL_ty h1
  | tup ds =>
    obtain ⟨a, vs, rfl, h1, _⟩ := r
    exact sqT_ty h1
  | dic kvs =>
    obtain ⟨a, vs, rfl, h1, _⟩ := r
    exact .base (.dK h1)
  | ins C fs h =>
    obtain ⟨a, dx, vs, rfl, h1, _⟩ := r
    exact .base (.ins h1 h.cl h.ha h.hn h.ht h.hm)
/-- a class as data -/
inductive ClsD : D → Value → Prop where
  | ty (n : String) : ClsD (.ty n) (.type n)
  | own (C : Addr) : ClsD (.ref C) (.ref C)
theorem ClsD.cls {H : Hp} {d : D} {u : Value} {v : V} (h : ClsD d u) (r : Rep K H d v) : ClsV v u := by
  cases h with
  | ty n => rw [show v = .ty n from r]; exact .ty n
  | own C => rw [show v = .ref C from r]; exact .own C
theorem c_isi {P : PT'} {d c : D} {t u : Value} {b : Bool} (ht : TyD K d t) (hc : ClsD c u) (e : PySem.W.kitOne K t u = some b) (k : P (.v (.bl b)) O) : WC K (rIsi K) [.v d, .v c] O P := fun b' A H Q vs s r kv => by
  obtain ⟨v, _, rfl, ⟨_, e1, r1⟩, w, _, rfl, ⟨_, e2, r2⟩, rfl⟩ := r
  cases e1
  cases e2
  exact ⟨v, w, t, u, b, rfl, hc.cls r2, ht.tyX (r1.ex hid_ex), e, kv _ _ A O H k s Nxt.refl ⟨_, rfl, rfl⟩⟩
/-- an owned instance -/
theorem c_isiO {P : PT'} {i : Nat} {C : Addr} {fs : List (Str × D)} {c : D} {u : Value} {b : Bool} (ho : O[i]? = some (.ins C fs)) (h : InsTy K C) (hc : ClsD c u) (e : PySem.W.kitOne K (.ref C) u = some b) (k : P (.v (.bl b)) O) : WC K (rIsi K) [.own i, .v c] O P := fun b' A H Q vs s r kv => by
  obtain ⟨v, _, rfl, ⟨a, ha, e1⟩, w, _, rfl, ⟨_, e2, r2⟩, rfl⟩ := r
  cases e1
  cases e2
  obtain ⟨dx, us, h1, _⟩ := s.cell i a _ ha ho
  exact ⟨.ref a, w, .ref C, u, b, rfl, hc.cls r2, .base (.ins h1 h.cl h.ha h.hn h.ht h.hm), e, kv _ _ A O H k s Nxt.refl ⟨_, rfl, rfl⟩⟩
/-- isinstance(x, (c1, c2)): the tuple as it can be read -/
def rIsiS (K : PySem.W.Frag) : List V → Hp → VK → Prop := fun xs H Q => ∃ (x : V) (tp : Addr) (cs : List V) (t : Value) (us : List Value) (b : Bool), xs = [x, .ref tp] ∧ SqT K H tp cs ∧ Paired ClsV cs us ∧ TyX K H x t ∧ PySem.W.kitAny K t us = some b ∧ Q (.bl b) H
theorem call_isiS {X : Cx} : CallR X (.builtin "isinstance") (rIsiS X.K) := by
  intro pins s σ H xs us Q I r h
  obtain ⟨x, tp, cs, t, ws, b, rfl, hT, k, ty, e, q⟩ := h
  obtain ⟨u1, u2, rfl, r1, r2⟩ := vals2 r
  obtain rfl : u2 = Value.ref tp := r2
  obtain ⟨P, Z, p, hx⟩ := kit_of I r1 ty
  obtain ⟨its, rv, ⟨o, h1, h2, n, h3⟩, _⟩ := I.tuple hT
  have e3 := ClsV.all k rv
  subst e3
  obtain ⟨oc, od, dt, sl⟩ := o
  simp only at h2 h3
  subst h2 h3
  exact PySem.W.kia_tup Z I.kIn p h1 e hx fun tk => ⟨.bl b, H, I.tok tk, rfl, q⟩
theorem clsDs {H : Hp} : ∀ {ds : List D} {us : List Value} {vs : List V}, Paired ClsD ds us → RepL K H ds vs → Paired ClsV vs us
  | [], _, _, .nil, r => by
    rw [show _ = [] from r]
    exact .nil
  | d :: ds, _, _, .cons h t, r => by
    obtain ⟨v, r, rfl, h1, h2⟩ := r
    exact .cons (h.cls h1) (clsDs t h2)
theorem c_isiS {P : PT'} {d : D} {cs : List D} {t : Value} {us : List Value} {b : Bool} (ht : TyD K d t) (hc : Paired ClsD cs us) (e : PySem.W.kitAny K t us = some b) (k : P (.v (.bl b)) O) : WC K (rIsiS K) [.v d, .v (.tup cs)] O P := fun b' A H Q vs s r kv => by
  obtain ⟨v, _, rfl, ⟨_, e1, r1⟩, w, _, rfl, ⟨_, e2, a, xs, rfl, h1, h2⟩, rfl⟩ := r
  cases e1
  cases e2
  exact ⟨v, a, xs, t, us, b, rfl, (hid_ex : Ex (Fz b' A O H) H).t h1, clsDs hc h2, ht.tyX (r1.ex hid_ex), e, kv _ _ A O H k s Nxt.refl ⟨_, rfl, rfl⟩⟩
end
end G

set_option Elab.async false
set_option linter.all false
set_option maxRecDepth 100000
set_option maxHeartbeats 4000000
namespace G
open PySem PySem.Spec PyProof.Rows L2
section
variable {K : PySem.W.Frag} {W : WX} {O : List OD} {ts : List T} {P : PT'} {X : XX}
theorem w_add {i j : Int} (k : P (.v (.int (i + j))) O) : WR K (rI0 fun i j => .int (i + j)) (.v (.int i)) (.v (.int j)) O P := w_I0 (d := .int (i + j)) (fun _ => rfl) k
theorem w_sub {i j : Int} (k : P (.v (.int (i - j))) O) : WR K (rI0 fun i j => .int (i - j)) (.v (.int i)) (.v (.int j)) O P := w_I0 (d := .int (i - j)) (fun _ => rfl) k
theorem w_lt {i j : Int} (k : P (.v (.bl (decide (i < j)))) O) : WR K (rI0 fun i j => .bl (decide (i < j))) (.v (.int i)) (.v (.int j)) O P := w_I0 (d := .bl (decide (i < j))) (fun _ => rfl) k
theorem w_le {i j : Int} (k : P (.v (.bl (decide (i ≤ j)))) O) : WR K (rI0 fun i j => .bl (decide (i ≤ j))) (.v (.int i)) (.v (.int j)) O P := w_I0 (d := .bl (decide (i ≤ j))) (fun _ => rfl) k
theorem w_gt {i j : Int} (k : P (.v (.bl (decide (j < i)))) O) : WR K (rI0 fun i j => .bl (decide (j < i))) (.v (.int i)) (.v (.int j)) O P := w_I0 (d := .bl (decide (j < i))) (fun _ => rfl) k
theorem w_ge {i j : Int} (k : P (.v (.bl (decide (j ≤ i)))) O) : WR K (rI0 fun i j => .bl (decide (j ≤ i))) (.v (.int i)) (.v (.int j)) O P := w_I0 (d := .bl (decide (j ≤ i))) (fun _ => rfl) k
theorem w_mul {i j : Int} (h : CMul i j) (k : P (.v (.int (i * j))) O) : WR K (rI CMul fun i j => .int (i * j)) (.v (.int i)) (.v (.int j)) O P := w_I (d := .int (i * j)) h (fun _ => rfl) k
theorem w_mulW {i j : Int} (h : CMulW i j) (k : P (.v (.int (i * j))) O) : WR K (rI CMulW fun i j => .int (i * j)) (.v (.int i)) (.v (.int j)) O P := w_I (d := .int (i * j)) h (fun _ => rfl) k
theorem w_fdiv {i j : Int} (h : CDiv i j) (k : P (.v (.int (i / j))) O) : WR K (rI CDiv fun i j => .int (i / j)) (.v (.int i)) (.v (.int j)) O P := w_I (d := .int (i / j)) h (fun _ => rfl) k
theorem w_fdivW {i j : Int} (h : CDivW i j) (k : P (.v (.int (i / j))) O) : WR K (rI CDivW fun i j => .int (i / j)) (.v (.int i)) (.v (.int j)) O P := w_I (d := .int (i / j)) h (fun _ => rfl) k
theorem w_mod {i j : Int} (h : 0 < j) (k : P (.v (.int (i % j))) O) : WR K (rI (fun _ j => 0 < j) fun i j => .int (i % j)) (.v (.int i)) (.v (.int j)) O P := w_I (d := .int (i % j)) h (fun _ => rfl) k
theorem w_pow {i j : Int} (h : CPow i j) (k : P (.v (.int (i ^ j.toNat))) O) : WR K (rI CPow fun i j => .int (i ^ j.toNat)) (.v (.int i)) (.v (.int j)) O P := w_I (d := .int (i ^ j.toNat)) h (fun _ => rfl) k
theorem w_neg {i : Int} (k : P (.v (.int (-i))) O) : WU K (rU fun i => .int (-i)) (.v (.int i)) O P := w_Ui (d := .int (-i)) (fun _ => rfl) k
/-! branches -/
theorem brT {p : Prop} [Decidable p] {A B : Prop} (hp : p) (h : A) : (decide p = true → A) ∧ (decide p = false → B) := ⟨fun _ => h, fun z => absurd hp (of_decide_eq_false z)⟩
theorem brF {p : Prop} [Decidable p] {A B : Prop} (hp : ¬ p) (h : B) : (decide p = true → A) ∧ (decide p = false → B) := ⟨fun z => absurd (of_decide_eq_true z) hp, fun _ => h⟩
theorem br {p : Prop} [Decidable p] {A B : Prop} (h1 : p → A) (h2 : ¬ p → B) : (decide p = true → A) ∧ (decide p = false → B) := ⟨fun z => h1 (of_decide_eq_true z), fun z => h2 (of_decide_eq_false z)⟩
theorem nbT {p : Prop} [Decidable p] {A B : Prop} (hp : ¬ p) (h : A) : ((!decide p) = true → A) ∧ ((!decide p) = false → B) := ⟨fun _ => h, fun z => by rw [decide_eq_false hp] at z; cases z⟩
theorem nbF {p : Prop} [Decidable p] {A B : Prop} (hp : p) (h : B) : ((!decide p) = true → A) ∧ ((!decide p) = false → B) := ⟨fun z => (by rw [decide_eq_true hp] at z; cases z), fun _ => h⟩
theorem nbr {p : Prop} [Decidable p] {A B : Prop} (h1 : ¬ p → A) (h2 : p → B) : ((!decide p) = true → A) ∧ ((!decide p) = false → B) := ⟨fun z => h1 fun hp => (by rw [decide_eq_true hp] at z; cases z), fun z => h2 (Decidable.byContradiction fun hp => (by rw [decide_eq_false hp] at z; cases z))⟩
theorem bT {c : Bool} {A B : Prop} (hp : c = true) (h : A) : (c = true → A) ∧ (c = false → B) := ⟨fun _ => h, fun z => by rw [hp] at z; cases z⟩
theorem bF {c : Bool} {A B : Prop} (hp : c = false) (h : B) : (c = true → A) ∧ (c = false → B) := ⟨fun z => (by rw [hp] at z; cases z), fun _ => h⟩
theorem bnT {c : Bool} {A B : Prop} (hp : c = false) (h : A) : ((!c) = true → A) ∧ ((!c) = false → B) := ⟨fun _ => h, fun z => by rw [hp] at z; cases z⟩
theorem bnF {c : Bool} {A B : Prop} (hp : c = true) (h : B) : ((!c) = true → A) ∧ ((!c) = false → B) := ⟨fun z => (by rw [hp] at z; cases z), fun _ => h⟩
theorem tt_ {A B : Prop} (h : A) : (true = true → A) ∧ (true = false → B) := ⟨fun _ => h, fun z => (nomatch z)⟩
theorem ff_ {A B : Prop} (h : B) : (false = true → A) ∧ (false = false → B) := ⟨fun z => (nomatch z), fun _ => h⟩
theorem ntt_ {A B : Prop} (h : B) : ((!true) = true → A) ∧ ((!true) = false → B) := ⟨fun z => (nomatch z), fun _ => h⟩
theorem nff_ {A B : Prop} (h : A) : ((!false) = true → A) ∧ ((!false) = false → B) := ⟨fun _ => h, fun z => (nomatch z)⟩
end
def LkF (K : PySem.W.Frag) (f : Addr) (fd : FuncData) : Prop := ∃ oc od osl, K.lookup f = some ⟨oc, od, .func fd, osl⟩
theorem lk_of {K : PySem.W.Frag} {x qual : Str} {params : Arguments} {body : List Stmt} {scope : Scope} {dvs : List V} {kws : List (Str × V)} {f : Addr} {fd : FuncData} (F : FunD K x qual params body scope dvs kws f fd) : LkF K f fd := by
  obtain ⟨oc, od, dV, kV, doc, pm, an, cdv, ct, osl, rfl, lk, _⟩ := F.ex
  exact ⟨oc, od, osl, lk⟩
/-- a def by its promise over data -/
def Fn (P : Program) (w : World) (K : PySem.W.Frag) (mg : Str → Option Value) (base : Heap) (k : Nat) (f : Addr) (ps : List Str) (sp : SpD) : Prop :=
  ∃ fd, FnOk P w K mg base (L2.CX P w) k f fd ps (lift K sp) ∧ Binds K fd ps [] ∧ PySem.W.keepIn K (.ref f) = true ∧ LkF K f fd
def orS (a b : SpD) : SpD := fun ts O P X => a ts O P X ∨ b ts O P X
theorem Fn.or {P : Program} {w : World} {K : PySem.W.Frag} {mg : Str → Option Value} {base : Heap} {k j l : Nat} {f : Addr} {ps : List Str} {a b : SpD} (x : Fn P w K mg base k f ps a) (y : Fn P w K mg base j f ps b) (hk : k ≤ l) (hj : j ≤ l) : Fn P w K mg base l f ps (orS a b) := by
  obtain ⟨fd, F, B, kp, lk⟩ := x
  obtain ⟨fd2, F2, B2, kp2, lk2⟩ := y
  obtain ⟨oc, od, osl, e⟩ := lk
  obtain ⟨oc2, od2, osl2, e2⟩ := lk2
  rw [e] at e2
  injection e2 with e2
  injection e2 with _ _ e2
  injection e2 with e2
  subst e2
  refine ⟨fd, ⟨fun vs H Q E h => ?_, fun A outer s H args us vs Q E hr h0 hb hv h => ?_⟩, B, kp, ⟨oc, od, osl, e⟩⟩
  · obtain ⟨Z, A, O, ts, P, X, h1, h2, h3, h4, h5⟩ := h
    rcases h4 with h4 | h4
    · exact F.len vs H Q E ⟨Z, A, O, ts, P, X, h1, h2, h3, h4, h5⟩
    · exact F2.len vs H Q E ⟨Z, A, O, ts, P, X, h1, h2, h3, h4, h5⟩
  · obtain ⟨Z, A', O, ts, P, X, h1, h2, h3, h4, h5⟩ := h
    rcases h4 with h4 | h4
    · exact F.run A outer s H args us vs Q E (hr.mono hk) h0 hb hv ⟨Z, A', O, ts, P, X, h1, h2, h3, h4, h5⟩
    · exact F2.run A outer s H args us vs Q E (hr.mono hj) h0 hb hv ⟨Z, A', O, ts, P, X, h1, h2, h3, h4, h5⟩
/-! bounds -/
theorem natAbs_lt {i : Int} {n : Nat} (h0 : -(2 ^ n : Int) < i) (h1 : i < 2 ^ n) : i.natAbs < 2 ^ n := by
  have e : ((2 ^ n : Nat) : Int) = (2 ^ n : Int) := by simp
  omega
theorem mulW_ok {i j : Int} (hi : -(2 ^ 250 : Int) < i ∧ i < 2 ^ 250) (hj : -(2 ^ 250 : Int) < j ∧ j < 2 ^ 250) : CMulW i j :=
  wide_mul (a := 250) (b := 250) (natAbs_lt hi.1 hi.2) (natAbs_lt hj.1 hj.2) (by omega) (by omega) (by omega)
theorem divW_ok {i j : Int} (h : 0 < j) (hj : j < 2 ^ 250) : CDivW i j := by
  have h2 : -(2 ^ 250 : Int) < j := Int.lt_trans (by decide) h
  exact wide_div (b := 250) h (natAbs_lt h2 hj) (by omega) (by omega)
/-! kinds of values -/
/-- whether a value is an integer and no bool, as isinstance tells it -/
def IntQ (K : PySem.W.Frag) (d : D) (b : Bool) : Prop := ∃ t b1 b2, TyD K d t ∧ PySem.W.kitOne K t (.type "int") = some b1 ∧ PySem.W.kitOne K t (.type "bool") = some b2 ∧ b = (b1 && !b2)
theorem intQ_int {K : PySem.W.Frag} {n : Int} : IntQ K (.int n) true := ⟨_, true, false, .int n, kit_ty (by decide +kernel), kit_ty (by decide +kernel), rfl⟩
theorem intQ_bl {K : PySem.W.Frag} {n : Bool} : IntQ K (.bl n) false := ⟨_, true, true, .bl n, kit_ty (by decide +kernel), kit_ty (by decide +kernel), rfl⟩
theorem intQ_non {K : PySem.W.Frag} : IntQ K .non false := ⟨_, false, false, .non, kit_ty (by decide +kernel), kit_ty (by decide +kernel), rfl⟩
theorem intQ_str {K : PySem.W.Frag} {n : Str} : IntQ K (.str n) false := ⟨_, false, false, .str n, kit_ty (by decide +kernel), kit_ty (by decide +kernel), rfl⟩
theorem intQ_lst {K : PySem.W.Frag} {n : List D} : IntQ K (.lst n) false := ⟨_, false, false, .lst n, kit_ty (by decide +kernel), kit_ty (by decide +kernel), rfl⟩
theorem intQ_tup {K : PySem.W.Frag} {n : List D} : IntQ K (.tup n) false := ⟨_, false, false, .tup n, kit_ty (by decide +kernel), kit_ty (by decide +kernel), rfl⟩
theorem intQ_dic {K : PySem.W.Frag} {n : List (Key × D)} : IntQ K (.dic n) false := ⟨_, false, false, .dic n, kit_ty (by decide +kernel), kit_ty (by decide +kernel), rfl⟩
end G

set_option Elab.async false
set_option linter.all false
set_option maxRecDepth 100000
set_option maxHeartbeats 4000000
/-! GJ: the pens of the laws. -/
namespace G
open PySem PySem.Spec PyProof.Rows L2

def nums (ns : List Int) : List D := ns.map D.int
/-- a pen: its cells, where it is, what is left of a great cell; n: how often it has drawn at most -/
def Pen (n : Nat) (p : List D) : Prop := ∃ (cs : List Int) (at_ g : Int), p = [.lst (nums cs), .int at_, .int g] ∧ 0 ≤ at_ ∧ at_ ≤ n ∧ 0 ≤ g
theorem Pen.mono {n m : Nat} {p : List D} (h : Pen n p) (k : n ≤ m) : Pen m p := by
  obtain ⟨cs, a, g, e, h1, h2, h3⟩ := h
  exact ⟨cs, a, g, e, h1, by omega, h3⟩
/-- what making a pen does: the script's cut, its copy, the pen -/
def penSp (K : PySem.W.Frag) (n : Int) : Sp := fun vs H Q _ => ∃ (a : Addr) (cs : List Int), vs = [.ref a] ∧ SqL K H a (cs.map V.int) ∧
  ∀ s l p, H s = none → upd H s (.lst (cutV (cs.map V.int) none (some n))) l = none → upd (upd H s (.lst (cutV (cs.map V.int) none (some n)))) l (.lst (cutV (cs.map V.int) none (some n))) p = none →
    Q (.ref p) (upd (upd (upd H s (.lst (cutV (cs.map V.int) none (some n)))) l (.lst (cutV (cs.map V.int) none (some n)))) p (.lst [.ref l, .int 0, .int 0]))
theorem penSp_len {K : PySem.W.Frag} {n : Int} {vs H Q E} (h : penSp K n vs H Q E) : vs.length = 1 := by
  obtain ⟨a, cs, rfl, _⟩ := h
  rfl
theorem cut_ints {cs : List Int} {n : Int} : ∃ ds : List Int, cutV (cs.map V.int) none (some n) = List.map V.int ds := ⟨(cs.drop (HT.sIx (cs.map V.int).length 0 none)).take (HT.sIx (cs.map V.int).length (cs.map V.int).length (some n) - HT.sIx (cs.map V.int).length 0 none), by
  unfold cutV
  rw [List.map_take, List.map_drop]⟩
/-- a def by its promise as it is -/
def FnR (P : Program) (w : World) (K : PySem.W.Frag) (mg : Str → Option Value) (base : Heap) (k : Nat) (f : Addr) (ps : List Str) (sp : Sp) : Prop :=
  ∃ fd, FnOk P w K mg base (L2.CX P w) k f fd ps sp ∧ Binds K fd ps [] ∧ PySem.W.keepIn K (.ref f) = true ∧ LkF K f fd
section
variable {K : PySem.W.Frag} {W : WX} {O : List OD} {ts : List T} {P : PT'} {X : XX} {te ta : TE} {tr : TA} {E : XK}
theorem repL_ints {F : Hp} : ∀ {ns : List Int}, RepL K F (nums ns) (ns.map V.int)
  | [] => rfl
  | n :: ns => ⟨_, _, rfl, rfl, repL_ints (ns := ns)⟩
theorem ints_repL {F : Hp} : ∀ {ns : List Int} {vs : List V}, RepL K F (nums ns) vs → vs = ns.map V.int
  | [], _, h => h
  | n :: ns, _, h => by
    obtain ⟨v, r, e, h1, h2⟩ := h
    rw [e, ints_repL h2, show v = .int n from h1] <;> rfl
theorem w_pen {n : Int} (h : WA K W tr O ts (fun xs O1 => ∃ cs, xs = [.v (.lst (nums cs))] ∧ ∀ p, Pen 0 p → P (.own O1.length) (O1 ++ [.lst p])) X) : WE K W (tCall (penSp K n) [] E tr) O ts P X := fun b A σ H Q s rs kv kx =>
  h b A σ H _ s rs (fun xs vs A1 O1 H1 p1 s1 n1 r1 => by
    obtain ⟨cs, rfl, p⟩ := p1
    rw [List.append_nil]
    obtain ⟨v, _, rfl, ⟨_, e, a, us, rfl, h1, h2⟩, rfl⟩ := r1
    cases e
    have e2 := ints_repL h2
    subst e2
    refine ⟨a, cs, rfl, hid_ex.l h1, fun s0 l q hs hl hq => ?_⟩
    obtain ⟨ds, ed⟩ := cut_ints (cs := cs) (n := n)
    rw [ed] at hl hq ⊢
    obtain ⟨s2, n2, _⟩ := s1.lay hs (.lst (List.map V.int ds))
    obtain ⟨s3, n3, f3⟩ := s2.lay hl (.lst (List.map V.int ds))
    obtain ⟨s4, n4⟩ := s3.own (u := .lst [.ref l, .int 0, .int 0]) (o := .lst [.lst (nums ds), .int 0, .int 0]) hq ⟨_, upd_same, _, _, rfl, ⟨l, _, rfl, SqL.of f3, repL_ints⟩, _, _, rfl, rfl, _, _, rfl, rfl, rfl⟩
    refine kv _ _ _ _ _ (p _ ⟨ds, 0, 0, rfl, by omega, by omega, by omega⟩) s4 (((n1.trans n2).trans n3).trans n4) ⟨q, ?_, rfl⟩
    rw [← s3.len, List.getElem?_append_right (Nat.le_refl _), Nat.sub_self]
    exact rfl) kx
end
/-! ### draws -/
def sp_draw (K : PySem.W.Frag) : SpD := fun ts O P _ => ∃ (n : Nat) (p : List D) (m : Int), ts = [.own 0, .v (.int m)] ∧ O = [.lst p] ∧ Pen n p ∧ n < 1000000 ∧ 1 ≤ m ∧ m < 2 ^ 200 ∧ ∀ p' r, Pen (n + 1) p' → 0 ≤ r → r < m → P (.v (.int r)) [.lst p']
theorem sp_draw_len {K : PySem.W.Frag} {ts O P X} (h : sp_draw K ts O P X) : ts.length = 2 := by
  obtain ⟨n, p, m, rfl, _⟩ := h
  rfl
theorem u_draw {K : PySem.W.Frag} {P : PT'} {X : XX} {n : Nat} {p : List D} {m : Int} (hp : Pen n p) (hn : n < 1000000) (h1 : 1 ≤ m) (h2 : m < 2 ^ 200) (k : ∀ p' r, Pen (n + 1) p' → 0 ≤ r → r < m → P (.v (.int r)) [.lst p']) :
    sp_draw K [.own 0, .v (.int m)] [.lst p] P X := ⟨n, p, m, rfl, rfl, hp, hn, h1, h2, k⟩
/-- one of some values, by a draw; d: the i-th of them -/
def sp_pick (K : PySem.W.Frag) : SpD := fun ts O P _ => ∃ (n : Nat) (p : List D) (ds : List D), ts = [.own 0, .v (.lst ds)] ∧ O = [.lst p] ∧ Pen n p ∧ n < 1000000 ∧ 1 ≤ ds.length ∧ ds.length ≤ 1000000 ∧ ∀ p' (i : Nat) d, Pen (n + 1) p' → ds[i]? = some d → P (.v d) [.lst p']
theorem sp_pick_len {K : PySem.W.Frag} {ts O P X} (h : sp_pick K ts O P X) : ts.length = 2 := by
  obtain ⟨n, p, m, rfl, _⟩ := h
  rfl
theorem u_pick {K : PySem.W.Frag} {P : PT'} {X : XX} {n : Nat} {p : List D} {ds : List D} (hp : Pen n p) (hn : n < 1000000) (h1 : 1 ≤ ds.length) (h2 : ds.length ≤ 1000000) (k : ∀ p' (j : Nat) d, Pen (n + 1) p' → ds[j]? = some d → P (.v d) [.lst p']) :
    sp_pick K [.own 0, .v (.lst ds)] [.lst p] P X := ⟨n, p, ds, rfl, rfl, hp, hn, h1, h2, k⟩
theorem nno {d : D} : T.v d ≠ .no := fun z => by cases z
/-! ### fixed laws of arithmetic used by the pens -/
theorem pow5_ok {x a : Int} (hx : 0 ≤ x) (hx2 : x < 2147483543) (ha : 0 ≤ a) (ha2 : a ≤ 1000000) : CPow (x + 71887 * a + 977) 5 := ⟨by omega, by omega, by omega⟩
end G

set_option Elab.async false
set_option linter.all false
set_option maxRecDepth 100000
set_option maxHeartbeats 4000000
/-! GK: equality of plain data. -/
namespace G
open PySem PySem.Spec PyProof.Rows L2
mutual
theorem pl_refl : ∀ (n : Nat) (d : D), pl n d = true → eqD d d = true
  | _, .non, _ => by unfold eqD; simp only [toP, PyData.eqv]
  | _, .bl b, _ => by unfold eqD; simp only [toP, PyData.eqv]; exact beq_self_eq_true b
  | _, .int b, _ => by unfold eqD; simp only [toP, PyData.eqv]; exact beq_self_eq_true b
  | _, .str b, h => by
    unfold eqD
    simp only [toP, PyData.eqv]
    first | exact beq_self_eq_true b | simp
  | n + 1, .lst ds, h => by
    unfold eqD
    simp only [toP, PyData.eqv]
    exact pls_refl n ds h
  | n + 1, .tup ds, h => by
    unfold eqD
    simp only [toP, PyData.eqv]
    exact pls_refl n ds h
  | 0, .lst ds, h => by cases h
  | 0, .tup ds, h => by cases h
  | 0, .ins _ _, h => by cases h
  | _ + 1, .ins _ _, h => by cases h
  | 0, .ref _, h => by cases h
  | _ + 1, .ref _, h => by cases h
  | 0, .ty _, h => by cases h
  | _ + 1, .ty _, h => by cases h
  | 0, .dic _, h => by cases h
  | _ + 1, .dic _, h => by cases h
theorem pls_refl : ∀ (n : Nat) (ds : List D), pls n ds = true → PyData.eqvAll (toPs ds) (toPs ds) = true
  | n, [], _ => by simp only [toPs, PyData.eqvAll]
  | n, d :: ds, h => by
    have h' : (pl n d && pls n ds) = true := h
    obtain ⟨h1, h2⟩ := Bool.and_eq_true_iff.mp h'
    have a := pl_refl n d h1
    unfold eqD at a
    simp only [toPs, PyData.eqvAll, a, pls_refl n ds h2, Bool.and_self]
end
theorem eqD_refl {d : D} (h : pl 60 d = true) : eqD d d = true := pl_refl 60 d h
section
variable {K : PySem.W.Frag} {W : WX} {O : List OD} {ts : List T} {P : PT'} {X : XX} {te : TE} {tr : TA}
theorem w_eqT {x y : T} {d : D} (hx : ValD x O d) (hy : ValD y O d) (h1 : pl 60 d = true) (k : P (.v (.bl true)) O) : WR K (rEqD K) x y O P := w_eqD hx hy h1 h1 (by rw [eqD_refl h1]; exact k)
theorem w_neF {x y : T} {d : D} (hx : ValD x O d) (hy : ValD y O d) (h1 : pl 60 d = true) (k : P (.v (.bl false)) O) : WR K (rNeD K) x y O P := w_neD hx hy h1 h1 (by rw [eqD_refl h1]; exact k)
end
theorem pls_map {α : Type} {n : Nat} {f : α → D} (h : ∀ x, pl n (f x) = true) : ∀ xs : List α, pls n (xs.map f) = true
  | [] => by cases n <;> rfl
  | x :: xs => by
    have e : pls n ((x :: xs).map f) = (pl n (f x) && pls n (xs.map f)) := by cases n <;> rfl
    rw [e, h x, pls_map h xs] <;> rfl
theorem pl_int {n : Nat} {i : Int} : pl n (.int i) = true := by cases n <;> rfl
theorem pls_nums {n : Nat} {ns : List Int} : pls n (nums ns) = true := pls_map (fun _ => pl_int) ns
theorem pl_numsL {n : Nat} {ns : List Int} : pl (n + 1) (.lst (nums ns)) = true := pls_nums
theorem pl_numsT {n : Nat} {ns : List Int} : pl (n + 1) (.tup (nums ns)) = true := pls_nums
theorem pl_nilL {n : Nat} : pl (n + 1) (.lst []) = true := by cases n <;> rfl
/-- lists and tuples of integers -/
theorem toPs_nums : ∀ {ns ms : List Int}, PyData.eqvAll (toPs (nums ns)) (toPs (nums ms)) = decide (ns = ms)
  | [], [] => by simp [nums, toPs, PyData.eqvAll]
  | [], m :: ms => by simp [nums, toPs, PyData.eqvAll]
  | n :: ns, [] => by simp [nums, toPs, PyData.eqvAll]
  | n :: ns, m :: ms => by
    have ih := toPs_nums (ns := ns) (ms := ms)
    have e : PyData.eqvAll (toPs (nums (n :: ns))) (toPs (nums (m :: ms))) = (n == m && PyData.eqvAll (toPs (nums ns)) (toPs (nums ms))) := by
      simp only [nums, List.map_cons, toPs, toP, PyData.eqvAll, PyData.eqv]
    rw [e, ih]
    by_cases h1 : n = m
    · subst h1
      simp
    · simp [h1]
theorem eqD_numsL {ns ms : List Int} : eqD (.lst (nums ns)) (.lst (nums ms)) = decide (ns = ms) := by
  unfold eqD
  simp only [toP, PyData.eqv]
  exact toPs_nums
theorem eqD_numsT {ns ms : List Int} : eqD (.tup (nums ns)) (.tup (nums ms)) = decide (ns = ms) := by
  unfold eqD
  simp only [toP, PyData.eqv]
  exact toPs_nums
theorem eqD_nilL {ns : List Int} : eqD (.lst (nums ns)) (.lst []) = decide (ns = []) := eqD_numsL (ms := [])
theorem nums_len {ns : List Int} : (nums ns).length = ns.length := List.length_map _
theorem mulB {x y a b : Int} (h0 : 0 ≤ x) (h1 : x ≤ a) (h2 : 0 ≤ y) (h3 : y ≤ b) : 0 ≤ x * y ∧ x * y ≤ a * b :=
  ⟨Int.mul_nonneg h0 h2, Int.mul_le_mul h1 h3 h2 (Int.le_trans h0 h1)⟩
theorem atI_pos {α : Type} {xs : List α} {i : Int} (h0 : 0 ≤ i) (h1 : i < xs.length) : ∃ x, atI xs i = some x ∧ xs[i.toNat]? = some x := by
  obtain ⟨j, rfl⟩ := Int.eq_ofNat_of_zero_le h0
  have hj : j < xs.length := by omega
  exact ⟨xs[j], atI_nat (List.getElem?_eq_getElem hj), List.getElem?_eq_getElem hj⟩
theorem atI_nums {ns : List Int} {i : Int} (h0 : 0 ≤ i) (h1 : i < ns.length) : ∃ x, atI (nums ns) i = some (.int x) ∧ ns[i.toNat]? = some x := by
  obtain ⟨j, rfl⟩ := Int.eq_ofNat_of_zero_le h0
  have hj : j < ns.length := by omega
  refine ⟨ns[j], atI_nat ?_, List.getElem?_eq_getElem hj⟩
  show (ns.map D.int)[j]? = _
  rw [List.getElem?_map, List.getElem?_eq_getElem hj] <;> rfl
end G

set_option Elab.async false
set_option linter.all false
set_option maxRecDepth 100000
set_option maxHeartbeats 4000000
/-! GL: an owned thing becomes plain data. -/
namespace G
open PySem PySem.Spec PyProof.Rows L2
def odD : OD → Option D
  | .lst ds => some (.lst ds)
  | .ins C fs => some (.ins C fs)
  | .dic kvs => some (.dic kvs)
  | .gone => none
def thaw (i : Nat) (d : D) : T → T
  | .own j => if j = i then .v d else .own j
  | t => t
section
variable {K : PySem.W.Frag} {W : WX} {b : Bs} {A : List Addr} {O : List OD} {H : Hp} {ts : List T} {t : TS} {te : TE} {E : DE} {P : PT'} {X : XX}
theorem live_sub {i : Nat} {a : Addr} (h : a ∈ live A (O.set i .gone)) : a ∈ live A O := by
  obtain ⟨j, o, h1, h2, h3⟩ := live_mem h
  rw [List.getElem?_set] at h2
  by_cases hij : i = j
  · rw [if_pos hij] at h2
    by_cases hl : i < O.length
    · rw [if_pos hl] at h2
      exact absurd (Option.some.inj h2).symm h3
    · rw [if_neg hl] at h2
      cases h2
  · rw [if_neg hij] at h2
    exact live_at h1 h2 h3
theorem StO.freeze (s : StO K b A O H) {i : Nat} {o : OD} {d : D} (ho : O[i]? = some o) (hd : odD o = some d) : StO K b A (O.set i .gone) H ∧ Nxt b A O H A (O.set i .gone) H ∧ ∃ a, A[i]? = some a ∧ Rep K (Fz b A (O.set i .gone) H) d (.ref a) := by
  have ng : o ≠ .gone := fun z => by
    subst z
    cases hd
  have hi : i < A.length := by
    rw [s.len]
    exact (List.getElem?_eq_some_iff.mp ho).1
  obtain ⟨a, ha⟩ : ∃ a, A[i]? = some a := ⟨A[i], List.getElem?_eq_getElem hi⟩
  have hl : a ∈ live A O := live_at ha ho ng
  have x3 : Ex (Fz b A O H) (Fz b A (O.set i .gone) H) := hid_mono (fun _ _ _ h => h) fun c o h1 h2 h3 => by
    rcases List.mem_append.mp h3 with h3 | h3
    · exact h1 (List.mem_append_left _ (live_sub h3))
    · exact h1 (List.mem_append_right _ h3)
  have fz : ∀ u, H a = some u → Fz b A (O.set i .gone) H a = some u := fun u hu => hid_some.mpr ⟨fun h3 => by
    rcases List.mem_append.mp h3 with h3 | h3
    · obtain ⟨j, o', h1, h2, h4⟩ := live_mem h3
      have e : i = j := nd_ix s.nd ha h1
      subst e
      rw [List.getElem?_set_self (List.getElem?_eq_some_iff.mp ho).1] at h2
      exact h4 (Option.some.inj h2).symm
    · exact (s.z_at h3).1 hl, hu⟩
  have c := s.cell i a o ha ho
  refine ⟨⟨by rw [List.length_set]; exact s.len, s.pre, s.ext.trans (hid_mono (fun _ _ _ h => h) fun c o h1 h2 h3 => h1 (live_sub h3)), s.zs, s.nd, s.inh, fun j c' u h1 h2 => ?_⟩, ⟨⟨[], (List.append_nil A).symm⟩, x3⟩, a, ha, ?_⟩
  · rw [List.getElem?_set] at h2
    by_cases hij : i = j
    · rw [if_pos hij] at h2
      by_cases hl : i < O.length
      · rw [if_pos hl] at h2
        have e : OD.gone = u := Option.some.inj h2
        subst e
        trivial
      · rw [if_neg hl] at h2
        cases h2
    · rw [if_neg hij] at h2
      exact (s.cell j c' u h1 h2).ex x3 fun _ h => h
  · cases o with
    | gone => cases hd
    | lst ds =>
      have e := Option.some.inj hd
      subst e
      obtain ⟨vs, c1, c2⟩ := c
      exact ⟨a, vs, rfl, SqL.of (fz _ c1), c2.ex x3⟩
    | ins C fs =>
      have e := Option.some.inj hd
      subst e
      obtain ⟨dx, vs, c1, c2⟩ := c
      exact ⟨a, dx, vs, rfl, fz _ c1, c2.ex x3⟩
    | dic kvs =>
      have e := Option.some.inj hd
      subst e
      obtain ⟨vs, c1, c2⟩ := c
      exact ⟨a, vs, rfl, fz _ c1, c2.ex x3⟩
theorem RepT.thaw {F : Hp} {i : Nat} {d : D} {a : Addr} {x : T} {o : Option V} (h : RepT K F A x o) (ha : A[i]? = some a) (r : Rep K F d (.ref a)) : RepT K F A (thaw i d x) o := by
  cases x with
  | v d => exact h
  | no => trivial
  | own j =>
    show RepT K F A (if j = i then .v d else .own j) o
    by_cases e : j = i
    · subst e
      rw [if_pos rfl]
      obtain ⟨c, h1, h2⟩ := h
      rw [ha] at h1
      have e2 := Option.some.inj h1
      subst e2
      exact ⟨_, h2, r⟩
    · rw [if_neg e]
      exact h
theorem RepS.thaw {F : Hp} {i : Nat} {d : D} {a : Addr} {σ : L2.St} (h : RepS K F A ts σ) (ha : A[i]? = some a) (r : Rep K F d (.ref a)) : RepS K F A (ts.map (G.thaw i d)) σ := by
  refine ⟨by rw [List.length_map]; exact h.1, fun j t e => ?_⟩
  rw [List.getElem?_map] at e
  cases q : ts[j]? with
  | none =>
    rw [q] at e
    cases e
  | some u =>
    rw [q] at e
    have e2 : G.thaw i d u = t := Option.some.inj e
    subst e2
    obtain ⟨o, h1, h2⟩ := h.2 j u q
    exact ⟨o, h1, h2.thaw ha r⟩
theorem s_frz (i : Nat) {o : OD} {d : D} (ho : O[i]? = some o) (hd : odD o = some d) (h : WS K W t (O.set i .gone) (ts.map (G.thaw i d)) E) : WS K W t O ts E := fun b A σ H D s rs ks => by
  obtain ⟨s2, n2, a, ha, r⟩ := s.freeze ho hd
  exact h b A σ H D s2 ((rs.nxt n2).thaw ha r) (ks.nxt n2)
end
end G

set_option Elab.async false
set_option linter.all false
set_option maxRecDepth 100000
set_option maxHeartbeats 4000000
/-! GM: loops over what is known. -/
namespace G
open PySem PySem.Spec PyProof.Rows L2
section
variable {K : PySem.W.Frag} {W : WX} {O : List OD} {ts : List T} {E : DE} {g : TG} {tb : TS}
def ForEx (K : PySem.W.Frag) (W : WX) (g : TG) (tb : TS) (E : DE) (ts : List T) (f : Nat → Option T) (O1 : List OD) : Prop :=
  ∃ (n : Nat) (I : Nat → List T → List OD → Prop), (∀ i, i < n → f i ≠ none) ∧ f n = none ∧ I 0 ts O1 ∧
      (∀ i t ts' O', i < n → f i = some t → I i ts' O' → WG K W g t O' ts' (fun ts2 O2 => WS K W tb O2 ts2 { E with nx := I (i + 1), ct := I (i + 1), bk := E.nx })) ∧ (∀ ts' O', I n ts' O' → E.nx ts' O')
theorem itD_ne {ds : List D} {i : Nat} (h : i < ds.length) : itD ds i ≠ none := fun z => by
  have := itD_none z
  omega
theorem for_D {ds : List D} (I : Nat → List T → List OD → Prop) (h0 : I 0 ts O)
    (hs : ∀ i d ts' O', i < ds.length → ds[i]? = some d → I i ts' O' → WG K W g (.v d) O' ts' (fun ts2 O2 => WS K W tb O2 ts2 { E with nx := I (i + 1), ct := I (i + 1), bk := E.nx }))
    (hd : ∀ ts' O', I ds.length ts' O' → E.nx ts' O') : ForEx K W g tb E ts (itD ds) O :=
  ⟨ds.length, I, fun i h => itD_ne h, by unfold itD; rw [List.getElem?_eq_none (Nat.le_refl _)]; rfl, h0, fun i t ts' O' hi ht hI => by
    obtain ⟨d, e, rfl⟩ := itD_some ht
    exact hs i d ts' O' hi e hI, hd⟩
theorem for_N {ns : List Int} (I : Nat → List T → List OD → Prop) (h0 : I 0 ts O)
    (hs : ∀ i r ts' O', i < ns.length → ns[i]? = some r → I i ts' O' → WG K W g (.v (.int r)) O' ts' (fun ts2 O2 => WS K W tb O2 ts2 { E with nx := I (i + 1), ct := I (i + 1), bk := E.nx }))
    (hd : ∀ ts' O', I ns.length ts' O' → E.nx ts' O') : ForEx K W g tb E ts (itD (nums ns)) O :=
  for_D I h0 (fun i d ts' O' hi e hI => by
    have e' : (ns.map D.int)[i]? = some d := e
    rw [List.getElem?_map] at e'
    cases q : ns[i]? with
    | none =>
      rw [q] at e'
      cases e'
    | some r =>
      rw [q] at e'
      have e2 : D.int r = d := Option.some.inj e'
      subst e2
      exact hs i r ts' O' (by rw [nums_len] at hi; exact hi) q hI) (by rw [nums_len]; exact hd)
theorem for_E {ds : List D} (I : Nat → List T → List OD → Prop) (h0 : I 0 ts O)
    (hs : ∀ i d ts' O', i < ds.length → ds[i]? = some d → I i ts' O' → WG K W g (.v (.tup [.int (i : Nat), d])) O' ts' (fun ts2 O2 => WS K W tb O2 ts2 { E with nx := I (i + 1), ct := I (i + 1), bk := E.nx }))
    (hd : ∀ ts' O', I ds.length ts' O' → E.nx ts' O') : ForEx K W g tb E ts (itE ds) O :=
  ⟨ds.length, I, fun i h z => by
    have := itE_none z
    omega, by unfold itE; rw [List.getElem?_eq_none (Nat.le_refl _)]; rfl, h0, fun i t ts' O' hi ht hI => by
    obtain ⟨d, e, rfl⟩ := itE_some ht
    exact hs i d ts' O' hi e hI, hd⟩
theorem for_EN {ns : List Int} (I : Nat → List T → List OD → Prop) (h0 : I 0 ts O)
    (hs : ∀ i r ts' O', i < ns.length → ns[i]? = some r → I i ts' O' → WG K W g (.v (.tup [.int (i : Nat), .int r])) O' ts' (fun ts2 O2 => WS K W tb O2 ts2 { E with nx := I (i + 1), ct := I (i + 1), bk := E.nx }))
    (hd : ∀ ts' O', I ns.length ts' O' → E.nx ts' O') : ForEx K W g tb E ts (itE (nums ns)) O :=
  for_E I h0 (fun i d ts' O' hi e hI => by
    have e' : (ns.map D.int)[i]? = some d := e
    rw [List.getElem?_map] at e'
    cases q : ns[i]? with
    | none =>
      rw [q] at e'
      cases e'
    | some r =>
      rw [q] at e'
      have e2 : D.int r = d := Option.some.inj e'
      subst e2
      exact hs i r ts' O' (by rw [nums_len] at hi; exact hi) q hI) (by rw [nums_len]; exact hd)
theorem for_R {lo c : Int} {n : Nat} (I : Nat → List T → List OD → Prop) (h0 : I 0 ts O)
    (hs : ∀ i ts' O', i < n → I i ts' O' → WG K W g (.v (.int (lo + (i : Int) * c))) O' ts' (fun ts2 O2 => WS K W tb O2 ts2 { E with nx := I (i + 1), ct := I (i + 1), bk := E.nx }))
    (hd : ∀ ts' O', I n ts' O' → E.nx ts' O') : ForEx K W g tb E ts (itR lo c n) O :=
  ⟨n, I, fun i h z => by
    have := itR_none z
    omega, by unfold itR; rw [if_neg (Nat.lt_irrefl n)], h0, fun i t ts' O' hi ht hI => by
    obtain ⟨_, rfl⟩ := itR_some ht
    exact hs i ts' O' hi hI, hd⟩
/-- range(n), range(lo, hi): the items as they are -/
theorem for_R1 {n : Nat} (I : Nat → List T → List OD → Prop) (h0 : I 0 ts O)
    (hs : ∀ i ts' O', i < n → I i ts' O' → WG K W g (.v (.int (i : Nat))) O' ts' (fun ts2 O2 => WS K W tb O2 ts2 { E with nx := I (i + 1), ct := I (i + 1), bk := E.nx }))
    (hd : ∀ ts' O', I n ts' O' → E.nx ts' O') : ForEx K W g tb E ts (itR 0 1 n) O :=
  for_R I h0 (fun i ts' O' hi hI => by
    rw [Int.zero_add, Int.mul_one]
    exact hs i ts' O' hi hI) hd
theorem for_Z {ds es : List D} (hl : ds.length = es.length) (I : Nat → List T → List OD → Prop) (h0 : I 0 ts O)
    (hs : ∀ i d e ts' O', i < ds.length → ds[i]? = some d → es[i]? = some e → I i ts' O' → WG K W g (.v (.tup [d, e])) O' ts' (fun ts2 O2 => WS K W tb O2 ts2 { E with nx := I (i + 1), ct := I (i + 1), bk := E.nx }))
    (hd : ∀ ts' O', I ds.length ts' O' → E.nx ts' O') : ForEx K W g tb E ts (itZ ds es) O :=
  ⟨ds.length, I, fun i h z => by
    rcases itZ_none z with z | z <;> omega, by unfold itZ; rw [List.getElem?_eq_none (Nat.le_refl ds.length)], h0, fun i t ts' O' hi ht hI => by
    obtain ⟨d, e, e1, e2, rfl⟩ := itZ_some ht
    exact hs i d e ts' O' hi e1 e2 hI, hd⟩
theorem s_forE {wi : TI} (h : WI K W wi O ts (fun f O1 => ForEx K W g tb E ts f O1) (fun C fs O' => E.xe C fs ts O')) : WS K W (tFor wi g tb) O ts E := s_for h
/-- a, b = a pair -/
theorem g_pair {n : Nat} {i j : Nat} {a b : D} {N : List T → List OD → Prop} (hn : n = 2) (k : N ((ts.set i (.v a)).set j (.v b)) O) : WG K W (gTup K n (gCons (gName i) (gCons (gName j) gNil))) (.v (.tup [a, b])) O ts N :=
  g_tup (by rw [hn] <;> rfl) (g_cons (g_name (g_cons (g_name (g_nil k)))))
theorem g_trip {n : Nat} {i j l : Nat} {a b c : D} {N : List T → List OD → Prop} (hn : n = 3) (k : N (((ts.set i (.v a)).set j (.v b)).set l (.v c)) O) : WG K W (gTup K n (gCons (gName i) (gCons (gName j) (gCons (gName l) gNil)))) (.v (.tup [a, b, c])) O ts N :=
  g_tup (by rw [hn] <;> rfl) (g_cons (g_name (g_cons (g_name (g_cons (g_name (g_nil k)))))))
theorem g_quad {n : Nat} {i j l m : Nat} {a b c d : D} {N : List T → List OD → Prop} (hn : n = 4) (k : N ((((ts.set i (.v a)).set j (.v b)).set l (.v c)).set m (.v d)) O) : WG K W (gTup K n (gCons (gName i) (gCons (gName j) (gCons (gName l) (gCons (gName m) gNil))))) (.v (.tup [a, b, c, d])) O ts N :=
  g_tup (by rw [hn] <;> rfl) (g_cons (g_name (g_cons (g_name (g_cons (g_name (g_cons (g_name (g_nil k)))))))))
variable {P : PT'} {X : XX} {te ta tv : TE} {DE' : DE} {C : Addr} {f : Str}
theorem w_fldN (n : NoAttr K C f) (c : Cls K C) (h : WE K W ta O ts (fun x O1 => ∃ fs d, InsD x O1 C fs ∧ fs.lookup f = some d ∧ P (.v d) O1) X) : WE K W (tFld K ta f) O ts P X := w_fld c n h
theorem s_fldN (n : NoAttr K C f) (c : Cls K C) (h : WE K W tv O ts (fun y O1 => WE K W ta O1 ts (fun x O2 => ∃ i fs d, x = .own i ∧ y = .v d ∧ O2[i]? = some (.ins C fs) ∧ fs.length < 1000 ∧ DE'.nx ts (O2.set i (.ins C (putD f d fs)))) (fun C fs O' => DE'.xe C fs ts O')) (fun C fs O' => DE'.xe C fs ts O')) :
    WS K W (sFld K ta tv f) O ts DE' := s_fld c n h
theorem drop_at {α : Type} {xs : List α} {i : Nat} {x : α} (h : xs[i]? = some x) : xs.drop i = x :: xs.drop (i + 1) := by
  obtain ⟨hi, e⟩ := List.getElem?_eq_some_iff.mp h
  rw [List.drop_eq_getElem_cons hi, e]
theorem unv_vs : ∀ {ds : List D} {ys : List T} {es : List D}, unv ys = some es → unv (ds.map T.v ++ ys) = some (ds ++ es)
  | [], _, _, h => h
  | d :: ds, _, _, h => by
    show (unv (ds.map T.v ++ _)).map (d :: ·) = _
    rw [unv_vs h] <;> rfl
theorem atI_m1 {α : Type} {xs : List α} {x : α} : atI (xs ++ [x]) (-1) = some x := by
  have e : ixN (xs ++ [x]).length (-1) = some xs.length := by
    unfold ixN
    rw [List.length_append]
    simp
    omega
  unfold atI
  rw [e]
  simp
theorem unv_nums {fs : List Int} {x : Int} : unv ((nums fs).map T.v ++ [.v (.int x)]) = some (nums (fs ++ [x])) := by
  rw [unv_vs (ys := [.v (.int x)]) (es := [.int x]) rfl]
  unfold nums
  rw [List.map_append] <;> rfl
theorem star_len {fs : List Int} {y : T} : ((nums fs).map T.v ++ [y]).length = fs.length + 1 := by
  rw [List.length_append, List.length_map, nums_len] <;> rfl
theorem sizeL_ok {n : Nat} (h : n ≤ 1000000) : n ≤ sizeLine := Nat.le_trans h (Nat.le_of_ble_eq_true rfl)
theorem lt_sz {fs : List Int} (h : fs.length < 1000000) : (nums fs).length < sizeLine := Nat.lt_of_lt_of_le (by rw [nums_len]; exact h) (Nat.le_of_ble_eq_true rfl)
theorem lt_szD {fs : List D} (h : fs.length < 1000000) : fs.length < sizeLine := Nat.lt_of_lt_of_le h (Nat.le_of_ble_eq_true rfl)
theorem nums_app {fs : List Int} {x : Int} : nums fs ++ [.int x] = nums (fs ++ [x]) := by
  unfold nums
  rw [List.map_append] <;> rfl
theorem atI_m1n {fs : List Int} {x : Int} : atI (nums (fs ++ [x])) (-1) = some (.int x) := by
  rw [← nums_app]
  exact atI_m1
/-- a stop that is never reached -/
theorem nb_t {A B : Prop} {c : Bool} (hc : c = true) (h : B) : ((!c) = true → A) ∧ ((!c) = false → B) := ⟨fun z => (by rw [hc] at z; cases z), fun _ => h⟩
end
end G

set_option Elab.async false
set_option linter.all false
set_option maxRecDepth 100000
set_option maxHeartbeats 4000000
/-! GN: comprehensions over what is known. -/
namespace G
open PySem PySem.Spec PyProof.Rows L2
section
variable {K : PySem.W.Frag} {W : WX} {O : List OD} {ts : List T} {g : TG} {te : TE} {vs : List Nat} {P : PT'}
def LcEx (K : PySem.W.Frag) (W : WX) (g : TG) (te : TE) (vs : List Nat) (P : PT') (ts : List T) (f : Nat → Option T) (O1 : List OD) : Prop :=
  ∃ (n : Nat) (I : Nat → List D → List OD → Prop), (∀ i, i < n → f i ≠ none) ∧ f n = none ∧ I 0 [] O1 ∧ (∀ i acc O', I i acc O' → O'.length = O1.length) ∧
      (∀ i t acc O', i < n → f i = some t → I i acc O' → WG K W g t (O' ++ [.lst acc]) (wipeT ts vs) (fun ts2 O2 => WT K W tYes O2 ts2 (fun c O3 =>
        (c = true → WE K W te O3 ts2 (fun y O4 => ∃ d O5, y = .v d ∧ O4 = O5 ++ [.lst acc] ∧ acc.length < sizeLine ∧ I (i + 1) (acc ++ [d]) O5) X0) ∧ (c = false → ∃ O5, O3 = O5 ++ [.lst acc] ∧ I (i + 1) acc O5)) X0)) ∧
      (∀ acc O', I n acc O' → P (.v (.lst acc)) O')
theorem WG.imp {t : T} {N N' : List T → List OD → Prop} (h : WG K W g t O ts N) (q : ∀ ts O, N ts O → N' ts O) : WG K W g t O ts N' := fun b A σ H Q v s rs r kn => h b A σ H Q v s rs r fun ts σ A' O' H' x s m r => kn ts σ A' O' H' (q ts O' x) s m r
/-- with effects -/
theorem lc_I {f : Nat → Option T} {n : Nat} {item : Nat → T} (hf : ∀ i, i < n → f i = some (item i)) (hn : f n = none) (hz : n ≤ 1000000) (I : Nat → List D → List OD → Prop) (h0 : I 0 [] O)
    (hlen : ∀ i acc O', I i acc O' → O'.length = O.length ∧ acc.length = i)
    (hs : ∀ i acc O', i < n → I i acc O' → WG K W g (item i) (O' ++ [.lst acc]) (wipeT ts vs) (fun ts2 O2 => WE K W te O2 ts2 (fun y O4 => ∃ d O5, y = .v d ∧ O4 = O5 ++ [.lst acc] ∧ I (i + 1) (acc ++ [d]) O5) X0))
    (hd : ∀ acc O', I n acc O' → P (.v (.lst acc)) O') : LcEx K W g te vs P ts f O := by
  refine ⟨n, I, fun i h z => ?_, hn, h0, fun i acc O' h => (hlen i acc O' h).1, fun i t acc O' hi ht hI => ?_, hd⟩
  · rw [hf i h] at z
    cases z
  · have e : item i = t := by
      rw [hf i hi] at ht
      exact Option.some.inj ht
    subst e
    refine (hs i acc O' hi hI).imp fun ts2 O2 q => w_yes ⟨fun _ => q.imp fun y O4 p => ?_, fun z => by cases z⟩
    obtain ⟨d, O5, e1, e2, p⟩ := p
    exact ⟨d, O5, e1, e2, Nat.lt_of_lt_of_le (show acc.length < 1000000 by rw [(hlen i acc O' hI).2]; omega) (Nat.le_of_ble_eq_true rfl), p⟩
theorem range_get {α : Type} {n : Nat} {r : Nat → α} {i : Nat} : ((List.range n).map r) ++ [r n] = (List.range (n + 1)).map r := by
  rw [List.range_succ, List.map_append] <;> rfl
/-- without -/
theorem lc_P {f : Nat → Option T} {n : Nat} {item : Nat → T} (r : Nat → D) (hf : ∀ i, i < n → f i = some (item i)) (hn : f n = none) (hz : n ≤ 1000000)
    (hs : ∀ i acc, i < n → WG K W g (item i) (O ++ [.lst acc]) (wipeT ts vs) (fun ts2 O2 => WE K W te O2 ts2 (fun y O4 => y = .v (r i) ∧ O4 = O ++ [.lst acc]) X0))
    (hd : P (.v (.lst ((List.range n).map r))) O) : LcEx K W g te vs P ts f O := by
  refine lc_I hf hn hz (fun i acc O' => O' = O ∧ acc = (List.range i).map r) ⟨rfl, rfl⟩ (fun i acc O' h => ?_) (fun i acc O' hi h => ?_) fun acc O' h => ?_
  · obtain ⟨rfl, rfl⟩ := h
    exact ⟨rfl, by rw [List.length_map, List.length_range]⟩
  · obtain ⟨rfl, rfl⟩ := h
    refine (hs i _ hi).imp fun ts2 O2 q => q.imp fun y O4 p => ?_
    obtain ⟨rfl, rfl⟩ := p
    exact ⟨_, _, rfl, rfl, rfl, range_get (i := i)⟩
  · obtain ⟨rfl, rfl⟩ := h
    exact hd
theorem lc_R {n : Nat} (r : Nat → D) (hz : n ≤ 1000000)
    (hs : ∀ i acc, i < n → WG K W g (.v (.int (i : Nat))) (O ++ [.lst acc]) (wipeT ts vs) (fun ts2 O2 => WE K W te O2 ts2 (fun y O4 => y = .v (r i) ∧ O4 = O ++ [.lst acc]) X0))
    (hd : P (.v (.lst ((List.range n).map r))) O) : LcEx K W g te vs P ts (itR 0 1 n) O :=
  lc_P (item := fun i => .v (.int (i : Nat))) r (fun i hi => by
    unfold itR
    rw [if_pos hi, Int.zero_add, Int.mul_one]) (by unfold itR; rw [if_neg (Nat.lt_irrefl n)]) hz hs hd
theorem lc_RI {n : Nat} (hz : n ≤ 1000000) (I : Nat → List D → List OD → Prop) (h0 : I 0 [] O)
    (hlen : ∀ i acc O', I i acc O' → O'.length = O.length ∧ acc.length = i)
    (hs : ∀ i acc O', i < n → I i acc O' → WG K W g (.v (.int (i : Nat))) (O' ++ [.lst acc]) (wipeT ts vs) (fun ts2 O2 => WE K W te O2 ts2 (fun y O4 => ∃ d O5, y = .v d ∧ O4 = O5 ++ [.lst acc] ∧ I (i + 1) (acc ++ [d]) O5) X0))
    (hd : ∀ acc O', I n acc O' → P (.v (.lst acc)) O') : LcEx K W g te vs P ts (itR 0 1 n) O :=
  lc_I (item := fun i => .v (.int (i : Nat))) (fun i hi => by
    unfold itR
    rw [if_pos hi, Int.zero_add, Int.mul_one]) (by unfold itR; rw [if_neg (Nat.lt_irrefl n)]) hz I h0 hlen hs hd
theorem map_range {α β : Type} {f : α → β} : ∀ {xs : List α} {r : Nat → β}, (∀ i x, xs[i]? = some x → r i = f x) → (List.range xs.length).map r = xs.map f := fun {xs r} h => by
  refine List.ext_getElem (by rw [List.length_map, List.length_range, List.length_map]) fun i h1 h2 => ?_
  rw [List.getElem_map, List.getElem_map, List.getElem_range]
  rw [List.length_map] at h2
  exact h i _ (List.getElem?_eq_getElem h2)
theorem lc_A {α : Type} (xs : List α) (e : α → D) (f : α → D) (hz : xs.length ≤ 1000000)
    (hs : ∀ x acc, x ∈ xs → WG K W g (.v (e x)) (O ++ [.lst acc]) (wipeT ts vs) (fun ts2 O2 => WE K W te O2 ts2 (fun y O4 => y = .v (f x) ∧ O4 = O ++ [.lst acc]) X0))
    (hd : P (.v (.lst (xs.map f))) O) : LcEx K W g te vs P ts (itD (xs.map e)) O := by
  refine lc_P (n := xs.length) (item := fun i => .v ((xs.map e).getD i .non)) (fun i => (xs.map f).getD i .non) (fun i hi => ?_) ?_ hz (fun i acc hi => ?_) ?_
  · unfold itD
    have h2 : i < (xs.map e).length := by rw [List.length_map]; exact hi
    rw [List.getElem?_eq_getElem h2, List.getD_eq_getElem?_getD, List.getElem?_eq_getElem h2] <;> rfl
  · unfold itD
    rw [List.getElem?_eq_none (by rw [List.length_map]; exact Nat.le_refl _)] <;> rfl
  · have h2 := hs xs[i] acc (List.getElem_mem hi)
    have e1 : (xs.map e).getD i .non = e xs[i] := by
      rw [List.getD_eq_getElem?_getD, List.getElem?_map, List.getElem?_eq_getElem hi] <;> rfl
    have e2 : (xs.map f).getD i .non = f xs[i] := by
      rw [List.getD_eq_getElem?_getD, List.getElem?_map, List.getElem?_eq_getElem hi] <;> rfl
    rw [e1, e2]
    exact h2
  · rw [map_range (f := f) (xs := xs) fun i x hx => by rw [List.getD_eq_getElem?_getD, List.getElem?_map, hx] <;> rfl]
    exact hd
/-- the target is one name -/
theorem w_lc1 {wi : TI} {i : Nat} {vs : List Nat} {X : XX} (h : WI K W wi O ts (fun f O1 => LcEx K W (gName i) te vs P ts f O1) X) (hm : i ∈ vs) : WE K W (tLc wi (gName i) tYes te vs) O ts P X := w_lc (tgt_name hm) h
theorem w_lcT {wi : TI} {vs : List Nat} {X : XX} (h : WI K W wi O ts (fun f O1 => LcEx K W g te vs P ts f O1) X) (hg : Tgt g vs) : WE K W (tLc wi g tYes te vs) O ts P X := w_lc hg h
end
/-! places -/
theorem getD_some {α : Type} {xs : List α} {i : Nat} {d : α} (h : i < xs.length) : xs[i]? = some (xs.getD i d) := by
  rw [List.getD_eq_getElem?_getD, List.getElem?_eq_getElem h] <;> rfl
theorem atIM {α : Type} {xs : List α} {f : α → D} {i : Nat} (d : α) (h : i < xs.length) : atI (xs.map f) (i : Int) = some (f (xs.getD i d)) := by
  refine atI_nat ?_
  rw [List.getElem?_map, getD_some (d := d) h] <;> rfl
theorem atIZ {α : Type} {xs : List α} {f : α → D} {j : Int} (i : Nat) (d : α) (hj : j = i) (h : i < xs.length) : atI (xs.map f) j = some (f (xs.getD i d)) := by
  rw [hj]
  exact atIM d h
theorem atIN {xs : List Int} {i : Nat} (h : i < xs.length) : atI (nums xs) (i : Int) = some (.int (xs.getD i 0)) := atIM (f := D.int) 0 h
theorem atINZ {xs : List Int} {j : Int} (i : Nat) (hj : j = i) (h : i < xs.length) : atI (nums xs) j = some (.int (xs.getD i 0)) := atIZ (f := D.int) i 0 hj h
theorem atIneg {α : Type} {xs : List α} {x : α} (h : xs[xs.length - 1]? = some x) : atI xs (-1) = some x := by
  have hl := (List.getElem?_eq_some_iff.mp h).1
  have e : ixN xs.length (-1) = some (xs.length - 1) := by
    unfold ixN
    rw [if_neg (by omega), if_pos (by omega)]
    congr 1
    omega
  unfold atI
  rw [e]
  exact h
theorem atInegM {α : Type} {xs : List α} {f : α → D} {n : Nat} (d : α) (h : xs.length = n + 1) : atI (xs.map f) (-1) = some (f (xs.getD n d)) := by
  refine atIneg ?_
  rw [List.length_map, h, Nat.add_sub_cancel, List.getElem?_map, getD_some (d := d) (by omega)] <;> rfl
theorem atI_m1M {α : Type} {xs : List α} {f : α → D} {x : α} : atI ((xs ++ [x]).map f) (-1) = some (f x) := by
  rw [List.map_append]
  exact atI_m1
theorem len_m {α : Type} {xs : List α} {f : α → D} : ((xs.map f).length : Int) = xs.length := by rw [List.length_map]
theorem len_n {xs : List Int} : ((nums xs).length : Int) = xs.length := by rw [nums_len]
def tupN (ns : List Int) : D := .tup (nums ns)
theorem pl_tupN {n : Nat} {ns : List Int} : pl (n + 1) (tupN ns) = true := pl_numsT
theorem pl_tups {n : Nat} {xs : List (List Int)} : pl (n + 2) (.lst (xs.map tupN)) = true := pls_map (fun _ => pl_tupN) xs
theorem rg_down {n : Nat} (h : n ≤ 1000000) : RgC ((n : Int) - 1) (-1) (-1) n := by
  have := RgC.neg (i := (n : Int) - 1) (j := -1) (by omega) (by omega) (by omega) (by omega)
  rwa [show (((n : Int) - 1) - (-1)).toNat = n by omega] at this
theorem cutD_take {xs : List D} {n : Nat} (h : n ≤ xs.length) : cutD xs none (some (n : Int)) = xs.take n := by
  unfold cutD
  rw [HT.sIx_none, HT.sIx_nat, Nat.min_eq_left h, List.drop_zero, Nat.sub_zero]
theorem cut_nums {xs : List Int} {n : Nat} (h : n ≤ xs.length) : cutD (nums xs) none (some (n : Int)) = nums (xs.take n) := by
  rw [cutD_take (by rw [nums_len]; exact h)]
  unfold nums
  rw [List.map_take]
end G

set_option Elab.async false
set_option linter.all false
set_option maxRecDepth 100000
set_option maxHeartbeats 4000000
/-! GO: the rules of HandS with K given, so that they serve inside comprehensions. -/
namespace G
open PySem PySem.Spec PyProof.Rows L2
section
variable {X : Cx}
theorem ix_listK (K : PySem.W.Frag) (h : X.K = K := by rfl) : IxR X (rIxL K) := h ▸ ix_list
theorem ix_tupK (K : PySem.W.Frag) (h : X.K = K := by rfl) : IxR X (rIxT K) := h ▸ ix_tup
theorem sl_listK (K : PySem.W.Frag) (h : X.K = K := by rfl) : SlR X (rSlL K) := h ▸ sl_list
theorem sl_tupAK (K : PySem.W.Frag) (h : X.K = K := by rfl) : SlR X (rSlA K) := h ▸ sl_tupA
theorem op_eqDK (K : PySem.W.Frag) (hu : X.A.units + 64 < cLine) (h : X.K = K := by rfl) : OpR X (compareOp .Eq) (rEqD K) := h ▸ op_eqD hu
theorem op_neDK (K : PySem.W.Frag) (hu : X.A.units + 64 < cLine) (h : X.K = K := by rfl) : OpR X (compareOp .NotEq) (rNeD K) := h ▸ op_neD hu
theorem op_catAK (K : PySem.W.Frag) (h : X.K = K := by rfl) : OpR X (binaryOp .Add) (rCatA K) := h ▸ op_catA
theorem call_isiK (K : PySem.W.Frag) (h : X.K = K := by rfl) : CallR X (.builtin "isinstance") (rIsi K) := h ▸ call_isi
theorem call_isiSK (K : PySem.W.Frag) (h : X.K = K := by rfl) : CallR X (.builtin "isinstance") (rIsiS K) := h ▸ call_isiS
theorem cr_lenK (K : PySem.W.Frag) (h : X.K = K := by rfl) : CallR X (.builtin "len") (rLen K) := h ▸ cr_len
theorem cr_listK (K : PySem.W.Frag) (h : X.K = K := by rfl) : CallR X (.type "list") (rListOf K) := h ▸ cr_list
theorem cr_tupK (K : PySem.W.Frag) (h : X.K = K := by rfl) : CallR X (.type "tuple") (rTupOf K) := h ▸ cr_tup
theorem cr_sumK (K : PySem.W.Frag) (hc : X.calm = true) (h : X.K = K := by rfl) : CallR X (.builtin "sum") (rSum K) := h ▸ cr_sum hc
theorem cr_allK (K : PySem.W.Frag) (hc : X.calm = true) (h : X.K = K := by rfl) : CallR X (.builtin "all") (rAll K) := h ▸ cr_all hc
theorem cr_anyK (K : PySem.W.Frag) (hc : X.calm = true) (h : X.K = K := by rfl) : CallR X (.builtin "any") (rAny K) := h ▸ cr_any hc
variable {e : Expr} {f : Str} {pos : Pos} {ta : TE}
theorem pe_fldK (K : PySem.W.Frag) (he : PE X e ta) (hb : attributeBase e f X.env (eval e X.env) = eval e X.env := by rfl) (h : X.K = K := by rfl) : PE X (.Attribute e f pos) (tFld K ta f) := h ▸ pe_fld he hb
theorem pe_conK (K : PySem.W.Frag) (he : PE X e ta) (hb : attributeBase e f X.env (eval e X.env) = eval e X.env := by rfl) (h : X.K = K := by rfl) : PE X (.Attribute e f pos) (tCon K ta f) := h ▸ pe_con he hb
theorem pg_tupK (K : PySem.W.Frag) {es : List Expr} {k : Nat} {t : TGs} {n : Nat} (hc : X.calm = true) (h : PGs X es t)
    (hn : (assignEach es X.env).length = n := by rfl) (hst : (assignEach es X.env).findIdx? (·.1) = none := by rfl) (hK : X.K = K := by rfl) : PG X (.Tuple es k pos) (gTup K n t) := hK ▸ pg_tup hc h hn hst
theorem pi_listK (K : PySem.W.Frag) {tg : Expr} (he : PE X e ta) (h : X.K = K := by rfl) : PI X tg e (iList K ta) := h ▸ pi_list he
theorem pi_tupK (K : PySem.W.Frag) {tg : Expr} (he : PE X e ta) (h : X.K = K := by rfl) : PI X tg e (iTup K ta) := h ▸ pi_tup he
end
end G

set_option Elab.async false
set_option linter.all false
set_option maxRecDepth 100000
set_option maxHeartbeats 4000000
/-! GP: a law's end. -/
namespace G
open PySem PySem.Spec PyProof.Rows L2
def CXa (P : Program) : CXT := fun outer H s E u s' => ∃ w, L2.CX P w outer H s E u s'
theorem cxa_nil {P : Program} {H : Hp} {s : Shared} {e : Value} {s' : Shared} (h : CXa P [] H s (fun _ _ _ => False) e s') : False := by
  obtain ⟨w, a, B, H', cls, d, _, _, _, _, _, _, _, z⟩ := h
  exact z
theorem fn_end {P : Program} {w : World} {K : PySem.W.Frag} {mg : Str → Option Value} {base : Heap} {k l : Nat} {f : Addr} {fd : FuncData} {ps : List Str} {sp : SpD} (h : Fn P w K mg base k f ps sp) (lk : LkF K f fd) (hk : k ≤ l) : FnOk P w K mg base (CXa P) l f fd ps (lift K sp) := by
  obtain ⟨fd2, F, _, _, lk2⟩ := h
  obtain ⟨oc, od, osl, e⟩ := lk
  obtain ⟨oc2, od2, osl2, e2⟩ := lk2
  rw [e] at e2
  injection e2 with e2
  injection e2 with _ _ e2
  injection e2 with e2
  subst e2
  refine ⟨F.len, fun A outer s H args us vs Q E hr h0 hb hv h => ?_⟩
  refine codeAny_mono (F.run A outer s H args us vs Q E (hr.mono hk) h0 hb hv h) fun r s' c => ?_
  cases r with
  | ok x => cases x <;> exact c
  | error e => exact ⟨w, c⟩
/-- the law's own call -/
def sp_law (_K : PySem.W.Frag) : SpD := fun ts O P _ => ∃ (cs : List Int), ts = [.v (.lst (nums cs))] ∧ O = [] ∧ cs.length ≤ 1000000 ∧ P (.v (.bl true)) []
theorem sp_law_len {K : PySem.W.Frag} {ts O P X} (h : sp_law K ts O P X) : ts.length = 1 := by
  obtain ⟨cs, rfl, _⟩ := h
  rfl
theorem law_lift {K : PySem.W.Frag} {H : Hp} {a : Addr} {ns : List Int} (hz : ns.length ≤ 1000000) (h : SqL K H a (ns.map V.int)) : lift K (sp_law K) [.ref a] H (fun v _ => v = .bl true) fun _ _ _ => False := by
  have eh : ∀ L : List Addr, L = [] → hid L H = H := fun L e => by
    subst e
    funext a
    unfold hid
    rw [if_neg (by simp)]
  refine ⟨[], [], [], [.v (.lst (nums ns))], fun t O => t = .v (.bl true), fun _ _ _ => False, ⟨rfl, ⟨[], rfl⟩, Ex.refl _, fun z hz => (by cases hz), List.nodup_nil, fun a h => (by cases h), fun i a o h _ => (by simp at h)⟩, rfl, ?_, ⟨ns, rfl, rfl, hz, rfl⟩, fun t v O' H' q _ _ r => ?_, fun _ _ _ _ _ q => q.elim⟩
  · refine ⟨.ref a, [], rfl, ⟨_, rfl, a, ns.map V.int, rfl, ?_, repL_ints⟩, rfl⟩
    show SqL K (hid _ H) a _
    rw [eh _ rfl]
    exact h
  · subst q
    obtain ⟨_, e, rfl⟩ := r
    exact (Option.some.inj e)
end G

set_option Elab.async false
set_option linter.all false
set_option maxRecDepth 100000
set_option maxHeartbeats 4000000
/-! M47: chains in plain numbers. -/
namespace G
def InR (m : Int) (rs : List Int) : Prop := ∀ r ∈ rs, 0 ≤ r ∧ r < m
theorem InR.tail {m r : Int} {rs : List Int} (h : InR m (r :: rs)) : InR m rs := fun x hx => h x (List.mem_cons_of_mem _ hx)
theorem InR.head {m r : Int} {rs : List Int} (h : InR m (r :: rs)) : 0 ≤ r ∧ r < m := h r List.mem_cons_self
theorem InR.take {m : Int} {rs : List Int} (h : InR m rs) (n : Nat) : InR m (rs.take n) := fun x hx => h x (List.mem_of_mem_take hx)
theorem InR.at {m : Int} {rs : List Int} (h : InR m rs) {i : Nat} {r : Int} (e : rs[i]? = some r) : 0 ≤ r ∧ r < m := h r (List.mem_of_getElem? e)
theorem InR.mul {m k : Int} {rs : List Int} (h : InR m rs) (hk : 0 < k) : InR (m * k) (rs.map (· * k)) := fun x hx => by
  obtain ⟨r, hr, rfl⟩ := List.mem_map.mp hx
  obtain ⟨h1, h2⟩ := h r hr
  exact ⟨Int.mul_nonneg h1 (Int.le_of_lt hk), Int.mul_lt_mul_of_pos_right h2 hk⟩
theorem InR.nil {m : Int} : InR m [] := fun x hx => by cases hx
theorem InR.snoc {m x : Int} {rs : List Int} (h : InR m rs) (h0 : 0 ≤ x) (h1 : x < m) : InR m (rs ++ [x]) := fun y hy => by
  rcases List.mem_append.mp hy with hy | hy
  · exact h y hy
  · rw [List.mem_singleton.mp hy]
    exact ⟨h0, h1⟩
/-- the carry of r and g -/
def cy (m r g : Int) : Int := if m ≤ r + g then 1 else 0
theorem cy_bd {m r g : Int} : 0 ≤ cy m r g ∧ cy m r g ≤ 1 := by
  unfold cy
  split <;> omega
theorem cy_eq {m r g : Int} : (if decide (m ≤ r + g) = true then (1 : Int) else 0) = cy m r g := by
  unfold cy
  simp
/-- a beat -/
def bt (l : Bool) (m : Int) : List Int → Int → List Int × List Int
  | [], _ => ([], [])
  | r :: rs, g => ((r + g - cy m r g * m) :: (bt l m rs (if l then r else r + g - cy m r g * m)).1, cy m r g :: (bt l m rs (if l then r else r + g - cy m r g * m)).2)
/-- .. back -/
def bw (r g : Int) : Int := if r < g then 1 else 0
theorem bw_bd {r g : Int} : 0 ≤ bw r g ∧ bw r g ≤ 1 := by
  unfold bw
  split <;> omega
theorem bw_eq {r g : Int} : (if decide (r < g) = true then (1 : Int) else 0) = bw r g := by
  unfold bw
  simp
theorem bw_in {m r g : Int} (h0 : 0 ≤ r) (h1 : r < m) (h2 : 0 ≤ g) (h3 : g < m) : 0 ≤ r - g + bw r g * m ∧ r - g + bw r g * m < m := by
  unfold bw
  split <;> omega
def bk (l : Bool) (m : Int) : List Int → Int → List Int × List Int
  | [], _ => ([], [])
  | r :: rs, g => ((r - g + bw r g * m) :: (bk l m rs (if l then r - g + bw r g * m else r)).1, bw r g :: (bk l m rs (if l then r - g + bw r g * m else r)).2)
theorem cy_in {m r g : Int} (h0 : 0 ≤ r) (h1 : r < m) (h2 : 0 ≤ g) (h3 : g < m) : 0 ≤ r + g - cy m r g * m ∧ r + g - cy m r g * m < m := by
  unfold cy
  split <;> omega
theorem bt_len (l : Bool) (m : Int) : ∀ (rs : List Int) (g : Int), (bt l m rs g).1.length = rs.length ∧ (bt l m rs g).2.length = rs.length
  | [], _ => ⟨rfl, rfl⟩
  | r :: rs, g => by
    obtain ⟨h1, h2⟩ := bt_len l m rs (if l then r else r + g - cy m r g * m)
    simp only [bt, List.length_cons, h1, h2, and_self]
theorem bt_in (l : Bool) {m : Int} : ∀ {rs : List Int} {g : Int}, InR m rs → 0 ≤ g → g < m → InR m (bt l m rs g).1
  | [], _, _, _, _ => fun x hx => by cases hx
  | r :: rs, g, h, h0, h1 => by
    have hr := h.head
    have c := cy_in hr.1 hr.2 h0 h1
    have ih := bt_in l (rs := rs) (g := if l then r else r + g - cy m r g * m) h.tail (by split; exact hr.1; exact c.1) (by split; exact hr.2; exact c.2)
    intro x hx
    rcases List.mem_cons.mp (show x ∈ (r + g - cy m r g * m) :: _ from hx) with e | hx
    · rw [e]
      exact c
    · exact ih x hx
theorem bk_bt (l : Bool) {m : Int} : ∀ {rs : List Int} {g : Int}, InR m rs → 0 ≤ g → g < m → bk l m (bt l m rs g).1 g = (rs, (bt l m rs g).2)
  | [], _, _, _, _ => rfl
  | r :: rs, g, h, h0, h1 => by
    have hr := h.head
    have c := cy_in hr.1 hr.2 h0 h1
    have ih := bk_bt l (rs := rs) (g := if l then r else r + g - cy m r g * m) h.tail (by split; exact hr.1; exact c.1) (by split; exact hr.2; exact c.2)
    have e1 : bw (r + g - cy m r g * m) g = cy m r g := by
      unfold bw cy
      split <;> split <;> omega
    have e2 : r + g - cy m r g * m - g + cy m r g * m = r := by omega
    simp only [bt, bk, e1, e2, ih]
/-- what is handed to the stage i -/
def gv (l : Bool) (rs fs : List Int) (g : Int) : Nat → Int
  | 0 => g
  | i + 1 => if l then rs.getD i 0 else fs.getD i 0
theorem gv_cons {l : Bool} {r f g : Int} {rs fs : List Int} : ∀ i, gv l (r :: rs) (f :: fs) g (i + 1) = gv l rs fs (if l then r else f) i
  | 0 => by cases l <;> rfl
  | i + 1 => by cases l <;> rfl
/-- each stage's sum -/
theorem bt_at (l : Bool) (m : Int) : ∀ (rs : List Int) (g : Int) (i : Nat), i < rs.length →
    (bt l m rs g).1.getD i 0 = rs.getD i 0 + gv l rs (bt l m rs g).1 g i - cy m (rs.getD i 0) (gv l rs (bt l m rs g).1 g i) * m ∧ (bt l m rs g).2.getD i 0 = cy m (rs.getD i 0) (gv l rs (bt l m rs g).1 g i)
  | [], _, i, h => by simp at h
  | r :: rs, g, 0, h => ⟨rfl, rfl⟩
  | r :: rs, g, i + 1, h => by
    have ih := bt_at l m rs (if l then r else r + g - cy m r g * m) i (by simpa using h)
    simp only [bt, gv_cons, List.getD_cons_succ]
    exact ih
theorem bt_take (l : Bool) (m : Int) : ∀ (n : Nat) (rs : List Int) (g : Int), bt l m (rs.take n) g = ((bt l m rs g).1.take n, (bt l m rs g).2.take n)
  | 0, rs, g => by simp [bt]
  | n + 1, [], g => by simp [bt]
  | n + 1, r :: rs, g => by simp only [List.take_succ_cons, bt, bt_take l m n]
theorem cy_mul {m r g k : Int} (hk : 0 < k) : cy (m * k) (r * k) (g * k) = cy m r g := by
  unfold cy
  have e : m * k ≤ r * k + g * k ↔ m ≤ r + g := by
    rw [← Int.add_mul]
    exact ⟨fun h => Int.le_of_mul_le_mul_right h hk, fun h => Int.mul_le_mul_of_nonneg_right h (Int.le_of_lt hk)⟩
  simp only [e]
theorem bt_mul (l : Bool) {m k : Int} (hk : 0 < k) : ∀ (rs : List Int) (g : Int), bt l (m * k) (rs.map (· * k)) (g * k) = ((bt l m rs g).1.map (· * k), (bt l m rs g).2)
  | [], _ => rfl
  | r :: rs, g => by
    have e : r * k + g * k - cy m r g * (m * k) = (r + g - cy m r g * m) * k := by
      rw [Int.sub_mul, Int.add_mul, Int.mul_assoc]
    have e2 : (if l = true then r * k else (r + g - cy m r g * m) * k) = (if l = true then r else r + g - cy m r g * m) * k := by split <;> rfl
    simp only [List.map_cons, bt, cy_mul hk, e, e2, bt_mul l hk rs]
/-! a row of beats -/
def ld (l : Bool) (m : Int) : List Int → List Int → List (List Int) × List (List Int)
  | st, [] => ([st], [])
  | st, g :: row => (st :: (ld l m (bt l m st g).1 row).1, (bt l m st g).2 :: (ld l m (bt l m st g).1 row).2)
theorem ld_nil (l : Bool) (m : Int) (st : List Int) : ld l m st [] = ([st], []) := rfl
theorem ld_cons (l : Bool) (m : Int) (st row : List Int) (g : Int) : ld l m st (g :: row) = (st :: (ld l m (bt l m st g).1 row).1, (bt l m st g).2 :: (ld l m (bt l m st g).1 row).2) := rfl
theorem ld_len (l : Bool) (m : Int) : ∀ (row st : List Int), (ld l m st row).1.length = row.length + 1 ∧ (ld l m st row).2.length = row.length
  | [], _ => ⟨rfl, rfl⟩
  | g :: row, st => by
    obtain ⟨h1, h2⟩ := ld_len l m row (bt l m st g).1
    simp only [ld, List.length_cons, h1, h2, and_self]
theorem ld_zero (l : Bool) (m : Int) (st row : List Int) : (ld l m st row).1.getD 0 [] = st := by cases row <;> rfl
theorem ld_at (l : Bool) (m : Int) : ∀ (row st : List Int) (i : Nat), i < row.length →
    (ld l m st row).1.getD (i + 1) [] = (bt l m ((ld l m st row).1.getD i []) (row.getD i 0)).1 ∧ (ld l m st row).2.getD i [] = (bt l m ((ld l m st row).1.getD i []) (row.getD i 0)).2
  | [], _, i, h => by simp at h
  | g :: row, st, 0, h => by
    simp only [ld, List.getD_cons_succ, List.getD_cons_zero, ld_zero, and_self]
  | g :: row, st, i + 1, h => by
    have ih := ld_at l m row (bt l m st g).1 i (by simpa using h)
    simp only [ld, List.getD_cons_succ]
    exact ih
theorem ld_in (l : Bool) {m : Int} : ∀ {row st : List Int}, InR m st → InR m row → ∀ x ∈ (ld l m st row).1, InR m x ∧ x.length = st.length
  | [], st, h, _ => fun x hx => by
    rw [List.mem_singleton.mp (show x ∈ [st] from hx)]
    exact ⟨h, rfl⟩
  | g :: row, st, h, hr => fun x hx => by
    rcases List.mem_cons.mp (show x ∈ st :: (ld l m (bt l m st g).1 row).1 from hx) with e | hx
    · rw [e]
      exact ⟨h, rfl⟩
    · obtain ⟨a, b⟩ := ld_in l (bt_in l h hr.head.1 hr.head.2) hr.tail x hx
      exact ⟨a, by rw [b, (bt_len l m st g).1]⟩
theorem ld_len2 (l : Bool) {m : Int} : ∀ {row st : List Int}, ∀ x ∈ (ld l m st row).2, x.length = st.length
  | [], st => fun x hx => by cases hx
  | g :: row, st => fun x hx => by
    rcases List.mem_cons.mp (show x ∈ (bt l m st g).2 :: (ld l m (bt l m st g).1 row).2 from hx) with e | hx
    · rw [e, (bt_len l m st g).2]
    · rw [ld_len2 l x hx, (bt_len l m st g).1]
theorem ld_take (l : Bool) (m : Int) (n : Nat) : ∀ (row st : List Int), ld l m (st.take n) row = ((ld l m st row).1.map (List.take n), (ld l m st row).2.map (List.take n))
  | [], st => rfl
  | g :: row, st => by simp only [ld, bt_take, List.map_cons, ld_take l m n row]
theorem ld_mul (l : Bool) {m k : Int} (hk : 0 < k) : ∀ (row st : List Int), ld l (m * k) (st.map (· * k)) (row.map (· * k)) = ((ld l m st row).1.map (List.map (· * k)), (ld l m st row).2)
  | [], st => rfl
  | g :: row, st => by simp only [List.map_cons, ld, bt_mul l hk, ld_mul l hk row]
theorem getD_mem {α : Type} {xs : List α} {i : Nat} {d : α} (h : i < xs.length) : xs.getD i d ∈ xs := by
  rw [List.getD_eq_getElem?_getD, List.getElem?_eq_getElem h]
  exact List.getElem_mem h
/-- the quick chain is the late one, read across -/
theorem lag {m : Int} {some_ begun row : List Int} (hb : ∀ k, k < some_.length → begun.getD k 0 = ((ld true m some_ row).1.getD k []).getD k 0) (hl : begun.length = some_.length) (hd : some_.length ≤ row.length) (hs : InR m some_) (hi : InR m begun) (hr : InR m row) :
    ∀ k, k < some_.length → ∀ t, t + k ≤ row.length → ((ld false m begun row).1.getD t []).getD k 0 = ((ld true m some_ row).1.getD (t + k) []).getD k 0 := by
  have lq : ∀ t, t ≤ row.length → ((ld false m begun row).1.getD t []).length = begun.length := fun t ht => (ld_in false hi hr _ (getD_mem (by rw [(ld_len false m row begun).1]; omega))).2
  have ls : ∀ t, t ≤ row.length → ((ld true m some_ row).1.getD t []).length = some_.length := fun t ht => (ld_in true hs hr _ (getD_mem (by rw [(ld_len true m row some_).1]; omega))).2
  intro k
  induction k with
  | zero =>
    intro hk t
    induction t with
    | zero =>
      intro _
      rw [ld_zero, hb 0 hk]
    | succ t ih =>
      intro ht
      have i1 := ih (by omega)
      rw [Nat.add_zero] at i1 ⊢
      rw [(ld_at false m row begun t (by omega)).1, (ld_at true m row some_ t (by omega)).1]
      rw [(bt_at false m _ _ 0 (by rw [lq t (by omega)]; omega)).1, (bt_at true m _ _ 0 (by rw [ls t (by omega)]; omega)).1]
      simp only [gv]
      rw [i1]
  | succ k ihk =>
    intro hk t
    induction t with
    | zero =>
      intro _
      rw [ld_zero, hb _ hk, Nat.zero_add]
    | succ t ih =>
      intro ht
      have i1 := ih (by omega)
      have i2 := ihk (by omega) (t + 1) (by omega)
      rw [(ld_at false m row begun t (by omega)).1] at i2
      rw [(ld_at false m row begun t (by omega)).1, show t + 1 + (k + 1) = (t + (k + 1)) + 1 by omega, (ld_at true m row some_ (t + (k + 1)) (by omega)).1]
      rw [(bt_at false m _ _ (k + 1) (by rw [lq t (by omega)]; omega)).1, (bt_at true m _ _ (k + 1) (by rw [ls _ (by omega)]; omega)).1]
      simp only [gv, if_true, if_false, Bool.false_eq_true]
      rw [i1, i2, show t + 1 + k = t + (k + 1) by omega]
theorem lag2 {m : Int} {some_ begun row : List Int} (hb : ∀ k, k < some_.length → begun.getD k 0 = ((ld true m some_ row).1.getD k []).getD k 0) (hl : begun.length = some_.length) (hd : some_.length ≤ row.length) (hs : InR m some_) (hi : InR m begun) (hr : InR m row) :
    ∀ k, k < some_.length → ∀ t, t + 1 + k ≤ row.length → ((ld false m begun row).2.getD t []).getD k 0 = ((ld true m some_ row).2.getD (t + k) []).getD k 0 := by
  have L := lag hb hl hd hs hi hr
  have lq : ∀ t, t ≤ row.length → ((ld false m begun row).1.getD t []).length = begun.length := fun t ht => (ld_in false hi hr _ (getD_mem (by rw [(ld_len false m row begun).1]; omega))).2
  have ls : ∀ t, t ≤ row.length → ((ld true m some_ row).1.getD t []).length = some_.length := fun t ht => (ld_in true hs hr _ (getD_mem (by rw [(ld_len true m row some_).1]; omega))).2
  intro k hk t ht
  rw [(ld_at false m row begun t (by omega)).2, (ld_at true m row some_ (t + k) (by omega)).2]
  rw [(bt_at false m _ _ k (by rw [lq t (by omega)]; omega)).2, (bt_at true m _ _ k (by rw [ls _ (by omega)]; omega)).2, L k hk t (by omega)]
  cases k with
  | zero => simp only [gv, Nat.add_zero]
  | succ k =>
    have i2 := L k (by omega) (t + 1) (by omega)
    rw [(ld_at false m row begun t (by omega)).1] at i2
    simp only [gv, if_true, if_false, Bool.false_eq_true]
    rw [i2, show t + 1 + k = t + (k + 1) by omega]
end G

set_option Elab.async false
set_option linter.all false
set_option maxRecDepth 100000
set_option maxHeartbeats 0
namespace My
open PySem PySem.Spec PyProof.Rows L2 G
def top (i : Nat) : Stmt := PySem.Challenge.pw_restchains_k47_whole_beats_there_and_bac.main.body.getD i (.Pass ⟨0, 0, 0, 0⟩)
def d_is_integer : He.DefD := ⟨("is_integer", none), "is_integer", "is_integer", defArgs (top 4), defBody (top 4), defScope (top 4), [], []⟩
def d_is_between : He.DefD := ⟨("is_between", none), "is_between", "is_between", defArgs (top 5), defBody (top 5), defScope (top 5), [], []⟩
def d_fits_modulus : He.DefD := ⟨("fits_modulus", none), "fits_modulus", "fits_modulus", defArgs (top 6), defBody (top 6), defScope (top 6), [], []⟩
def d_is_row : He.DefD := ⟨("is_row", none), "is_row", "is_row", defArgs (top 7), defBody (top 7), defScope (top 7), [], []⟩
def d_first_odd : He.DefD := ⟨("first_odd", none), "first_odd", "first_odd", defArgs (top 8), defBody (top 8), defScope (top 8), [], []⟩
def d_law_pen : He.DefD := ⟨("_law_pen", none), "_law_pen", "_law_pen", defArgs (top 28), defBody (top 28), defScope (top 28), [], []⟩
def d_law_draw : He.DefD := ⟨("_law_draw", none), "_law_draw", "_law_draw", defArgs (top 29), defBody (top 29), defScope (top 29), [], []⟩
def d_law_pick : He.DefD := ⟨("_law_pick", none), "_law_pick", "_law_pick", defArgs (top 30), defBody (top 30), defScope (top 30), [], []⟩
def d_PromptU_initU : He.DefD := ⟨("Prompt", some "__init__"), "__init__", "Chain.__init__", defArgs (inClass (top 22) 2), defBody (inClass (top 22) 2), defScope (inClass (top 22) 2), [], []⟩
def d_Prompt_need_fit : He.DefD := ⟨("Prompt", some "need_fit"), "need_fit", "Chain.need_fit", defArgs (inClass (top 22) 4), defBody (inClass (top 22) 4), defScope (inClass (top 22) 4), [], []⟩
def d_Prompt_handed : He.DefD := ⟨("Prompt", some "handed"), "handed", "Chain.handed", defArgs (inClass (top 22) 5), defBody (inClass (top 22) 5), defScope (inClass (top 22) 5), [], []⟩
def d_beat_of : He.DefD := ⟨("beat_of", none), "beat_of", "beat_of", defArgs (top 25), defBody (top 25), defScope (top 25), [], []⟩
def d_Prompt_step : He.DefD := ⟨("Prompt", some "step"), "step", "Chain.step", defArgs (inClass (top 22) 6), defBody (inClass (top 22) 6), defScope (inClass (top 22) 6), [], []⟩
def d_Prompt_back : He.DefD := ⟨("Prompt", some "back"), "back", "Chain.back", defArgs (inClass (top 22) 7), defBody (inClass (top 22) 7), defScope (inClass (top 22) 7), [], []⟩
def d_LateU_initU : He.DefD := ⟨("Late", some "__init__"), "__init__", "Chain.__init__", defArgs (inClass (top 22) 2), defBody (inClass (top 22) 2), defScope (inClass (top 22) 2), [], []⟩
def d_Late_need_fit : He.DefD := ⟨("Late", some "need_fit"), "need_fit", "Chain.need_fit", defArgs (inClass (top 22) 4), defBody (inClass (top 22) 4), defScope (inClass (top 22) 4), [], []⟩
def d_Late_handed : He.DefD := ⟨("Late", some "handed"), "handed", "Late.handed", defArgs (inClass (top 24) 1), defBody (inClass (top 24) 1), defScope (inClass (top 24) 1), [], []⟩
def d_Late_step : He.DefD := ⟨("Late", some "step"), "step", "Chain.step", defArgs (inClass (top 22) 6), defBody (inClass (top 22) 6), defScope (inClass (top 22) 6), [], []⟩
def d_Late_back : He.DefD := ⟨("Late", some "back"), "back", "Chain.back", defArgs (inClass (top 22) 7), defBody (inClass (top 22) 7), defScope (inClass (top 22) 7), [], []⟩
def d_law_number : He.DefD := ⟨("_law_number", none), "_law_number", "_law_number", defArgs (top 31), defBody (top 31), defScope (top 31), [], []⟩
def d_law_chain : He.DefD := ⟨("_law_chain", none), "_law_chain", "_law_chain", defArgs (top 32), defBody (top 32), defScope (top 32), [], []⟩
def d_law_led : He.DefD := ⟨("_law_led", none), "_law_led", "_law_led", defArgs (top 33), defBody (top 33), defScope (top 33), [], []⟩
def d_law_back_right : He.DefD := ⟨("_law_back_right", none), "_law_back_right", "_law_back_right", defArgs (top 34), defBody (top 34), defScope (top 34), [], []⟩
def d_law_lag_right : He.DefD := ⟨("_law_lag_right", none), "_law_lag_right", "_law_lag_right", defArgs (top 35), defBody (top 35), defScope (top 35), [], []⟩
def d_law_right : He.DefD := ⟨("_law_right", none), "_law_right", "_law_right", defArgs (top 36), defBody (top 36), defScope (top 36), [], []⟩
def d_law : He.DefD := ⟨("law", none), "law", "law", defArgs (top 37), defBody (top 37), defScope (top 37), [], []⟩
def fn : List He.DefD := [d_is_integer, d_is_between, d_fits_modulus, d_is_row, d_first_odd, d_law_pen, d_law_draw, d_law_pick, d_PromptU_initU, d_Prompt_need_fit, d_Prompt_handed, d_beat_of, d_Prompt_step, d_Prompt_back, d_LateU_initU, d_Late_need_fit, d_Late_handed, d_Late_step, d_Late_back, d_law_number, d_law_chain, d_law_led, d_law_back_right, d_law_lag_right, d_law_right, d_law]
def fa : List He.Fa := [.free "bool", .free "int", .free "isinstance", .glo "is_integer", .glo "is_between", .int "MOST_MODULUS" 1000000000000000000000000000000, .free "list", .free "tuple", .free "enumerate", .free "abs", .free "len", .glo "_law_draw", .glo "fits_modulus", .int "MOST_STAGES" 6, .cls "Prompt", .glo "Prompt", .noat "Prompt" "stages", .noat "Prompt" "modulus", .glo "first_odd", .glo "is_row", .meth "Prompt" "handed", .glo "beat_of", .meth "Prompt" "need_fit", .cls "Late", .glo "Late", .noat "Late" "modulus", .noat "Late" "stages", .meth "Late" "handed", .meth "Late" "need_fit", .glo "_law_pick", .mkr "Late", .mkr "Prompt", .meth "Prompt" "step", .free "range", .meth "Prompt" "back", .meth "Late" "step", .meth "Late" "back", .glo "_law_led", .glo "Chain", .glo "_law_lag_right", .glo "_law_number", .glo "_law_chain", .glo "_law_back_right", .glo "_law_right", .glo "_law_pen", .glo "law"]
def insB (K : PySem.W.Frag) (C : Addr) : Bool := He.eqO (PySem.W.findIn K (.ref C) "__class__") (some (some (.builtin "object.__class__"))) && (He.eqO (PySem.W.specialIn K (.builtin "object.__class__") "__get__") (some (some (.builtin "getset_descriptor.__get__"))) && (decide (PySem.W.takesIn K (.builtin "object.__class__") = some true) && decide (PySem.W.mroIn K C (.type "object") = some true)))
theorem insB_ok {K : PySem.W.Frag} {C : Addr} (c : Cls K C) (h : insB K C = true) : G.InsTy K C := by
  obtain ⟨h1, h⟩ := He.ba h
  obtain ⟨h2, h⟩ := He.ba h
  obtain ⟨h3, h4⟩ := He.ba h
  exact ⟨c, He.eqO_ok h1, He.eqO_ok h2, of_decide_eq_true h3, of_decide_eq_true h4⟩
def exs (K : PySem.W.Frag) : List Bool := [insB K (He.ga K "Prompt"), decide (PySem.W.kitOne K (.ref (He.ga K "Prompt")) (.ref (He.ga K "Late")) = some false), decide (PySem.W.kitOne K (.ref (He.ga K "Prompt")) (.ref (He.ga K "Chain")) = some true), insB K (He.ga K "Late"), decide (PySem.W.kitOne K (.ref (He.ga K "Late")) (.ref (He.ga K "Late")) = some true), decide (PySem.W.kitOne K (.ref (He.ga K "Late")) (.ref (He.ga K "Chain")) = some true)]
def ex (K : PySem.W.Frag) : Bool := (exs K).all id
abbrev loose : List Str := ["_wall", "MOST_MODULUS", "MOST_DIGITS", "is_integer", "is_between", "fits_modulus", "is_row", "first_odd", "is_written", "RestError", "BadInput", "BadModulus", "BadNumber", "BadStart", "BadChain", "BadText", "Words", "MOST_STAGES", "Chain", "Prompt", "Late", "beat_of", "take_chain", "_law_pen", "_law_draw", "_law_pick", "_law_number", "_law_chain", "_law_led", "_law_back_right", "_law_lag_right", "_law_right"]
abbrev AlX : Type := He.AlD × Bool
def obsX (g : Addr → Option Obj) : AlX := (He.obsDG 5 fa fn g, ex (He.frG g (He.asD g 5)))
def hk : PySem.W.Hook where
  α := AlX
  obs := fun s => obsX s.heap.get?
  val := fun _ => (He.valD fn, true)
  says := fun _ h => ∃ K : PySem.W.Frag, K.In h ∧ He.SaysD fa fn K ∧ ex K = true
  of := fun _ _ e => ⟨_, He.frG_in, congrArg (fun z : AlX => z.1) e, congrArg (fun z : AlX => z.2) e⟩
  keeps := fun _ _ _ ⟨K, hK, c⟩ k => ⟨K, PySem.W.Frag.In.keeps hK k, c⟩
abbrev R : PySem.W.OpenRow := PySem.W.OpenLaw.row PySem.Challenge.rw_restchains_k47_whole_beats_there_and_bac
def ob (s : PySem.W.SharedT) : AlX := obsX (HandSHeadRun.getT s)
theorem ob_eq (s : PySem.W.SharedT) : ob s = hk.obs s.abs := by
  have e : HandSHeadRun.getT s = s.abs.heap.get? := funext fun a => HandSHeadRun.getT_eq s a
  unfold ob
  rw [e] <;> rfl
theorem run (w : World) : HandSHeadRun.RunEq R (PySem.W.view R.prog [37]) hk ob 6000 loose w := by
  intro os
  kernel_rfl
structure Tx (K : PySem.W.Frag) (mg : Str → Option Value) : Prop where
  n_bool : mg "bool" = none
  n_int : mg "int" = none
  n_isinstance : mg "isinstance" = none
  g_is_integer : mg "is_integer" = some (.ref (He.ga K "is_integer"))
  g_is_between : mg "is_between" = some (.ref (He.ga K "is_between"))
  i_MOST_MODULUS_ : ∃ t, mg "MOST_MODULUS" = some (.int 1000000000000000000000000000000 t)
  n_list : mg "list" = none
  n_tuple : mg "tuple" = none
  n_enumerate : mg "enumerate" = none
  n_abs : mg "abs" = none
  n_len : mg "len" = none
  g__law_draw : mg "_law_draw" = some (.ref (He.ga K "_law_draw"))
  g_fits_modulus : mg "fits_modulus" = some (.ref (He.ga K "fits_modulus"))
  i_MOST_STAGES_ : ∃ t, mg "MOST_STAGES" = some (.int 6 t)
  cl_Prompt : Cls K (He.ga K "Prompt")
  g_Prompt : mg "Prompt" = some (.ref (He.ga K "Prompt"))
  na_Prompt_stages : NoAttr K (He.ga K "Prompt") "stages"
  na_Prompt_modulus : NoAttr K (He.ga K "Prompt") "modulus"
  g_first_odd : mg "first_odd" = some (.ref (He.ga K "first_odd"))
  g_is_row : mg "is_row" = some (.ref (He.ga K "is_row"))
  me_Prompt_handed : Meth K (He.ga K "Prompt") "handed" (He.ma K (He.ga K "Prompt") "handed")
  g_beat_of : mg "beat_of" = some (.ref (He.ga K "beat_of"))
  me_Prompt_need_fit : Meth K (He.ga K "Prompt") "need_fit" (He.ma K (He.ga K "Prompt") "need_fit")
  cl_Late : Cls K (He.ga K "Late")
  g_Late : mg "Late" = some (.ref (He.ga K "Late"))
  na_Late_modulus : NoAttr K (He.ga K "Late") "modulus"
  na_Late_stages : NoAttr K (He.ga K "Late") "stages"
  me_Late_handed : Meth K (He.ga K "Late") "handed" (He.ma K (He.ga K "Late") "handed")
  me_Late_need_fit : Meth K (He.ga K "Late") "need_fit" (He.ma K (He.ga K "Late") "need_fit")
  g__law_pick : mg "_law_pick" = some (.ref (He.ga K "_law_pick"))
  mk_Late : Mk K (He.ga K "Late") (He.ma K (He.ga K "Late") "__init__")
  mk_Prompt : Mk K (He.ga K "Prompt") (He.ma K (He.ga K "Prompt") "__init__")
  me_Prompt_step : Meth K (He.ga K "Prompt") "step" (He.ma K (He.ga K "Prompt") "step")
  n_range : mg "range" = none
  me_Prompt_back : Meth K (He.ga K "Prompt") "back" (He.ma K (He.ga K "Prompt") "back")
  me_Late_step : Meth K (He.ga K "Late") "step" (He.ma K (He.ga K "Late") "step")
  me_Late_back : Meth K (He.ga K "Late") "back" (He.ma K (He.ga K "Late") "back")
  g__law_led : mg "_law_led" = some (.ref (He.ga K "_law_led"))
  g_Chain : mg "Chain" = some (.ref (He.ga K "Chain"))
  g__law_lag_right : mg "_law_lag_right" = some (.ref (He.ga K "_law_lag_right"))
  g__law_number : mg "_law_number" = some (.ref (He.ga K "_law_number"))
  g__law_chain : mg "_law_chain" = some (.ref (He.ga K "_law_chain"))
  g__law_back_right : mg "_law_back_right" = some (.ref (He.ga K "_law_back_right"))
  g__law_right : mg "_law_right" = some (.ref (He.ga K "_law_right"))
  g__law_pen : mg "_law_pen" = some (.ref (He.ga K "_law_pen"))
  g_law : mg "law" = some (.ref (He.ga K "law"))
  it_Prompt : _root_.G.InsTy K (He.ga K "Prompt")
  kit_Prompt_Late : PySem.W.kitOne K (.ref (He.ga K "Prompt")) (.ref (He.ga K "Late")) = some false
  kit_Prompt_Chain : PySem.W.kitOne K (.ref (He.ga K "Prompt")) (.ref (He.ga K "Chain")) = some true
  it_Late : _root_.G.InsTy K (He.ga K "Late")
  kit_Late_Late : PySem.W.kitOne K (.ref (He.ga K "Late")) (.ref (He.ga K "Late")) = some true
  kit_Late_Chain : PySem.W.kitOne K (.ref (He.ga K "Late")) (.ref (He.ga K "Chain")) = some true
  d_is_integer : ∃ fd, FunD K "is_integer" "is_integer" (defArgs (top 4)) (defBody (top 4)) (defScope (top 4)) [] [] (He.fAd K ("is_integer", none)) fd
  d_is_between : ∃ fd, FunD K "is_between" "is_between" (defArgs (top 5)) (defBody (top 5)) (defScope (top 5)) [] [] (He.fAd K ("is_between", none)) fd
  d_fits_modulus : ∃ fd, FunD K "fits_modulus" "fits_modulus" (defArgs (top 6)) (defBody (top 6)) (defScope (top 6)) [] [] (He.fAd K ("fits_modulus", none)) fd
  d_is_row : ∃ fd, FunD K "is_row" "is_row" (defArgs (top 7)) (defBody (top 7)) (defScope (top 7)) [] [] (He.fAd K ("is_row", none)) fd
  d_first_odd : ∃ fd, FunD K "first_odd" "first_odd" (defArgs (top 8)) (defBody (top 8)) (defScope (top 8)) [] [] (He.fAd K ("first_odd", none)) fd
  d_law_pen : ∃ fd, FunD K "_law_pen" "_law_pen" (defArgs (top 28)) (defBody (top 28)) (defScope (top 28)) [] [] (He.fAd K ("_law_pen", none)) fd
  d_law_draw : ∃ fd, FunD K "_law_draw" "_law_draw" (defArgs (top 29)) (defBody (top 29)) (defScope (top 29)) [] [] (He.fAd K ("_law_draw", none)) fd
  d_law_pick : ∃ fd, FunD K "_law_pick" "_law_pick" (defArgs (top 30)) (defBody (top 30)) (defScope (top 30)) [] [] (He.fAd K ("_law_pick", none)) fd
  d_PromptU_initU : ∃ fd, FunD K "__init__" "Chain.__init__" (defArgs (inClass (top 22) 2)) (defBody (inClass (top 22) 2)) (defScope (inClass (top 22) 2)) [] [] (He.fAd K ("Prompt", some "__init__")) fd
  d_Prompt_need_fit : ∃ fd, FunD K "need_fit" "Chain.need_fit" (defArgs (inClass (top 22) 4)) (defBody (inClass (top 22) 4)) (defScope (inClass (top 22) 4)) [] [] (He.fAd K ("Prompt", some "need_fit")) fd
  d_Prompt_handed : ∃ fd, FunD K "handed" "Chain.handed" (defArgs (inClass (top 22) 5)) (defBody (inClass (top 22) 5)) (defScope (inClass (top 22) 5)) [] [] (He.fAd K ("Prompt", some "handed")) fd
  d_beat_of : ∃ fd, FunD K "beat_of" "beat_of" (defArgs (top 25)) (defBody (top 25)) (defScope (top 25)) [] [] (He.fAd K ("beat_of", none)) fd
  d_Prompt_step : ∃ fd, FunD K "step" "Chain.step" (defArgs (inClass (top 22) 6)) (defBody (inClass (top 22) 6)) (defScope (inClass (top 22) 6)) [] [] (He.fAd K ("Prompt", some "step")) fd
  d_Prompt_back : ∃ fd, FunD K "back" "Chain.back" (defArgs (inClass (top 22) 7)) (defBody (inClass (top 22) 7)) (defScope (inClass (top 22) 7)) [] [] (He.fAd K ("Prompt", some "back")) fd
  d_LateU_initU : ∃ fd, FunD K "__init__" "Chain.__init__" (defArgs (inClass (top 22) 2)) (defBody (inClass (top 22) 2)) (defScope (inClass (top 22) 2)) [] [] (He.fAd K ("Late", some "__init__")) fd
  d_Late_need_fit : ∃ fd, FunD K "need_fit" "Chain.need_fit" (defArgs (inClass (top 22) 4)) (defBody (inClass (top 22) 4)) (defScope (inClass (top 22) 4)) [] [] (He.fAd K ("Late", some "need_fit")) fd
  d_Late_handed : ∃ fd, FunD K "handed" "Late.handed" (defArgs (inClass (top 24) 1)) (defBody (inClass (top 24) 1)) (defScope (inClass (top 24) 1)) [] [] (He.fAd K ("Late", some "handed")) fd
  d_Late_step : ∃ fd, FunD K "step" "Chain.step" (defArgs (inClass (top 22) 6)) (defBody (inClass (top 22) 6)) (defScope (inClass (top 22) 6)) [] [] (He.fAd K ("Late", some "step")) fd
  d_Late_back : ∃ fd, FunD K "back" "Chain.back" (defArgs (inClass (top 22) 7)) (defBody (inClass (top 22) 7)) (defScope (inClass (top 22) 7)) [] [] (He.fAd K ("Late", some "back")) fd
  d_law_number : ∃ fd, FunD K "_law_number" "_law_number" (defArgs (top 31)) (defBody (top 31)) (defScope (top 31)) [] [] (He.fAd K ("_law_number", none)) fd
  d_law_chain : ∃ fd, FunD K "_law_chain" "_law_chain" (defArgs (top 32)) (defBody (top 32)) (defScope (top 32)) [] [] (He.fAd K ("_law_chain", none)) fd
  d_law_led : ∃ fd, FunD K "_law_led" "_law_led" (defArgs (top 33)) (defBody (top 33)) (defScope (top 33)) [] [] (He.fAd K ("_law_led", none)) fd
  d_law_back_right : ∃ fd, FunD K "_law_back_right" "_law_back_right" (defArgs (top 34)) (defBody (top 34)) (defScope (top 34)) [] [] (He.fAd K ("_law_back_right", none)) fd
  d_law_lag_right : ∃ fd, FunD K "_law_lag_right" "_law_lag_right" (defArgs (top 35)) (defBody (top 35)) (defScope (top 35)) [] [] (He.fAd K ("_law_lag_right", none)) fd
  d_law_right : ∃ fd, FunD K "_law_right" "_law_right" (defArgs (top 36)) (defBody (top 36)) (defScope (top 36)) [] [] (He.fAd K ("_law_right", none)) fd
  d_law : ∃ fd, FunD K "law" "law" (defArgs (top 37)) (defBody (top 37)) (defScope (top 37)) [] [] (He.fAd K ("law", none)) fd
theorem tx {K : PySem.W.Frag} {mg : Str → Option Value} {h : Heap} (X : K.In h) (G : h.Ns mainGlobals mg) (c : He.SaysD fa fn K) (e : ex K = true) : Tx K mg := by
  have e2 : ∀ i b, (exs K)[i]? = some b → b = true := fun i b hb => List.all_eq_true.mp e b (List.mem_of_getElem? hb)
  have T_n_bool : mg "bool" = none := He.free_ok X G (c.fact 0 (f := .free "bool") rfl)
  have T_n_int : mg "int" = none := He.free_ok X G (c.fact 1 (f := .free "int") rfl)
  have T_n_isinstance : mg "isinstance" = none := He.free_ok X G (c.fact 2 (f := .free "isinstance") rfl)
  have T_g_is_integer : mg "is_integer" = some (.ref (He.ga K "is_integer")) := He.glo_ok X G (c.fact 3 (f := .glo "is_integer") rfl)
  have T_g_is_between : mg "is_between" = some (.ref (He.ga K "is_between")) := He.glo_ok X G (c.fact 4 (f := .glo "is_between") rfl)
  have T_i_MOST_MODULUS_ : ∃ t, mg "MOST_MODULUS" = some (.int 1000000000000000000000000000000 t) := He.int_ok X G (c.fact 5 (f := .int "MOST_MODULUS" 1000000000000000000000000000000) rfl)
  have T_n_list : mg "list" = none := He.free_ok X G (c.fact 6 (f := .free "list") rfl)
  have T_n_tuple : mg "tuple" = none := He.free_ok X G (c.fact 7 (f := .free "tuple") rfl)
  have T_n_enumerate : mg "enumerate" = none := He.free_ok X G (c.fact 8 (f := .free "enumerate") rfl)
  have T_n_abs : mg "abs" = none := He.free_ok X G (c.fact 9 (f := .free "abs") rfl)
  have T_n_len : mg "len" = none := He.free_ok X G (c.fact 10 (f := .free "len") rfl)
  have T_g__law_draw : mg "_law_draw" = some (.ref (He.ga K "_law_draw")) := He.glo_ok X G (c.fact 11 (f := .glo "_law_draw") rfl)
  have T_g_fits_modulus : mg "fits_modulus" = some (.ref (He.ga K "fits_modulus")) := He.glo_ok X G (c.fact 12 (f := .glo "fits_modulus") rfl)
  have T_i_MOST_STAGES_ : ∃ t, mg "MOST_STAGES" = some (.int 6 t) := He.int_ok X G (c.fact 13 (f := .int "MOST_STAGES" 6) rfl)
  have T_cl_Prompt : Cls K (He.ga K "Prompt") := He.cls_ok (c.fact 14 (f := .cls "Prompt") rfl)
  have T_g_Prompt : mg "Prompt" = some (.ref (He.ga K "Prompt")) := He.glo_ok X G (c.fact 15 (f := .glo "Prompt") rfl)
  have T_na_Prompt_stages : NoAttr K (He.ga K "Prompt") "stages" := He.noat_ok (c.fact 16 (f := .noat "Prompt" "stages") rfl)
  have T_na_Prompt_modulus : NoAttr K (He.ga K "Prompt") "modulus" := He.noat_ok (c.fact 17 (f := .noat "Prompt" "modulus") rfl)
  have T_g_first_odd : mg "first_odd" = some (.ref (He.ga K "first_odd")) := He.glo_ok X G (c.fact 18 (f := .glo "first_odd") rfl)
  have T_g_is_row : mg "is_row" = some (.ref (He.ga K "is_row")) := He.glo_ok X G (c.fact 19 (f := .glo "is_row") rfl)
  have T_me_Prompt_handed : Meth K (He.ga K "Prompt") "handed" (He.ma K (He.ga K "Prompt") "handed") := He.meth_ok (c.fact 20 (f := .meth "Prompt" "handed") rfl)
  have T_g_beat_of : mg "beat_of" = some (.ref (He.ga K "beat_of")) := He.glo_ok X G (c.fact 21 (f := .glo "beat_of") rfl)
  have T_me_Prompt_need_fit : Meth K (He.ga K "Prompt") "need_fit" (He.ma K (He.ga K "Prompt") "need_fit") := He.meth_ok (c.fact 22 (f := .meth "Prompt" "need_fit") rfl)
  have T_cl_Late : Cls K (He.ga K "Late") := He.cls_ok (c.fact 23 (f := .cls "Late") rfl)
  have T_g_Late : mg "Late" = some (.ref (He.ga K "Late")) := He.glo_ok X G (c.fact 24 (f := .glo "Late") rfl)
  have T_na_Late_modulus : NoAttr K (He.ga K "Late") "modulus" := He.noat_ok (c.fact 25 (f := .noat "Late" "modulus") rfl)
  have T_na_Late_stages : NoAttr K (He.ga K "Late") "stages" := He.noat_ok (c.fact 26 (f := .noat "Late" "stages") rfl)
  have T_me_Late_handed : Meth K (He.ga K "Late") "handed" (He.ma K (He.ga K "Late") "handed") := He.meth_ok (c.fact 27 (f := .meth "Late" "handed") rfl)
  have T_me_Late_need_fit : Meth K (He.ga K "Late") "need_fit" (He.ma K (He.ga K "Late") "need_fit") := He.meth_ok (c.fact 28 (f := .meth "Late" "need_fit") rfl)
  have T_g__law_pick : mg "_law_pick" = some (.ref (He.ga K "_law_pick")) := He.glo_ok X G (c.fact 29 (f := .glo "_law_pick") rfl)
  have T_mk_Late : Mk K (He.ga K "Late") (He.ma K (He.ga K "Late") "__init__") := He.mkr_ok (c.fact 30 (f := .mkr "Late") rfl)
  have T_mk_Prompt : Mk K (He.ga K "Prompt") (He.ma K (He.ga K "Prompt") "__init__") := He.mkr_ok (c.fact 31 (f := .mkr "Prompt") rfl)
  have T_me_Prompt_step : Meth K (He.ga K "Prompt") "step" (He.ma K (He.ga K "Prompt") "step") := He.meth_ok (c.fact 32 (f := .meth "Prompt" "step") rfl)
  have T_n_range : mg "range" = none := He.free_ok X G (c.fact 33 (f := .free "range") rfl)
  have T_me_Prompt_back : Meth K (He.ga K "Prompt") "back" (He.ma K (He.ga K "Prompt") "back") := He.meth_ok (c.fact 34 (f := .meth "Prompt" "back") rfl)
  have T_me_Late_step : Meth K (He.ga K "Late") "step" (He.ma K (He.ga K "Late") "step") := He.meth_ok (c.fact 35 (f := .meth "Late" "step") rfl)
  have T_me_Late_back : Meth K (He.ga K "Late") "back" (He.ma K (He.ga K "Late") "back") := He.meth_ok (c.fact 36 (f := .meth "Late" "back") rfl)
  have T_g__law_led : mg "_law_led" = some (.ref (He.ga K "_law_led")) := He.glo_ok X G (c.fact 37 (f := .glo "_law_led") rfl)
  have T_g_Chain : mg "Chain" = some (.ref (He.ga K "Chain")) := He.glo_ok X G (c.fact 38 (f := .glo "Chain") rfl)
  have T_g__law_lag_right : mg "_law_lag_right" = some (.ref (He.ga K "_law_lag_right")) := He.glo_ok X G (c.fact 39 (f := .glo "_law_lag_right") rfl)
  have T_g__law_number : mg "_law_number" = some (.ref (He.ga K "_law_number")) := He.glo_ok X G (c.fact 40 (f := .glo "_law_number") rfl)
  have T_g__law_chain : mg "_law_chain" = some (.ref (He.ga K "_law_chain")) := He.glo_ok X G (c.fact 41 (f := .glo "_law_chain") rfl)
  have T_g__law_back_right : mg "_law_back_right" = some (.ref (He.ga K "_law_back_right")) := He.glo_ok X G (c.fact 42 (f := .glo "_law_back_right") rfl)
  have T_g__law_right : mg "_law_right" = some (.ref (He.ga K "_law_right")) := He.glo_ok X G (c.fact 43 (f := .glo "_law_right") rfl)
  have T_g__law_pen : mg "_law_pen" = some (.ref (He.ga K "_law_pen")) := He.glo_ok X G (c.fact 44 (f := .glo "_law_pen") rfl)
  have T_g_law : mg "law" = some (.ref (He.ga K "law")) := He.glo_ok X G (c.fact 45 (f := .glo "law") rfl)
  have T_it_Prompt : _root_.G.InsTy K (He.ga K "Prompt") := insB_ok T_cl_Prompt (e2 0 _ rfl)
  have T_kit_Prompt_Late : PySem.W.kitOne K (.ref (He.ga K "Prompt")) (.ref (He.ga K "Late")) = some false := of_decide_eq_true (e2 1 _ rfl)
  have T_kit_Prompt_Chain : PySem.W.kitOne K (.ref (He.ga K "Prompt")) (.ref (He.ga K "Chain")) = some true := of_decide_eq_true (e2 2 _ rfl)
  have T_it_Late : _root_.G.InsTy K (He.ga K "Late") := insB_ok T_cl_Late (e2 3 _ rfl)
  have T_kit_Late_Late : PySem.W.kitOne K (.ref (He.ga K "Late")) (.ref (He.ga K "Late")) = some true := of_decide_eq_true (e2 4 _ rfl)
  have T_kit_Late_Chain : PySem.W.kitOne K (.ref (He.ga K "Late")) (.ref (He.ga K "Chain")) = some true := of_decide_eq_true (e2 5 _ rfl)
  exact ⟨T_n_bool, T_n_int, T_n_isinstance, T_g_is_integer, T_g_is_between, T_i_MOST_MODULUS_, T_n_list, T_n_tuple, T_n_enumerate, T_n_abs, T_n_len, T_g__law_draw, T_g_fits_modulus, T_i_MOST_STAGES_, T_cl_Prompt, T_g_Prompt, T_na_Prompt_stages, T_na_Prompt_modulus, T_g_first_odd, T_g_is_row, T_me_Prompt_handed, T_g_beat_of, T_me_Prompt_need_fit, T_cl_Late, T_g_Late, T_na_Late_modulus, T_na_Late_stages, T_me_Late_handed, T_me_Late_need_fit, T_g__law_pick, T_mk_Late, T_mk_Prompt, T_me_Prompt_step, T_n_range, T_me_Prompt_back, T_me_Late_step, T_me_Late_back, T_g__law_led, T_g_Chain, T_g__law_lag_right, T_g__law_number, T_g__law_chain, T_g__law_back_right, T_g__law_right, T_g__law_pen, T_g_law, T_it_Prompt, T_kit_Prompt_Late, T_kit_Prompt_Chain, T_it_Late, T_kit_Late_Late, T_kit_Late_Chain, (c.def_ 0 (d := d_is_integer) rfl), (c.def_ 1 (d := d_is_between) rfl), (c.def_ 2 (d := d_fits_modulus) rfl), (c.def_ 3 (d := d_is_row) rfl), (c.def_ 4 (d := d_first_odd) rfl), (c.def_ 5 (d := d_law_pen) rfl), (c.def_ 6 (d := d_law_draw) rfl), (c.def_ 7 (d := d_law_pick) rfl), (c.def_ 8 (d := d_PromptU_initU) rfl), (c.def_ 9 (d := d_Prompt_need_fit) rfl), (c.def_ 10 (d := d_Prompt_handed) rfl), (c.def_ 11 (d := d_beat_of) rfl), (c.def_ 12 (d := d_Prompt_step) rfl), (c.def_ 13 (d := d_Prompt_back) rfl), (c.def_ 14 (d := d_LateU_initU) rfl), (c.def_ 15 (d := d_Late_need_fit) rfl), (c.def_ 16 (d := d_Late_handed) rfl), (c.def_ 17 (d := d_Late_step) rfl), (c.def_ 18 (d := d_Late_back) rfl), (c.def_ 19 (d := d_law_number) rfl), (c.def_ 20 (d := d_law_chain) rfl), (c.def_ 21 (d := d_law_led) rfl), (c.def_ 22 (d := d_law_back_right) rfl), (c.def_ 23 (d := d_law_lag_right) rfl), (c.def_ 24 (d := d_law_right) rfl), (c.def_ 25 (d := d_law) rfl)⟩
end My

set_option Elab.async false
set_option linter.all false
set_option maxRecDepth 100000
set_option maxHeartbeats 0
namespace My
open PySem PySem.Spec PyProof.Rows L2 G

local macro_rules | `(tactic| walk_at "ws") => `(tactic| first
  | with_reducible refine s_set ?_
  | with_reducible refine s_if ?_
  | with_reducible refine s_ret ?_
  | with_reducible refine s_retN ?_
  | with_reducible refine s_drop ?_
  | with_reducible refine s_next ?_
  | with_reducible refine s_par ?_
  | with_reducible refine s_par3 ?_
  | refine s_fldN (by assumption) (by assumption) ?_
  | with_reducible refine s_asg ?_)
local macro_rules | `(tactic| walk_at "we") => `(tactic| first
  | ((with_reducible refine w_v (d := ?k2) ?k1 ?_); (case k1 => exact rfl))
  | ((with_reducible refine w_o (j := ?k2) ?k1 ?_); (case k1 => exact rfl))
  | ((guard_target = G.WE _ _ (tFld _ _ _) _ _ _ _); (refine w_fldN (by assumption) (by assumption) ?_))
  | with_reducible refine w_ci ?_
  | with_reducible refine w_op ?_
  | with_reducible refine w_call ?_
  | with_reducible refine w_cty ?_
  | with_reducible refine w_cb ?_
  | with_reducible refine w_cn ?_
  | with_reducible refine w_cs ?_
  | with_reducible refine w_cr ?_
  | with_reducible refine w_un ?_
  | with_reducible refine w_andV ?_
  | with_reducible refine w_orV ?_
  | with_reducible refine w_notV ?_
  | with_reducible refine w_ife ?_
  | with_reducible refine w_chain ?_
  | with_reducible refine w_tup ?_
  | with_reducible refine w_slL ?_
  | with_reducible refine w_slT ?_
  | (guard_target = G.WE _ _ (tCall (lift _ (sp_draw _)) _ _ _) _ _ _ _; refine w_fn10 0 ?_)
  | (guard_target = G.WE _ _ (tCall (lift _ (sp_pick _)) _ _ _) _ _ _ _; refine w_fn10 0 ?_)
  | (guard_target = G.WE _ _ (tCall (lift _ (sp_number _)) _ _ _) _ _ _ _; refine w_fn10 0 ?_)
  | (guard_target = G.WE _ _ (tCall (lift _ (sp_right _)) _ _ _) _ _ _ _; refine w_fn10 0 ?_)
  | with_reducible refine w_fn0 ?_
  | with_reducible refine w_meth0 ?_
  | with_reducible refine w_make0 ?_
  | with_reducible refine w_bmL ?_
  | with_reducible refine w_bmL0 ?_
  | with_reducible refine w_lst ?_)
local macro_rules | `(tactic| walk_at "wt") => `(tactic| first
  | with_reducible refine w_test ?_
  | with_reducible refine w_B ?_
  | with_reducible refine w_and ?_
  | with_reducible refine w_or ?_
  | with_reducible refine w_not ?_)
local macro_rules | `(tactic| walk_at "wa") => `(tactic| first
  | with_reducible refine w_cons ?_
  | with_reducible refine w_nil ?_
  | with_reducible refine w_star ?_)
local macro_rules | `(tactic| walk_at "wr") => `(tactic| first
  | with_reducible refine w_add ?_
  | with_reducible refine w_sub ?_
  | with_reducible refine w_lt ?_
  | with_reducible refine w_le ?_
  | with_reducible refine w_gt ?_
  | with_reducible refine w_ge ?_
  | with_reducible refine w_eqI ?_
  | with_reducible refine w_neI ?_
  | with_reducible refine w_isN ?_
  | with_reducible refine w_notN ?_
  | ((with_reducible refine w_mod ?k1 ?_); (case k1 => first | decide | omega))
  | ((with_reducible refine w_mul ?k1 ?_); (case k1 => first | exact Or.inl (by constructor <;> decide) | exact Or.inr (by constructor <;> decide) | exact Or.inl (by constructor <;> omega) | exact Or.inr (by constructor <;> omega)))
  | ((with_reducible refine w_pow ?k1 ?_); (case k1 => first | exact ⟨by decide, by decide, by decide⟩ | exact ⟨by omega, by omega, by omega⟩))
  | ((with_reducible refine w_fdivW ?k1 ?_); (case k1 => exact divW_ok (by first | decide | omega) (by first | decide | omega)))
  | ((with_reducible refine w_mulW ?k1 ?_); (case k1 => exact mulW_ok (by constructor <;> omega) (by constructor <;> omega)))
  | ((guard_target = G.WR _ (rIxT _) _ _ _ _); (refine w_ixT (by first | exact atI_0 | exact atI_1 | exact atI_2 | assumption) ?_))
  | ((guard_target = G.WR _ (rIxL _) _ _ _ _); (refine w_ixL (by first | exact lstD_v | exact lstD_o rfl) (by first | exact atI_0 | exact atI_1 | exact atI_2 | assumption) ?_)))
local macro_rules | `(tactic| walk_at "wc") => `(tactic| first
  | with_reducible refine c_int ?_
  | with_reducible refine c_intB ?_
  | with_reducible refine c_abs ?_
  | ((guard_target = G.WC _ (G.rLen _) _ _ _); (refine c_lenL (by first | exact lstD_v | exact lstD_o rfl) ?_))
  | with_reducible refine c_lenT ?_
  | ((guard_target = G.WC _ (G.rListOf _) _ _ _); (refine c_listL (by first | exact lstD_v | exact lstD_o rfl) ?_))
  | with_reducible refine c_listT ?_
  | ((guard_target = G.WC _ (G.rTupOf _) _ _ _); (refine c_tupL (by first | exact lstD_v | exact lstD_o rfl) ?_))
  | with_reducible refine c_tupT ?_)
local macro_rules | `(tactic| walk_at "e") => `(tactic| first
  | (guard_target = G.WE _ _ _ _ _ _ _; walk_at "we")
  | (guard_target = G.WS _ _ _ _ _ _; walk_at "ws")
  | (guard_target = G.WA _ _ _ _ _ _ _; walk_at "wa")
  | (guard_target = G.WR _ _ _ _ _ _; walk_at "wr")
  | (guard_target = G.WT _ _ _ _ _ _ _; walk_at "wt")
  | (guard_target = G.WC _ _ _ _ _; walk_at "wc")
  | (guard_target = G.WU _ _ _ _ _; with_reducible refine w_neg ?_)
  | (guard_target = G.WG _ _ _ _ _ _ _; first | with_reducible refine g_name ?_ | with_reducible refine g_setL ?_ | refine g_pair rfl ?_ | refine g_trip rfl ?_ | refine g_quad rfl ?_)
  | (guard_target = G.WO _ _ _ _ _ _ _; first | with_reducible refine o_none ?_ | with_reducible refine o_some ?_)
  | with_reducible refine tt_ ?_
  | with_reducible refine ff_ ?_
  | with_reducible refine ntt_ ?_
  | with_reducible refine nff_ ?_
  | ((guard_target = ((!G.isNon _) = true → _) ∧ _); (first | refine bnF rfl ?_ | refine bnT rfl ?_))
  | ((guard_target = (G.isNon _ = true → _) ∧ _); (first | refine bF rfl ?_ | refine bT rfl ?_))
  | (guard_target = Exists _; first
    | refine ⟨_, _, _, _, _, rfl, rfl, rfl, rfl, rfl, ?_⟩
    | refine ⟨_, _, _, rfl, rfl, rfl, Nat.le_of_ble_eq_true rfl, ?_⟩
    | refine ⟨_, _, rfl, rfl, rfl, ?_⟩
    | refine ⟨_, _, _, rfl, ?_⟩
    | refine ⟨_, _, (by first | exact insD_v | exact insD_o rfl), rfl, ?_⟩
    | refine ⟨_, _, rfl, ?_⟩
    | refine ⟨_, rfl, rfl, ?_⟩
    | refine ⟨_, rfl, Nat.le_of_ble_eq_true rfl, ?_⟩
    | refine ⟨_, (by first | exact lstD_v | exact lstD_o rfl), ?_⟩
    | refine ⟨_, rfl, ?_⟩))
local macro_rules | `(tactic| walk_at "o") => `(tactic| first | with_reducible refine w_lstO ?_ | walk_at "e")
local macro_rules | `(tactic| walk_at "g") => `(tactic| first | walk_at "e" | with_reducible refine s_seq ?_)
local macro_rules | `(tactic| walk_at "n") => `(tactic| (with_reducible refine s_seq ?_); (repeat walk_at "e"))

def sp_is_integer (K : PySem.W.Frag) : SpD := fun ts O P _ => ∃ d b, ts = [.v d] ∧ O = [] ∧ IntQ K d b ∧ P (.v (.bl b)) []
theorem sp_is_integer_len {K : PySem.W.Frag} {ts O P X} (h : sp_is_integer K ts O P X) : ts.length = 1 := by
  obtain ⟨d, b, rfl, _⟩ := h
  rfl
theorem u_is_integer {K : PySem.W.Frag} {P : PT'} {X : XX} {d : D} {b : Bool} (h : IntQ K d b) (k : P (.v (.bl b)) []) : sp_is_integer K [.v d] [] P X := ⟨d, b, rfl, rfl, h, k⟩
/-- whether a value is an integer between two bounds -/
def BtwQ (K : PySem.W.Frag) (d : D) (lo hi : Int) (b : Bool) : Prop := (∃ n, d = .int n ∧ b = (decide (lo ≤ n) && decide (n ≤ hi))) ∨ (IntQ K d false ∧ b = false)
theorem btw_int {K : PySem.W.Frag} {n lo hi : Int} (h1 : lo ≤ n) (h2 : n ≤ hi) : BtwQ K (.int n) lo hi true := .inl ⟨n, rfl, by rw [decide_eq_true h1, decide_eq_true h2] <;> rfl⟩
def sp_is_between (K : PySem.W.Frag) : SpD := fun ts O P _ => ∃ d lo hi b, ts = [.v d, .v (.int lo), .v (.int hi)] ∧ O = [] ∧ BtwQ K d lo hi b ∧ P (.v (.bl b)) []
theorem sp_is_between_len {K : PySem.W.Frag} {ts O P X} (h : sp_is_between K ts O P X) : ts.length = 3 := by
  obtain ⟨d, lo, hi, b, rfl, _⟩ := h
  rfl
theorem u_is_between {K : PySem.W.Frag} {P : PT'} {X : XX} {d : D} {lo hi : Int} {b : Bool} (h : BtwQ K d lo hi b) (k : P (.v (.bl b)) []) : sp_is_between K [.v d, .v (.int lo), .v (.int hi)] [] P X := ⟨d, lo, hi, b, rfl, rfl, h, k⟩
theorem u_between {K : PySem.W.Frag} {P : PT'} {X : XX} {n lo hi : Int} (h1 : lo ≤ n) (h2 : n ≤ hi) (k : P (.v (.bl true)) []) : sp_is_between K [.v (.int n), .v (.int lo), .v (.int hi)] [] P X := u_is_between (btw_int h1 h2) k
def sp_fits_modulus (K : PySem.W.Frag) : SpD := fun ts O P _ => ∃ d b, ts = [.v d] ∧ O = [] ∧ BtwQ K d 2 1000000000000000000000000000000 b ∧ P (.v (.bl b)) []
theorem sp_fits_modulus_len {K : PySem.W.Frag} {ts O P X} (h : sp_fits_modulus K ts O P X) : ts.length = 1 := by
  obtain ⟨d, b, rfl, _⟩ := h
  rfl
theorem u_fits_modulus {K : PySem.W.Frag} {P : PT'} {X : XX} {d : D} {b : Bool} (h : BtwQ K d 2 1000000000000000000000000000000 b) (k : P (.v (.bl b)) []) : sp_fits_modulus K [.v d] [] P X := ⟨d, b, rfl, rfl, h, k⟩
/-- whether a value is a list or a tuple -/
def RowQ (K : PySem.W.Frag) (d : D) (b : Bool) : Prop := ∃ t, TyD K d t ∧ PySem.W.kitAny K t [.type "list", .type "tuple"] = some b
theorem rowQ_lst {K : PySem.W.Frag} {ds : List D} : RowQ K (.lst ds) true := ⟨_, .lst ds, kitAny_cons (kit_ty (b := "list") (r := true) (by decide +kernel)) (fun z => by cases z) fun _ => rfl⟩
theorem rowQ_tup {K : PySem.W.Frag} {ds : List D} : RowQ K (.tup ds) true := ⟨_, .tup ds, kitAny_cons (kit_ty (b := "list") (r := false) (by decide +kernel)) (fun _ => kitAny_cons (kit_ty (b := "tuple") (r := true) (by decide +kernel)) (fun z => by cases z) fun _ => rfl) fun z => by cases z⟩
def sp_is_row (K : PySem.W.Frag) : SpD := fun ts O P _ => ∃ d b, ts = [.v d] ∧ O = [] ∧ RowQ K d b ∧ P (.v (.bl b)) []
theorem sp_is_row_len {K : PySem.W.Frag} {ts O P X} (h : sp_is_row K ts O P X) : ts.length = 1 := by
  obtain ⟨d, b, rfl, _⟩ := h
  rfl
theorem u_is_row {K : PySem.W.Frag} {P : PT'} {X : XX} {d : D} {b : Bool} (h : RowQ K d b) (k : P (.v (.bl b)) []) : sp_is_row K [.v d] [] P X := ⟨d, b, rfl, rfl, h, k⟩
/-- the first place that is no integer between the bounds, in a tuple of integers that are -/
def sp_first_odd (K : PySem.W.Frag) : SpD := fun ts O P _ => ∃ ns lo hi, ts = [.v (.tup (nums ns)), .v (.int lo), .v (.int hi)] ∧ O = [] ∧ (∀ n ∈ ns, lo ≤ n ∧ n ≤ hi) ∧ P (.v .non) []
theorem sp_first_odd_len {K : PySem.W.Frag} {ts O P X} (h : sp_first_odd K ts O P X) : ts.length = 3 := by
  obtain ⟨ns, lo, hi, rfl, _⟩ := h
  rfl
theorem sc_is_integer : FnScope ["value"] ["value"] (defScope (top 4)) := ⟨rfl, rfl, rfl, by decide +kernel, rfl, by decide +kernel, by decide +kernel⟩
theorem ok_is_integer {P : Program} {w : World} {K : PySem.W.Frag} {mg : Str → Option Value} {base : Heap} (T : Tx K mg)  : Fn P w K mg base 1 (He.fAd K ("is_integer", none)) ["value"] (sp_is_integer K) := by
  obtain ⟨fd, F⟩ := T.d_is_integer
  refine ⟨fd, F.ok sc_is_integer (lift_len ?_) (fun cdv A outer s H vs Q E hr h => ?_), F.bindsN fun _ _ _ _ _ _ us hl => (match us, hl with | [_], _ => rfl), F.kp, lk_of F⟩
  · intro ts O P X h
    exact sp_is_integer_len h
  · have hu := hr.units
    refine ⟨_, (PSs.nox (pss_one (ps_ret (pe_and (pe_callB (call_isiK K) (by rfl) T.n_isinstance boot_isinstance (pa_cons (pv 0) (pa_cons (pe_bltn (v := .ty "int") (by rfl) T.n_int boot_int rfl) pa_nil))) (pe_one (pe_not (pe_callB (call_isiK K) (by rfl) T.n_isinstance boot_isinstance (pa_cons (pv 0) (pa_cons (pe_bltn (v := .ty "bool") (by rfl) T.n_bool boot_bool rfl) pa_nil))))))))), enter h fun ts O P X h _ => ?_⟩
    try dsimp only [cxOf, Cx.nox, Cx.wish]
    
    obtain ⟨d, b, rfl, rfl, ⟨t, b1, b2, ht, h1, h2, rfl⟩, p⟩ := h
    show WS _ _ _ _ [.v d] _
    repeat walk_at "g"
    refine c_isi ht (.ty _) h1 ?_
    refine ⟨_, rfl, fun e => ?_, fun e => ?_⟩
    · subst e
      repeat walk_at "g"
      refine c_isi ht (.ty _) h2 ?_
      refine ⟨_, rfl, ?_⟩
      exact ⟨rfl, p⟩
    · subst e
      exact ⟨rfl, p⟩
theorem sc_is_between : FnScope ["value", "low", "high"] ["value", "low", "high"] (defScope (top 5)) := ⟨rfl, rfl, rfl, by decide +kernel, rfl, by decide +kernel, by decide +kernel⟩
theorem ok_is_between {P : Program} {w : World} {K : PySem.W.Frag} {mg : Str → Option Value} {base : Heap} (T : Tx K mg) (h_is_integer : Fn P w K mg base 1 (He.fAd K ("is_integer", none)) ["value"] (sp_is_integer K)) : Fn P w K mg base 2 (He.fAd K ("is_between", none)) ["value", "low", "high"] (sp_is_between K) := by
  obtain ⟨_, F_is_integer, b_is_integer, kp_is_integer, _⟩ := h_is_integer
  obtain ⟨fd, F⟩ := T.d_is_between
  refine ⟨fd, F.ok sc_is_between (lift_len ?_) (fun cdv A outer s H vs Q E hr h => ?_), F.bindsN fun _ _ _ _ _ _ us hl => (match us, hl with | [_, _, _], _ => rfl), F.kp, lk_of F⟩
  · intro ts O P X h
    exact sp_is_between_len h
  · have hu := hr.units
    refine ⟨_, (PSs.nox (pss_one (ps_ret (pe_and (pe_call F_is_integer (hr.mono (by decide)) (by rfl) T.g_is_integer kp_is_integer b_is_integer .nil passL (pa_cons (pv 0) pa_nil)) (pe_one (pe_chain op_le op_le (pv 1) (pv 0) (pv 2))))))), enter h fun ts O P X h _ => ?_⟩
    try dsimp only [cxOf, Cx.nox, Cx.wish]
    
    obtain ⟨d, lo, hi, b, rfl, rfl, hb, p⟩ := h
    show WS _ _ _ _ [.v d, .v (.int lo), .v (.int hi)] _
    repeat walk_at "g"
    rcases hb with ⟨n, rfl, rfl⟩ | ⟨hd, rfl⟩
    · refine u_is_integer intQ_int ⟨⟨_, rfl⟩, ?_⟩
      refine ⟨_, rfl, tt_ ?_⟩
      repeat walk_at "g"
      refine br (fun h1 => ?_) (fun h1 => ?_)
      · repeat walk_at "g"
        rw [decide_eq_true h1, Bool.true_and] at p
        exact ⟨rfl, p⟩
      · rw [decide_eq_false h1, Bool.false_and] at p
        exact ⟨rfl, p⟩
    · refine u_is_integer hd ⟨⟨_, rfl⟩, ?_⟩
      refine ⟨_, rfl, ff_ ?_⟩
      exact ⟨rfl, p⟩
theorem sc_fits_modulus : FnScope ["value"] ["value"] (defScope (top 6)) := ⟨rfl, rfl, rfl, by decide +kernel, rfl, by decide +kernel, by decide +kernel⟩
theorem ok_fits_modulus {P : Program} {w : World} {K : PySem.W.Frag} {mg : Str → Option Value} {base : Heap} (T : Tx K mg) (h_is_between : Fn P w K mg base 2 (He.fAd K ("is_between", none)) ["value", "low", "high"] (sp_is_between K)) : Fn P w K mg base 3 (He.fAd K ("fits_modulus", none)) ["value"] (sp_fits_modulus K) := by
  obtain ⟨_, F_is_between, b_is_between, kp_is_between, _⟩ := h_is_between
  obtain ⟨fd, F⟩ := T.d_fits_modulus
  obtain ⟨_, T_i_MOST_MODULUS⟩ := T.i_MOST_MODULUS_
  refine ⟨fd, F.ok sc_fits_modulus (lift_len ?_) (fun cdv A outer s H vs Q E hr h => ?_), F.bindsN fun _ _ _ _ _ _ us hl => (match us, hl with | [_], _ => rfl), F.kp, lk_of F⟩
  · intro ts O P X h
    exact sp_fits_modulus_len h
  · have hu := hr.units
    refine ⟨_, (PSs.nox (pss_one (ps_ret (pe_call F_is_between (hr.mono (by decide)) (by rfl) T.g_is_between kp_is_between b_is_between .nil passL (pa_cons (pv 0) (pa_cons pe_int (pa_cons (pe_glob (v := .int 1000000000000000000000000000000) (by rfl) T_i_MOST_MODULUS ⟨_, rfl⟩) pa_nil))))))), enter h fun ts O P X h _ => ?_⟩
    try dsimp only [cxOf, Cx.nox, Cx.wish]
    
    obtain ⟨d, b, rfl, rfl, hb, p⟩ := h
    show WS _ _ _ _ [.v d] _
    repeat walk_at "g"
    refine u_is_between hb ⟨⟨_, rfl⟩, ?_⟩
    exact ⟨rfl, p⟩
theorem sc_is_row : FnScope ["value"] ["value"] (defScope (top 7)) := ⟨rfl, rfl, rfl, by decide +kernel, rfl, by decide +kernel, by decide +kernel⟩
theorem ok_is_row {P : Program} {w : World} {K : PySem.W.Frag} {mg : Str → Option Value} {base : Heap} (T : Tx K mg)  : Fn P w K mg base 1 (He.fAd K ("is_row", none)) ["value"] (sp_is_row K) := by
  obtain ⟨fd, F⟩ := T.d_is_row
  refine ⟨fd, F.ok sc_is_row (lift_len ?_) (fun cdv A outer s H vs Q E hr h => ?_), F.bindsN fun _ _ _ _ _ _ us hl => (match us, hl with | [_], _ => rfl), F.kp, lk_of F⟩
  · intro ts O P X h
    exact sp_is_row_len h
  · have hu := hr.units
    refine ⟨_, (PSs.nox (pss_one (ps_ret (pe_callB (call_isiSK K) (by rfl) T.n_isinstance boot_isinstance (pa_cons (pv 0) (pa_cons (pe_tup (pa_cons (pe_bltn (v := .ty "list") (by rfl) T.n_list boot_list rfl) (pa_cons (pe_bltn (v := .ty "tuple") (by rfl) T.n_tuple boot_tuple rfl) pa_nil))) pa_nil)))))), enter h fun ts O P X h _ => ?_⟩
    try dsimp only [cxOf, Cx.nox, Cx.wish]
    
    obtain ⟨d, b, rfl, rfl, ⟨t, ht, h1⟩, p⟩ := h
    show WS _ _ _ _ [.v d] _
    repeat walk_at "g"
    refine c_isiS ht (.cons (.ty _) (.cons (.ty _) .nil)) h1 ?_
    exact ⟨rfl, p⟩
theorem sc_first_odd : FnScope ["values", "low", "high", "at", "value"] ["values", "low", "high"] (defScope (top 8)) := ⟨rfl, rfl, rfl, by decide +kernel, rfl, by decide +kernel, by decide +kernel⟩
theorem ok_first_odd {P : Program} {w : World} {K : PySem.W.Frag} {mg : Str → Option Value} {base : Heap} (T : Tx K mg) (h_is_between : Fn P w K mg base 2 (He.fAd K ("is_between", none)) ["value", "low", "high"] (sp_is_between K)) : Fn P w K mg base 3 (He.fAd K ("first_odd", none)) ["values", "low", "high"] (sp_first_odd K) := by
  obtain ⟨_, F_is_between, b_is_between, kp_is_between, _⟩ := h_is_between
  obtain ⟨fd, F⟩ := T.d_first_odd
  refine ⟨fd, F.ok sc_first_odd (lift_len ?_) (fun cdv A outer s H vs Q E hr h => ?_), F.bindsN fun _ _ _ _ _ _ us hl => (match us, hl with | [_, _, _], _ => rfl), F.kp, lk_of F⟩
  · intro ts O P X h
    exact sp_first_odd_len h
  · have hu := hr.units
    refine ⟨_, (PSs.nox (pss_cons (ps_for PassesOwn.never rfl (pi_enumT (by rfl) T.n_enumerate (pa_cons (pv 0) pa_nil)) (pg_tupK K rfl (pgs_cons (pg_name (i := 3) sc_first_odd.nd rfl (.inl rfl)) (pgs_cons (pg_name (i := 4) sc_first_odd.nd rfl (.inl rfl)) pgs_nil)))
    (pss_one (ps_if (pt_not (pt_val (pe_call F_is_between (hr.mono (by decide)) (by rfl) T.g_is_between kp_is_between b_is_between .nil passL (pa_cons (pv 4) (pa_cons (pv 1) (pa_cons (pv 2) pa_nil))))))
    (pss_one (ps_ret (pv 3)))
    pss_nil)))
    (pss_one (ps_ret pe_non)))), enter h fun ts O P X h _ => ?_⟩
    try dsimp only [cxOf, Cx.nox, Cx.wish]
    
    obtain ⟨ns, lo, hi, rfl, rfl, hb, p⟩ := h
    show WS _ _ _ _ [.v (.tup (nums ns)), .v (.int lo), .v (.int hi), .no, .no] _
    refine s_seq ?_
    refine s_forE ?_
    refine i_enumT ?_
    repeat walk_at "e"
    refine for_EN (fun i ts' O' => O' = [] ∧ ∃ a b, ts' = [.v (.tup (nums ns)), .v (.int lo), .v (.int hi), a, b]) ⟨rfl, _, _, rfl⟩ ?_ ?_
    · rintro i r _ _ _ hr ⟨rfl, a, b, rfl⟩
      refine g_pair rfl ?_
      repeat walk_at "e"
      obtain ⟨h1, h2⟩ := hb r (List.mem_of_getElem? hr)
      refine u_between h1 h2 ⟨⟨_, rfl⟩, ?_⟩
      repeat walk_at "e"
      exact ⟨rfl, _, _, rfl⟩
    · rintro _ _ ⟨rfl, a, b, rfl⟩
      repeat walk_at "e"
      exact ⟨rfl, p⟩
theorem sc_law_pen : FnScope ["_law_script"] ["_law_script"] (defScope (top 28)) := ⟨rfl, rfl, rfl, by decide +kernel, rfl, by decide +kernel, by decide +kernel⟩
theorem ok_law_pen {P : Program} {w : World} {K : PySem.W.Frag} {mg : Str → Option Value} {base : Heap} (T : Tx K mg)  : FnR P w K mg base 1 (He.fAd K ("_law_pen", none)) ["_law_script"] (penSp K 63) := by
  obtain ⟨fd, F⟩ := T.d_law_pen
  refine ⟨fd, F.ok sc_law_pen ?_ (fun cdv A outer s H vs Q E hr h => ?_), F.bindsN fun _ _ _ _ _ _ us hl => (match us, hl with | [_], _ => rfl), F.kp, lk_of F⟩
  · intro vs H Q E h
    exact penSp_len h
  · have hu := hr.units
    refine ⟨_, (PSs.nox (pss_one (ps_ret (pe_lst (pa_cons (pe_callTy (cr_listK K) (by rfl) T.n_list boot_list (pa_cons (pe_slice (sl_listK K) (pv 0) po_none (po_some pe_int)) pa_nil)) (pa_cons pe_int (pa_cons pe_int pa_nil))))))), ?_⟩
    try dsimp only [cxOf, Cx.nox, Cx.wish]
    
    obtain ⟨a, cs, rfl, hs, q⟩ := h
    refine ⟨.ref a, rfl, 63, rfl, a, _, rfl, hs, fun s0 e0 => ⟨s0, _, rfl, .inl (SqL.of upd_same), fun l e1 => ⟨Nat.le_of_ble_eq_true rfl, fun p e2 => q s0 l p e0 e1 e2⟩⟩⟩
theorem sc_law_draw : FnScope ["_law_pen_here", "_law_many", "_law_digit", "_law_at", "_law_cell", "_law_great", "_law_mixed"] ["_law_pen_here", "_law_many"] (defScope (top 29)) := ⟨rfl, rfl, rfl, by decide +kernel, rfl, by decide +kernel, by decide +kernel⟩
theorem ok_law_draw {P : Program} {w : World} {K : PySem.W.Frag} {mg : Str → Option Value} {base : Heap} (T : Tx K mg)  : Fn P w K mg base 1 (He.fAd K ("_law_draw", none)) ["_law_pen_here", "_law_many"] (sp_draw K) := by
  obtain ⟨fd, F⟩ := T.d_law_draw
  refine ⟨fd, F.ok sc_law_draw (lift_len ?_) (fun cdv A outer s H vs Q E hr h => ?_), F.bindsN fun _ _ _ _ _ _ us hl => (match us, hl with | [_, _], _ => rfl), F.kp, lk_of F⟩
  · intro ts O P X h
    exact sp_draw_len h
  · have hu := hr.units
    refine ⟨_, (PSs.nox (pss_cons (ps_if (pt_cmpR op_gt (pe_ix (ix_listK K) (pv 0) pe_int (fun _ _ => rfl)) pe_int (nomark _))
    (pss_cons (ps_set (i := 2) sc_law_draw.nd rfl (.inl rfl) (pe_op op_mod (pe_callTy call_int1 (by rfl) T.n_int boot_int (pa_cons (pe_ix (ix_listK K) (pv 0) pe_int (fun _ _ => rfl)) pa_nil)) (pv 1)))
    (pss_cons (ps_asg (pe_op op_fdivW (pe_callTy call_int1 (by rfl) T.n_int boot_int (pa_cons (pe_ix (ix_listK K) (pv 0) pe_int (fun _ _ => rfl)) pa_nil)) (pv 1)) (pg_sub (pv 0) pe_int set_list))
    (pss_one (ps_ret (pv 2)))))
    pss_nil)
    (pss_cons (ps_set (i := 3) sc_law_draw.nd rfl (.inl rfl) (pe_ix (ix_listK K) (pv 0) pe_int (fun _ _ => rfl)))
    (pss_cons (ps_asg (pe_op op_add (pv 3) pe_int) (pg_sub (pv 0) pe_int set_list))
    (pss_cons (ps_set (i := 4) sc_law_draw.nd rfl (.inl rfl) (pe_op op_add (pe_op op_mul pe_int (pv 3)) pe_int))
    (pss_cons (ps_if (pt_cmpR (op_neDK K hu) (pe_ix (ix_listK K) (pv 0) pe_int (fun _ _ => rfl)) (pe_lst pa_nil) (nomark _))
    (pss_one (ps_set (i := 4) sc_law_draw.nd rfl (.inl rfl) (pe_ix (ix_listK K) (pe_ix (ix_listK K) (pv 0) pe_int (fun _ _ => rfl)) (pe_op op_mod (pe_callTy call_int1 (by rfl) T.n_int boot_int (pa_cons (pv 3) pa_nil)) (pe_callB (cr_lenK K) (by rfl) T.n_len boot_len (pa_cons (pe_ix (ix_listK K) (pv 0) pe_int (fun _ _ => rfl)) pa_nil))) (fun _ _ => rfl))))
    pss_nil)
    (pss_cons (ps_if (PW.pt (pw_and (pt_cmpR op_lt (pv 3) (pe_callB (cr_lenK K) (by rfl) T.n_len boot_len (pa_cons (pe_ix (ix_listK K) (pv 0) pe_int (fun _ _ => rfl)) pa_nil)) (nomark _)) (pw_and1 (pt_cmpR op_ge (pe_callB call_abs (by rfl) T.n_abs boot_abs (pa_cons (pv 4) pa_nil)) (pe_op op_pow pe_int pe_int) (nomark _)))))
    (pss_cons (ps_set (i := 5) sc_law_draw.nd rfl (.inl rfl) (pe_op op_add (pe_op op_mul pe_int (pe_op op_sub (pe_callB call_abs (by rfl) T.n_abs boot_abs (pa_cons (pv 4) pa_nil)) (pe_op op_pow pe_int pe_int))) (pe_callTy call_int1 (by rfl) T.n_int boot_int (pa_cons (pe_cmpR op_lt (pv 4) pe_int (nomark _)) pa_nil))))
    (pss_cons (ps_asg (pe_op op_fdivW (pe_callTy call_int1 (by rfl) T.n_int boot_int (pa_cons (pv 5) pa_nil)) (pv 1)) (pg_sub (pv 0) pe_int set_list))
    (pss_one (ps_ret (pe_op op_mod (pe_callTy call_int1 (by rfl) T.n_int boot_int (pa_cons (pv 5) pa_nil)) (pv 1))))))
    pss_nil)
    (pss_cons (ps_set (i := 6) sc_law_draw.nd rfl (.inl rfl) (pe_op op_mod (pe_callTy call_int1 (by rfl) T.n_int boot_int (pa_cons (pe_op op_pow (pe_op op_add (pe_op op_add (pe_op op_mod (pe_callTy call_int1 (by rfl) T.n_int boot_int (pa_cons (pv 4) pa_nil)) pe_int) (pe_op op_mul pe_int (pv 3))) pe_int) pe_int) pa_nil)) pe_int))
    (pss_cons (ps_set (i := 6) sc_law_draw.nd rfl (.inl rfl) (pe_op op_mod (pe_callTy call_int1 (by rfl) T.n_int boot_int (pa_cons (pe_op op_pow (pe_op op_add (pe_op op_add (pe_op op_mulW (pv 6) (pe_op op_add (pe_op op_mul pe_int (pv 3)) pe_int)) (pe_op op_mulW (pe_op op_mul pe_int (pv 3)) (pv 3))) pe_int) pe_int) pa_nil)) pe_int))
    (pss_one (ps_ret (pe_op op_mod (pe_callTy call_int1 (by rfl) T.n_int boot_int (pa_cons (pe_op op_fdivW (pv 6) pe_int) pa_nil)) (pv 1))))))))))))), enter h fun ts O P X h _ => ?_⟩
    try dsimp only [cxOf, Cx.nox, Cx.wish]
    
    obtain ⟨n, p, m, rfl, rfl, hp, hn, h1, h2, k⟩ := h
    obtain ⟨cs, at_, g, rfl, ha, han, hg⟩ := hp
    show WS _ _ _ _ [.own 0, .v (.int m), .no, .no, .no, .no, .no] _
    repeat walk_at "g"
    refine br (fun hgt => ?_) (fun hgt => ?_)
    · repeat walk_at "g"
      exact ⟨rfl, k _ _ ⟨cs, at_, g / m, rfl, ha, by omega, Int.ediv_nonneg hg (by omega)⟩ (Int.emod_nonneg _ (by omega)) (Int.emod_lt_of_pos _ (by omega))⟩
    · repeat walk_at "e"
      walk_at "n"
      walk_at "n"
      walk_at "n"
      refine s_cut (fun ts' O' => ∃ c, ts' = [.own 0, .v (.int m), .no, .v (.int at_), .v (.int c), .no, .no] ∧ O' = [.lst [.lst (nums cs), .int (at_ + 1), .int g]]) ?_ ?_
      · repeat walk_at "g"
        refine w_neD valD_v valD_v pl_numsL pl_nilL ?_
        rw [eqD_nilL]
        refine ⟨_, rfl, nbr (fun hc => ?_) (fun hc => ?_)⟩
        · repeat walk_at "g"
          have hl : (0 : Int) < (nums cs).length := by
            rw [nums_len]
            have := List.length_pos_iff.mpr hc
            omega
          repeat walk_at "g"
          obtain ⟨x, hx, _⟩ := atI_nums (ns := cs) (i := at_ % ((nums cs).length : Int)) (Int.emod_nonneg _ (by omega)) (by rw [← nums_len]; exact Int.emod_lt_of_pos _ hl)
          refine w_ixL lstD_v hx ?_
          exact ⟨_, rfl, rfl⟩
        · repeat walk_at "g"
          exact rfl
      · rintro _ _ ⟨c, rfl, rfl⟩
        refine s_cut (fun ts' O' => ts' = [.own 0, .v (.int m), .no, .v (.int at_), .v (.int c), .no, .no] ∧ O' = [.lst [.lst (nums cs), .int (at_ + 1), .int g]]) ?_ ?_
        · repeat walk_at "e"
          refine br (fun _ => ?_) (fun _ => ff_ ?_)
          · repeat walk_at "e"
            refine br (fun hc => ?_) (fun _ => ?_)
            · repeat walk_at "g"
              have hgr : 0 ≤ 2 * ((if c < 0 then -c else c) - 10 ^ Int.toNat 18) + (if decide (c < 0) = true then 1 else 0) := by
                have e18 : (10 : Int) ^ Int.toNat 18 = 1000000000000000000 := by decide
                rw [e18] at hc ⊢
                split <;> split <;> omega
              exact ⟨rfl, k _ _ ⟨cs, at_ + 1, _, rfl, by omega, by omega, Int.ediv_nonneg hgr (by omega)⟩ (Int.emod_nonneg _ (by omega)) (Int.emod_lt_of_pos _ (by omega))⟩
            · repeat walk_at "e"
              exact ⟨rfl, rfl⟩
          · repeat walk_at "e"
            exact ⟨rfl, rfl⟩
        · rintro _ _ ⟨rfl, rfl⟩
          refine s_cut (fun ts' O' => ∃ x, 0 ≤ x ∧ x < 2147483629 ∧ ts' = [.own 0, .v (.int m), .no, .v (.int at_), .v (.int c), .no, .v (.int x)] ∧ O' = [.lst [.lst (nums cs), .int (at_ + 1), .int g]]) ?_ ?_
          · repeat walk_at "e"
            exact ⟨_, Int.emod_nonneg _ (by decide), Int.emod_lt_of_pos _ (by decide), rfl, rfl⟩
          · rintro _ _ ⟨x, hx0, hx1, rfl, rfl⟩
            have b1 := mulB (x := x) (y := 2 * at_ + 401) hx0 (Int.le_of_lt hx1) (by omega) (show 2 * at_ + 401 ≤ 2000000 + 401 by omega)
            have b2 := mulB (x := 50311 * at_) (y := at_) (by omega) (show 50311 * at_ ≤ 50311 * 1000000 by omega) ha (show at_ ≤ 1000000 by omega)
            refine s_cut (fun ts' O' => ∃ x, 0 ≤ x ∧ x < 2147483549 ∧ ts' = [.own 0, .v (.int m), .no, .v (.int at_), .v (.int c), .no, .v (.int x)] ∧ O' = [.lst [.lst (nums cs), .int (at_ + 1), .int g]]) ?_ ?_
            · repeat walk_at "e"
              exact ⟨_, Int.emod_nonneg _ (by decide), Int.emod_lt_of_pos _ (by decide), rfl, rfl⟩
            · rintro _ _ ⟨y, hy0, hy1, rfl, rfl⟩
              repeat walk_at "e"
              exact ⟨rfl, k _ _ ⟨cs, at_ + 1, g, rfl, by omega, by omega, hg⟩ (Int.emod_nonneg _ (by omega)) (Int.emod_lt_of_pos _ (by omega))⟩
theorem sc_law_pick : FnScope ["_law_pen_here", "_law_some"] ["_law_pen_here", "_law_some"] (defScope (top 30)) := ⟨rfl, rfl, rfl, by decide +kernel, rfl, by decide +kernel, by decide +kernel⟩
theorem ok_law_pick {P : Program} {w : World} {K : PySem.W.Frag} {mg : Str → Option Value} {base : Heap} (T : Tx K mg) (h_law_draw : Fn P w K mg base 1 (He.fAd K ("_law_draw", none)) ["_law_pen_here", "_law_many"] (sp_draw K)) : Fn P w K mg base 2 (He.fAd K ("_law_pick", none)) ["_law_pen_here", "_law_some"] (sp_pick K) := by
  obtain ⟨_, F_law_draw, b_law_draw, kp_law_draw, _⟩ := h_law_draw
  obtain ⟨fd, F⟩ := T.d_law_pick
  refine ⟨fd, F.ok sc_law_pick (lift_len ?_) (fun cdv A outer s H vs Q E hr h => ?_), F.bindsN fun _ _ _ _ _ _ us hl => (match us, hl with | [_, _], _ => rfl), F.kp, lk_of F⟩
  · intro ts O P X h
    exact sp_pick_len h
  · have hu := hr.units
    refine ⟨_, (PSs.nox (pss_one (ps_ret (pe_ix (ix_listK K) (pv 1) (pe_call F_law_draw (hr.mono (by decide)) (by rfl) T.g__law_draw kp_law_draw b_law_draw .nil passL (pa_cons (pv 0) (pa_cons (pe_callB (cr_lenK K) (by rfl) T.n_len boot_len (pa_cons (pv 1) pa_nil)) pa_nil))) (fun _ _ => rfl))))), enter h fun ts O P X h _ => ?_⟩
    try dsimp only [cxOf, Cx.nox, Cx.wish]
    
    obtain ⟨n, p, ds, rfl, rfl, hp, hn, h1, h2, k⟩ := h
    show WS _ _ _ _ [.own 0, .v (.lst ds)] _
    repeat walk_at "g"
    refine u_draw hp hn ?_ ?_ fun p' r hp' h3 h4 => ⟨_, rfl, nno, ?_⟩
    · omega
    · omega
    obtain ⟨d, e1, e2⟩ := atI_pos h3 h4
    refine w_ixL lstD_v e1 ?_
    exact ⟨rfl, k _ _ _ hp' e2⟩
end My

set_option Elab.async false
set_option linter.all false
set_option maxRecDepth 100000
set_option maxHeartbeats 0
namespace My
open PySem PySem.Spec PyProof.Rows L2 G

local macro_rules | `(tactic| walk_at "ws") => `(tactic| first
  | with_reducible refine s_set ?_
  | with_reducible refine s_if ?_
  | with_reducible refine s_ret ?_
  | with_reducible refine s_retN ?_
  | with_reducible refine s_drop ?_
  | with_reducible refine s_next ?_
  | with_reducible refine s_par ?_
  | with_reducible refine s_par3 ?_
  | refine s_fldN (by assumption) (by assumption) ?_
  | with_reducible refine s_asg ?_)
local macro_rules | `(tactic| walk_at "we") => `(tactic| first
  | ((with_reducible refine w_v (d := ?k2) ?k1 ?_); (case k1 => exact rfl))
  | ((with_reducible refine w_o (j := ?k2) ?k1 ?_); (case k1 => exact rfl))
  | ((guard_target = G.WE _ _ (tFld _ _ _) _ _ _ _); (refine w_fldN (by assumption) (by assumption) ?_))
  | with_reducible refine w_ci ?_
  | with_reducible refine w_op ?_
  | with_reducible refine w_call ?_
  | with_reducible refine w_cty ?_
  | with_reducible refine w_cb ?_
  | with_reducible refine w_cn ?_
  | with_reducible refine w_cs ?_
  | with_reducible refine w_cr ?_
  | with_reducible refine w_un ?_
  | with_reducible refine w_andV ?_
  | with_reducible refine w_orV ?_
  | with_reducible refine w_notV ?_
  | with_reducible refine w_ife ?_
  | with_reducible refine w_chain ?_
  | with_reducible refine w_tup ?_
  | with_reducible refine w_slL ?_
  | with_reducible refine w_slT ?_
  | (guard_target = G.WE _ _ (tCall (lift _ (sp_draw _)) _ _ _) _ _ _ _; refine w_fn10 0 ?_)
  | (guard_target = G.WE _ _ (tCall (lift _ (sp_pick _)) _ _ _) _ _ _ _; refine w_fn10 0 ?_)
  | (guard_target = G.WE _ _ (tCall (lift _ (sp_number _)) _ _ _) _ _ _ _; refine w_fn10 0 ?_)
  | (guard_target = G.WE _ _ (tCall (lift _ (sp_right _)) _ _ _) _ _ _ _; refine w_fn10 0 ?_)
  | with_reducible refine w_fn0 ?_
  | with_reducible refine w_meth0 ?_
  | with_reducible refine w_make0 ?_
  | with_reducible refine w_bmL ?_
  | with_reducible refine w_bmL0 ?_
  | with_reducible refine w_lst ?_)
local macro_rules | `(tactic| walk_at "wt") => `(tactic| first
  | with_reducible refine w_test ?_
  | with_reducible refine w_B ?_
  | with_reducible refine w_and ?_
  | with_reducible refine w_or ?_
  | with_reducible refine w_not ?_)
local macro_rules | `(tactic| walk_at "wa") => `(tactic| first
  | with_reducible refine w_cons ?_
  | with_reducible refine w_nil ?_
  | with_reducible refine w_star ?_)
local macro_rules | `(tactic| walk_at "wr") => `(tactic| first
  | with_reducible refine w_add ?_
  | with_reducible refine w_sub ?_
  | with_reducible refine w_lt ?_
  | with_reducible refine w_le ?_
  | with_reducible refine w_gt ?_
  | with_reducible refine w_ge ?_
  | with_reducible refine w_eqI ?_
  | with_reducible refine w_neI ?_
  | with_reducible refine w_isN ?_
  | with_reducible refine w_notN ?_
  | ((with_reducible refine w_mod ?k1 ?_); (case k1 => first | decide | omega))
  | ((with_reducible refine w_mul ?k1 ?_); (case k1 => first | exact Or.inl (by constructor <;> decide) | exact Or.inr (by constructor <;> decide) | exact Or.inl (by constructor <;> omega) | exact Or.inr (by constructor <;> omega)))
  | ((with_reducible refine w_pow ?k1 ?_); (case k1 => first | exact ⟨by decide, by decide, by decide⟩ | exact ⟨by omega, by omega, by omega⟩))
  | ((with_reducible refine w_fdivW ?k1 ?_); (case k1 => exact divW_ok (by first | decide | omega) (by first | decide | omega)))
  | ((with_reducible refine w_mulW ?k1 ?_); (case k1 => exact mulW_ok (by constructor <;> omega) (by constructor <;> omega)))
  | ((guard_target = G.WR _ (rIxT _) _ _ _ _); (refine w_ixT (by first | exact atI_0 | exact atI_1 | exact atI_2 | assumption) ?_))
  | ((guard_target = G.WR _ (rIxL _) _ _ _ _); (refine w_ixL (by first | exact lstD_v | exact lstD_o rfl) (by first | exact atI_0 | exact atI_1 | exact atI_2 | assumption) ?_)))
local macro_rules | `(tactic| walk_at "wc") => `(tactic| first
  | with_reducible refine c_int ?_
  | with_reducible refine c_intB ?_
  | with_reducible refine c_abs ?_
  | ((guard_target = G.WC _ (G.rLen _) _ _ _); (refine c_lenL (by first | exact lstD_v | exact lstD_o rfl) ?_))
  | with_reducible refine c_lenT ?_
  | ((guard_target = G.WC _ (G.rListOf _) _ _ _); (refine c_listL (by first | exact lstD_v | exact lstD_o rfl) ?_))
  | with_reducible refine c_listT ?_
  | ((guard_target = G.WC _ (G.rTupOf _) _ _ _); (refine c_tupL (by first | exact lstD_v | exact lstD_o rfl) ?_))
  | with_reducible refine c_tupT ?_)
local macro_rules | `(tactic| walk_at "e") => `(tactic| first
  | (guard_target = G.WE _ _ _ _ _ _ _; walk_at "we")
  | (guard_target = G.WS _ _ _ _ _ _; walk_at "ws")
  | (guard_target = G.WA _ _ _ _ _ _ _; walk_at "wa")
  | (guard_target = G.WR _ _ _ _ _ _; walk_at "wr")
  | (guard_target = G.WT _ _ _ _ _ _ _; walk_at "wt")
  | (guard_target = G.WC _ _ _ _ _; walk_at "wc")
  | (guard_target = G.WU _ _ _ _ _; with_reducible refine w_neg ?_)
  | (guard_target = G.WG _ _ _ _ _ _ _; first | with_reducible refine g_name ?_ | with_reducible refine g_setL ?_ | refine g_pair rfl ?_ | refine g_trip rfl ?_ | refine g_quad rfl ?_)
  | (guard_target = G.WO _ _ _ _ _ _ _; first | with_reducible refine o_none ?_ | with_reducible refine o_some ?_)
  | with_reducible refine tt_ ?_
  | with_reducible refine ff_ ?_
  | with_reducible refine ntt_ ?_
  | with_reducible refine nff_ ?_
  | ((guard_target = ((!G.isNon _) = true → _) ∧ _); (first | refine bnF rfl ?_ | refine bnT rfl ?_))
  | ((guard_target = (G.isNon _ = true → _) ∧ _); (first | refine bF rfl ?_ | refine bT rfl ?_))
  | (guard_target = Exists _; first
    | refine ⟨_, _, _, _, _, rfl, rfl, rfl, rfl, rfl, ?_⟩
    | refine ⟨_, _, _, rfl, rfl, rfl, Nat.le_of_ble_eq_true rfl, ?_⟩
    | refine ⟨_, _, rfl, rfl, rfl, ?_⟩
    | refine ⟨_, _, _, rfl, ?_⟩
    | refine ⟨_, _, (by first | exact insD_v | exact insD_o rfl), rfl, ?_⟩
    | refine ⟨_, _, rfl, ?_⟩
    | refine ⟨_, rfl, rfl, ?_⟩
    | refine ⟨_, rfl, Nat.le_of_ble_eq_true rfl, ?_⟩
    | refine ⟨_, (by first | exact lstD_v | exact lstD_o rfl), ?_⟩
    | refine ⟨_, rfl, ?_⟩))
local macro_rules | `(tactic| walk_at "o") => `(tactic| first | with_reducible refine w_lstO ?_ | walk_at "e")
local macro_rules | `(tactic| walk_at "g") => `(tactic| first | walk_at "e" | with_reducible refine s_seq ?_)
local macro_rules | `(tactic| walk_at "n") => `(tactic| (with_reducible refine s_seq ?_); (repeat walk_at "e"))

/-- a chain -/
def chD (C : Addr) (s m : Int) : D := .ins C [("stages", .int s), ("modulus", .int m)]
def sp_ch_init (K : PySem.W.Frag) (C : Addr) : SpD := fun ts O P _ => ∃ s m : Int, ts = [.own 0, .v (.int s), .v (.int m)] ∧ O = [.ins C []] ∧ 1 ≤ s ∧ s ≤ 6 ∧ 2 ≤ m ∧ m ≤ 1000000000000000000000000000000 ∧ P (.v .non) [.ins C [("stages", .int s), ("modulus", .int m)]]
theorem sp_ch_init_len {K : PySem.W.Frag} {C : Addr} {ts O P X} (h : sp_ch_init K C ts O P X) : ts.length = 3 := by
  obtain ⟨s, m, rfl, _⟩ := h
  rfl
def sp_need_fit (K : PySem.W.Frag) (C : Addr) : SpD := fun ts O P _ => ∃ (m : Int) (rs : List Int) (g : Int), ts = [.v (chD C rs.length m), .v (.tup (nums rs)), .v (.int g)] ∧ O = [] ∧ InR m rs ∧ 0 ≤ g ∧ g < m ∧ P (.v .non) []
theorem sp_need_fit_len {K : PySem.W.Frag} {C : Addr} {ts O P X} (h : sp_need_fit K C ts O P X) : ts.length = 3 := by
  obtain ⟨m, rs, g, rfl, _⟩ := h
  rfl
def sp_handed (K : PySem.W.Frag) (C : Addr) (l : Bool) : SpD := fun ts O P _ => ∃ (s m a b : Int), ts = [.v (chD C s m), .v (.int a), .v (.int b)] ∧ O = [] ∧ P (.v (.int (if l then a else b))) []
theorem sp_handed_len {K : PySem.W.Frag} {C : Addr} {l : Bool} {ts O P X} (h : sp_handed K C l ts O P X) : ts.length = 3 := by
  obtain ⟨s, m, a, b, rfl, _⟩ := h
  rfl
theorem u_handed {K : PySem.W.Frag} {C : Addr} {l : Bool} {P : PT'} {X : XX} {s m a b : Int} (k : P (.v (.int (if l then a else b))) []) : sp_handed K C l [.v (chD C s m), .v (.int a), .v (.int b)] [] P X := ⟨s, m, a, b, rfl, rfl, k⟩
/-- a beat, as a pair of tuples -/
def pairD (x : List Int × List Int) : D := .tup [.tup (nums x.1), .tup (nums x.2)]
def sp_beat (K : PySem.W.Frag) (C : Addr) (l : Bool) : SpD := fun ts O P _ => ∃ (m : Int) (rs : List Int) (g : Int), ts = [.v (chD C rs.length m), .v (.tup (nums rs)), .v (.int g)] ∧ O = [] ∧ rs.length ≤ 6 ∧ 2 ≤ m ∧ m ≤ 1000000000000000000000000000000 ∧ InR m rs ∧ 0 ≤ g ∧ g < m ∧ P (.v (pairD (bt l m rs g))) []
theorem sp_beat_len {K : PySem.W.Frag} {C : Addr} {l : Bool} {ts O P X} (h : sp_beat K C l ts O P X) : ts.length = 3 := by
  obtain ⟨m, rs, g, rfl, _⟩ := h
  rfl
def sp_back (K : PySem.W.Frag) (C : Addr) (l : Bool) : SpD := fun ts O P _ => ∃ (m : Int) (rs : List Int) (g : Int), ts = [.v (chD C rs.length m), .v (.tup (nums rs)), .v (.int g)] ∧ O = [] ∧ rs.length ≤ 6 ∧ 2 ≤ m ∧ m ≤ 1000000000000000000000000000000 ∧ InR m rs ∧ 0 ≤ g ∧ g < m ∧ P (.v (pairD (bk l m rs g))) []
theorem sp_back_len {K : PySem.W.Frag} {C : Addr} {l : Bool} {ts O P X} (h : sp_back K C l ts O P X) : ts.length = 3 := by
  obtain ⟨m, rs, g, rfl, _⟩ := h
  rfl
theorem sc_PromptU_initU : FnScope ["self", "stages", "modulus"] ["self", "stages", "modulus"] (defScope (inClass (top 22) 2)) := ⟨rfl, rfl, rfl, by decide +kernel, rfl, by decide +kernel, by decide +kernel⟩
theorem ok_PromptU_initU {P : Program} {w : World} {K : PySem.W.Frag} {mg : Str → Option Value} {base : Heap} (T : Tx K mg) (h_is_between : Fn P w K mg base 2 (He.fAd K ("is_between", none)) ["value", "low", "high"] (sp_is_between K)) (h_fits_modulus : Fn P w K mg base 3 (He.fAd K ("fits_modulus", none)) ["value"] (sp_fits_modulus K)) : Fn P w K mg base 4 (He.fAd K ("Prompt", some "__init__")) ["self", "stages", "modulus"] (sp_ch_init K (He.ga K "Prompt")) := by
  obtain ⟨_, F_is_between, b_is_between, kp_is_between, _⟩ := h_is_between
  obtain ⟨_, F_fits_modulus, b_fits_modulus, kp_fits_modulus, _⟩ := h_fits_modulus
  obtain ⟨fd, F⟩ := T.d_PromptU_initU
  obtain ⟨_, T_i_MOST_STAGES⟩ := T.i_MOST_STAGES_
  have hc_Prompt := T.cl_Prompt
  have hn_Prompt_modulus := T.na_Prompt_modulus
  have hc_Prompt := T.cl_Prompt
  have hn_Prompt_stages := T.na_Prompt_stages
  refine ⟨fd, F.ok sc_PromptU_initU (lift_len ?_) (fun cdv A outer s H vs Q E hr h => ?_), F.bindsN fun _ _ _ _ _ _ us hl => (match us, hl with | [_, _, _], _ => rfl), F.kp, lk_of F⟩
  · intro ts O P X h
    exact sp_ch_init_len h
  · have hu := hr.units
    refine ⟨_, (PSs.nox (pss_cons (ps_if (pt_not (pt_val (pe_call F_is_between (hr.mono (by decide)) (by rfl) T.g_is_between kp_is_between b_is_between .nil passL (pa_cons (pv 1) (pa_cons pe_int (pa_cons (pe_glob (v := .int 6) (by rfl) T_i_MOST_STAGES ⟨_, rfl⟩) pa_nil))))))
    (pss_one ps_never)
    pss_nil)
    (pss_cons (ps_if (pt_not (pt_val (pe_call F_fits_modulus (hr.mono (by decide)) (by rfl) T.g_fits_modulus kp_fits_modulus b_fits_modulus .nil passL (pa_cons (pv 2) pa_nil))))
    (pss_one ps_never)
    pss_nil)
    (pss_cons (ps_fld (pv 0) (pv 1) rfl)
    (pss_one (ps_fld (pv 0) (pv 2) rfl)))))), enter h fun ts O P X h _ => ?_⟩
    try dsimp only [cxOf, Cx.nox, Cx.wish]
    
    obtain ⟨s', m, rfl, rfl, h1, h2, h3, h4, p⟩ := h
    show WS _ _ _ _ [.own 0, .v (.int s'), .v (.int m)] _
    walk_at "n"
    refine u_between h1 h2 ⟨⟨_, rfl⟩, ?_⟩
    repeat walk_at "e"
    walk_at "n"
    refine u_fits_modulus (btw_int h3 h4) ⟨⟨_, rfl⟩, ?_⟩
    repeat walk_at "e"
    walk_at "n"
    repeat walk_at "e"
    exact ⟨rfl, p⟩
theorem sc_Prompt_need_fit : FnScope ["self", "rests", "number", "at"] ["self", "rests", "number"] (defScope (inClass (top 22) 4)) := ⟨rfl, rfl, rfl, by decide +kernel, rfl, by decide +kernel, by decide +kernel⟩
theorem ok_Prompt_need_fit {P : Program} {w : World} {K : PySem.W.Frag} {mg : Str → Option Value} {base : Heap} (T : Tx K mg) (h_is_row : Fn P w K mg base 1 (He.fAd K ("is_row", none)) ["value"] (sp_is_row K)) (h_first_odd : Fn P w K mg base 3 (He.fAd K ("first_odd", none)) ["values", "low", "high"] (sp_first_odd K)) (h_is_between : Fn P w K mg base 2 (He.fAd K ("is_between", none)) ["value", "low", "high"] (sp_is_between K)) : Fn P w K mg base 4 (He.fAd K ("Prompt", some "need_fit")) ["self", "rests", "number"] (sp_need_fit K (He.ga K "Prompt")) := by
  obtain ⟨_, F_is_row, b_is_row, kp_is_row, _⟩ := h_is_row
  obtain ⟨_, F_first_odd, b_first_odd, kp_first_odd, _⟩ := h_first_odd
  obtain ⟨_, F_is_between, b_is_between, kp_is_between, _⟩ := h_is_between
  obtain ⟨fd, F⟩ := T.d_Prompt_need_fit
  have hc_Prompt := T.cl_Prompt
  have hn_Prompt_modulus := T.na_Prompt_modulus
  have hc_Prompt := T.cl_Prompt
  have hn_Prompt_stages := T.na_Prompt_stages
  refine ⟨fd, F.ok sc_Prompt_need_fit (lift_len ?_) (fun cdv A outer s H vs Q E hr h => ?_), F.bindsN fun _ _ _ _ _ _ us hl => (match us, hl with | [_, _, _], _ => rfl), F.kp, lk_of F⟩
  · intro ts O P X h
    exact sp_need_fit_len h
  · have hu := hr.units
    refine ⟨_, (PSs.nox (pss_cons (ps_if (PW.pt (pw_or (pt_not (pt_val (pe_call F_is_row (hr.mono (by decide)) (by rfl) T.g_is_row kp_is_row b_is_row .nil passL (pa_cons (pv 1) pa_nil)))) (pw_or1 (pt_cmpR op_ne (pe_callB (cr_lenK K) (by rfl) T.n_len boot_len (pa_cons (pv 1) pa_nil)) (pe_fldK K (pv 0)) (nomark _)))))
    (pss_one ps_never)
    pss_nil)
    (pss_cons (ps_set (i := 3) sc_Prompt_need_fit.nd rfl (.inl rfl) (pe_call F_first_odd (hr.mono (by decide)) (by rfl) T.g_first_odd kp_first_odd b_first_odd .nil passL (pa_cons (pv 1) (pa_cons pe_int (pa_cons (pe_op op_sub (pe_fldK K (pv 0)) pe_int) pa_nil)))))
    (pss_cons (ps_if (pt_cmpR op_notN1 (pv 3) pe_non (nomark _))
    (pss_one ps_never)
    pss_nil)
    (pss_one (ps_if (pt_not (pt_val (pe_call F_is_between (hr.mono (by decide)) (by rfl) T.g_is_between kp_is_between b_is_between .nil passL (pa_cons (pv 2) (pa_cons pe_int (pa_cons (pe_op op_sub (pe_fldK K (pv 0)) pe_int) pa_nil))))))
    (pss_one ps_never)
    pss_nil)))))), enter h fun ts O P X h _ => ?_⟩
    try dsimp only [cxOf, Cx.nox, Cx.wish]
    
    obtain ⟨m, rs, g, rfl, rfl, hr, h1, h2, p⟩ := h
    show WS _ _ _ _ [.v (chD _ rs.length m), .v (.tup (nums rs)), .v (.int g), .no] _
    walk_at "n"
    refine u_is_row rowQ_tup ⟨⟨_, rfl⟩, ?_⟩
    repeat walk_at "e"
    refine nbF (congrArg Nat.cast nums_len) ?_
    repeat walk_at "e"
    walk_at "n"
    refine ⟨rs, _, _, rfl, rfl, fun n hn => ?_, ⟨⟨_, rfl⟩, ?_⟩⟩
    · obtain ⟨a, b⟩ := hr n hn
      omega
    repeat walk_at "e"
    walk_at "n"
    repeat walk_at "e"
    refine u_between h1 (by omega) ⟨⟨_, rfl⟩, ?_⟩
    repeat walk_at "e"
    exact ⟨rfl, p⟩
theorem sc_Prompt_handed : FnScope ["self", "old", "new"] ["self", "old", "new"] (defScope (inClass (top 22) 5)) := ⟨rfl, rfl, rfl, by decide +kernel, rfl, by decide +kernel, by decide +kernel⟩
theorem ok_Prompt_handed {P : Program} {w : World} {K : PySem.W.Frag} {mg : Str → Option Value} {base : Heap} (T : Tx K mg)  : Fn P w K mg base 1 (He.fAd K ("Prompt", some "handed")) ["self", "old", "new"] (sp_handed K (He.ga K "Prompt") false) := by
  obtain ⟨fd, F⟩ := T.d_Prompt_handed
  refine ⟨fd, F.ok sc_Prompt_handed (lift_len ?_) (fun cdv A outer s H vs Q E hr h => ?_), F.bindsN fun _ _ _ _ _ _ us hl => (match us, hl with | [_, _, _], _ => rfl), F.kp, lk_of F⟩
  · intro ts O P X h
    exact sp_handed_len h
  · have hu := hr.units
    refine ⟨_, (PSs.nox (pss_one (ps_ret (pv 2)))), enter h fun ts O P X h _ => ?_⟩
    try dsimp only [cxOf, Cx.nox, Cx.wish]
    
    obtain ⟨s', m, a, b, rfl, rfl, p⟩ := h
    show WS _ _ _ _ [.v (chD _ s' m), .v (.int a), .v (.int b)] _
    repeat walk_at "e"
    exact ⟨rfl, p⟩
theorem sc_beat_of_P : FnScope ["chain", "rests", "number", "found", "carries", "given", "rest", "carry"] ["chain", "rests", "number"] (defScope (top 25)) := ⟨rfl, rfl, rfl, by decide +kernel, rfl, by decide +kernel, by decide +kernel⟩
theorem ok_beat_of_P {P : Program} {w : World} {K : PySem.W.Frag} {mg : Str → Option Value} {base : Heap} (T : Tx K mg) (h_Prompt_handed : Fn P w K mg base 1 (He.fAd K ("Prompt", some "handed")) ["self", "old", "new"] (sp_handed K (He.ga K "Prompt") false)) : Fn P w K mg base 2 (He.fAd K ("beat_of", none)) ["chain", "rests", "number"] (sp_beat K (He.ga K "Prompt") false) := by
  obtain ⟨_, F_Prompt_handed, b_Prompt_handed, kp_Prompt_handed, _⟩ := h_Prompt_handed
  obtain ⟨fd, F⟩ := T.d_beat_of
  have hc_Prompt := T.cl_Prompt
  have hn_Prompt_modulus := T.na_Prompt_modulus
  refine ⟨fd, F.ok sc_beat_of_P (lift_len ?_) (fun cdv A outer s H vs Q E hr h => ?_), F.bindsN fun _ _ _ _ _ _ us hl => (match us, hl with | [_, _, _], _ => rfl), F.kp, lk_of F⟩
  · intro ts O P X h
    exact sp_beat_len h
  · have hu := hr.units
    refine ⟨_, (PSs.nox (pss_cons (ps_par3 (i := 3) (j := 4) (l := 5) rfl sc_beat_of_P.nd rfl rfl rfl (by decide) (by decide) (by decide) rfl rfl rfl (pa_cons (pe_lst pa_nil) (pa_cons (pe_lst pa_nil) (pa_cons (pv 2) pa_nil))) rfl)
    (pss_cons (ps_for PassesOwn.never rfl (pi_tupK K (pv 1)) (pg_name (i := 6) sc_beat_of_P.nd rfl (.inl rfl))
    (pss_cons (ps_set (i := 7) sc_beat_of_P.nd rfl (.inl rfl) (pe_callTy call_int1 (by rfl) T.n_int boot_int (pa_cons (pe_cmpR op_ge (pe_op op_add (pv 6) (pv 5)) (pe_fldK K (pv 0)) (nomark _)) pa_nil)))
    (pss_cons (ps_set (i := 3) sc_beat_of_P.nd rfl (.inl rfl) (pe_lst (StX.pa_star (pv 3) (pa_cons (pe_op op_sub (pe_op op_add (pv 6) (pv 5)) (pe_op op_mulW (pv 7) (pe_fldK K (pv 0)))) pa_nil))))
    (pss_cons (ps_set (i := 4) sc_beat_of_P.nd rfl (.inl rfl) (pe_lst (StX.pa_star (pv 4) (pa_cons (pv 7) pa_nil))))
    (pss_one (ps_set (i := 5) sc_beat_of_P.nd rfl (.inl rfl) (pe_meth (pv 0) T.cl_Prompt T.me_Prompt_handed F_Prompt_handed (hr.mono (by decide)) b_Prompt_handed .nil passL (pa_cons (pv 6) (pa_cons (pe_ix (ix_listK K) (pv 3) (pe_un un_neg pe_int) (fun _ _ => rfl)) pa_nil)))))))))
    (pss_one (ps_ret (pe_tup (pa_cons (pe_callTy (cr_tupK K) (by rfl) T.n_tuple boot_tuple (pa_cons (pv 3) pa_nil)) (pa_cons (pe_callTy (cr_tupK K) (by rfl) T.n_tuple boot_tuple (pa_cons (pv 4) pa_nil)) pa_nil)))))))), enter h fun ts O P X h _ => ?_⟩
    try dsimp only [cxOf, Cx.nox, Cx.wish]
    
    obtain ⟨m, rs, g, rfl, rfl, hl, hm, hm2, hr, h1, h2, p⟩ := h
    show WS _ _ _ _ [.v (chD _ rs.length m), .v (.tup (nums rs)), .v (.int g), .no, .no, .no, .no, .no] _
    walk_at "n"
    refine s_seq ?_
    refine s_forE ?_
    refine i_tup ?_
    repeat walk_at "e"
    refine for_N (fun i ts' O' => ∃ (fs cs : List Int) (gi : Int) (x y : G.T), O' = [] ∧ ts' = [.v (chD _ rs.length m), .v (.tup (nums rs)), .v (.int g), .v (.lst (nums fs)), .v (.lst (nums cs)), .v (.int gi), x, y] ∧
      (bt false m rs g).1 = fs ++ (bt false m (rs.drop i) gi).1 ∧ (bt false m rs g).2 = cs ++ (bt false m (rs.drop i) gi).2 ∧ fs.length = i ∧ cs.length = i ∧ 0 ≤ gi ∧ gi < m) ⟨[], [], g, _, _, rfl, rfl, rfl, rfl, rfl, rfl, h1, h2⟩ ?_ ?_
    · rintro i r _ _ hi er ⟨fs, cs, gi, x, y, rfl, rfl, e1, e2, l1, l2, g1, g2⟩
      have ed : rs.drop i = r :: rs.drop (i + 1) := drop_at er
      obtain ⟨r1, r2⟩ := hr.at er
      refine g_name ?_
      walk_at "n"
      rw [cy_eq]
      have hcb := cy_bd (m := m) (r := r) (g := gi)
      have hci := cy_in r1 r2 g1 g2
      walk_at "n"
      refine ⟨_, .inl valD_v, ?_⟩
      repeat walk_at "e"
      refine ⟨_, unv_nums, sizeL_ok (by rw [star_len]; omega), ?_⟩
      walk_at "n"
      refine ⟨_, .inl valD_v, ?_⟩
      repeat walk_at "e"
      refine ⟨_, unv_nums, sizeL_ok (by rw [star_len]; omega), ?_⟩
      repeat walk_at "e"
      refine w_ixL lstD_v atI_m1n ?_
      repeat walk_at "e"
      refine u_handed ⟨⟨_, rfl⟩, ?_⟩
      rw [ed, bt] at e1 e2
      exact ⟨_, _, _, _, _, rfl, rfl, by rw [e1, List.append_assoc] <;> rfl, by rw [e2, List.append_assoc] <;> rfl, by rw [List.length_append, l1] <;> rfl, by rw [List.length_append, l2] <;> rfl, by split <;> omega, by split <;> omega⟩
    · rintro _ _ ⟨fs, cs, gi, x, y, rfl, rfl, e1, e2, l1, l2, g1, g2⟩
      rw [List.drop_length, bt, List.append_nil] at e1 e2
      subst e1 e2
      repeat walk_at "e"
      exact ⟨rfl, p⟩
theorem sc_Prompt_step : FnScope ["self", "rests", "number"] ["self", "rests", "number"] (defScope (inClass (top 22) 6)) := ⟨rfl, rfl, rfl, by decide +kernel, rfl, by decide +kernel, by decide +kernel⟩
theorem ok_Prompt_step {P : Program} {w : World} {K : PySem.W.Frag} {mg : Str → Option Value} {base : Heap} (T : Tx K mg) (h_Prompt_need_fit : Fn P w K mg base 4 (He.fAd K ("Prompt", some "need_fit")) ["self", "rests", "number"] (sp_need_fit K (He.ga K "Prompt"))) (h_beat_of_P : Fn P w K mg base 2 (He.fAd K ("beat_of", none)) ["chain", "rests", "number"] (sp_beat K (He.ga K "Prompt") false)) : Fn P w K mg base 5 (He.fAd K ("Prompt", some "step")) ["self", "rests", "number"] (sp_beat K (He.ga K "Prompt") false) := by
  obtain ⟨_, F_Prompt_need_fit, b_Prompt_need_fit, kp_Prompt_need_fit, _⟩ := h_Prompt_need_fit
  obtain ⟨_, F_beat_of, b_beat_of, kp_beat_of, _⟩ := h_beat_of_P
  obtain ⟨fd, F⟩ := T.d_Prompt_step
  refine ⟨fd, F.ok sc_Prompt_step (lift_len ?_) (fun cdv A outer s H vs Q E hr h => ?_), F.bindsN fun _ _ _ _ _ _ us hl => (match us, hl with | [_, _, _], _ => rfl), F.kp, lk_of F⟩
  · intro ts O P X h
    exact sp_beat_len h
  · have hu := hr.units
    refine ⟨_, (PSs.nox (pss_cons (ps_expr (pe_meth (pv 0) T.cl_Prompt T.me_Prompt_need_fit F_Prompt_need_fit (hr.mono (by decide)) b_Prompt_need_fit .nil passL (pa_cons (pv 1) (pa_cons (pv 2) pa_nil))))
    (pss_one (ps_ret (pe_call F_beat_of (hr.mono (by decide)) (by rfl) T.g_beat_of kp_beat_of b_beat_of .nil passL (pa_cons (pv 0) (pa_cons (pv 1) (pa_cons (pv 2) pa_nil)))))))), enter h fun ts O P X h _ => ?_⟩
    try dsimp only [cxOf, Cx.nox, Cx.wish]
    
    obtain ⟨m, rs, g, rfl, rfl, hl, hm, hm2, hr, h1, h2, p⟩ := h
    show WS _ _ _ _ [.v (chD _ rs.length m), .v (.tup (nums rs)), .v (.int g)] _
    walk_at "n"
    refine ⟨m, rs, g, rfl, rfl, hr, h1, h2, ⟨⟨_, rfl⟩, ?_⟩⟩
    repeat walk_at "e"
    refine ⟨m, rs, g, rfl, rfl, hl, hm, hm2, hr, h1, h2, ⟨⟨_, rfl⟩, ?_⟩⟩
    exact ⟨rfl, p⟩
theorem sc_Prompt_back : FnScope ["self", "rests", "number", "found", "carries", "given", "rest", "carry"] ["self", "rests", "number"] (defScope (inClass (top 22) 7)) := ⟨rfl, rfl, rfl, by decide +kernel, rfl, by decide +kernel, by decide +kernel⟩
theorem ok_Prompt_back {P : Program} {w : World} {K : PySem.W.Frag} {mg : Str → Option Value} {base : Heap} (T : Tx K mg) (h_Prompt_need_fit : Fn P w K mg base 4 (He.fAd K ("Prompt", some "need_fit")) ["self", "rests", "number"] (sp_need_fit K (He.ga K "Prompt"))) (h_Prompt_handed : Fn P w K mg base 1 (He.fAd K ("Prompt", some "handed")) ["self", "old", "new"] (sp_handed K (He.ga K "Prompt") false)) : Fn P w K mg base 5 (He.fAd K ("Prompt", some "back")) ["self", "rests", "number"] (sp_back K (He.ga K "Prompt") false) := by
  obtain ⟨_, F_Prompt_need_fit, b_Prompt_need_fit, kp_Prompt_need_fit, _⟩ := h_Prompt_need_fit
  obtain ⟨_, F_Prompt_handed, b_Prompt_handed, kp_Prompt_handed, _⟩ := h_Prompt_handed
  obtain ⟨fd, F⟩ := T.d_Prompt_back
  have hc_Prompt := T.cl_Prompt
  have hn_Prompt_modulus := T.na_Prompt_modulus
  refine ⟨fd, F.ok sc_Prompt_back (lift_len ?_) (fun cdv A outer s H vs Q E hr h => ?_), F.bindsN fun _ _ _ _ _ _ us hl => (match us, hl with | [_, _, _], _ => rfl), F.kp, lk_of F⟩
  · intro ts O P X h
    exact sp_back_len h
  · have hu := hr.units
    refine ⟨_, (PSs.nox (pss_cons (ps_expr (pe_meth (pv 0) T.cl_Prompt T.me_Prompt_need_fit F_Prompt_need_fit (hr.mono (by decide)) b_Prompt_need_fit .nil passL (pa_cons (pv 1) (pa_cons (pv 2) pa_nil))))
    (pss_cons (ps_par3 (i := 3) (j := 4) (l := 5) rfl sc_Prompt_back.nd rfl rfl rfl (by decide) (by decide) (by decide) rfl rfl rfl (pa_cons (pe_lst pa_nil) (pa_cons (pe_lst pa_nil) (pa_cons (pv 2) pa_nil))) rfl)
    (pss_cons (ps_for PassesOwn.never rfl (pi_tupK K (pv 1)) (pg_name (i := 6) sc_Prompt_back.nd rfl (.inl rfl))
    (pss_cons (ps_set (i := 7) sc_Prompt_back.nd rfl (.inl rfl) (pe_callTy call_int1 (by rfl) T.n_int boot_int (pa_cons (pe_cmpR op_lt (pv 6) (pv 5) (nomark _)) pa_nil)))
    (pss_cons (ps_expr (pe_bm PySem.F.plainAttrs_list PySem.F.slot_list_append PySem.F.type_list_append mt_append (pv 3) (pa_cons (pe_op op_add (pe_op op_sub (pv 6) (pv 5)) (pe_op op_mulW (pv 7) (pe_fldK K (pv 0)))) pa_nil)))
    (pss_cons (ps_expr (pe_bm PySem.F.plainAttrs_list PySem.F.slot_list_append PySem.F.type_list_append mt_append (pv 4) (pa_cons (pv 7) pa_nil)))
    (pss_one (ps_set (i := 5) sc_Prompt_back.nd rfl (.inl rfl) (pe_meth (pv 0) T.cl_Prompt T.me_Prompt_handed F_Prompt_handed (hr.mono (by decide)) b_Prompt_handed .nil passL (pa_cons (pe_ix (ix_listK K) (pv 3) (pe_un un_neg pe_int) (fun _ _ => rfl)) (pa_cons (pv 6) pa_nil)))))))))
    (pss_one (ps_ret (pe_tup (pa_cons (pe_callTy (cr_tupK K) (by rfl) T.n_tuple boot_tuple (pa_cons (pv 3) pa_nil)) (pa_cons (pe_callTy (cr_tupK K) (by rfl) T.n_tuple boot_tuple (pa_cons (pv 4) pa_nil)) pa_nil))))))))), enter h fun ts O P X h _ => ?_⟩
    try dsimp only [cxOf, Cx.nox, Cx.wish]
    
    obtain ⟨m, rs, g, rfl, rfl, hl, hm, hm2, hr, h1, h2, p⟩ := h
    show WS _ _ _ _ [.v (chD _ rs.length m), .v (.tup (nums rs)), .v (.int g), .no, .no, .no, .no, .no] _
    walk_at "n"
    refine ⟨m, rs, g, rfl, rfl, hr, h1, h2, ⟨⟨_, rfl⟩, ?_⟩⟩
    refine s_seq ?_
    repeat walk_at "o"
    refine s_seq ?_
    refine s_forE ?_
    refine i_tup ?_
    repeat walk_at "e"
    refine for_N (fun i ts' O' => ∃ (fs cs : List Int) (gi : Int) (x y : G.T), O' = [.lst (nums fs), .lst (nums cs)] ∧ ts' = [.v (chD _ rs.length m), .v (.tup (nums rs)), .v (.int g), .own 0, .own 1, .v (.int gi), x, y] ∧
      (bk false m rs g).1 = fs ++ (bk false m (rs.drop i) gi).1 ∧ (bk false m rs g).2 = cs ++ (bk false m (rs.drop i) gi).2 ∧ fs.length = i ∧ cs.length = i ∧ 0 ≤ gi ∧ gi < m) ⟨[], [], g, _, _, rfl, rfl, rfl, rfl, rfl, rfl, h1, h2⟩ ?_ ?_
    · rintro i r _ _ hi er ⟨fs, cs, gi, x, y, rfl, rfl, e1, e2, l1, l2, g1, g2⟩
      have ed : rs.drop i = r :: rs.drop (i + 1) := drop_at er
      obtain ⟨r1, r2⟩ := hr.at er
      refine g_name ?_
      walk_at "n"
      rw [bw_eq]
      have hcb := bw_bd (r := r) (g := gi)
      have hci := bw_in r1 r2 g1 g2
      walk_at "n"
      refine m_append (by exact rfl) (lt_sz (by omega)) ?_
      repeat walk_at "e"
      walk_at "n"
      refine m_append (by exact rfl) (lt_sz (by omega)) ?_
      repeat walk_at "e"
      refine w_ixL (lstD_o (by exact rfl)) atI_m1 ?_
      repeat walk_at "e"
      refine u_handed ⟨⟨_, rfl⟩, ?_⟩
      rw [ed, bk] at e1 e2
      refine ⟨fs ++ [_], cs ++ [_], _, _, _, ?_, rfl, by rw [e1, List.append_assoc] <;> rfl, by rw [e2, List.append_assoc] <;> rfl, by rw [List.length_append, l1] <;> rfl, by rw [List.length_append, l2] <;> rfl, by split <;> omega, by split <;> omega⟩
      rw [← nums_app, ← nums_app]
      exact rfl
    · rintro _ _ ⟨fs, cs, gi, x, y, rfl, rfl, e1, e2, l1, l2, g1, g2⟩
      rw [List.drop_length, bk, List.append_nil] at e1 e2
      subst e1 e2
      repeat walk_at "e"
      exact ⟨rfl, p⟩
theorem sc_LateU_initU : FnScope ["self", "stages", "modulus"] ["self", "stages", "modulus"] (defScope (inClass (top 22) 2)) := ⟨rfl, rfl, rfl, by decide +kernel, rfl, by decide +kernel, by decide +kernel⟩
theorem ok_LateU_initU {P : Program} {w : World} {K : PySem.W.Frag} {mg : Str → Option Value} {base : Heap} (T : Tx K mg) (h_is_between : Fn P w K mg base 2 (He.fAd K ("is_between", none)) ["value", "low", "high"] (sp_is_between K)) (h_fits_modulus : Fn P w K mg base 3 (He.fAd K ("fits_modulus", none)) ["value"] (sp_fits_modulus K)) : Fn P w K mg base 4 (He.fAd K ("Late", some "__init__")) ["self", "stages", "modulus"] (sp_ch_init K (He.ga K "Late")) := by
  obtain ⟨_, F_is_between, b_is_between, kp_is_between, _⟩ := h_is_between
  obtain ⟨_, F_fits_modulus, b_fits_modulus, kp_fits_modulus, _⟩ := h_fits_modulus
  obtain ⟨fd, F⟩ := T.d_LateU_initU
  obtain ⟨_, T_i_MOST_STAGES⟩ := T.i_MOST_STAGES_
  have hc_Late := T.cl_Late
  have hn_Late_modulus := T.na_Late_modulus
  have hc_Late := T.cl_Late
  have hn_Late_stages := T.na_Late_stages
  refine ⟨fd, F.ok sc_LateU_initU (lift_len ?_) (fun cdv A outer s H vs Q E hr h => ?_), F.bindsN fun _ _ _ _ _ _ us hl => (match us, hl with | [_, _, _], _ => rfl), F.kp, lk_of F⟩
  · intro ts O P X h
    exact sp_ch_init_len h
  · have hu := hr.units
    refine ⟨_, (PSs.nox (pss_cons (ps_if (pt_not (pt_val (pe_call F_is_between (hr.mono (by decide)) (by rfl) T.g_is_between kp_is_between b_is_between .nil passL (pa_cons (pv 1) (pa_cons pe_int (pa_cons (pe_glob (v := .int 6) (by rfl) T_i_MOST_STAGES ⟨_, rfl⟩) pa_nil))))))
    (pss_one ps_never)
    pss_nil)
    (pss_cons (ps_if (pt_not (pt_val (pe_call F_fits_modulus (hr.mono (by decide)) (by rfl) T.g_fits_modulus kp_fits_modulus b_fits_modulus .nil passL (pa_cons (pv 2) pa_nil))))
    (pss_one ps_never)
    pss_nil)
    (pss_cons (ps_fld (pv 0) (pv 1) rfl)
    (pss_one (ps_fld (pv 0) (pv 2) rfl)))))), enter h fun ts O P X h _ => ?_⟩
    try dsimp only [cxOf, Cx.nox, Cx.wish]
    
    obtain ⟨s', m, rfl, rfl, h1, h2, h3, h4, p⟩ := h
    show WS _ _ _ _ [.own 0, .v (.int s'), .v (.int m)] _
    walk_at "n"
    refine u_between h1 h2 ⟨⟨_, rfl⟩, ?_⟩
    repeat walk_at "e"
    walk_at "n"
    refine u_fits_modulus (btw_int h3 h4) ⟨⟨_, rfl⟩, ?_⟩
    repeat walk_at "e"
    walk_at "n"
    repeat walk_at "e"
    exact ⟨rfl, p⟩
theorem sc_Late_need_fit : FnScope ["self", "rests", "number", "at"] ["self", "rests", "number"] (defScope (inClass (top 22) 4)) := ⟨rfl, rfl, rfl, by decide +kernel, rfl, by decide +kernel, by decide +kernel⟩
theorem ok_Late_need_fit {P : Program} {w : World} {K : PySem.W.Frag} {mg : Str → Option Value} {base : Heap} (T : Tx K mg) (h_is_row : Fn P w K mg base 1 (He.fAd K ("is_row", none)) ["value"] (sp_is_row K)) (h_first_odd : Fn P w K mg base 3 (He.fAd K ("first_odd", none)) ["values", "low", "high"] (sp_first_odd K)) (h_is_between : Fn P w K mg base 2 (He.fAd K ("is_between", none)) ["value", "low", "high"] (sp_is_between K)) : Fn P w K mg base 4 (He.fAd K ("Late", some "need_fit")) ["self", "rests", "number"] (sp_need_fit K (He.ga K "Late")) := by
  obtain ⟨_, F_is_row, b_is_row, kp_is_row, _⟩ := h_is_row
  obtain ⟨_, F_first_odd, b_first_odd, kp_first_odd, _⟩ := h_first_odd
  obtain ⟨_, F_is_between, b_is_between, kp_is_between, _⟩ := h_is_between
  obtain ⟨fd, F⟩ := T.d_Late_need_fit
  have hc_Late := T.cl_Late
  have hn_Late_modulus := T.na_Late_modulus
  have hc_Late := T.cl_Late
  have hn_Late_stages := T.na_Late_stages
  refine ⟨fd, F.ok sc_Late_need_fit (lift_len ?_) (fun cdv A outer s H vs Q E hr h => ?_), F.bindsN fun _ _ _ _ _ _ us hl => (match us, hl with | [_, _, _], _ => rfl), F.kp, lk_of F⟩
  · intro ts O P X h
    exact sp_need_fit_len h
  · have hu := hr.units
    refine ⟨_, (PSs.nox (pss_cons (ps_if (PW.pt (pw_or (pt_not (pt_val (pe_call F_is_row (hr.mono (by decide)) (by rfl) T.g_is_row kp_is_row b_is_row .nil passL (pa_cons (pv 1) pa_nil)))) (pw_or1 (pt_cmpR op_ne (pe_callB (cr_lenK K) (by rfl) T.n_len boot_len (pa_cons (pv 1) pa_nil)) (pe_fldK K (pv 0)) (nomark _)))))
    (pss_one ps_never)
    pss_nil)
    (pss_cons (ps_set (i := 3) sc_Late_need_fit.nd rfl (.inl rfl) (pe_call F_first_odd (hr.mono (by decide)) (by rfl) T.g_first_odd kp_first_odd b_first_odd .nil passL (pa_cons (pv 1) (pa_cons pe_int (pa_cons (pe_op op_sub (pe_fldK K (pv 0)) pe_int) pa_nil)))))
    (pss_cons (ps_if (pt_cmpR op_notN1 (pv 3) pe_non (nomark _))
    (pss_one ps_never)
    pss_nil)
    (pss_one (ps_if (pt_not (pt_val (pe_call F_is_between (hr.mono (by decide)) (by rfl) T.g_is_between kp_is_between b_is_between .nil passL (pa_cons (pv 2) (pa_cons pe_int (pa_cons (pe_op op_sub (pe_fldK K (pv 0)) pe_int) pa_nil))))))
    (pss_one ps_never)
    pss_nil)))))), enter h fun ts O P X h _ => ?_⟩
    try dsimp only [cxOf, Cx.nox, Cx.wish]
    
    obtain ⟨m, rs, g, rfl, rfl, hr, h1, h2, p⟩ := h
    show WS _ _ _ _ [.v (chD _ rs.length m), .v (.tup (nums rs)), .v (.int g), .no] _
    walk_at "n"
    refine u_is_row rowQ_tup ⟨⟨_, rfl⟩, ?_⟩
    repeat walk_at "e"
    refine nbF (congrArg Nat.cast nums_len) ?_
    repeat walk_at "e"
    walk_at "n"
    refine ⟨rs, _, _, rfl, rfl, fun n hn => ?_, ⟨⟨_, rfl⟩, ?_⟩⟩
    · obtain ⟨a, b⟩ := hr n hn
      omega
    repeat walk_at "e"
    walk_at "n"
    repeat walk_at "e"
    refine u_between h1 (by omega) ⟨⟨_, rfl⟩, ?_⟩
    repeat walk_at "e"
    exact ⟨rfl, p⟩
theorem sc_Late_handed : FnScope ["self", "old", "new"] ["self", "old", "new"] (defScope (inClass (top 24) 1)) := ⟨rfl, rfl, rfl, by decide +kernel, rfl, by decide +kernel, by decide +kernel⟩
theorem ok_Late_handed {P : Program} {w : World} {K : PySem.W.Frag} {mg : Str → Option Value} {base : Heap} (T : Tx K mg)  : Fn P w K mg base 1 (He.fAd K ("Late", some "handed")) ["self", "old", "new"] (sp_handed K (He.ga K "Late") true) := by
  obtain ⟨fd, F⟩ := T.d_Late_handed
  refine ⟨fd, F.ok sc_Late_handed (lift_len ?_) (fun cdv A outer s H vs Q E hr h => ?_), F.bindsN fun _ _ _ _ _ _ us hl => (match us, hl with | [_, _, _], _ => rfl), F.kp, lk_of F⟩
  · intro ts O P X h
    exact sp_handed_len h
  · have hu := hr.units
    refine ⟨_, (PSs.nox (pss_one (ps_ret (pv 1)))), enter h fun ts O P X h _ => ?_⟩
    try dsimp only [cxOf, Cx.nox, Cx.wish]
    
    obtain ⟨s', m, a, b, rfl, rfl, p⟩ := h
    show WS _ _ _ _ [.v (chD _ s' m), .v (.int a), .v (.int b)] _
    repeat walk_at "e"
    exact ⟨rfl, p⟩
theorem sc_beat_of_L : FnScope ["chain", "rests", "number", "found", "carries", "given", "rest", "carry"] ["chain", "rests", "number"] (defScope (top 25)) := ⟨rfl, rfl, rfl, by decide +kernel, rfl, by decide +kernel, by decide +kernel⟩
theorem ok_beat_of_L {P : Program} {w : World} {K : PySem.W.Frag} {mg : Str → Option Value} {base : Heap} (T : Tx K mg) (h_Late_handed : Fn P w K mg base 1 (He.fAd K ("Late", some "handed")) ["self", "old", "new"] (sp_handed K (He.ga K "Late") true)) : Fn P w K mg base 2 (He.fAd K ("beat_of", none)) ["chain", "rests", "number"] (sp_beat K (He.ga K "Late") true) := by
  obtain ⟨_, F_Late_handed, b_Late_handed, kp_Late_handed, _⟩ := h_Late_handed
  obtain ⟨fd, F⟩ := T.d_beat_of
  have hc_Late := T.cl_Late
  have hn_Late_modulus := T.na_Late_modulus
  refine ⟨fd, F.ok sc_beat_of_L (lift_len ?_) (fun cdv A outer s H vs Q E hr h => ?_), F.bindsN fun _ _ _ _ _ _ us hl => (match us, hl with | [_, _, _], _ => rfl), F.kp, lk_of F⟩
  · intro ts O P X h
    exact sp_beat_len h
  · have hu := hr.units
    refine ⟨_, (PSs.nox (pss_cons (ps_par3 (i := 3) (j := 4) (l := 5) rfl sc_beat_of_L.nd rfl rfl rfl (by decide) (by decide) (by decide) rfl rfl rfl (pa_cons (pe_lst pa_nil) (pa_cons (pe_lst pa_nil) (pa_cons (pv 2) pa_nil))) rfl)
    (pss_cons (ps_for PassesOwn.never rfl (pi_tupK K (pv 1)) (pg_name (i := 6) sc_beat_of_L.nd rfl (.inl rfl))
    (pss_cons (ps_set (i := 7) sc_beat_of_L.nd rfl (.inl rfl) (pe_callTy call_int1 (by rfl) T.n_int boot_int (pa_cons (pe_cmpR op_ge (pe_op op_add (pv 6) (pv 5)) (pe_fldK K (pv 0)) (nomark _)) pa_nil)))
    (pss_cons (ps_set (i := 3) sc_beat_of_L.nd rfl (.inl rfl) (pe_lst (StX.pa_star (pv 3) (pa_cons (pe_op op_sub (pe_op op_add (pv 6) (pv 5)) (pe_op op_mulW (pv 7) (pe_fldK K (pv 0)))) pa_nil))))
    (pss_cons (ps_set (i := 4) sc_beat_of_L.nd rfl (.inl rfl) (pe_lst (StX.pa_star (pv 4) (pa_cons (pv 7) pa_nil))))
    (pss_one (ps_set (i := 5) sc_beat_of_L.nd rfl (.inl rfl) (pe_meth (pv 0) T.cl_Late T.me_Late_handed F_Late_handed (hr.mono (by decide)) b_Late_handed .nil passL (pa_cons (pv 6) (pa_cons (pe_ix (ix_listK K) (pv 3) (pe_un un_neg pe_int) (fun _ _ => rfl)) pa_nil)))))))))
    (pss_one (ps_ret (pe_tup (pa_cons (pe_callTy (cr_tupK K) (by rfl) T.n_tuple boot_tuple (pa_cons (pv 3) pa_nil)) (pa_cons (pe_callTy (cr_tupK K) (by rfl) T.n_tuple boot_tuple (pa_cons (pv 4) pa_nil)) pa_nil)))))))), enter h fun ts O P X h _ => ?_⟩
    try dsimp only [cxOf, Cx.nox, Cx.wish]
    
    obtain ⟨m, rs, g, rfl, rfl, hl, hm, hm2, hr, h1, h2, p⟩ := h
    show WS _ _ _ _ [.v (chD _ rs.length m), .v (.tup (nums rs)), .v (.int g), .no, .no, .no, .no, .no] _
    walk_at "n"
    refine s_seq ?_
    refine s_forE ?_
    refine i_tup ?_
    repeat walk_at "e"
    refine for_N (fun i ts' O' => ∃ (fs cs : List Int) (gi : Int) (x y : G.T), O' = [] ∧ ts' = [.v (chD _ rs.length m), .v (.tup (nums rs)), .v (.int g), .v (.lst (nums fs)), .v (.lst (nums cs)), .v (.int gi), x, y] ∧
      (bt true m rs g).1 = fs ++ (bt true m (rs.drop i) gi).1 ∧ (bt true m rs g).2 = cs ++ (bt true m (rs.drop i) gi).2 ∧ fs.length = i ∧ cs.length = i ∧ 0 ≤ gi ∧ gi < m) ⟨[], [], g, _, _, rfl, rfl, rfl, rfl, rfl, rfl, h1, h2⟩ ?_ ?_
    · rintro i r _ _ hi er ⟨fs, cs, gi, x, y, rfl, rfl, e1, e2, l1, l2, g1, g2⟩
      have ed : rs.drop i = r :: rs.drop (i + 1) := drop_at er
      obtain ⟨r1, r2⟩ := hr.at er
      refine g_name ?_
      walk_at "n"
      rw [cy_eq]
      have hcb := cy_bd (m := m) (r := r) (g := gi)
      have hci := cy_in r1 r2 g1 g2
      walk_at "n"
      refine ⟨_, .inl valD_v, ?_⟩
      repeat walk_at "e"
      refine ⟨_, unv_nums, sizeL_ok (by rw [star_len]; omega), ?_⟩
      walk_at "n"
      refine ⟨_, .inl valD_v, ?_⟩
      repeat walk_at "e"
      refine ⟨_, unv_nums, sizeL_ok (by rw [star_len]; omega), ?_⟩
      repeat walk_at "e"
      refine w_ixL lstD_v atI_m1n ?_
      repeat walk_at "e"
      refine u_handed ⟨⟨_, rfl⟩, ?_⟩
      rw [ed, bt] at e1 e2
      exact ⟨_, _, _, _, _, rfl, rfl, by rw [e1, List.append_assoc] <;> rfl, by rw [e2, List.append_assoc] <;> rfl, by rw [List.length_append, l1] <;> rfl, by rw [List.length_append, l2] <;> rfl, by split <;> omega, by split <;> omega⟩
    · rintro _ _ ⟨fs, cs, gi, x, y, rfl, rfl, e1, e2, l1, l2, g1, g2⟩
      rw [List.drop_length, bt, List.append_nil] at e1 e2
      subst e1 e2
      repeat walk_at "e"
      exact ⟨rfl, p⟩
theorem sc_Late_step : FnScope ["self", "rests", "number"] ["self", "rests", "number"] (defScope (inClass (top 22) 6)) := ⟨rfl, rfl, rfl, by decide +kernel, rfl, by decide +kernel, by decide +kernel⟩
theorem ok_Late_step {P : Program} {w : World} {K : PySem.W.Frag} {mg : Str → Option Value} {base : Heap} (T : Tx K mg) (h_Late_need_fit : Fn P w K mg base 4 (He.fAd K ("Late", some "need_fit")) ["self", "rests", "number"] (sp_need_fit K (He.ga K "Late"))) (h_beat_of_L : Fn P w K mg base 2 (He.fAd K ("beat_of", none)) ["chain", "rests", "number"] (sp_beat K (He.ga K "Late") true)) : Fn P w K mg base 5 (He.fAd K ("Late", some "step")) ["self", "rests", "number"] (sp_beat K (He.ga K "Late") true) := by
  obtain ⟨_, F_Late_need_fit, b_Late_need_fit, kp_Late_need_fit, _⟩ := h_Late_need_fit
  obtain ⟨_, F_beat_of, b_beat_of, kp_beat_of, _⟩ := h_beat_of_L
  obtain ⟨fd, F⟩ := T.d_Late_step
  refine ⟨fd, F.ok sc_Late_step (lift_len ?_) (fun cdv A outer s H vs Q E hr h => ?_), F.bindsN fun _ _ _ _ _ _ us hl => (match us, hl with | [_, _, _], _ => rfl), F.kp, lk_of F⟩
  · intro ts O P X h
    exact sp_beat_len h
  · have hu := hr.units
    refine ⟨_, (PSs.nox (pss_cons (ps_expr (pe_meth (pv 0) T.cl_Late T.me_Late_need_fit F_Late_need_fit (hr.mono (by decide)) b_Late_need_fit .nil passL (pa_cons (pv 1) (pa_cons (pv 2) pa_nil))))
    (pss_one (ps_ret (pe_call F_beat_of (hr.mono (by decide)) (by rfl) T.g_beat_of kp_beat_of b_beat_of .nil passL (pa_cons (pv 0) (pa_cons (pv 1) (pa_cons (pv 2) pa_nil)))))))), enter h fun ts O P X h _ => ?_⟩
    try dsimp only [cxOf, Cx.nox, Cx.wish]
    
    obtain ⟨m, rs, g, rfl, rfl, hl, hm, hm2, hr, h1, h2, p⟩ := h
    show WS _ _ _ _ [.v (chD _ rs.length m), .v (.tup (nums rs)), .v (.int g)] _
    walk_at "n"
    refine ⟨m, rs, g, rfl, rfl, hr, h1, h2, ⟨⟨_, rfl⟩, ?_⟩⟩
    repeat walk_at "e"
    refine ⟨m, rs, g, rfl, rfl, hl, hm, hm2, hr, h1, h2, ⟨⟨_, rfl⟩, ?_⟩⟩
    exact ⟨rfl, p⟩
theorem sc_Late_back : FnScope ["self", "rests", "number", "found", "carries", "given", "rest", "carry"] ["self", "rests", "number"] (defScope (inClass (top 22) 7)) := ⟨rfl, rfl, rfl, by decide +kernel, rfl, by decide +kernel, by decide +kernel⟩
theorem ok_Late_back {P : Program} {w : World} {K : PySem.W.Frag} {mg : Str → Option Value} {base : Heap} (T : Tx K mg) (h_Late_need_fit : Fn P w K mg base 4 (He.fAd K ("Late", some "need_fit")) ["self", "rests", "number"] (sp_need_fit K (He.ga K "Late"))) (h_Late_handed : Fn P w K mg base 1 (He.fAd K ("Late", some "handed")) ["self", "old", "new"] (sp_handed K (He.ga K "Late") true)) : Fn P w K mg base 5 (He.fAd K ("Late", some "back")) ["self", "rests", "number"] (sp_back K (He.ga K "Late") true) := by
  obtain ⟨_, F_Late_need_fit, b_Late_need_fit, kp_Late_need_fit, _⟩ := h_Late_need_fit
  obtain ⟨_, F_Late_handed, b_Late_handed, kp_Late_handed, _⟩ := h_Late_handed
  obtain ⟨fd, F⟩ := T.d_Late_back
  have hc_Late := T.cl_Late
  have hn_Late_modulus := T.na_Late_modulus
  refine ⟨fd, F.ok sc_Late_back (lift_len ?_) (fun cdv A outer s H vs Q E hr h => ?_), F.bindsN fun _ _ _ _ _ _ us hl => (match us, hl with | [_, _, _], _ => rfl), F.kp, lk_of F⟩
  · intro ts O P X h
    exact sp_back_len h
  · have hu := hr.units
    refine ⟨_, (PSs.nox (pss_cons (ps_expr (pe_meth (pv 0) T.cl_Late T.me_Late_need_fit F_Late_need_fit (hr.mono (by decide)) b_Late_need_fit .nil passL (pa_cons (pv 1) (pa_cons (pv 2) pa_nil))))
    (pss_cons (ps_par3 (i := 3) (j := 4) (l := 5) rfl sc_Late_back.nd rfl rfl rfl (by decide) (by decide) (by decide) rfl rfl rfl (pa_cons (pe_lst pa_nil) (pa_cons (pe_lst pa_nil) (pa_cons (pv 2) pa_nil))) rfl)
    (pss_cons (ps_for PassesOwn.never rfl (pi_tupK K (pv 1)) (pg_name (i := 6) sc_Late_back.nd rfl (.inl rfl))
    (pss_cons (ps_set (i := 7) sc_Late_back.nd rfl (.inl rfl) (pe_callTy call_int1 (by rfl) T.n_int boot_int (pa_cons (pe_cmpR op_lt (pv 6) (pv 5) (nomark _)) pa_nil)))
    (pss_cons (ps_expr (pe_bm PySem.F.plainAttrs_list PySem.F.slot_list_append PySem.F.type_list_append mt_append (pv 3) (pa_cons (pe_op op_add (pe_op op_sub (pv 6) (pv 5)) (pe_op op_mulW (pv 7) (pe_fldK K (pv 0)))) pa_nil)))
    (pss_cons (ps_expr (pe_bm PySem.F.plainAttrs_list PySem.F.slot_list_append PySem.F.type_list_append mt_append (pv 4) (pa_cons (pv 7) pa_nil)))
    (pss_one (ps_set (i := 5) sc_Late_back.nd rfl (.inl rfl) (pe_meth (pv 0) T.cl_Late T.me_Late_handed F_Late_handed (hr.mono (by decide)) b_Late_handed .nil passL (pa_cons (pe_ix (ix_listK K) (pv 3) (pe_un un_neg pe_int) (fun _ _ => rfl)) (pa_cons (pv 6) pa_nil)))))))))
    (pss_one (ps_ret (pe_tup (pa_cons (pe_callTy (cr_tupK K) (by rfl) T.n_tuple boot_tuple (pa_cons (pv 3) pa_nil)) (pa_cons (pe_callTy (cr_tupK K) (by rfl) T.n_tuple boot_tuple (pa_cons (pv 4) pa_nil)) pa_nil))))))))), enter h fun ts O P X h _ => ?_⟩
    try dsimp only [cxOf, Cx.nox, Cx.wish]
    
    obtain ⟨m, rs, g, rfl, rfl, hl, hm, hm2, hr, h1, h2, p⟩ := h
    show WS _ _ _ _ [.v (chD _ rs.length m), .v (.tup (nums rs)), .v (.int g), .no, .no, .no, .no, .no] _
    walk_at "n"
    refine ⟨m, rs, g, rfl, rfl, hr, h1, h2, ⟨⟨_, rfl⟩, ?_⟩⟩
    refine s_seq ?_
    repeat walk_at "o"
    refine s_seq ?_
    refine s_forE ?_
    refine i_tup ?_
    repeat walk_at "e"
    refine for_N (fun i ts' O' => ∃ (fs cs : List Int) (gi : Int) (x y : G.T), O' = [.lst (nums fs), .lst (nums cs)] ∧ ts' = [.v (chD _ rs.length m), .v (.tup (nums rs)), .v (.int g), .own 0, .own 1, .v (.int gi), x, y] ∧
      (bk true m rs g).1 = fs ++ (bk true m (rs.drop i) gi).1 ∧ (bk true m rs g).2 = cs ++ (bk true m (rs.drop i) gi).2 ∧ fs.length = i ∧ cs.length = i ∧ 0 ≤ gi ∧ gi < m) ⟨[], [], g, _, _, rfl, rfl, rfl, rfl, rfl, rfl, h1, h2⟩ ?_ ?_
    · rintro i r _ _ hi er ⟨fs, cs, gi, x, y, rfl, rfl, e1, e2, l1, l2, g1, g2⟩
      have ed : rs.drop i = r :: rs.drop (i + 1) := drop_at er
      obtain ⟨r1, r2⟩ := hr.at er
      refine g_name ?_
      walk_at "n"
      rw [bw_eq]
      have hcb := bw_bd (r := r) (g := gi)
      have hci := bw_in r1 r2 g1 g2
      walk_at "n"
      refine m_append (by exact rfl) (lt_sz (by omega)) ?_
      repeat walk_at "e"
      walk_at "n"
      refine m_append (by exact rfl) (lt_sz (by omega)) ?_
      repeat walk_at "e"
      refine w_ixL (lstD_o (by exact rfl)) atI_m1 ?_
      repeat walk_at "e"
      refine u_handed ⟨⟨_, rfl⟩, ?_⟩
      rw [ed, bk] at e1 e2
      refine ⟨fs ++ [_], cs ++ [_], _, _, _, ?_, rfl, by rw [e1, List.append_assoc] <;> rfl, by rw [e2, List.append_assoc] <;> rfl, by rw [List.length_append, l1] <;> rfl, by rw [List.length_append, l2] <;> rfl, by split <;> omega, by split <;> omega⟩
      rw [← nums_app, ← nums_app]
      exact rfl
    · rintro _ _ ⟨fs, cs, gi, x, y, rfl, rfl, e1, e2, l1, l2, g1, g2⟩
      rw [List.drop_length, bk, List.append_nil] at e1 e2
      subst e1 e2
      repeat walk_at "e"
      exact ⟨rfl, p⟩
end My

set_option Elab.async false
set_option linter.all false
set_option maxRecDepth 100000
set_option maxHeartbeats 0
namespace My
open PySem PySem.Spec PyProof.Rows L2 G

local macro_rules | `(tactic| walk_at "ws") => `(tactic| first
  | with_reducible refine s_set ?_
  | with_reducible refine s_if ?_
  | with_reducible refine s_ret ?_
  | with_reducible refine s_retN ?_
  | with_reducible refine s_drop ?_
  | with_reducible refine s_next ?_
  | with_reducible refine s_par ?_
  | with_reducible refine s_par3 ?_
  | refine s_fldN (by assumption) (by assumption) ?_
  | with_reducible refine s_asg ?_)
local macro_rules | `(tactic| walk_at "we") => `(tactic| first
  | ((with_reducible refine w_v (d := ?k2) ?k1 ?_); (case k1 => exact rfl))
  | ((with_reducible refine w_o (j := ?k2) ?k1 ?_); (case k1 => exact rfl))
  | ((guard_target = G.WE _ _ (tFld _ _ _) _ _ _ _); (refine w_fldN (by assumption) (by assumption) ?_))
  | with_reducible refine w_ci ?_
  | with_reducible refine w_op ?_
  | with_reducible refine w_call ?_
  | with_reducible refine w_cty ?_
  | with_reducible refine w_cb ?_
  | with_reducible refine w_cn ?_
  | with_reducible refine w_cs ?_
  | with_reducible refine w_cr ?_
  | with_reducible refine w_un ?_
  | with_reducible refine w_andV ?_
  | with_reducible refine w_orV ?_
  | with_reducible refine w_notV ?_
  | with_reducible refine w_ife ?_
  | with_reducible refine w_chain ?_
  | with_reducible refine w_tup ?_
  | with_reducible refine w_slL ?_
  | with_reducible refine w_slT ?_
  | (guard_target = G.WE _ _ (tCall (lift _ (sp_draw _)) _ _ _) _ _ _ _; refine w_fn10 0 ?_)
  | (guard_target = G.WE _ _ (tCall (lift _ (sp_pick _)) _ _ _) _ _ _ _; refine w_fn10 0 ?_)
  | (guard_target = G.WE _ _ (tCall (lift _ (sp_number _)) _ _ _) _ _ _ _; refine w_fn10 0 ?_)
  | (guard_target = G.WE _ _ (tCall (lift _ (sp_right _)) _ _ _) _ _ _ _; refine w_fn10 0 ?_)
  | with_reducible refine w_fn0 ?_
  | with_reducible refine w_meth0 ?_
  | with_reducible refine w_make0 ?_
  | with_reducible refine w_bmL ?_
  | with_reducible refine w_bmL0 ?_
  | with_reducible refine w_lst ?_)
local macro_rules | `(tactic| walk_at "wt") => `(tactic| first
  | with_reducible refine w_test ?_
  | with_reducible refine w_B ?_
  | with_reducible refine w_and ?_
  | with_reducible refine w_or ?_
  | with_reducible refine w_not ?_)
local macro_rules | `(tactic| walk_at "wa") => `(tactic| first
  | with_reducible refine w_cons ?_
  | with_reducible refine w_nil ?_
  | with_reducible refine w_star ?_)
local macro_rules | `(tactic| walk_at "wr") => `(tactic| first
  | with_reducible refine w_add ?_
  | with_reducible refine w_sub ?_
  | with_reducible refine w_lt ?_
  | with_reducible refine w_le ?_
  | with_reducible refine w_gt ?_
  | with_reducible refine w_ge ?_
  | with_reducible refine w_eqI ?_
  | with_reducible refine w_neI ?_
  | with_reducible refine w_isN ?_
  | with_reducible refine w_notN ?_
  | ((with_reducible refine w_mod ?k1 ?_); (case k1 => first | decide | omega))
  | ((with_reducible refine w_mul ?k1 ?_); (case k1 => first | exact Or.inl (by constructor <;> decide) | exact Or.inr (by constructor <;> decide) | exact Or.inl (by constructor <;> omega) | exact Or.inr (by constructor <;> omega)))
  | ((with_reducible refine w_pow ?k1 ?_); (case k1 => first | exact ⟨by decide, by decide, by decide⟩ | exact ⟨by omega, by omega, by omega⟩))
  | ((with_reducible refine w_fdivW ?k1 ?_); (case k1 => exact divW_ok (by first | decide | omega) (by first | decide | omega)))
  | ((with_reducible refine w_mulW ?k1 ?_); (case k1 => exact mulW_ok (by constructor <;> omega) (by constructor <;> omega)))
  | ((guard_target = G.WR _ (rIxT _) _ _ _ _); (refine w_ixT (by first | exact atI_0 | exact atI_1 | exact atI_2 | assumption) ?_))
  | ((guard_target = G.WR _ (rIxL _) _ _ _ _); (refine w_ixL (by first | exact lstD_v | exact lstD_o rfl) (by first | exact atI_0 | exact atI_1 | exact atI_2 | assumption) ?_)))
local macro_rules | `(tactic| walk_at "wc") => `(tactic| first
  | with_reducible refine c_int ?_
  | with_reducible refine c_intB ?_
  | with_reducible refine c_abs ?_
  | ((guard_target = G.WC _ (G.rLen _) _ _ _); (refine c_lenL (by first | exact lstD_v | exact lstD_o rfl) ?_))
  | with_reducible refine c_lenT ?_
  | ((guard_target = G.WC _ (G.rListOf _) _ _ _); (refine c_listL (by first | exact lstD_v | exact lstD_o rfl) ?_))
  | with_reducible refine c_listT ?_
  | ((guard_target = G.WC _ (G.rTupOf _) _ _ _); (refine c_tupL (by first | exact lstD_v | exact lstD_o rfl) ?_))
  | with_reducible refine c_tupT ?_)
local macro_rules | `(tactic| walk_at "e") => `(tactic| first
  | (guard_target = G.WE _ _ _ _ _ _ _; walk_at "we")
  | (guard_target = G.WS _ _ _ _ _ _; walk_at "ws")
  | (guard_target = G.WA _ _ _ _ _ _ _; walk_at "wa")
  | (guard_target = G.WR _ _ _ _ _ _; walk_at "wr")
  | (guard_target = G.WT _ _ _ _ _ _ _; walk_at "wt")
  | (guard_target = G.WC _ _ _ _ _; walk_at "wc")
  | (guard_target = G.WU _ _ _ _ _; with_reducible refine w_neg ?_)
  | (guard_target = G.WG _ _ _ _ _ _ _; first | with_reducible refine g_name ?_ | with_reducible refine g_setL ?_ | refine g_pair rfl ?_ | refine g_trip rfl ?_ | refine g_quad rfl ?_)
  | (guard_target = G.WO _ _ _ _ _ _ _; first | with_reducible refine o_none ?_ | with_reducible refine o_some ?_)
  | with_reducible refine tt_ ?_
  | with_reducible refine ff_ ?_
  | with_reducible refine ntt_ ?_
  | with_reducible refine nff_ ?_
  | ((guard_target = ((!G.isNon _) = true → _) ∧ _); (first | refine bnF rfl ?_ | refine bnT rfl ?_))
  | ((guard_target = (G.isNon _ = true → _) ∧ _); (first | refine bF rfl ?_ | refine bT rfl ?_))
  | (guard_target = Exists _; first
    | refine ⟨_, _, _, _, _, rfl, rfl, rfl, rfl, rfl, ?_⟩
    | refine ⟨_, _, _, rfl, rfl, rfl, Nat.le_of_ble_eq_true rfl, ?_⟩
    | refine ⟨_, _, rfl, rfl, rfl, ?_⟩
    | refine ⟨_, _, _, rfl, ?_⟩
    | refine ⟨_, _, (by first | exact insD_v | exact insD_o rfl), rfl, ?_⟩
    | refine ⟨_, _, rfl, ?_⟩
    | refine ⟨_, rfl, rfl, ?_⟩
    | refine ⟨_, rfl, Nat.le_of_ble_eq_true rfl, ?_⟩
    | refine ⟨_, (by first | exact lstD_v | exact lstD_o rfl), ?_⟩
    | refine ⟨_, rfl, ?_⟩))
local macro_rules | `(tactic| walk_at "o") => `(tactic| first | with_reducible refine w_lstO ?_ | walk_at "e")
local macro_rules | `(tactic| walk_at "g") => `(tactic| first | walk_at "e" | with_reducible refine s_seq ?_)
local macro_rules | `(tactic| walk_at "n") => `(tactic| (with_reducible refine s_seq ?_); (repeat walk_at "e"))

def sp_number (K : PySem.W.Frag) : SpD := fun ts O P _ => ∃ (n : Nat) (p : List D) (m : Int), ts = [.own 0, .v (.int m)] ∧ O = [.lst p] ∧ Pen n p ∧ n < 900000 ∧ 2 ≤ m ∧ m ≤ 1000000000000000000000000000000 ∧ ∀ p' r, Pen (n + 2) p' → 0 ≤ r → r < m → P (.v (.int r)) [.lst p']
theorem sp_number_len {K : PySem.W.Frag} {ts O P X} (h : sp_number K ts O P X) : ts.length = 2 := by
  obtain ⟨n, p, m, rfl, _⟩ := h
  rfl
/-- the class of a chain -/
def chC (K : PySem.W.Frag) (l : Bool) : Addr := if l then He.ga K "Late" else He.ga K "Prompt"
def sp_chain (K : PySem.W.Frag) : SpD := fun ts O P _ => ∃ (b : Bool) (s m : Int), ts = [.v (.bl b), .v (.int s), .v (.int m)] ∧ O = [] ∧ 1 ≤ s ∧ s ≤ 6 ∧ 2 ≤ m ∧ m ≤ 1000000000000000000000000000000 ∧ P (.v (chD (chC K b) s m)) []
theorem sp_chain_len {K : PySem.W.Frag} {ts O P X} (h : sp_chain K ts O P X) : ts.length = 3 := by
  obtain ⟨b, s, m, rfl, _⟩ := h
  rfl
def ledD (x : List (List Int) × List (List Int)) : D := .tup [.lst (x.1.map tupN), .lst (x.2.map tupN)]
def sp_led (K : PySem.W.Frag) (C : Addr) (l : Bool) : SpD := fun ts O P _ => ∃ (m : Int) (st row : List Int) (x : D), ts = [.v (chD C st.length m), .v x, .v (.lst (nums row))] ∧ O = [] ∧ (x = .lst (nums st) ∨ x = .tup (nums st)) ∧ st.length ≤ 6 ∧ 2 ≤ m ∧ m ≤ 1000000000000000000000000000000 ∧ row.length ≤ 1000 ∧ InR m st ∧ InR m row ∧ P (.v (ledD (ld l m st row))) []
theorem sp_led_len {K : PySem.W.Frag} {C : Addr} {l : Bool} {ts O P X} (h : sp_led K C l ts O P X) : ts.length = 3 := by
  obtain ⟨m, st, row, x, rfl, _⟩ := h
  rfl
theorem u_led {K : PySem.W.Frag} (b : Bool) {P : PT'} {X : XX} {m : Int} {s : Nat} {st row : List Int} {x : D} (he : s = st.length) (hx : x = .lst (nums st) ∨ x = .tup (nums st)) (h1 : st.length ≤ 6) (h2 : 2 ≤ m) (h3 : m ≤ 1000000000000000000000000000000) (h4 : row.length ≤ 1000) (h5 : InR m st) (h6 : InR m row) (k : P (.v (ledD (ld b m st row))) []) :
    orS (sp_led K (He.ga K "Prompt") false) (sp_led K (He.ga K "Late") true) [.v (chD (chC K b) s m), .v x, .v (.lst (nums row))] [] P X := by
  subst he
  cases b
  · exact .inl ⟨m, st, row, x, rfl, rfl, hx, h1, h2, h3, h4, h5, h6, k⟩
  · exact .inr ⟨m, st, row, x, rfl, rfl, hx, h1, h2, h3, h4, h5, h6, k⟩
def sp_bright (K : PySem.W.Frag) (C : Addr) (l : Bool) : SpD := fun ts O P _ => ∃ (m : Int) (st row : List Int), ts = [.v (chD C st.length m), .v (.lst ((ld l m st row).1.map tupN)), .v (.lst ((ld l m st row).2.map tupN)), .v (.lst (nums row))] ∧ O = [] ∧ st.length ≤ 6 ∧ 2 ≤ m ∧ m ≤ 1000000000000000000000000000000 ∧ row.length ≤ 1000 ∧ InR m st ∧ InR m row ∧ P (.v (.bl true)) []
theorem sp_bright_len {K : PySem.W.Frag} {C : Addr} {l : Bool} {ts O P X} (h : sp_bright K C l ts O P X) : ts.length = 4 := by
  obtain ⟨m, st, row, rfl, _⟩ := h
  rfl
theorem u_bright {K : PySem.W.Frag} (b : Bool) {P : PT'} {X : XX} {m : Int} {st row : List Int} (h1 : st.length ≤ 6) (h2 : 2 ≤ m) (h3 : m ≤ 1000000000000000000000000000000) (h4 : row.length ≤ 1000) (h5 : InR m st) (h6 : InR m row) (k : P (.v (.bl true)) []) :
    orS (sp_bright K (He.ga K "Prompt") false) (sp_bright K (He.ga K "Late") true) [.v (chD (chC K b) st.length m), .v (.lst ((ld b m st row).1.map tupN)), .v (.lst ((ld b m st row).2.map tupN)), .v (.lst (nums row))] [] P X := by
  cases b
  · exact .inl ⟨m, st, row, rfl, rfl, h1, h2, h3, h4, h5, h6, k⟩
  · exact .inr ⟨m, st, row, rfl, rfl, h1, h2, h3, h4, h5, h6, k⟩
def sp_lagright (K : PySem.W.Frag) : SpD := fun ts O P _ => ∃ (m : Int) (st row : List Int), ts = [.v (.int st.length), .v (.int m), .v (.lst (nums st)), .v (.lst (nums row))] ∧ O = [] ∧ 1 ≤ st.length ∧ st.length ≤ 6 ∧ 2 ≤ m ∧ m ≤ 1000000000000000000000000000000 ∧ st.length ≤ row.length ∧ row.length ≤ 1000 ∧ InR m st ∧ InR m row ∧ P (.v (.bl true)) []
theorem sp_lagright_len {K : PySem.W.Frag} {ts O P X} (h : sp_lagright K ts O P X) : ts.length = 4 := by
  obtain ⟨m, st, row, rfl, _⟩ := h
  rfl
def sp_right (K : PySem.W.Frag) : SpD := fun ts O P _ => ∃ (n : Nat) (p : List D), ts = [.own 0] ∧ O = [.lst p] ∧ Pen n p ∧ n < 800000 ∧ ∀ p', Pen (n + 1000) p' → P (.v (.bl true)) [.lst p']
theorem sp_right_len {K : PySem.W.Frag} {ts O P X} (h : sp_right K ts O P X) : ts.length = 1 := by
  obtain ⟨n, p, rfl, _⟩ := h
  rfl
theorem sc_law_number : FnScope ["_law_pen_here", "_law_wide"] ["_law_pen_here", "_law_wide"] (defScope (top 31)) := ⟨rfl, rfl, rfl, by decide +kernel, rfl, by decide +kernel, by decide +kernel⟩
theorem ok_law_number {P : Program} {w : World} {K : PySem.W.Frag} {mg : Str → Option Value} {base : Heap} (T : Tx K mg) (h_law_pick : Fn P w K mg base 2 (He.fAd K ("_law_pick", none)) ["_law_pen_here", "_law_some"] (sp_pick K)) (h_law_draw : Fn P w K mg base 1 (He.fAd K ("_law_draw", none)) ["_law_pen_here", "_law_many"] (sp_draw K)) : Fn P w K mg base 3 (He.fAd K ("_law_number", none)) ["_law_pen_here", "_law_wide"] (sp_number K) := by
  obtain ⟨_, F_law_pick, b_law_pick, kp_law_pick, _⟩ := h_law_pick
  obtain ⟨_, F_law_draw, b_law_draw, kp_law_draw, _⟩ := h_law_draw
  obtain ⟨fd, F⟩ := T.d_law_number
  refine ⟨fd, F.ok sc_law_number (lift_len ?_) (fun cdv A outer s H vs Q E hr h => ?_), F.bindsN fun _ _ _ _ _ _ us hl => (match us, hl with | [_, _], _ => rfl), F.kp, lk_of F⟩
  · intro ts O P X h
    exact sp_number_len h
  · have hu := hr.units
    refine ⟨_, (PSs.nox (pss_one (ps_ret (pe_call F_law_pick (hr.mono (by decide)) (by rfl) T.g__law_pick kp_law_pick b_law_pick .nil passL (pa_cons (pv 0) (pa_cons (pe_lst (pa_cons pe_int (pa_cons pe_int (pa_cons (pe_op op_sub (pv 1) pe_int) (pa_cons (pe_op op_fdivW (pv 1) pe_int) (pa_cons (pe_call F_law_draw (hr.mono (by decide)) (by rfl) T.g__law_draw kp_law_draw b_law_draw .nil passL (pa_cons (pv 0) (pa_cons (pv 1) pa_nil))) pa_nil)))))) pa_nil)))))), enter h fun ts O P X h _ => ?_⟩
    try dsimp only [cxOf, Cx.nox, Cx.wish]
    
    obtain ⟨n, p, w', rfl, rfl, hp, hn, h1, h2, k⟩ := h
    show WS _ _ _ _ [.own 0, .v (.int w')] _
    repeat walk_at "e"
    refine u_draw hp (by omega) (by omega) (by omega) fun p1 r1 hp1 a1 b1 => ⟨_, rfl, nno, ?_⟩
    repeat walk_at "e"
    refine u_pick hp1 (by omega) (Nat.le_of_ble_eq_true rfl) (Nat.le_of_ble_eq_true rfl) fun p2 j d hp2 hd => ⟨_, rfl, nno, ?_⟩
    obtain ⟨v, rfl, hv1, hv2⟩ : ∃ v, d = .int v ∧ 0 ≤ v ∧ v < w' := by
      have hm := List.mem_of_getElem? hd
      simp only [List.mem_cons, List.not_mem_nil, or_false] at hm
      rcases hm with rfl | rfl | rfl | rfl | rfl <;> exact ⟨_, rfl, by omega, by omega⟩
    exact ⟨rfl, k _ _ hp2 hv1 hv2⟩
theorem sc_law_chain : FnScope ["_law_is_late", "_law_deep", "_law_wide"] ["_law_is_late", "_law_deep", "_law_wide"] (defScope (top 32)) := ⟨rfl, rfl, rfl, by decide +kernel, rfl, by decide +kernel, by decide +kernel⟩
theorem ok_law_chain {P : Program} {w : World} {K : PySem.W.Frag} {mg : Str → Option Value} {base : Heap} (T : Tx K mg) (h_LateU_initU : Fn P w K mg base 4 (He.fAd K ("Late", some "__init__")) ["self", "stages", "modulus"] (sp_ch_init K (He.ga K "Late"))) (h_PromptU_initU : Fn P w K mg base 4 (He.fAd K ("Prompt", some "__init__")) ["self", "stages", "modulus"] (sp_ch_init K (He.ga K "Prompt"))) : Fn P w K mg base 6 (He.fAd K ("_law_chain", none)) ["_law_is_late", "_law_deep", "_law_wide"] (sp_chain K) := by
  obtain ⟨_, F_LateU_initU, b_LateU_initU, kp_LateU_initU, _⟩ := h_LateU_initU
  obtain ⟨_, F_PromptU_initU, b_PromptU_initU, kp_PromptU_initU, _⟩ := h_PromptU_initU
  obtain ⟨fd, F⟩ := T.d_law_chain
  refine ⟨fd, F.ok sc_law_chain (lift_len ?_) (fun cdv A outer s H vs Q E hr h => ?_), F.bindsN fun _ _ _ _ _ _ us hl => (match us, hl with | [_, _, _], _ => rfl), F.kp, lk_of F⟩
  · intro ts O P X h
    exact sp_chain_len h
  · have hu := hr.units
    refine ⟨_, (PSs.nox (pss_one (ps_ret (pe_ifExp (pt_val (pv 0)) (pe_make T.mk_Late F_LateU_initU (hr.mono (by decide)) (by rfl) T.g_Late b_LateU_initU .nil passL (pa_cons (pv 1) (pa_cons (pv 2) pa_nil))) (pe_make T.mk_Prompt F_PromptU_initU (hr.mono (by decide)) (by rfl) T.g_Prompt b_PromptU_initU .nil passL (pa_cons (pv 1) (pa_cons (pv 2) pa_nil))))))), enter h fun ts O P X h _ => ?_⟩
    try dsimp only [cxOf, Cx.nox, Cx.wish]
    
    obtain ⟨b, s', m, rfl, rfl, h1, h2, h3, h4, p⟩ := h
    show WS _ _ _ _ [.v (.bl b), .v (.int s'), .v (.int m)] _
    repeat walk_at "e"
    refine ⟨fun e => ?_, fun e => ?_⟩
    · subst e
      repeat walk_at "e"
      exact ⟨s', m, rfl, rfl, h1, h2, h3, h4, rfl, _, rfl, ⟨rfl, p⟩⟩
    · subst e
      repeat walk_at "e"
      exact ⟨s', m, rfl, rfl, h1, h2, h3, h4, rfl, _, rfl, ⟨rfl, p⟩⟩
theorem sc_law_led_P : FnScope ["_law_made", "_law_some", "_law_row", "_law_standings", "_law_carries", "_law_given", "_law_later", "_law_gave"] ["_law_made", "_law_some", "_law_row"] (defScope (top 33)) := ⟨rfl, rfl, rfl, by decide +kernel, rfl, by decide +kernel, by decide +kernel⟩
theorem ok_law_led_P {P : Program} {w : World} {K : PySem.W.Frag} {mg : Str → Option Value} {base : Heap} (T : Tx K mg) (h_Prompt_step : Fn P w K mg base 5 (He.fAd K ("Prompt", some "step")) ["self", "rests", "number"] (sp_beat K (He.ga K "Prompt") false)) : Fn P w K mg base 6 (He.fAd K ("_law_led", none)) ["_law_made", "_law_some", "_law_row"] (sp_led K (He.ga K "Prompt") false) := by
  obtain ⟨_, F_Prompt_step, b_Prompt_step, kp_Prompt_step, _⟩ := h_Prompt_step
  obtain ⟨fd, F⟩ := T.d_law_led
  refine ⟨fd, F.ok sc_law_led_P (lift_len ?_) (fun cdv A outer s H vs Q E hr h => ?_), F.bindsN fun _ _ _ _ _ _ us hl => (match us, hl with | [_, _, _], _ => rfl), F.kp, lk_of F⟩
  · intro ts O P X h
    exact sp_led_len h
  · have hu := hr.units
    refine ⟨_, (PSs.nox (pss_cons (ps_par (i := 3) (j := 4) rfl sc_law_led_P.nd rfl rfl (by decide) rfl rfl (pa_cons (pe_lst (pa_cons (pe_callTy (cr_tupK K) (by rfl) T.n_tuple boot_tuple (pa_cons (pv 1) pa_nil)) pa_nil)) (pa_cons (pe_lst pa_nil) pa_nil)) rfl)
    (pss_cons (ps_for PassesOwn.never rfl (pi_listK K (pv 2)) (pg_name (i := 5) sc_law_led_P.nd rfl (.inl rfl))
    (pss_cons (ps_asg (pe_meth (pv 0) T.cl_Prompt T.me_Prompt_step F_Prompt_step (hr.mono (by decide)) b_Prompt_step .nil passL (pa_cons (pe_ix (ix_listK K) (pv 3) (pe_un un_neg pe_int) (fun _ _ => rfl)) (pa_cons (pv 5) pa_nil))) (pg_tupK K rfl (pgs_cons (pg_name (i := 6) sc_law_led_P.nd rfl (.inl rfl)) (pgs_cons (pg_name (i := 7) sc_law_led_P.nd rfl (.inl rfl)) pgs_nil))))
    (pss_cons (ps_expr (pe_bm PySem.F.plainAttrs_list PySem.F.slot_list_append PySem.F.type_list_append mt_append (pv 3) (pa_cons (pv 6) pa_nil)))
    (pss_one (ps_expr (pe_bm PySem.F.plainAttrs_list PySem.F.slot_list_append PySem.F.type_list_append mt_append (pv 4) (pa_cons (pv 7) pa_nil)))))))
    (pss_one (ps_ret (pe_tup (pa_cons (pv 3) (pa_cons (pv 4) pa_nil)))))))), enter h fun ts O P X h _ => ?_⟩
    try dsimp only [cxOf, Cx.nox, Cx.wish]
    
    obtain ⟨m, st, row, x, rfl, rfl, hx, hl, hm, hm2, hz, hs, hr, p⟩ := h
    show WS _ _ _ _ [.v (chD _ st.length m), .v x, .v (.lst (nums row)), .no, .no, .no, .no, .no] _
    refine s_cut (fun ts' O' => ts' = [.v (chD (He.ga K "Prompt") st.length m), .v x, .v (.lst (nums row)), .own 0, .own 1, .no, .no, .no] ∧ O' = [.lst ([st].map tupN), .lst []]) ?_ ?_
    · rcases hx with rfl | rfl
      all_goals
        repeat walk_at "o"
        exact ⟨rfl, rfl⟩
    · rintro _ _ ⟨rfl, rfl⟩
      refine s_seq ?_
      refine s_forE ?_
      refine i_list ?_
      repeat walk_at "e"
      refine for_N (fun i ts' O' => ∃ (acc ac : List (List Int)) (cur : List Int) (a b c : G.T), O' = [.lst ((acc ++ [cur]).map tupN), .lst (ac.map tupN)] ∧ ts' = [.v (chD (He.ga K "Prompt") st.length m), .v x, .v (.lst (nums row)), .own 0, .own 1, a, b, c] ∧
        (ld false m st row).1 = acc ++ (ld false m cur (row.drop i)).1 ∧ (ld false m st row).2 = ac ++ (ld false m cur (row.drop i)).2 ∧ acc.length = i ∧ ac.length = i ∧ InR m cur ∧ cur.length = st.length) ⟨[], [], st, _, _, _, rfl, rfl, rfl, rfl, rfl, rfl, hs, rfl⟩ ?_ ?_
      · rintro i gi _ _ hi er ⟨acc, ac, cur, a, b, c, rfl, rfl, e1, e2, l1, l2, hc, lc⟩
        have ed := drop_at er
        obtain ⟨g1, g2⟩ := hr.at er
        refine g_name ?_
        walk_at "n"
        refine w_ixL (lstD_o (by exact rfl)) atI_m1M ?_
        repeat walk_at "e"
        refine ⟨m, cur, gi, congrArg (fun n : Nat => [G.T.v (chD (He.ga K "Prompt") n m), .v (.tup (nums cur)), .v (.int gi)]) lc.symm, rfl, by omega, hm, hm2, hc, g1, g2, ⟨⟨_, rfl⟩, ?_⟩⟩
        refine g_pair rfl ?_
        walk_at "n"
        refine m_append (by exact rfl) (lt_szD (by rw [List.length_map, List.length_append, List.length_singleton]; omega)) ?_
        repeat walk_at "e"
        refine m_append (by exact rfl) (lt_szD (by rw [List.length_map]; omega)) ?_
        rw [ed, ld_cons] at e1 e2
        refine ⟨acc ++ [cur], ac ++ [(bt false m cur gi).2], (bt false m cur gi).1, _, _, _, ?_, rfl, by rw [e1, List.append_assoc] <;> rfl, by rw [e2, List.append_assoc] <;> rfl, by rw [List.length_append, l1] <;> rfl, by rw [List.length_append, l2] <;> rfl, bt_in false hc g1 g2, by rw [(bt_len false m cur gi).1, lc]⟩
        rw [List.map_append (l₁ := acc ++ [cur]), List.map_append (l₁ := ac)]
        exact rfl
      · rintro _ _ ⟨acc, ac, cur, a, b, c, rfl, rfl, e1, e2, l1, l2, hc, lc⟩
        rw [List.drop_length, ld_nil] at e1 e2
        rw [List.append_nil] at e2
        have e3 : ledD (ld false m st row) = .tup [.lst ((acc ++ [cur]).map tupN), .lst (ac.map tupN)] := by
          unfold ledD
          rw [e1, e2]
        rw [e3] at p
        refine s_frz 0 rfl rfl ?_
        refine s_frz 1 rfl rfl ?_
        repeat walk_at "e"
        exact ⟨rfl, p⟩
theorem sc_law_back_right_P : FnScope ["_law_made", "_law_standings", "_law_carries", "_law_row", "_law_held", "_law_is_late", "_law_at", "_law_ahead", "_law_gave", "_law_given", "_law_spot"] ["_law_made", "_law_standings", "_law_carries", "_law_row"] (defScope (top 34)) := ⟨rfl, rfl, rfl, by decide +kernel, rfl, by decide +kernel, by decide +kernel⟩
theorem ok_law_back_right_P {P : Program} {w : World} {K : PySem.W.Frag} {mg : Str → Option Value} {base : Heap} (T : Tx K mg) (h_Prompt_back : Fn P w K mg base 5 (He.fAd K ("Prompt", some "back")) ["self", "rests", "number"] (sp_back K (He.ga K "Prompt") false)) : Fn P w K mg base 6 (He.fAd K ("_law_back_right", none)) ["_law_made", "_law_standings", "_law_carries", "_law_row"] (sp_bright K (He.ga K "Prompt") false) := by
  obtain ⟨_, F_Prompt_back, b_Prompt_back, kp_Prompt_back, _⟩ := h_Prompt_back
  obtain ⟨fd, F⟩ := T.d_law_back_right
  have hc_Prompt := T.cl_Prompt
  have hn_Prompt_modulus := T.na_Prompt_modulus
  have hc_Prompt := T.cl_Prompt
  have hn_Prompt_stages := T.na_Prompt_stages
  refine ⟨fd, F.ok sc_law_back_right_P (lift_len ?_) (fun cdv A outer s H vs Q E hr h => ?_), F.bindsN fun _ _ _ _ _ _ us hl => (match us, hl with | [_, _, _, _], _ => rfl), F.kp, lk_of F⟩
  · intro ts O P X h
    exact sp_bright_len h
  · have hu := hr.units
    refine ⟨_, (PSs.nox (pss_cons (ps_par (i := 4) (j := 5) rfl sc_law_back_right_P.nd rfl rfl (by decide) rfl rfl (pa_cons (pe_ix (ix_listK K) (pv 1) (pe_un un_neg pe_int) (fun _ _ => rfl)) (pa_cons (pe_callB (call_isiK K) (by rfl) T.n_isinstance boot_isinstance (pa_cons (pv 0) (pa_cons (pe_glob (v := .ref (He.ga K "Late")) (by rfl) T.g_Late rfl) pa_nil))) pa_nil)) rfl)
    (pss_cons (ps_for PassesOwn.never rfl (pi_range3 (by rfl) T.n_range (pa_cons (pe_op op_sub (pe_callB (cr_lenK K) (by rfl) T.n_len boot_len (pa_cons (pv 3) pa_nil)) pe_int) (pa_cons (pe_un un_neg pe_int) (pa_cons (pe_un un_neg pe_int) pa_nil)))) (pg_name (i := 6) sc_law_back_right_P.nd rfl (.inl rfl))
    (pss_cons (ps_asg (pe_meth (pv 0) T.cl_Prompt T.me_Prompt_back F_Prompt_back (hr.mono (by decide)) b_Prompt_back .nil passL (pa_cons (pv 4) (pa_cons (pe_ix (ix_listK K) (pv 3) (pv 6) (fun _ _ => rfl)) pa_nil))) (pg_tupK K rfl (pgs_cons (pg_name (i := 7) sc_law_back_right_P.nd rfl (.inl rfl)) (pgs_cons (pg_name (i := 8) sc_law_back_right_P.nd rfl (.inl rfl)) pgs_nil))))
    (pss_cons (ps_if (PW.pt (pw_or (pt_cmpR (op_neDK K hu) (pv 7) (pe_ix (ix_listK K) (pv 1) (pv 6) (fun _ _ => rfl)) (nomark _)) (pw_or1 (pt_cmpR (op_neDK K hu) (pv 8) (pe_ix (ix_listK K) (pv 2) (pv 6) (fun _ _ => rfl)) (nomark _)))))
    (pss_one (ps_ret pe_bl))
    pss_nil)
    (pss_cons (ps_set (i := 9) sc_law_back_right_P.nd rfl (.inl rfl) (pe_ix (ix_listK K) (pv 3) (pv 6) (fun _ _ => rfl)))
    (pss_cons (ps_for PassesOwn.never rfl (pi_range1 (by rfl) T.n_range (pa_cons (pe_fldK K (pv 0)) pa_nil)) (pg_name (i := 10) sc_law_back_right_P.nd rfl (.inl rfl))
    (pss_cons (ps_if (pt_cmpR op_ne (pe_op op_add (pe_ix (ix_tupK K) (pv 7) (pv 10) (fun _ _ => rfl)) (pv 9)) (pe_op op_add (pe_ix (ix_tupK K) (pv 4) (pv 10) (fun _ _ => rfl)) (pe_op op_mulW (pe_fldK K (pv 0)) (pe_ix (ix_tupK K) (pv 8) (pv 10) (fun _ _ => rfl)))) (nomark _))
    (pss_one (ps_ret pe_bl))
    pss_nil)
    (pss_one (ps_set (i := 9) sc_law_back_right_P.nd rfl (.inl rfl) (pe_ifExp (pt_val (pv 5)) (pe_ix (ix_tupK K) (pv 7) (pv 10) (fun _ _ => rfl)) (pe_ix (ix_tupK K) (pv 4) (pv 10) (fun _ _ => rfl)))))))
    (pss_one (ps_set (i := 4) sc_law_back_right_P.nd rfl (.inl rfl) (pv 7))))))))
    (pss_one (ps_ret pe_bl))))), enter h fun ts O P X h _ => ?_⟩
    try dsimp only [cxOf, Cx.nox, Cx.wish]
    
    obtain ⟨m, st, row, rfl, rfl, hl, hm, hm2, hz, hs, hr, p⟩ := h
    show WS _ _ _ _ [.v (chD _ st.length m), .v (.lst ((ld false m st row).1.map tupN)), .v (.lst ((ld false m st row).2.map tupN)), .v (.lst (nums row)), .no, .no, .no, .no, .no, .no, .no] _
    have L1 := (ld_len false m row st).1
    have L2 := (ld_len false m row st).2
    have hin : ∀ t, t ≤ row.length → InR m ((ld false m st row).1.getD t []) ∧ ((ld false m st row).1.getD t []).length = st.length := fun t ht => ld_in false hs hr _ (G.getD_mem (by omega))
    have hc2 : ∀ t, t < row.length → ((ld false m st row).2.getD t []).length = st.length := fun t ht => ld_len2 false _ (G.getD_mem (by omega))
    refine s_seq ?_
    repeat walk_at "e"
    refine w_ixL lstD_v (atInegM [] L1) ?_
    repeat walk_at "e"
    refine c_isi (.ins _ _ T.it_Prompt) (.own _) T.kit_Prompt_Late ?_
    repeat walk_at "e"
    refine s_seq ?_
    refine s_forE ?_
    refine i_rng3 ?_
    repeat walk_at "e"
    rw [len_n]
    refine ⟨_, _, _, row.length, rfl, rg_down (by omega), ?_⟩
    refine for_R (fun i ts' O' => ∃ (a b c d e : G.T), O' = [] ∧ ts' = [.v (chD (He.ga K "Prompt") st.length m), .v (.lst ((ld false m st row).1.map tupN)), .v (.lst ((ld false m st row).2.map tupN)), .v (.lst (nums row)), .v (tupN ((ld false m st row).1.getD (row.length - i) [])), .v (.bl false), a, b, c, d, e]) ⟨_, _, _, _, _, rfl, rfl⟩ ?_ ?_
    · rintro i _ _ hi ⟨a, b, c, d, e, rfl, rfl⟩
      obtain ⟨t, ht⟩ : ∃ t, row.length - i = t + 1 := ⟨row.length - i - 1, by omega⟩
      have ht2 : t < row.length := by omega
      have hj : (row.length : Int) - 1 + (i : Int) * (-1) = (t : Int) := by omega
      rw [hj, ht]
      obtain ⟨s1, s2⟩ := ld_at false m row st t ht2
      obtain ⟨i1, i2⟩ := hin t (by omega)
      obtain ⟨j1, j2⟩ := hin (t + 1) (by omega)
      have k2 := hc2 t ht2
      obtain ⟨g1, g2⟩ := hr.at (getD_some (d := 0) ht2)
      refine g_name ?_
      walk_at "n"
      refine w_ixL lstD_v (atIN ht2) ?_
      repeat walk_at "e"
      refine ⟨m, _, _, congrArg (fun n : Nat => [G.T.v (chD (He.ga K "Prompt") n m), .v (.tup (nums ((ld false m st row).1.getD (t + 1) []))), .v (.int (row.getD t 0))]) j2.symm, rfl, by omega, hm, hm2, j1, g1, g2, ⟨⟨_, rfl⟩, ?_⟩⟩
      have eb : bk false m ((ld false m st row).1.getD (t + 1) []) (row.getD t 0) = ((ld false m st row).1.getD t [], (ld false m st row).2.getD t []) := by
        rw [s1, bk_bt false i1 g1 g2, ← s2]
      rw [eb]
      refine g_pair rfl ?_
      walk_at "n"
      refine w_ixL lstD_v (atIM [] (by omega)) ?_
      refine w_neF valD_v valD_v pl_tupN ?_
      repeat walk_at "e"
      refine w_ixL lstD_v (atIM [] (by omega)) ?_
      refine w_neF valD_v valD_v pl_tupN ?_
      repeat walk_at "e"
      walk_at "n"
      refine w_ixL lstD_v (atIN ht2) ?_
      repeat walk_at "e"
      refine s_seq ?_
      refine s_forE ?_
      refine i_rng1 ?_
      repeat walk_at "e"
      refine ⟨by omega, ?_⟩
      rw [Int.toNat_natCast]
      refine for_R1 (fun i ts' O' => ∃ (e : G.T), O' = [] ∧ ts' = [.v (chD (He.ga K "Prompt") st.length m), .v (.lst ((ld false m st row).1.map tupN)), .v (.lst ((ld false m st row).2.map tupN)), .v (.lst (nums row)), .v (tupN ((ld false m st row).1.getD (t + 1) [])), .v (.bl false), .v (.int t),
        .v (tupN ((ld false m st row).1.getD t [])), .v (tupN ((ld false m st row).2.getD t [])), .v (.int (gv false ((ld false m st row).1.getD t []) ((ld false m st row).1.getD (t + 1) []) (row.getD t 0) i)), e]) ⟨_, rfl, rfl⟩ ?_ ?_
      · rintro q _ _ hq ⟨e', rfl, rfl⟩
        have hb := bt_at false m ((ld false m st row).1.getD t []) (row.getD t 0) q (by omega)
        rw [← s1, ← s2] at hb
        have hcb := cy_bd (m := m) (r := ((ld false m st row).1.getD t []).getD q 0) (g := gv false ((ld false m st row).1.getD t []) ((ld false m st row).1.getD (t + 1) []) (row.getD t 0) q)
        rw [← hb.2] at hcb
        have hcm : ((ld false m st row).1.getD t []).getD q 0 + gv false ((ld false m st row).1.getD t []) ((ld false m st row).1.getD (t + 1) []) (row.getD t 0) q = ((ld false m st row).1.getD (t + 1) []).getD q 0 + m * ((ld false m st row).2.getD t []).getD q 0 := by
          rw [hb.1, hb.2, Int.mul_comm m]
          omega
        refine g_name ?_
        walk_at "n"
        refine w_ixT (atIN (by omega)) ?_
        repeat walk_at "e"
        refine w_ixT (atIN (by omega)) ?_
        repeat walk_at "e"
        refine w_ixT (atIN (by omega)) ?_
        repeat walk_at "e"
        refine nbF hcm ?_
        repeat walk_at "e"
        refine w_ixT (atIN (by omega)) ?_
        exact ⟨_, rfl, rfl⟩
      · rintro _ _ ⟨e', rfl, rfl⟩
        repeat walk_at "e"
        rw [show row.length - (i + 1) = t by omega]
        exact ⟨_, _, _, _, _, rfl, rfl⟩
    · rintro _ _ ⟨a, b, c, d, e, rfl, rfl⟩
      repeat walk_at "e"
      exact ⟨rfl, p⟩
theorem sc_law_led_L : FnScope ["_law_made", "_law_some", "_law_row", "_law_standings", "_law_carries", "_law_given", "_law_later", "_law_gave"] ["_law_made", "_law_some", "_law_row"] (defScope (top 33)) := ⟨rfl, rfl, rfl, by decide +kernel, rfl, by decide +kernel, by decide +kernel⟩
theorem ok_law_led_L {P : Program} {w : World} {K : PySem.W.Frag} {mg : Str → Option Value} {base : Heap} (T : Tx K mg) (h_Late_step : Fn P w K mg base 5 (He.fAd K ("Late", some "step")) ["self", "rests", "number"] (sp_beat K (He.ga K "Late") true)) : Fn P w K mg base 6 (He.fAd K ("_law_led", none)) ["_law_made", "_law_some", "_law_row"] (sp_led K (He.ga K "Late") true) := by
  obtain ⟨_, F_Late_step, b_Late_step, kp_Late_step, _⟩ := h_Late_step
  obtain ⟨fd, F⟩ := T.d_law_led
  refine ⟨fd, F.ok sc_law_led_L (lift_len ?_) (fun cdv A outer s H vs Q E hr h => ?_), F.bindsN fun _ _ _ _ _ _ us hl => (match us, hl with | [_, _, _], _ => rfl), F.kp, lk_of F⟩
  · intro ts O P X h
    exact sp_led_len h
  · have hu := hr.units
    refine ⟨_, (PSs.nox (pss_cons (ps_par (i := 3) (j := 4) rfl sc_law_led_L.nd rfl rfl (by decide) rfl rfl (pa_cons (pe_lst (pa_cons (pe_callTy (cr_tupK K) (by rfl) T.n_tuple boot_tuple (pa_cons (pv 1) pa_nil)) pa_nil)) (pa_cons (pe_lst pa_nil) pa_nil)) rfl)
    (pss_cons (ps_for PassesOwn.never rfl (pi_listK K (pv 2)) (pg_name (i := 5) sc_law_led_L.nd rfl (.inl rfl))
    (pss_cons (ps_asg (pe_meth (pv 0) T.cl_Late T.me_Late_step F_Late_step (hr.mono (by decide)) b_Late_step .nil passL (pa_cons (pe_ix (ix_listK K) (pv 3) (pe_un un_neg pe_int) (fun _ _ => rfl)) (pa_cons (pv 5) pa_nil))) (pg_tupK K rfl (pgs_cons (pg_name (i := 6) sc_law_led_L.nd rfl (.inl rfl)) (pgs_cons (pg_name (i := 7) sc_law_led_L.nd rfl (.inl rfl)) pgs_nil))))
    (pss_cons (ps_expr (pe_bm PySem.F.plainAttrs_list PySem.F.slot_list_append PySem.F.type_list_append mt_append (pv 3) (pa_cons (pv 6) pa_nil)))
    (pss_one (ps_expr (pe_bm PySem.F.plainAttrs_list PySem.F.slot_list_append PySem.F.type_list_append mt_append (pv 4) (pa_cons (pv 7) pa_nil)))))))
    (pss_one (ps_ret (pe_tup (pa_cons (pv 3) (pa_cons (pv 4) pa_nil)))))))), enter h fun ts O P X h _ => ?_⟩
    try dsimp only [cxOf, Cx.nox, Cx.wish]
    
    obtain ⟨m, st, row, x, rfl, rfl, hx, hl, hm, hm2, hz, hs, hr, p⟩ := h
    show WS _ _ _ _ [.v (chD _ st.length m), .v x, .v (.lst (nums row)), .no, .no, .no, .no, .no] _
    refine s_cut (fun ts' O' => ts' = [.v (chD (He.ga K "Late") st.length m), .v x, .v (.lst (nums row)), .own 0, .own 1, .no, .no, .no] ∧ O' = [.lst ([st].map tupN), .lst []]) ?_ ?_
    · rcases hx with rfl | rfl
      all_goals
        repeat walk_at "o"
        exact ⟨rfl, rfl⟩
    · rintro _ _ ⟨rfl, rfl⟩
      refine s_seq ?_
      refine s_forE ?_
      refine i_list ?_
      repeat walk_at "e"
      refine for_N (fun i ts' O' => ∃ (acc ac : List (List Int)) (cur : List Int) (a b c : G.T), O' = [.lst ((acc ++ [cur]).map tupN), .lst (ac.map tupN)] ∧ ts' = [.v (chD (He.ga K "Late") st.length m), .v x, .v (.lst (nums row)), .own 0, .own 1, a, b, c] ∧
        (ld true m st row).1 = acc ++ (ld true m cur (row.drop i)).1 ∧ (ld true m st row).2 = ac ++ (ld true m cur (row.drop i)).2 ∧ acc.length = i ∧ ac.length = i ∧ InR m cur ∧ cur.length = st.length) ⟨[], [], st, _, _, _, rfl, rfl, rfl, rfl, rfl, rfl, hs, rfl⟩ ?_ ?_
      · rintro i gi _ _ hi er ⟨acc, ac, cur, a, b, c, rfl, rfl, e1, e2, l1, l2, hc, lc⟩
        have ed := drop_at er
        obtain ⟨g1, g2⟩ := hr.at er
        refine g_name ?_
        walk_at "n"
        refine w_ixL (lstD_o (by exact rfl)) atI_m1M ?_
        repeat walk_at "e"
        refine ⟨m, cur, gi, congrArg (fun n : Nat => [G.T.v (chD (He.ga K "Late") n m), .v (.tup (nums cur)), .v (.int gi)]) lc.symm, rfl, by omega, hm, hm2, hc, g1, g2, ⟨⟨_, rfl⟩, ?_⟩⟩
        refine g_pair rfl ?_
        walk_at "n"
        refine m_append (by exact rfl) (lt_szD (by rw [List.length_map, List.length_append, List.length_singleton]; omega)) ?_
        repeat walk_at "e"
        refine m_append (by exact rfl) (lt_szD (by rw [List.length_map]; omega)) ?_
        rw [ed, ld_cons] at e1 e2
        refine ⟨acc ++ [cur], ac ++ [(bt true m cur gi).2], (bt true m cur gi).1, _, _, _, ?_, rfl, by rw [e1, List.append_assoc] <;> rfl, by rw [e2, List.append_assoc] <;> rfl, by rw [List.length_append, l1] <;> rfl, by rw [List.length_append, l2] <;> rfl, bt_in true hc g1 g2, by rw [(bt_len true m cur gi).1, lc]⟩
        rw [List.map_append (l₁ := acc ++ [cur]), List.map_append (l₁ := ac)]
        exact rfl
      · rintro _ _ ⟨acc, ac, cur, a, b, c, rfl, rfl, e1, e2, l1, l2, hc, lc⟩
        rw [List.drop_length, ld_nil] at e1 e2
        rw [List.append_nil] at e2
        have e3 : ledD (ld true m st row) = .tup [.lst ((acc ++ [cur]).map tupN), .lst (ac.map tupN)] := by
          unfold ledD
          rw [e1, e2]
        rw [e3] at p
        refine s_frz 0 rfl rfl ?_
        refine s_frz 1 rfl rfl ?_
        repeat walk_at "e"
        exact ⟨rfl, p⟩
theorem sc_law_back_right_L : FnScope ["_law_made", "_law_standings", "_law_carries", "_law_row", "_law_held", "_law_is_late", "_law_at", "_law_ahead", "_law_gave", "_law_given", "_law_spot"] ["_law_made", "_law_standings", "_law_carries", "_law_row"] (defScope (top 34)) := ⟨rfl, rfl, rfl, by decide +kernel, rfl, by decide +kernel, by decide +kernel⟩
theorem ok_law_back_right_L {P : Program} {w : World} {K : PySem.W.Frag} {mg : Str → Option Value} {base : Heap} (T : Tx K mg) (h_Late_back : Fn P w K mg base 5 (He.fAd K ("Late", some "back")) ["self", "rests", "number"] (sp_back K (He.ga K "Late") true)) : Fn P w K mg base 6 (He.fAd K ("_law_back_right", none)) ["_law_made", "_law_standings", "_law_carries", "_law_row"] (sp_bright K (He.ga K "Late") true) := by
  obtain ⟨_, F_Late_back, b_Late_back, kp_Late_back, _⟩ := h_Late_back
  obtain ⟨fd, F⟩ := T.d_law_back_right
  have hc_Late := T.cl_Late
  have hn_Late_modulus := T.na_Late_modulus
  have hc_Late := T.cl_Late
  have hn_Late_stages := T.na_Late_stages
  refine ⟨fd, F.ok sc_law_back_right_L (lift_len ?_) (fun cdv A outer s H vs Q E hr h => ?_), F.bindsN fun _ _ _ _ _ _ us hl => (match us, hl with | [_, _, _, _], _ => rfl), F.kp, lk_of F⟩
  · intro ts O P X h
    exact sp_bright_len h
  · have hu := hr.units
    refine ⟨_, (PSs.nox (pss_cons (ps_par (i := 4) (j := 5) rfl sc_law_back_right_L.nd rfl rfl (by decide) rfl rfl (pa_cons (pe_ix (ix_listK K) (pv 1) (pe_un un_neg pe_int) (fun _ _ => rfl)) (pa_cons (pe_callB (call_isiK K) (by rfl) T.n_isinstance boot_isinstance (pa_cons (pv 0) (pa_cons (pe_glob (v := .ref (He.ga K "Late")) (by rfl) T.g_Late rfl) pa_nil))) pa_nil)) rfl)
    (pss_cons (ps_for PassesOwn.never rfl (pi_range3 (by rfl) T.n_range (pa_cons (pe_op op_sub (pe_callB (cr_lenK K) (by rfl) T.n_len boot_len (pa_cons (pv 3) pa_nil)) pe_int) (pa_cons (pe_un un_neg pe_int) (pa_cons (pe_un un_neg pe_int) pa_nil)))) (pg_name (i := 6) sc_law_back_right_L.nd rfl (.inl rfl))
    (pss_cons (ps_asg (pe_meth (pv 0) T.cl_Late T.me_Late_back F_Late_back (hr.mono (by decide)) b_Late_back .nil passL (pa_cons (pv 4) (pa_cons (pe_ix (ix_listK K) (pv 3) (pv 6) (fun _ _ => rfl)) pa_nil))) (pg_tupK K rfl (pgs_cons (pg_name (i := 7) sc_law_back_right_L.nd rfl (.inl rfl)) (pgs_cons (pg_name (i := 8) sc_law_back_right_L.nd rfl (.inl rfl)) pgs_nil))))
    (pss_cons (ps_if (PW.pt (pw_or (pt_cmpR (op_neDK K hu) (pv 7) (pe_ix (ix_listK K) (pv 1) (pv 6) (fun _ _ => rfl)) (nomark _)) (pw_or1 (pt_cmpR (op_neDK K hu) (pv 8) (pe_ix (ix_listK K) (pv 2) (pv 6) (fun _ _ => rfl)) (nomark _)))))
    (pss_one (ps_ret pe_bl))
    pss_nil)
    (pss_cons (ps_set (i := 9) sc_law_back_right_L.nd rfl (.inl rfl) (pe_ix (ix_listK K) (pv 3) (pv 6) (fun _ _ => rfl)))
    (pss_cons (ps_for PassesOwn.never rfl (pi_range1 (by rfl) T.n_range (pa_cons (pe_fldK K (pv 0)) pa_nil)) (pg_name (i := 10) sc_law_back_right_L.nd rfl (.inl rfl))
    (pss_cons (ps_if (pt_cmpR op_ne (pe_op op_add (pe_ix (ix_tupK K) (pv 7) (pv 10) (fun _ _ => rfl)) (pv 9)) (pe_op op_add (pe_ix (ix_tupK K) (pv 4) (pv 10) (fun _ _ => rfl)) (pe_op op_mulW (pe_fldK K (pv 0)) (pe_ix (ix_tupK K) (pv 8) (pv 10) (fun _ _ => rfl)))) (nomark _))
    (pss_one (ps_ret pe_bl))
    pss_nil)
    (pss_one (ps_set (i := 9) sc_law_back_right_L.nd rfl (.inl rfl) (pe_ifExp (pt_val (pv 5)) (pe_ix (ix_tupK K) (pv 7) (pv 10) (fun _ _ => rfl)) (pe_ix (ix_tupK K) (pv 4) (pv 10) (fun _ _ => rfl)))))))
    (pss_one (ps_set (i := 4) sc_law_back_right_L.nd rfl (.inl rfl) (pv 7))))))))
    (pss_one (ps_ret pe_bl))))), enter h fun ts O P X h _ => ?_⟩
    try dsimp only [cxOf, Cx.nox, Cx.wish]
    
    obtain ⟨m, st, row, rfl, rfl, hl, hm, hm2, hz, hs, hr, p⟩ := h
    show WS _ _ _ _ [.v (chD _ st.length m), .v (.lst ((ld true m st row).1.map tupN)), .v (.lst ((ld true m st row).2.map tupN)), .v (.lst (nums row)), .no, .no, .no, .no, .no, .no, .no] _
    have L1 := (ld_len true m row st).1
    have L2 := (ld_len true m row st).2
    have hin : ∀ t, t ≤ row.length → InR m ((ld true m st row).1.getD t []) ∧ ((ld true m st row).1.getD t []).length = st.length := fun t ht => ld_in true hs hr _ (G.getD_mem (by omega))
    have hc2 : ∀ t, t < row.length → ((ld true m st row).2.getD t []).length = st.length := fun t ht => ld_len2 true _ (G.getD_mem (by omega))
    refine s_seq ?_
    repeat walk_at "e"
    refine w_ixL lstD_v (atInegM [] L1) ?_
    repeat walk_at "e"
    refine c_isi (.ins _ _ T.it_Late) (.own _) T.kit_Late_Late ?_
    repeat walk_at "e"
    refine s_seq ?_
    refine s_forE ?_
    refine i_rng3 ?_
    repeat walk_at "e"
    rw [len_n]
    refine ⟨_, _, _, row.length, rfl, rg_down (by omega), ?_⟩
    refine for_R (fun i ts' O' => ∃ (a b c d e : G.T), O' = [] ∧ ts' = [.v (chD (He.ga K "Late") st.length m), .v (.lst ((ld true m st row).1.map tupN)), .v (.lst ((ld true m st row).2.map tupN)), .v (.lst (nums row)), .v (tupN ((ld true m st row).1.getD (row.length - i) [])), .v (.bl true), a, b, c, d, e]) ⟨_, _, _, _, _, rfl, rfl⟩ ?_ ?_
    · rintro i _ _ hi ⟨a, b, c, d, e, rfl, rfl⟩
      obtain ⟨t, ht⟩ : ∃ t, row.length - i = t + 1 := ⟨row.length - i - 1, by omega⟩
      have ht2 : t < row.length := by omega
      have hj : (row.length : Int) - 1 + (i : Int) * (-1) = (t : Int) := by omega
      rw [hj, ht]
      obtain ⟨s1, s2⟩ := ld_at true m row st t ht2
      obtain ⟨i1, i2⟩ := hin t (by omega)
      obtain ⟨j1, j2⟩ := hin (t + 1) (by omega)
      have k2 := hc2 t ht2
      obtain ⟨g1, g2⟩ := hr.at (getD_some (d := 0) ht2)
      refine g_name ?_
      walk_at "n"
      refine w_ixL lstD_v (atIN ht2) ?_
      repeat walk_at "e"
      refine ⟨m, _, _, congrArg (fun n : Nat => [G.T.v (chD (He.ga K "Late") n m), .v (.tup (nums ((ld true m st row).1.getD (t + 1) []))), .v (.int (row.getD t 0))]) j2.symm, rfl, by omega, hm, hm2, j1, g1, g2, ⟨⟨_, rfl⟩, ?_⟩⟩
      have eb : bk true m ((ld true m st row).1.getD (t + 1) []) (row.getD t 0) = ((ld true m st row).1.getD t [], (ld true m st row).2.getD t []) := by
        rw [s1, bk_bt true i1 g1 g2, ← s2]
      rw [eb]
      refine g_pair rfl ?_
      walk_at "n"
      refine w_ixL lstD_v (atIM [] (by omega)) ?_
      refine w_neF valD_v valD_v pl_tupN ?_
      repeat walk_at "e"
      refine w_ixL lstD_v (atIM [] (by omega)) ?_
      refine w_neF valD_v valD_v pl_tupN ?_
      repeat walk_at "e"
      walk_at "n"
      refine w_ixL lstD_v (atIN ht2) ?_
      repeat walk_at "e"
      refine s_seq ?_
      refine s_forE ?_
      refine i_rng1 ?_
      repeat walk_at "e"
      refine ⟨by omega, ?_⟩
      rw [Int.toNat_natCast]
      refine for_R1 (fun i ts' O' => ∃ (e : G.T), O' = [] ∧ ts' = [.v (chD (He.ga K "Late") st.length m), .v (.lst ((ld true m st row).1.map tupN)), .v (.lst ((ld true m st row).2.map tupN)), .v (.lst (nums row)), .v (tupN ((ld true m st row).1.getD (t + 1) [])), .v (.bl true), .v (.int t),
        .v (tupN ((ld true m st row).1.getD t [])), .v (tupN ((ld true m st row).2.getD t [])), .v (.int (gv true ((ld true m st row).1.getD t []) ((ld true m st row).1.getD (t + 1) []) (row.getD t 0) i)), e]) ⟨_, rfl, rfl⟩ ?_ ?_
      · rintro q _ _ hq ⟨e', rfl, rfl⟩
        have hb := bt_at true m ((ld true m st row).1.getD t []) (row.getD t 0) q (by omega)
        rw [← s1, ← s2] at hb
        have hcb := cy_bd (m := m) (r := ((ld true m st row).1.getD t []).getD q 0) (g := gv true ((ld true m st row).1.getD t []) ((ld true m st row).1.getD (t + 1) []) (row.getD t 0) q)
        rw [← hb.2] at hcb
        have hcm : ((ld true m st row).1.getD t []).getD q 0 + gv true ((ld true m st row).1.getD t []) ((ld true m st row).1.getD (t + 1) []) (row.getD t 0) q = ((ld true m st row).1.getD (t + 1) []).getD q 0 + m * ((ld true m st row).2.getD t []).getD q 0 := by
          rw [hb.1, hb.2, Int.mul_comm m]
          omega
        refine g_name ?_
        walk_at "n"
        refine w_ixT (atIN (by omega)) ?_
        repeat walk_at "e"
        refine w_ixT (atIN (by omega)) ?_
        repeat walk_at "e"
        refine w_ixT (atIN (by omega)) ?_
        repeat walk_at "e"
        refine nbF hcm ?_
        repeat walk_at "e"
        refine w_ixT (atIN (by omega)) ?_
        exact ⟨_, rfl, rfl⟩
      · rintro _ _ ⟨e', rfl, rfl⟩
        repeat walk_at "e"
        rw [show row.length - (i + 1) = t by omega]
        exact ⟨_, _, _, _, _, rfl, rfl⟩
    · rintro _ _ ⟨a, b, c, d, e, rfl, rfl⟩
      repeat walk_at "e"
      exact ⟨rfl, p⟩
theorem ok_law_led {P : Program} {w : World} {K : PySem.W.Frag} {mg : Str → Option Value} {base : Heap} (h_a : Fn P w K mg base 6 (He.fAd K ("_law_led", none)) ["_law_made", "_law_some", "_law_row"] (sp_led K (He.ga K "Prompt") false)) (h_b : Fn P w K mg base 6 (He.fAd K ("_law_led", none)) ["_law_made", "_law_some", "_law_row"] (sp_led K (He.ga K "Late") true)) : Fn P w K mg base 6 (He.fAd K ("_law_led", none)) ["_law_made", "_law_some", "_law_row"] (orS (sp_led K (He.ga K "Prompt") false) (sp_led K (He.ga K "Late") true)) := h_a.or h_b (by decide) (by decide)
theorem ok_law_back_right {P : Program} {w : World} {K : PySem.W.Frag} {mg : Str → Option Value} {base : Heap} (h_a : Fn P w K mg base 6 (He.fAd K ("_law_back_right", none)) ["_law_made", "_law_standings", "_law_carries", "_law_row"] (sp_bright K (He.ga K "Prompt") false)) (h_b : Fn P w K mg base 6 (He.fAd K ("_law_back_right", none)) ["_law_made", "_law_standings", "_law_carries", "_law_row"] (sp_bright K (He.ga K "Late") true)) : Fn P w K mg base 6 (He.fAd K ("_law_back_right", none)) ["_law_made", "_law_standings", "_law_carries", "_law_row"] (orS (sp_bright K (He.ga K "Prompt") false) (sp_bright K (He.ga K "Late") true)) := h_a.or h_b (by decide) (by decide)
end My

set_option Elab.async false
set_option linter.all false
set_option maxRecDepth 100000
set_option maxHeartbeats 0
namespace My
open PySem PySem.Spec PyProof.Rows L2 G

local macro_rules | `(tactic| walk_at "ws") => `(tactic| first
  | with_reducible refine s_set ?_
  | with_reducible refine s_if ?_
  | with_reducible refine s_ret ?_
  | with_reducible refine s_retN ?_
  | with_reducible refine s_drop ?_
  | with_reducible refine s_next ?_
  | with_reducible refine s_par ?_
  | with_reducible refine s_par3 ?_
  | refine s_fldN (by assumption) (by assumption) ?_
  | with_reducible refine s_asg ?_)
local macro_rules | `(tactic| walk_at "we") => `(tactic| first
  | ((with_reducible refine w_v (d := ?k2) ?k1 ?_); (case k1 => exact rfl))
  | ((with_reducible refine w_o (j := ?k2) ?k1 ?_); (case k1 => exact rfl))
  | ((guard_target = G.WE _ _ (tFld _ _ _) _ _ _ _); (refine w_fldN (by assumption) (by assumption) ?_))
  | with_reducible refine w_ci ?_
  | with_reducible refine w_op ?_
  | with_reducible refine w_call ?_
  | with_reducible refine w_cty ?_
  | with_reducible refine w_cb ?_
  | with_reducible refine w_cn ?_
  | with_reducible refine w_cs ?_
  | with_reducible refine w_cr ?_
  | with_reducible refine w_un ?_
  | with_reducible refine w_andV ?_
  | with_reducible refine w_orV ?_
  | with_reducible refine w_notV ?_
  | with_reducible refine w_ife ?_
  | with_reducible refine w_chain ?_
  | with_reducible refine w_tup ?_
  | with_reducible refine w_slL ?_
  | with_reducible refine w_slT ?_
  | (guard_target = G.WE _ _ (tCall (lift _ (sp_draw _)) _ _ _) _ _ _ _; refine w_fn10 0 ?_)
  | (guard_target = G.WE _ _ (tCall (lift _ (sp_pick _)) _ _ _) _ _ _ _; refine w_fn10 0 ?_)
  | (guard_target = G.WE _ _ (tCall (lift _ (sp_number _)) _ _ _) _ _ _ _; refine w_fn10 0 ?_)
  | (guard_target = G.WE _ _ (tCall (lift _ (sp_right _)) _ _ _) _ _ _ _; refine w_fn10 0 ?_)
  | with_reducible refine w_fn0 ?_
  | with_reducible refine w_meth0 ?_
  | with_reducible refine w_make0 ?_
  | with_reducible refine w_bmL ?_
  | with_reducible refine w_bmL0 ?_
  | with_reducible refine w_lst ?_)
local macro_rules | `(tactic| walk_at "wt") => `(tactic| first
  | with_reducible refine w_test ?_
  | with_reducible refine w_B ?_
  | with_reducible refine w_and ?_
  | with_reducible refine w_or ?_
  | with_reducible refine w_not ?_)
local macro_rules | `(tactic| walk_at "wa") => `(tactic| first
  | with_reducible refine w_cons ?_
  | with_reducible refine w_nil ?_
  | with_reducible refine w_star ?_)
local macro_rules | `(tactic| walk_at "wr") => `(tactic| first
  | with_reducible refine w_add ?_
  | with_reducible refine w_sub ?_
  | with_reducible refine w_lt ?_
  | with_reducible refine w_le ?_
  | with_reducible refine w_gt ?_
  | with_reducible refine w_ge ?_
  | with_reducible refine w_eqI ?_
  | with_reducible refine w_neI ?_
  | with_reducible refine w_isN ?_
  | with_reducible refine w_notN ?_
  | ((with_reducible refine w_mod ?k1 ?_); (case k1 => first | decide | omega))
  | ((with_reducible refine w_mul ?k1 ?_); (case k1 => first | exact Or.inl (by constructor <;> decide) | exact Or.inr (by constructor <;> decide) | exact Or.inl (by constructor <;> omega) | exact Or.inr (by constructor <;> omega)))
  | ((with_reducible refine w_pow ?k1 ?_); (case k1 => first | exact ⟨by decide, by decide, by decide⟩ | exact ⟨by omega, by omega, by omega⟩))
  | ((with_reducible refine w_fdivW ?k1 ?_); (case k1 => exact divW_ok (by first | decide | omega) (by first | decide | omega)))
  | ((with_reducible refine w_mulW ?k1 ?_); (case k1 => exact mulW_ok (by constructor <;> omega) (by constructor <;> omega)))
  | ((guard_target = G.WR _ (rIxT _) _ _ _ _); (refine w_ixT (by first | exact atI_0 | exact atI_1 | exact atI_2 | assumption) ?_))
  | ((guard_target = G.WR _ (rIxL _) _ _ _ _); (refine w_ixL (by first | exact lstD_v | exact lstD_o rfl) (by first | exact atI_0 | exact atI_1 | exact atI_2 | assumption) ?_)))
local macro_rules | `(tactic| walk_at "wc") => `(tactic| first
  | with_reducible refine c_int ?_
  | with_reducible refine c_intB ?_
  | with_reducible refine c_abs ?_
  | ((guard_target = G.WC _ (G.rLen _) _ _ _); (refine c_lenL (by first | exact lstD_v | exact lstD_o rfl) ?_))
  | with_reducible refine c_lenT ?_
  | ((guard_target = G.WC _ (G.rListOf _) _ _ _); (refine c_listL (by first | exact lstD_v | exact lstD_o rfl) ?_))
  | with_reducible refine c_listT ?_
  | ((guard_target = G.WC _ (G.rTupOf _) _ _ _); (refine c_tupL (by first | exact lstD_v | exact lstD_o rfl) ?_))
  | with_reducible refine c_tupT ?_)
local macro_rules | `(tactic| walk_at "e") => `(tactic| first
  | (guard_target = G.WE _ _ _ _ _ _ _; walk_at "we")
  | (guard_target = G.WS _ _ _ _ _ _; walk_at "ws")
  | (guard_target = G.WA _ _ _ _ _ _ _; walk_at "wa")
  | (guard_target = G.WR _ _ _ _ _ _; walk_at "wr")
  | (guard_target = G.WT _ _ _ _ _ _ _; walk_at "wt")
  | (guard_target = G.WC _ _ _ _ _; walk_at "wc")
  | (guard_target = G.WU _ _ _ _ _; with_reducible refine w_neg ?_)
  | (guard_target = G.WG _ _ _ _ _ _ _; first | with_reducible refine g_name ?_ | with_reducible refine g_setL ?_ | refine g_pair rfl ?_ | refine g_trip rfl ?_ | refine g_quad rfl ?_)
  | (guard_target = G.WO _ _ _ _ _ _ _; first | with_reducible refine o_none ?_ | with_reducible refine o_some ?_)
  | with_reducible refine tt_ ?_
  | with_reducible refine ff_ ?_
  | with_reducible refine ntt_ ?_
  | with_reducible refine nff_ ?_
  | ((guard_target = ((!G.isNon _) = true → _) ∧ _); (first | refine bnF rfl ?_ | refine bnT rfl ?_))
  | ((guard_target = (G.isNon _ = true → _) ∧ _); (first | refine bF rfl ?_ | refine bT rfl ?_))
  | (guard_target = Exists _; first
    | refine ⟨_, _, _, _, _, rfl, rfl, rfl, rfl, rfl, ?_⟩
    | refine ⟨_, _, _, rfl, rfl, rfl, Nat.le_of_ble_eq_true rfl, ?_⟩
    | refine ⟨_, _, rfl, rfl, rfl, ?_⟩
    | refine ⟨_, _, _, rfl, ?_⟩
    | refine ⟨_, _, (by first | exact insD_v | exact insD_o rfl), rfl, ?_⟩
    | refine ⟨_, _, rfl, ?_⟩
    | refine ⟨_, rfl, rfl, ?_⟩
    | refine ⟨_, rfl, Nat.le_of_ble_eq_true rfl, ?_⟩
    | refine ⟨_, (by first | exact lstD_v | exact lstD_o rfl), ?_⟩
    | refine ⟨_, rfl, ?_⟩))
local macro_rules | `(tactic| walk_at "o") => `(tactic| first | with_reducible refine w_lstO ?_ | walk_at "e")
local macro_rules | `(tactic| walk_at "g") => `(tactic| first | walk_at "e" | with_reducible refine s_seq ?_)
local macro_rules | `(tactic| walk_at "n") => `(tactic| (with_reducible refine s_seq ?_); (repeat walk_at "e"))
theorem sc_law_lag_right : FnScope ["_law_deep", "_law_wide", "_law_some", "_law_row", "_law_slow", "_law_at", "_law_begun", "_law_quick", "_law_spot", ".0"] ["_law_deep", "_law_wide", "_law_some", "_law_row"] (defScope (top 35)) := ⟨rfl, rfl, rfl, by decide +kernel, rfl, by decide +kernel, by decide +kernel⟩
theorem ok_law_lag_right {P : Program} {w : World} {K : PySem.W.Frag} {mg : Str → Option Value} {base : Heap} (T : Tx K mg) (h_law_led : Fn P w K mg base 6 (He.fAd K ("_law_led", none)) ["_law_made", "_law_some", "_law_row"] (orS (sp_led K (He.ga K "Prompt") false) (sp_led K (He.ga K "Late") true))) (h_LateU_initU : Fn P w K mg base 4 (He.fAd K ("Late", some "__init__")) ["self", "stages", "modulus"] (sp_ch_init K (He.ga K "Late"))) (h_PromptU_initU : Fn P w K mg base 4 (He.fAd K ("Prompt", some "__init__")) ["self", "stages", "modulus"] (sp_ch_init K (He.ga K "Prompt"))) : Fn P w K mg base 7 (He.fAd K ("_law_lag_right", none)) ["_law_deep", "_law_wide", "_law_some", "_law_row"] (sp_lagright K) := by
  obtain ⟨_, F_law_led, b_law_led, kp_law_led, _⟩ := h_law_led
  obtain ⟨_, F_LateU_initU, b_LateU_initU, kp_LateU_initU, _⟩ := h_LateU_initU
  obtain ⟨_, F_PromptU_initU, b_PromptU_initU, kp_PromptU_initU, _⟩ := h_PromptU_initU
  obtain ⟨fd, F⟩ := T.d_law_lag_right
  refine ⟨fd, F.ok sc_law_lag_right (lift_len ?_) (fun cdv A outer s H vs Q E hr h => ?_), F.bindsN fun _ _ _ _ _ _ us hl => (match us, hl with | [_, _, _, _], _ => rfl), F.kp, lk_of F⟩
  · intro ts O P X h
    exact sp_lagright_len h
  · have hu := hr.units
    refine ⟨_, (PSs.nox (pss_cons (ps_set (i := 4) sc_law_lag_right.nd rfl (.inr rfl) (pe_call F_law_led (hr.mono (by decide)) (by rfl) T.g__law_led kp_law_led b_law_led .nil passL (pa_cons (pe_make T.mk_Late F_LateU_initU (hr.mono (by decide)) (by rfl) T.g_Late b_LateU_initU .nil passL (pa_cons (pv 0) (pa_cons (pv 1) pa_nil))) (pa_cons (pv 2) (pa_cons (pv 3) pa_nil)))))
    (pss_cons (ps_set (i := 6) sc_law_lag_right.nd rfl (.inl rfl) (pe_callTy (cr_tupK K) (by rfl) T.n_tuple boot_tuple (pa_cons (pe_lc (own := [(".0", 9), ("_law_at", 5)]) rfl sc_law_lag_right.nd (pi_range1 (by rfl) T.n_range (pa_cons (pv 0) pa_nil)) (blkOk_by (own := [(".0", 9), ("_law_at", 5)]) (N := ["_law_deep", "_law_wide", "_law_some", "_law_row", "_law_slow", "_law_at", "_law_begun", "_law_quick", "_law_spot", ".0"]) (sc := defScope (top 35)) (by decide +kernel)) (fun _ _ _ _ _ => (pg_name (i := 5) sc_law_lag_right.nd rfl (.inl rfl))) (fun _ _ _ _ _ => pts_nil) (fun _ _ _ _ _ => (pe_ix (ix_tupK K) (pe_ix (ix_listK K) (pe_ix (ix_tupK K) (pv 4) pe_int (fun _ _ => rfl)) (pv 5) (fun _ _ => rfl)) (pv 5) (fun _ _ => rfl)))) pa_nil)))
    (pss_cons (ps_set (i := 7) sc_law_lag_right.nd rfl (.inl rfl) (pe_call F_law_led (hr.mono (by decide)) (by rfl) T.g__law_led kp_law_led b_law_led .nil passL (pa_cons (pe_make T.mk_Prompt F_PromptU_initU (hr.mono (by decide)) (by rfl) T.g_Prompt b_PromptU_initU .nil passL (pa_cons (pv 0) (pa_cons (pv 1) pa_nil))) (pa_cons (pv 6) (pa_cons (pv 3) pa_nil)))))
    (pss_cons (ps_for PassesOwn.never rfl (pi_range1 (by rfl) T.n_range (pa_cons (pe_op op_add (pe_callB (cr_lenK K) (by rfl) T.n_len boot_len (pa_cons (pv 3) pa_nil)) pe_int) pa_nil)) (pg_name (i := 5) sc_law_lag_right.nd rfl (.inl rfl))
    (pss_one (ps_for PassesOwn.never rfl (pi_range1 (by rfl) T.n_range (pa_cons (pv 0) pa_nil)) (pg_name (i := 8) sc_law_lag_right.nd rfl (.inl rfl))
    (pss_cons (ps_if (PW.pt (pw_and (pt_cmpR op_le (pe_op op_add (pv 5) (pv 8)) (pe_callB (cr_lenK K) (by rfl) T.n_len boot_len (pa_cons (pv 3) pa_nil)) (nomark _)) (pw_and1 (pt_cmpR op_ne (pe_ix (ix_tupK K) (pe_ix (ix_listK K) (pe_ix (ix_tupK K) (pv 7) pe_int (fun _ _ => rfl)) (pv 5) (fun _ _ => rfl)) (pv 8) (fun _ _ => rfl)) (pe_ix (ix_tupK K) (pe_ix (ix_listK K) (pe_ix (ix_tupK K) (pv 4) pe_int (fun _ _ => rfl)) (pe_op op_add (pv 5) (pv 8)) (fun _ _ => rfl)) (pv 8) (fun _ _ => rfl)) (nomark _)))))
    (pss_one (ps_ret pe_bl))
    pss_nil)
    (pss_one (ps_if (PW.pt (pw_and (pt_cmpR op_lt pe_int (pv 5) (nomark _)) (pw_and (pt_cmpR op_le (pe_op op_add (pv 5) (pv 8)) (pe_callB (cr_lenK K) (by rfl) T.n_len boot_len (pa_cons (pv 3) pa_nil)) (nomark _)) (pw_and1 (pt_cmpR op_ne (pe_ix (ix_tupK K) (pe_ix (ix_listK K) (pe_ix (ix_tupK K) (pv 7) pe_int (fun _ _ => rfl)) (pe_op op_sub (pv 5) pe_int) (fun _ _ => rfl)) (pv 8) (fun _ _ => rfl)) (pe_ix (ix_tupK K) (pe_ix (ix_listK K) (pe_ix (ix_tupK K) (pv 4) pe_int (fun _ _ => rfl)) (pe_op op_sub (pe_op op_add (pv 5) (pv 8)) pe_int) (fun _ _ => rfl)) (pv 8) (fun _ _ => rfl)) (nomark _))))))
    (pss_one (ps_ret pe_bl))
    pss_nil))))))
    (pss_one (ps_ret pe_bl))))))), enter h fun ts O P X h _ => ?_⟩
    try dsimp only [cxOf, Cx.nox, Cx.wish]
    
    obtain ⟨m, st, row, rfl, rfl, hd1, hl, hm, hm2, hdr, hz, hs, hr, p⟩ := h
    show WS _ _ _ _ [.v (.int st.length), .v (.int m), .v (.lst (nums st)), .v (.lst (nums row)), .no, .no, .no, .no, .no, .no] _
    have L1 := (ld_len true m row st).1
    have L2 := (ld_len true m row st).2
    have hin : ∀ t, t ≤ row.length → InR m ((ld true m st row).1.getD t []) ∧ ((ld true m st row).1.getD t []).length = st.length := fun t ht => ld_in true hs hr _ (G.getD_mem (by omega))
    have hc2 : ∀ t, t < row.length → ((ld true m st row).2.getD t []).length = st.length := fun t ht => ld_len2 true _ (G.getD_mem (by omega))
    walk_at "n"
    refine ⟨st.length, m, rfl, rfl, by omega, by omega, hm, hm2, rfl, _, rfl, ?_⟩
    repeat walk_at "e"
    refine u_led true rfl (.inl rfl) hl hm hm2 hz hs hr ⟨⟨_, rfl⟩, ?_⟩
    walk_at "n"
    refine w_lc1 ?_ (by decide)
    refine i_rng1 ?_
    repeat walk_at "e"
    refine ⟨by omega, ?_⟩
    rw [Int.toNat_natCast]
    refine lc_R (fun i => .int (((ld true m st row).1.getD i []).getD i 0)) (by omega) (fun i acc hi => ?_) ?_
    · refine g_name ?_
      repeat walk_at "e"
      refine w_ixL lstD_v (atIM [] (by omega)) ?_
      repeat walk_at "e"
      refine w_ixT (atIN (by rw [(hin i (by omega)).2]; exact hi)) ?_
      exact ⟨rfl, rfl⟩
    obtain ⟨begun, hbg⟩ : ∃ x, x = (List.range st.length).map fun i => ((ld true m st row).1.getD i []).getD i 0 := ⟨_, rfl⟩
    have eB : (List.range st.length).map (fun i => D.int (((ld true m st row).1.getD i []).getD i 0)) = nums begun := by
      rw [hbg]
      unfold nums
      rw [List.map_map] <;> rfl
    have hbl : begun.length = st.length := by rw [hbg, List.length_map, List.length_range]
    have hb : ∀ k, k < st.length → begun.getD k 0 = ((ld true m st row).1.getD k []).getD k 0 := fun k hk => by
      rw [hbg, List.getD_eq_getElem?_getD, List.getElem?_map, List.getElem?_range hk] <;> rfl
    have hbi : InR m begun := fun x hx => by
      rw [hbg] at hx
      obtain ⟨i, hi, rfl⟩ := List.mem_map.mp hx
      have hi := List.mem_range.mp hi
      obtain ⟨a, b⟩ := hin i (by omega)
      exact a _ (G.getD_mem (by omega))
    have lagA := lag hb hbl hdr hs hbi hr
    have lagB := lag2 hb hbl hdr hs hbi hr
    have Q1 := (ld_len false m row begun).1
    have Q2 := (ld_len false m row begun).2
    have hqn : ∀ t, t ≤ row.length → InR m ((ld false m begun row).1.getD t []) ∧ ((ld false m begun row).1.getD t []).length = begun.length := fun t ht => ld_in false hbi hr _ (G.getD_mem (by omega))
    have hq2 : ∀ t, t < row.length → ((ld false m begun row).2.getD t []).length = begun.length := fun t ht => ld_len2 false _ (G.getD_mem (by omega))
    rw [eB]
    repeat walk_at "e"
    walk_at "n"
    refine ⟨st.length, m, rfl, rfl, by omega, by omega, hm, hm2, rfl, _, rfl, ?_⟩
    repeat walk_at "e"
    refine u_led false hbl.symm (.inr rfl) (by omega) hm hm2 hz hbi hr ⟨⟨_, rfl⟩, ?_⟩
    refine s_seq ?_
    refine s_forE ?_
    refine i_rng1 ?_
    repeat walk_at "e"
    rw [len_n, show ((row.length : Int) + 1).toNat = row.length + 1 by omega]
    refine ⟨by omega, ?_⟩
    refine for_R1 (fun i ts' O' => ∃ (a b c : G.T), O' = [] ∧ ts' = [.v (.int st.length), .v (.int m), .v (.lst (nums st)), .v (.lst (nums row)), .v (ledD (ld true m st row)), a, .v (.tup (nums begun)), .v (ledD (ld false m begun row)), b, c]) ⟨_, _, _, rfl, rfl⟩ ?_ ?_
    · rintro i _ _ hi ⟨a, b, c, rfl, rfl⟩
      refine g_name ?_
      refine s_forE ?_
      refine i_rng1 ?_
      repeat walk_at "e"
      refine ⟨by omega, ?_⟩
      rw [Int.toNat_natCast]
      refine for_R1 (fun q ts' O' => ∃ (b c : G.T), O' = [] ∧ ts' = [.v (.int st.length), .v (.int m), .v (.lst (nums st)), .v (.lst (nums row)), .v (ledD (ld true m st row)), .v (.int i), .v (.tup (nums begun)), .v (ledD (ld false m begun row)), b, c]) ⟨_, _, rfl, rfl⟩ ?_ ?_
      · rintro q _ _ hq ⟨b, c, rfl, rfl⟩
        refine g_name ?_
        refine s_cut (fun ts' O' => O' = [] ∧ ts' = [.v (.int st.length), .v (.int m), .v (.lst (nums st)), .v (.lst (nums row)), .v (ledD (ld true m st row)), .v (.int i), .v (.tup (nums begun)), .v (ledD (ld false m begun row)), .v (.int q), c]) ?_ ?_
        · repeat walk_at "e"
          rw [len_n]
          refine br (fun hle => ?_) (fun _ => ff_ ?_)
          · repeat walk_at "e"
            refine w_ixL lstD_v (atIM [] (by omega)) ?_
            repeat walk_at "e"
            refine w_ixT (atIN (by rw [(hqn i (by omega)).2]; omega)) ?_
            repeat walk_at "e"
            refine w_ixL lstD_v (atIZ (i + q) [] (by omega) (by omega)) ?_
            repeat walk_at "e"
            refine w_ixT (atIN (by rw [(hin (i + q) (by omega)).2]; omega)) ?_
            repeat walk_at "e"
            refine nbF (lagA q hq i (by omega)) ?_
            repeat walk_at "e"
            exact ⟨rfl, rfl⟩
          · repeat walk_at "e"
            exact ⟨rfl, rfl⟩
        · rintro _ _ ⟨rfl, rfl⟩
          repeat walk_at "e"
          refine br (fun h0 => ?_) (fun _ => ff_ ?_)
          · repeat walk_at "e"
            rw [len_n]
            refine br (fun hle => ?_) (fun _ => ff_ ?_)
            · repeat walk_at "e"
              refine w_ixL lstD_v (atIZ (i - 1) [] (by omega) (by omega)) ?_
              repeat walk_at "e"
              refine w_ixT (atIN (by rw [hq2 (i - 1) (by omega)]; omega)) ?_
              repeat walk_at "e"
              refine w_ixL lstD_v (atIZ (i - 1 + q) [] (by omega) (by omega)) ?_
              repeat walk_at "e"
              refine w_ixT (atIN (by rw [hc2 (i - 1 + q) (by omega)]; omega)) ?_
              repeat walk_at "e"
              refine nbF (lagB q hq (i - 1) (by omega)) ?_
              repeat walk_at "e"
              exact ⟨_, _, rfl, rfl⟩
            · repeat walk_at "e"
              exact ⟨_, _, rfl, rfl⟩
          · repeat walk_at "e"
            exact ⟨_, _, rfl, rfl⟩
      · rintro _ _ ⟨b, c, rfl, rfl⟩
        exact ⟨_, _, _, rfl, rfl⟩
    · rintro _ _ ⟨a, b, c, rfl, rfl⟩
      repeat walk_at "e"
      exact ⟨rfl, p⟩
theorem sc_law_right : FnScope ["_law_pen_here", "_law_wide", "_law_deep", "_law_is_late", "_law_some", "_law_row", "_law_made", "_law_standings", "_law_carries", "_law_few", "_law_less", "_law_times", "_law_more", ".0", "_law_turn", "_law_standing", "_law_gave", "_law_part"] ["_law_pen_here"] (defScope (top 36)) := ⟨rfl, rfl, rfl, by decide +kernel, rfl, by decide +kernel, by decide +kernel⟩
theorem ok_law_right {P : Program} {w : World} {K : PySem.W.Frag} {mg : Str → Option Value} {base : Heap} (T : Tx K mg) (h_law_draw : Fn P w K mg base 1 (He.fAd K ("_law_draw", none)) ["_law_pen_here", "_law_many"] (sp_draw K)) (h_law_pick : Fn P w K mg base 2 (He.fAd K ("_law_pick", none)) ["_law_pen_here", "_law_some"] (sp_pick K)) (h_law_number : Fn P w K mg base 3 (He.fAd K ("_law_number", none)) ["_law_pen_here", "_law_wide"] (sp_number K)) (h_law_chain : Fn P w K mg base 6 (He.fAd K ("_law_chain", none)) ["_law_is_late", "_law_deep", "_law_wide"] (sp_chain K)) (h_law_led : Fn P w K mg base 6 (He.fAd K ("_law_led", none)) ["_law_made", "_law_some", "_law_row"] (orS (sp_led K (He.ga K "Prompt") false) (sp_led K (He.ga K "Late") true))) (h_law_back_right : Fn P w K mg base 6 (He.fAd K ("_law_back_right", none)) ["_law_made", "_law_standings", "_law_carries", "_law_row"] (orS (sp_bright K (He.ga K "Prompt") false) (sp_bright K (He.ga K "Late") true))) (h_law_lag_right : Fn P w K mg base 7 (He.fAd K ("_law_lag_right", none)) ["_law_deep", "_law_wide", "_law_some", "_law_row"] (sp_lagright K)) : Fn P w K mg base 8 (He.fAd K ("_law_right", none)) ["_law_pen_here"] (sp_right K) := by
  obtain ⟨_, F_law_draw, b_law_draw, kp_law_draw, _⟩ := h_law_draw
  obtain ⟨_, F_law_pick, b_law_pick, kp_law_pick, _⟩ := h_law_pick
  obtain ⟨_, F_law_number, b_law_number, kp_law_number, _⟩ := h_law_number
  obtain ⟨_, F_law_chain, b_law_chain, kp_law_chain, _⟩ := h_law_chain
  obtain ⟨_, F_law_led, b_law_led, kp_law_led, _⟩ := h_law_led
  obtain ⟨_, F_law_back_right, b_law_back_right, kp_law_back_right, _⟩ := h_law_back_right
  obtain ⟨_, F_law_lag_right, b_law_lag_right, kp_law_lag_right, _⟩ := h_law_lag_right
  obtain ⟨fd, F⟩ := T.d_law_right
  refine ⟨fd, F.ok sc_law_right (lift_len ?_) (fun cdv A outer s H vs Q E hr h => ?_), F.bindsN fun _ _ _ _ _ _ us hl => (match us, hl with | [_], _ => rfl), F.kp, lk_of F⟩
  · intro ts O P X h
    exact sp_right_len h
  · have hu := hr.units
    refine ⟨_, (PSs.nox (pss_cons (ps_asg (pe_tup (pa_cons (pe_call F_law_pick (hr.mono (by decide)) (by rfl) T.g__law_pick kp_law_pick b_law_pick .nil passL (pa_cons (pv 0) (pa_cons (pe_lst (pa_cons pe_int (pa_cons pe_int (pa_cons pe_int (pa_cons pe_int (pa_cons (pe_op op_pow pe_int pe_int) (pa_cons (pe_op op_add (pe_op op_pow pe_int pe_int) pe_int) (pa_cons (pe_op op_sub (pe_op op_pow pe_int pe_int) pe_int) (pa_cons (pe_op op_pow pe_int pe_int) pa_nil))))))))) pa_nil))) (pa_cons (pe_op op_add pe_int (pe_call F_law_draw (hr.mono (by decide)) (by rfl) T.g__law_draw kp_law_draw b_law_draw .nil passL (pa_cons (pv 0) (pa_cons pe_int pa_nil)))) pa_nil))) (pg_tupK K rfl (pgs_cons (pg_name (i := 1) sc_law_right.nd rfl (.inr rfl)) (pgs_cons (pg_name (i := 2) sc_law_right.nd rfl (.inl rfl)) pgs_nil))))
    (pss_cons (ps_par (i := 3) (j := 4) rfl sc_law_right.nd rfl rfl (by decide) rfl rfl (pa_cons (pe_cmpR op_eq (pe_call F_law_draw (hr.mono (by decide)) (by rfl) T.g__law_draw kp_law_draw b_law_draw .nil passL (pa_cons (pv 0) (pa_cons pe_int pa_nil))) pe_int (nomark _)) (pa_cons (pe_lc (own := [(".0", 13), ("_law_turn", 14)]) rfl sc_law_right.nd (pi_range1 (by rfl) T.n_range (pa_cons (pv 2) pa_nil)) (blkOk_by (own := [(".0", 13), ("_law_turn", 14)]) (N := ["_law_pen_here", "_law_wide", "_law_deep", "_law_is_late", "_law_some", "_law_row", "_law_made", "_law_standings", "_law_carries", "_law_few", "_law_less", "_law_times", "_law_more", ".0", "_law_turn", "_law_standing", "_law_gave", "_law_part"]) (sc := defScope (top 36)) (by decide +kernel)) (fun _ _ _ _ _ => (pg_name (i := 14) sc_law_right.nd rfl (.inl rfl))) (fun _ _ _ _ _ => pts_nil) (fun _ _ _ _ _ => (pe_call F_law_number (hr.mono (by decide)) (by rfl) T.g__law_number kp_law_number b_law_number .nil passL (pa_cons (pv 0) (pa_cons (pv 1) pa_nil))))) pa_nil)) rfl)
    (pss_cons (ps_setLc (i := 5) (own := [(".0", 13), ("_law_turn", 14)]) rfl sc_law_right.nd rfl rfl (sw_true rfl rfl rfl (by decide +kernel)) (pi_range1 (by rfl) T.n_range (pa_cons (pe_op op_add pe_int (pe_call F_law_draw (hr.mono (by decide)) (by rfl) T.g__law_draw kp_law_draw b_law_draw .nil passL (pa_cons (pv 0) (pa_cons pe_int pa_nil)))) pa_nil)) (blkOk_by (own := [(".0", 13), ("_law_turn", 14)]) (N := ["_law_pen_here", "_law_wide", "_law_deep", "_law_is_late", "_law_some", "_law_row", "_law_made", "_law_standings", "_law_carries", "_law_few", "_law_less", "_law_times", "_law_more", ".0", "_law_turn", "_law_standing", "_law_gave", "_law_part"]) (sc := defScope (top 36)) (by decide +kernel)) (fun _ _ _ _ _ => (pg_name (i := 14) sc_law_right.nd rfl (.inl rfl))) (fun _ _ _ _ _ => pts_nil) (fun _ _ _ _ _ => (pe_call F_law_number (hr.mono (by decide)) (by rfl) T.g__law_number kp_law_number b_law_number .nil passL (pa_cons (pv 0) (pa_cons (pv 1) pa_nil)))))
    (pss_cons (ps_set (i := 6) sc_law_right.nd rfl (.inl rfl) (pe_call F_law_chain (hr.mono (by decide)) (by rfl) T.g__law_chain kp_law_chain b_law_chain .nil passL (pa_cons (pv 3) (pa_cons (pv 2) (pa_cons (pv 1) pa_nil)))))
    (pss_cons (ps_asg (pe_call F_law_led (hr.mono (by decide)) (by rfl) T.g__law_led kp_law_led b_law_led .nil passL (pa_cons (pv 6) (pa_cons (pv 4) (pa_cons (pv 5) pa_nil)))) (pg_tupK K rfl (pgs_cons (pg_name (i := 7) sc_law_right.nd rfl (.inl rfl)) (pgs_cons (pg_name (i := 8) sc_law_right.nd rfl (.inl rfl)) pgs_nil))))
    (pss_cons (ps_if (PW.pt (pw_or (pt_not (pt_val (pe_callB (call_isiK K) (by rfl) T.n_isinstance boot_isinstance (pa_cons (pv 6) (pa_cons (pe_glob (v := .ref (He.ga K "Chain")) (by rfl) T.g_Chain rfl) pa_nil))))) (pw_or (pt_not (pt_val (pe_call F_law_back_right (hr.mono (by decide)) (by rfl) T.g__law_back_right kp_law_back_right b_law_back_right .nil passL (pa_cons (pv 6) (pa_cons (pv 7) (pa_cons (pv 8) (pa_cons (pv 5) pa_nil))))))) (pw_or1 (pt_not (pt_val (pe_call F_law_lag_right (hr.mono (by decide)) (by rfl) T.g__law_lag_right kp_law_lag_right b_law_lag_right .nil passL (pa_cons (pv 2) (pa_cons (pv 1) (pa_cons (pv 4) (pa_cons (pv 5) pa_nil)))))))))))
    (pss_one (ps_ret pe_bl))
    pss_nil)
    (pss_cons (ps_set (i := 9) sc_law_right.nd rfl (.inr rfl) (pe_op op_add pe_int (pe_call F_law_draw (hr.mono (by decide)) (by rfl) T.g__law_draw kp_law_draw b_law_draw .nil passL (pa_cons (pv 0) (pa_cons (pv 2) pa_nil)))))
    (pss_cons (ps_set (i := 10) sc_law_right.nd rfl (.inl rfl) (pe_call F_law_led (hr.mono (by decide)) (by rfl) T.g__law_led kp_law_led b_law_led .nil passL (pa_cons (pe_call F_law_chain (hr.mono (by decide)) (by rfl) T.g__law_chain kp_law_chain b_law_chain .nil passL (pa_cons (pv 3) (pa_cons (pv 9) (pa_cons (pv 1) pa_nil)))) (pa_cons (pe_slice (sl_listK K) (pv 4) po_none (po_some (pv 9))) (pa_cons (pv 5) pa_nil)))))
    (pss_cons (ps_if (PW.pt (pw_or (pt_cmpR (op_neDK K hu) (pe_ix (ix_tupK K) (pv 10) pe_int (fun _ _ => rfl)) (pe_lc (own := [(".0", 13), ("_law_standing", 15)]) rfl sc_law_right.nd (pi_listK K (pv 7)) (blkOk_by (own := [(".0", 13), ("_law_standing", 15)]) (N := ["_law_pen_here", "_law_wide", "_law_deep", "_law_is_late", "_law_some", "_law_row", "_law_made", "_law_standings", "_law_carries", "_law_few", "_law_less", "_law_times", "_law_more", ".0", "_law_turn", "_law_standing", "_law_gave", "_law_part"]) (sc := defScope (top 36)) (by decide +kernel)) (fun _ _ _ _ _ => (pg_name (i := 15) sc_law_right.nd rfl (.inl rfl))) (fun _ _ _ _ _ => pts_nil) (fun _ _ _ _ _ => (pe_slice (sl_tupAK K) (pv 15) po_none (po_some (pv 9))))) (nomark _)) (pw_or1 (pt_cmpR (op_neDK K hu) (pe_ix (ix_tupK K) (pv 10) pe_int (fun _ _ => rfl)) (pe_lc (own := [(".0", 13), ("_law_gave", 16)]) rfl sc_law_right.nd (pi_listK K (pv 8)) (blkOk_by (own := [(".0", 13), ("_law_gave", 16)]) (N := ["_law_pen_here", "_law_wide", "_law_deep", "_law_is_late", "_law_some", "_law_row", "_law_made", "_law_standings", "_law_carries", "_law_few", "_law_less", "_law_times", "_law_more", ".0", "_law_turn", "_law_standing", "_law_gave", "_law_part"]) (sc := defScope (top 36)) (by decide +kernel)) (fun _ _ _ _ _ => (pg_name (i := 16) sc_law_right.nd rfl (.inl rfl))) (fun _ _ _ _ _ => pts_nil) (fun _ _ _ _ _ => (pe_slice (sl_tupAK K) (pv 16) po_none (po_some (pv 9))))) (nomark _)))))
    (pss_one (ps_ret pe_bl))
    pss_nil)
    (pss_cons (ps_set (i := 11) sc_law_right.nd rfl (.inr rfl) (pe_ifExp (pt_cmpR op_lt (pv 1) (pe_op op_pow pe_int pe_int) (nomark _)) (pe_call F_law_pick (hr.mono (by decide)) (by rfl) T.g__law_pick kp_law_pick b_law_pick .nil passL (pa_cons (pv 0) (pa_cons (pe_lst (pa_cons pe_int (pa_cons pe_int (pa_cons (pe_op op_pow pe_int pe_int) (pa_cons (pe_op op_pow pe_int pe_int) pa_nil))))) pa_nil))) pe_int))
    (pss_cons (ps_set (i := 12) sc_law_right.nd rfl (.inl rfl) (pe_call F_law_led (hr.mono (by decide)) (by rfl) T.g__law_led kp_law_led b_law_led .nil passL (pa_cons (pe_call F_law_chain (hr.mono (by decide)) (by rfl) T.g__law_chain kp_law_chain b_law_chain .nil passL (pa_cons (pv 3) (pa_cons (pv 2) (pa_cons (pe_op op_mulW (pv 1) (pv 11)) pa_nil)))) (pa_cons (pe_lc (own := [(".0", 13), ("_law_part", 17)]) rfl sc_law_right.nd (pi_listK K (pv 4)) (blkOk_by (own := [(".0", 13), ("_law_part", 17)]) (N := ["_law_pen_here", "_law_wide", "_law_deep", "_law_is_late", "_law_some", "_law_row", "_law_made", "_law_standings", "_law_carries", "_law_few", "_law_less", "_law_times", "_law_more", ".0", "_law_turn", "_law_standing", "_law_gave", "_law_part"]) (sc := defScope (top 36)) (by decide +kernel)) (fun _ _ _ _ _ => (pg_name (i := 17) sc_law_right.nd rfl (.inl rfl))) (fun _ _ _ _ _ => pts_nil) (fun _ _ _ _ _ => (pe_op op_mulW (pv 17) (pv 11)))) (pa_cons (pe_lc (own := [(".0", 13), ("_law_part", 17)]) rfl sc_law_right.nd (pi_listK K (pv 5)) (blkOk_by (own := [(".0", 13), ("_law_part", 17)]) (N := ["_law_pen_here", "_law_wide", "_law_deep", "_law_is_late", "_law_some", "_law_row", "_law_made", "_law_standings", "_law_carries", "_law_few", "_law_less", "_law_times", "_law_more", ".0", "_law_turn", "_law_standing", "_law_gave", "_law_part"]) (sc := defScope (top 36)) (by decide +kernel)) (fun _ _ _ _ _ => (pg_name (i := 17) sc_law_right.nd rfl (.inl rfl))) (fun _ _ _ _ _ => pts_nil) (fun _ _ _ _ _ => (pe_op op_mulW (pv 17) (pv 11)))) pa_nil)))))
    (pss_one (ps_ret (pe_and (pe_cmpR (op_eqDK K hu) (pe_ix (ix_tupK K) (pv 12) pe_int (fun _ _ => rfl)) (pv 8) (nomark _)) (pe_one (pe_cmpR (op_eqDK K hu) (pe_ix (ix_listK K) (pe_ix (ix_tupK K) (pv 12) pe_int (fun _ _ => rfl)) (pe_un un_neg pe_int) (fun _ _ => rfl)) (pe_callTy (cr_tupK K) (by rfl) T.n_tuple boot_tuple (pa_cons (pe_lc (own := [(".0", 13), ("_law_part", 17)]) rfl sc_law_right.nd (pi_tupK K (pe_ix (ix_listK K) (pv 7) (pe_un un_neg pe_int) (fun _ _ => rfl))) (blkOk_by (own := [(".0", 13), ("_law_part", 17)]) (N := ["_law_pen_here", "_law_wide", "_law_deep", "_law_is_late", "_law_some", "_law_row", "_law_made", "_law_standings", "_law_carries", "_law_few", "_law_less", "_law_times", "_law_more", ".0", "_law_turn", "_law_standing", "_law_gave", "_law_part"]) (sc := defScope (top 36)) (by decide +kernel)) (fun _ _ _ _ _ => (pg_name (i := 17) sc_law_right.nd rfl (.inl rfl))) (fun _ _ _ _ _ => pts_nil) (fun _ _ _ _ _ => (pe_op op_mulW (pv 17) (pv 11)))) pa_nil)) (nomark _)))))))))))))))))), enter h fun ts O P X h _ => ?_⟩
    try dsimp only [cxOf, Cx.nox, Cx.wish]
    
    obtain ⟨n, p, rfl, rfl, hp, hn, k⟩ := h
    show WS _ _ _ _ [.own 0, .no, .no, .no, .no, .no, .no, .no, .no, .no, .no, .no, .no, .no, .no, .no, .no, .no] _
    refine s_cut (fun ts' O' => ∃ (m : Int) (s : Nat) (p' : List D), 2 ≤ m ∧ m ≤ 1000000000000000000000000000000 ∧ 1 ≤ s ∧ s ≤ 6 ∧ Pen (n + 2) p' ∧ O' = [.lst p'] ∧ ts' = [.own 0, .v (.int m), .v (.int s), .no, .no, .no, .no, .no, .no, .no, .no, .no, .no, .no, .no, .no, .no, .no]) ?_ ?_
    · repeat walk_at "e"
      refine u_pick hp (by omega) (Nat.le_of_ble_eq_true rfl) (Nat.le_of_ble_eq_true rfl) fun p1 j d hp1 hd => ⟨_, rfl, nno, ?_⟩
      obtain ⟨m, rfl, hm1, hm2⟩ : ∃ v, d = .int v ∧ 2 ≤ v ∧ v ≤ 1000000000000000000000000000000 := by
        have hm := List.mem_of_getElem? hd
        simp only [List.mem_cons, List.not_mem_nil, or_false] at hm
        rcases hm with rfl | rfl | rfl | rfl | rfl | rfl | rfl | rfl <;> exact ⟨_, rfl, by decide, by decide⟩
      repeat walk_at "e"
      refine u_draw hp1 (by omega) (by decide) (by decide) fun p2 r hp2 a0 b0 => ⟨_, rfl, nno, ?_⟩
      repeat walk_at "e"
      obtain ⟨s, rfl⟩ : ∃ s : Nat, r = s := ⟨r.toNat, by omega⟩
      refine ⟨m, s + 1, _, hm1, hm2, by omega, by omega, hp2, rfl, ?_⟩
      rw [show ((s + 1 : Nat) : Int) = 1 + (s : Int) by omega]
      exact rfl
    rintro _ _ ⟨m, s, p1, hm1, hm2, hs1, hs2, hp1, rfl, rfl⟩
    refine s_cut (fun ts' O' => ∃ (b : Bool) (st : List Int) (p' : List D), 1 ≤ st.length ∧ st.length ≤ 6 ∧ InR m st ∧ Pen (n + 15) p' ∧ O' = [.lst p'] ∧ ts' = [.own 0, .v (.int m), .v (.int st.length), .v (.bl b), .v (.lst (nums st)), .no, .no, .no, .no, .no, .no, .no, .no, .no, .no, .no, .no, .no]) ?_ ?_
    · repeat walk_at "e"
      refine u_draw hp1 (by omega) (by decide) (by decide) fun p2 r hp2 a0 b0 => ⟨_, rfl, nno, ?_⟩
      repeat walk_at "e"
      refine w_lc1 ?_ (by decide)
      refine i_rng1 ?_
      repeat walk_at "e"
      refine ⟨by omega, ?_⟩
      rw [Int.toNat_natCast]
      refine lc_RI (by omega) (fun i acc O' => ∃ (xs : List Int) (p' : List D), acc = nums xs ∧ xs.length = i ∧ InR m xs ∧ Pen (n + 3 + 2 * i) p' ∧ O' = [.lst p']) ⟨[], _, rfl, rfl, .nil, hp2, rfl⟩ ?_ ?_ ?_
      · rintro i _ _ ⟨xs, p', rfl, rfl, _, _, rfl⟩
        exact ⟨rfl, nums_len⟩
      · rintro i _ _ hi ⟨xs, p', rfl, hxl, hx, hp', rfl⟩
        refine g_name ?_
        repeat walk_at "e"
        refine ⟨_, _, m, rfl, rfl, hp', by omega, hm1, hm2, fun p3 r hp3 a0 b0 => ⟨_, rfl, nno, ?_⟩⟩
        exact ⟨_, _, rfl, rfl, xs ++ [r], p3, nums_app, by rw [List.length_append, hxl] <;> rfl, hx.snoc a0 b0, hp3, rfl⟩
      · rintro _ _ ⟨xs, p', rfl, hxl, hx, hp', rfl⟩
        subst hxl
        repeat walk_at "e"
        exact ⟨_, xs, _, hs1, hs2, hx, hp'.mono (by omega), rfl, rfl⟩
    rintro _ _ ⟨b, st, p2, hs1, hs2, hst, hp2, rfl, rfl⟩
    refine s_cut (fun ts' O' => ∃ (row : List Int) (p' : List D), 10 ≤ row.length ∧ row.length ≤ 40 ∧ InR m row ∧ Pen (n + 96) p' ∧ O' = [.lst p'] ∧ ts' = [.own 0, .v (.int m), .v (.int st.length), .v (.bl b), .v (.lst (nums st)), .v (.lst (nums row)), .no, .no, .no, .no, .no, .no, .no, .no, .no, .no, .no, .no]) ?_ ?_
    · repeat walk_at "e"
      refine w_lc1 ?_ (by decide)
      refine i_rng1 ?_
      repeat walk_at "e"
      refine u_draw hp2 (by omega) (by decide) (by decide) fun p3 r hp3 a0 b0 => ⟨_, rfl, nno, ?_⟩
      repeat walk_at "e"
      refine ⟨by omega, ?_⟩
      obtain ⟨s, hsr⟩ : ∃ s : Nat, (10 + r).toNat = s := ⟨_, rfl⟩
      rw [hsr]
      refine lc_RI (by omega) (fun i acc O' => ∃ (xs : List Int) (p' : List D), acc = nums xs ∧ xs.length = i ∧ InR m xs ∧ Pen (n + 16 + 2 * i) p' ∧ O' = [.lst p']) ⟨[], _, rfl, rfl, .nil, hp3, rfl⟩ ?_ ?_ ?_
      · rintro i _ _ ⟨xs, p', rfl, rfl, _, _, rfl⟩
        exact ⟨rfl, nums_len⟩
      · rintro i _ _ hi ⟨xs, p', rfl, hxl, hx, hp', rfl⟩
        refine g_name ?_
        repeat walk_at "e"
        refine ⟨_, _, m, rfl, rfl, hp', by omega, hm1, hm2, fun p3 r hp3 a0 b0 => ⟨_, rfl, nno, ?_⟩⟩
        exact ⟨_, _, rfl, rfl, xs ++ [r], p3, nums_app, by rw [List.length_append, hxl] <;> rfl, hx.snoc a0 b0, hp3, rfl⟩
      · rintro _ _ ⟨xs, p', rfl, hxl, hx, hp', rfl⟩
        repeat walk_at "e"
        exact ⟨xs, _, by omega, by omega, hx, hp'.mono (by omega), rfl, rfl⟩
    rintro _ _ ⟨row, p3, hr1, hr2, hrow, hp3, rfl, rfl⟩
    have S1 := (ld_len b m row st).1
    have S2 := (ld_len b m row st).2
    have hin : ∀ x ∈ (ld b m st row).1, InR m x ∧ x.length = st.length := ld_in b hst hrow
    have hin2 : ∀ x ∈ (ld b m st row).2, x.length = st.length := fun x hx => ld_len2 b x hx
    have hit : InsTy K (chC K b) := by
      cases b
      · exact T.it_Prompt
      · exact T.it_Late
    have hki : PySem.W.kitOne K (.ref (chC K b)) (.ref (He.ga K "Chain")) = some true := by
      cases b
      · exact T.kit_Prompt_Chain
      · exact T.kit_Late_Chain
    walk_at "n"
    refine ⟨b, st.length, m, rfl, rfl, by omega, by omega, hm1, hm2, ⟨⟨_, rfl⟩, ?_⟩⟩
    walk_at "n"
    refine u_led b rfl (.inl rfl) hs2 hm1 hm2 (by omega) hst hrow ⟨⟨_, rfl⟩, ?_⟩
    refine g_pair rfl ?_
    walk_at "n"
    refine c_isi (.ins _ _ hit) (.own _) hki ?_
    repeat walk_at "e"
    refine u_bright b hs2 hm1 hm2 (by omega) hst hrow ⟨⟨_, rfl⟩, ?_⟩
    repeat walk_at "e"
    refine ⟨m, st, row, rfl, rfl, hs1, hs2, hm1, hm2, by omega, by omega, hst, hrow, ⟨⟨_, rfl⟩, ?_⟩⟩
    repeat walk_at "e"
    refine s_cut (fun ts' O' => ∃ (f : Nat) (p' : List D), 1 ≤ f ∧ f ≤ st.length ∧ Pen (n + 97) p' ∧ O' = [.lst p'] ∧ ts' = [.own 0, .v (.int m), .v (.int st.length), .v (.bl b), .v (.lst (nums st)), .v (.lst (nums row)), .v (chD (chC K b) st.length m), .v (.lst ((ld b m st row).1.map tupN)), .v (.lst ((ld b m st row).2.map tupN)), .v (.int f), .no, .no, .no, .no, .no, .no, .no, .no]) ?_ ?_
    · repeat walk_at "e"
      refine u_draw hp3 (by omega) (by omega) (by omega) fun p4 r hp4 a0 b0 => ⟨_, rfl, nno, ?_⟩
      repeat walk_at "e"
      obtain ⟨s, rfl⟩ : ∃ s : Nat, r = s := ⟨r.toNat, by omega⟩
      refine ⟨s + 1, _, by omega, by omega, hp4, rfl, ?_⟩
      rw [show ((s + 1 : Nat) : Int) = 1 + (s : Int) by omega]
      exact rfl
    rintro _ _ ⟨f, p4, hf1, hf2, hp4, rfl, rfl⟩
    have hfl : f = (st.take f).length := by rw [List.length_take]; omega
    walk_at "n"
    refine ⟨b, f, m, rfl, rfl, by omega, by omega, hm1, hm2, ⟨⟨_, rfl⟩, ?_⟩⟩
    repeat walk_at "e"
    rw [cut_nums hf2]
    refine u_led b hfl (.inl rfl) (by omega) hm1 hm2 (by omega) (hst.take f) hrow ⟨⟨_, rfl⟩, ?_⟩
    rw [ld_take]
    walk_at "n"
    refine w_lc1 ?_ (by decide)
    refine i_list ?_
    repeat walk_at "e"
    refine lc_A (ld b m st row).1 tupN (fun x => tupN (x.take f)) (by omega) (fun x acc hx => ?_) ?_
    · refine g_name ?_
      repeat walk_at "e"
      exact ⟨congrArg (fun z => G.T.v (.tup z)) (cut_nums (by rw [(hin x hx).2]; exact hf2)), rfl⟩
    refine w_neF (d := .lst (((ld b m st row).1.map (List.take f)).map tupN)) valD_v (.inl (congrArg (fun z => G.T.v (.lst z)) (by rw [List.map_map] <;> rfl))) pl_tups ?_
    repeat walk_at "e"
    refine w_lc1 ?_ (by decide)
    refine i_list ?_
    repeat walk_at "e"
    refine lc_A (ld b m st row).2 tupN (fun x => tupN (x.take f)) (by omega) (fun x acc hx => ?_) ?_
    · refine g_name ?_
      repeat walk_at "e"
      exact ⟨congrArg (fun z => G.T.v (.tup z)) (cut_nums (by rw [hin2 x hx]; exact hf2)), rfl⟩
    refine w_neF (d := .lst (((ld b m st row).2.map (List.take f)).map tupN)) valD_v (.inl (congrArg (fun z => G.T.v (.lst z)) (by rw [List.map_map] <;> rfl))) pl_tups ?_
    repeat walk_at "e"
    refine s_cut (fun ts' O' => ∃ (kt : Int) (x : G.T) (p' : List D), 0 < kt ∧ m * kt ≤ 1000000000000000000000000000000 ∧ kt ≤ 1000000000000000000000000000000 ∧ Pen (n + 98) p' ∧ O' = [.lst p'] ∧ ts' = [.own 0, .v (.int m), .v (.int st.length), .v (.bl b), .v (.lst (nums st)), .v (.lst (nums row)), .v (chD (chC K b) st.length m), .v (.lst ((ld b m st row).1.map tupN)), .v (.lst ((ld b m st row).2.map tupN)), .v (.int f), x, .v (.int kt), .no, .no, .no, .no, .no, .no]) ?_ ?_
    · repeat walk_at "e"
      refine br (fun hlt => ?_) (fun _ => ?_)
      · repeat walk_at "e"
        refine u_pick hp4 (by omega) (Nat.le_of_ble_eq_true rfl) (Nat.le_of_ble_eq_true rfl) fun p5 j d hp5 hd => ⟨_, rfl, nno, ?_⟩
        obtain ⟨kt, rfl, hk1, hk2⟩ : ∃ v, d = .int v ∧ 0 < v ∧ v ≤ 1000000000000000000 := by
          have hm := List.mem_of_getElem? hd
          simp only [List.mem_cons, List.not_mem_nil, or_false] at hm
          rcases hm with rfl | rfl | rfl | rfl <;> exact ⟨_, rfl, by decide, by decide⟩
        have hlt2 : m < 1000000000000 := hlt
        have hmk := mulB (x := m) (y := kt) (a := 1000000000000) (b := 1000000000000000000) (by omega) (by omega) (by omega) hk2
        exact ⟨kt, _, _, hk1, by omega, by omega, hp5, rfl, rfl⟩
      · repeat walk_at "e"
        exact ⟨1, _, _, by decide, by omega, by omega, hp4.mono (by omega), rfl, rfl⟩
    rintro _ _ ⟨kt, x, p5, hk0, hk1, hk2, hp5, rfl, rfl⟩
    have hmk2 : 2 ≤ m * kt := by
      have := Int.mul_le_mul (a := 2) (c := m) (b := 1) (d := kt) hm1 (by omega) (by omega) (by omega)
      omega
    walk_at "n"
    refine ⟨b, st.length, m * kt, rfl, rfl, by omega, by omega, hmk2, hk1, ⟨⟨_, rfl⟩, ?_⟩⟩
    repeat walk_at "e"
    refine w_lc1 ?_ (by decide)
    refine i_list ?_
    repeat walk_at "e"
    refine lc_A st D.int (fun x => .int (x * kt)) (by omega) (fun x acc hx => ?_) ?_
    · obtain ⟨x1, x2⟩ := hst x hx
      refine g_name ?_
      repeat walk_at "e"
      exact ⟨rfl, rfl⟩
    repeat walk_at "e"
    refine w_lc1 ?_ (by decide)
    refine i_list ?_
    repeat walk_at "e"
    refine lc_A row D.int (fun x => .int (x * kt)) (by omega) (fun x acc hx => ?_) ?_
    · obtain ⟨x1, x2⟩ := hrow x hx
      refine g_name ?_
      repeat walk_at "e"
      exact ⟨rfl, rfl⟩
    rw [show st.map (fun x => D.int (x * kt)) = nums (st.map (· * kt)) by unfold nums; rw [List.map_map] <;> rfl, show row.map (fun x => D.int (x * kt)) = nums (row.map (· * kt)) by unfold nums; rw [List.map_map] <;> rfl]
    repeat walk_at "e"
    refine u_led b (by rw [List.length_map]) (.inl rfl) (by rw [List.length_map]; omega) hmk2 hk1 (by rw [List.length_map]; omega) (hst.mul hk0) (hrow.mul hk0) ⟨⟨_, rfl⟩, ?_⟩
    rw [ld_mul b hk0]
    repeat walk_at "e"
    refine w_eqT valD_v valD_v pl_tups ?_
    repeat walk_at "e"
    refine w_ixL lstD_v (atInegM [] (n := row.length) (by rw [List.length_map, S1])) ?_
    repeat walk_at "e"
    refine w_lc1 ?_ (by decide)
    refine i_tup ?_
    repeat walk_at "e"
    refine w_ixL lstD_v (atInegM [] S1) ?_
    repeat walk_at "e"
    obtain ⟨hl1, hl2⟩ := hin _ (G.getD_mem (xs := (ld b m st row).1) (i := row.length) (d := []) (by omega))
    refine lc_A ((ld b m st row).1.getD row.length []) D.int (fun x => .int (x * kt)) (by omega) (fun x acc hx => ?_) ?_
    · obtain ⟨x1, x2⟩ := hl1 x hx
      refine g_name ?_
      repeat walk_at "e"
      exact ⟨rfl, rfl⟩
    repeat walk_at "e"
    have eL : ((ld b m st row).1.map (List.map (· * kt))).getD row.length [] = ((ld b m st row).1.getD row.length []).map (· * kt) := by
      rw [List.getD_eq_getElem?_getD, List.getElem?_map, getD_some (d := []) (xs := (ld b m st row).1) (by omega)] <;> rfl
    rw [eL]
    refine w_eqT (d := tupN (((ld b m st row).1.getD row.length []).map (· * kt))) valD_v (.inl (congrArg (fun z => G.T.v (.tup z)) (by unfold nums; rw [List.map_map] <;> rfl))) pl_tupN ?_
    exact ⟨rfl, k _ (hp5.mono (by omega))⟩
theorem sc_law : FnScope ["_law_script", "_law_pen_here", "_law_turn"] ["_law_script"] (defScope (top 37)) := ⟨rfl, rfl, rfl, by decide +kernel, rfl, by decide +kernel, by decide +kernel⟩
theorem ok_law {P : Program} {w : World} {K : PySem.W.Frag} {mg : Str → Option Value} {base : Heap} (T : Tx K mg) (h_law_pen : FnR P w K mg base 1 (He.fAd K ("_law_pen", none)) ["_law_script"] (penSp K 63)) (h_law_right : Fn P w K mg base 8 (He.fAd K ("_law_right", none)) ["_law_pen_here"] (sp_right K)) : Fn P w K mg base 9 (He.fAd K ("law", none)) ["_law_script"] (sp_law K) := by
  obtain ⟨_, F_law_pen, b_law_pen, kp_law_pen, _⟩ := h_law_pen
  obtain ⟨_, F_law_right, b_law_right, kp_law_right, _⟩ := h_law_right
  obtain ⟨fd, F⟩ := T.d_law
  refine ⟨fd, F.ok sc_law (lift_len ?_) (fun cdv A outer s H vs Q E hr h => ?_), F.bindsN fun _ _ _ _ _ _ us hl => (match us, hl with | [_], _ => rfl), F.kp, lk_of F⟩
  · intro ts O P X h
    exact sp_law_len h
  · have hu := hr.units
    refine ⟨_, (PSs.nox (pss_cons (ps_set (i := 1) sc_law.nd rfl (.inl rfl) (pe_call F_law_pen (hr.mono (by decide)) (by rfl) T.g__law_pen kp_law_pen b_law_pen .nil passL (pa_cons (pv 0) pa_nil)))
    (pss_cons (ps_for PassesOwn.never rfl (pi_range1 (by rfl) T.n_range (pa_cons pe_int pa_nil)) (pg_name (i := 2) sc_law.nd rfl (.inl rfl))
    (pss_one (ps_if (pt_not (pt_val (pe_call F_law_right (hr.mono (by decide)) (by rfl) T.g__law_right kp_law_right b_law_right .nil passL (pa_cons (pv 1) pa_nil))))
    (pss_one (ps_ret pe_bl))
    pss_nil)))
    (pss_one (ps_ret pe_bl))))), enter h fun ts O P X h _ => ?_⟩
    try dsimp only [cxOf, Cx.nox, Cx.wish]
    
    obtain ⟨cs, rfl, rfl, hcs, p⟩ := h
    show WS _ _ _ _ [.v (.lst (nums cs)), .no, .no] _
    refine s_seq ?_
    refine s_set ?_
    refine w_pen ?_
    repeat walk_at "e"
    intro p0 hp0
    refine s_seq ?_
    refine s_forE ?_
    refine i_rng1 ?_
    repeat walk_at "e"
    refine ⟨by decide, ?_⟩
    refine for_R1 (n := 5) (fun i ts' O' => ∃ (q : List D) (x : G.T), Pen (1000 * i) q ∧ O' = [.lst q] ∧ ts' = [.v (.lst (nums cs)), .own 0, x]) ⟨_, _, hp0, rfl, rfl⟩ ?_ ?_
    · rintro i _ _ hi ⟨q, x, hq, rfl, rfl⟩
      refine g_name ?_
      repeat walk_at "e"
      refine ⟨_, _, rfl, rfl, hq, by omega, fun p' hp' => ⟨_, rfl, nno, ?_⟩⟩
      repeat walk_at "e"
      exact ⟨_, _, hp'.mono (by omega), rfl, rfl⟩
    · rintro _ _ ⟨q, x, hq, rfl, rfl⟩
      repeat walk_at "e"
      exact ⟨rfl, p⟩
end My

set_option Elab.async false
set_option linter.all false
set_option maxRecDepth 100000
set_option maxHeartbeats 0
namespace My
open PySem PySem.Spec PyProof.Rows L2 G
theorem facts {P : Program} {w : World} {K : PySem.W.Frag} {h : Heap} {mg : Str → Option Value} {f : Addr} (X : K.In h) (G : h.Ns mainGlobals mg) (hfa : mg ("law" : Str) = some (.ref f)) (c : He.SaysD fa fn K) (e : ex K = true) :
    ∃ fd : FuncData, (∀ (s : Shared) (v : Value), BindsTo s fd ⟨[v], []⟩ [("_law_script", v)]) ∧ ∀ base : Heap, K.In base → base.Ns mainGlobals mg → FnOk P w K mg base (CXa P) 9 f fd ["_law_script"] (lift K (_root_.G.sp_law K)) := by
  have T := tx X G c e
  have ef := hfa.symm.trans T.g_law
  cases ef
  obtain ⟨fd, F⟩ := T.d_law
  have b := FunD.bindsA (ps := ["_law_script"]) F fun _ _ _ _ _ _ us hl => match us, hl with | [_], _ => rfl
  refine ⟨fd, fun s v => b s [v] rfl, fun base _ _ => ?_⟩
  have h_is_integer : Fn P w K mg base 1 (He.fAd K ("is_integer", none)) ["value"] (sp_is_integer K) := ok_is_integer T 
  have h_is_between : Fn P w K mg base 2 (He.fAd K ("is_between", none)) ["value", "low", "high"] (sp_is_between K) := ok_is_between T h_is_integer
  have h_fits_modulus : Fn P w K mg base 3 (He.fAd K ("fits_modulus", none)) ["value"] (sp_fits_modulus K) := ok_fits_modulus T h_is_between
  have h_is_row : Fn P w K mg base 1 (He.fAd K ("is_row", none)) ["value"] (sp_is_row K) := ok_is_row T 
  have h_first_odd : Fn P w K mg base 3 (He.fAd K ("first_odd", none)) ["values", "low", "high"] (sp_first_odd K) := ok_first_odd T h_is_between
  have h_law_pen : FnR P w K mg base 1 (He.fAd K ("_law_pen", none)) ["_law_script"] (penSp K 63) := ok_law_pen T 
  have h_law_draw : Fn P w K mg base 1 (He.fAd K ("_law_draw", none)) ["_law_pen_here", "_law_many"] (sp_draw K) := ok_law_draw T 
  have h_law_pick : Fn P w K mg base 2 (He.fAd K ("_law_pick", none)) ["_law_pen_here", "_law_some"] (sp_pick K) := ok_law_pick T h_law_draw
  have h_PromptU_initU : Fn P w K mg base 4 (He.fAd K ("Prompt", some "__init__")) ["self", "stages", "modulus"] (sp_ch_init K (He.ga K "Prompt")) := ok_PromptU_initU T h_is_between h_fits_modulus
  have h_Prompt_need_fit : Fn P w K mg base 4 (He.fAd K ("Prompt", some "need_fit")) ["self", "rests", "number"] (sp_need_fit K (He.ga K "Prompt")) := ok_Prompt_need_fit T h_is_row h_first_odd h_is_between
  have h_Prompt_handed : Fn P w K mg base 1 (He.fAd K ("Prompt", some "handed")) ["self", "old", "new"] (sp_handed K (He.ga K "Prompt") false) := ok_Prompt_handed T 
  have h_beat_of_P : Fn P w K mg base 2 (He.fAd K ("beat_of", none)) ["chain", "rests", "number"] (sp_beat K (He.ga K "Prompt") false) := ok_beat_of_P T h_Prompt_handed
  have h_Prompt_step : Fn P w K mg base 5 (He.fAd K ("Prompt", some "step")) ["self", "rests", "number"] (sp_beat K (He.ga K "Prompt") false) := ok_Prompt_step T h_Prompt_need_fit h_beat_of_P
  have h_Prompt_back : Fn P w K mg base 5 (He.fAd K ("Prompt", some "back")) ["self", "rests", "number"] (sp_back K (He.ga K "Prompt") false) := ok_Prompt_back T h_Prompt_need_fit h_Prompt_handed
  have h_LateU_initU : Fn P w K mg base 4 (He.fAd K ("Late", some "__init__")) ["self", "stages", "modulus"] (sp_ch_init K (He.ga K "Late")) := ok_LateU_initU T h_is_between h_fits_modulus
  have h_Late_need_fit : Fn P w K mg base 4 (He.fAd K ("Late", some "need_fit")) ["self", "rests", "number"] (sp_need_fit K (He.ga K "Late")) := ok_Late_need_fit T h_is_row h_first_odd h_is_between
  have h_Late_handed : Fn P w K mg base 1 (He.fAd K ("Late", some "handed")) ["self", "old", "new"] (sp_handed K (He.ga K "Late") true) := ok_Late_handed T 
  have h_beat_of_L : Fn P w K mg base 2 (He.fAd K ("beat_of", none)) ["chain", "rests", "number"] (sp_beat K (He.ga K "Late") true) := ok_beat_of_L T h_Late_handed
  have h_Late_step : Fn P w K mg base 5 (He.fAd K ("Late", some "step")) ["self", "rests", "number"] (sp_beat K (He.ga K "Late") true) := ok_Late_step T h_Late_need_fit h_beat_of_L
  have h_Late_back : Fn P w K mg base 5 (He.fAd K ("Late", some "back")) ["self", "rests", "number"] (sp_back K (He.ga K "Late") true) := ok_Late_back T h_Late_need_fit h_Late_handed
  have h_law_number : Fn P w K mg base 3 (He.fAd K ("_law_number", none)) ["_law_pen_here", "_law_wide"] (sp_number K) := ok_law_number T h_law_pick h_law_draw
  have h_law_chain : Fn P w K mg base 6 (He.fAd K ("_law_chain", none)) ["_law_is_late", "_law_deep", "_law_wide"] (sp_chain K) := ok_law_chain T h_LateU_initU h_PromptU_initU
  have h_law_led_P : Fn P w K mg base 6 (He.fAd K ("_law_led", none)) ["_law_made", "_law_some", "_law_row"] (sp_led K (He.ga K "Prompt") false) := ok_law_led_P T h_Prompt_step
  have h_law_back_right_P : Fn P w K mg base 6 (He.fAd K ("_law_back_right", none)) ["_law_made", "_law_standings", "_law_carries", "_law_row"] (sp_bright K (He.ga K "Prompt") false) := ok_law_back_right_P T h_Prompt_back
  have h_law_led_L : Fn P w K mg base 6 (He.fAd K ("_law_led", none)) ["_law_made", "_law_some", "_law_row"] (sp_led K (He.ga K "Late") true) := ok_law_led_L T h_Late_step
  have h_law_back_right_L : Fn P w K mg base 6 (He.fAd K ("_law_back_right", none)) ["_law_made", "_law_standings", "_law_carries", "_law_row"] (sp_bright K (He.ga K "Late") true) := ok_law_back_right_L T h_Late_back
  have h_law_led : Fn P w K mg base 6 (He.fAd K ("_law_led", none)) ["_law_made", "_law_some", "_law_row"] (orS (sp_led K (He.ga K "Prompt") false) (sp_led K (He.ga K "Late") true)) := ok_law_led h_law_led_P h_law_led_L
  have h_law_back_right : Fn P w K mg base 6 (He.fAd K ("_law_back_right", none)) ["_law_made", "_law_standings", "_law_carries", "_law_row"] (orS (sp_bright K (He.ga K "Prompt") false) (sp_bright K (He.ga K "Late") true)) := ok_law_back_right h_law_back_right_P h_law_back_right_L
  have h_law_lag_right : Fn P w K mg base 7 (He.fAd K ("_law_lag_right", none)) ["_law_deep", "_law_wide", "_law_some", "_law_row"] (sp_lagright K) := ok_law_lag_right T h_law_led h_LateU_initU h_PromptU_initU
  have h_law_right : Fn P w K mg base 8 (He.fAd K ("_law_right", none)) ["_law_pen_here"] (sp_right K) := ok_law_right T h_law_draw h_law_pick h_law_number h_law_chain h_law_led h_law_back_right h_law_lag_right
  have h_law : Fn P w K mg base 9 (He.fAd K ("law", none)) ["_law_script"] (sp_law K) := ok_law T h_law_pen h_law_right
  exact fn_end h_law (lk_of F) (by decide)
end My
open PySem PySem.W PySem.Calls PyProof.Rows
theorem PySem.Challenge.cw_restchains_k47_whole_beats_there_and_bac_holds : PySem.Challenge.rw_restchains_k47_whole_beats_there_and_bac.Holds := by
  w_on; o_law
  refine HandSHeadRun.head_any (r := My.R) (q := view My.R.prog [37]) (H := My.hk) (ob := My.ob) (M := 6000) (loose := My.loose) (d := HandSHeadRun.topDef My.R.prog 37) (kwd := []) My.ob_eq
    (by kernel_rfl) (fun s => by kernel_rfl) My.run (by kernel_rfl) (by kernel_rfl) (by kernel_rfl) (by rfl) (by first | assumption | decide +kernel) (by decide +kernel) ⟨rfl, rfl, rfl, rfl, rfl, by decide +kernel⟩ ?hw ?hc
  case hw => w_witness2
  case hc =>
    refine L2.walk_ofE (l := PySem.Challenge.rw_restchains_k47_whole_beats_there_and_bac) (n := 63) (k := 9) (x := "_law_script") (CX := G.CXa My.R.prog) rfl (by decide) (by kernel_rfl) ⟨rfl, by decide, by decide⟩ ?F (fun _ _ _ _ z => G.cxa_nil z)
    intro w mg fa h Y G hmg0
    obtain ⟨K, KX, c, e⟩ := Y
    have hmg : mg ("law" : PySem.Str) = some (.ref fa) := by
      have e0 : (HandSHeadRun.topDef My.R.prog 37).name = ("law" : PySem.Str) := by kernel_rfl
      rw [← e0]
      exact hmg0
    obtain ⟨fd, hb, hF⟩ := My.facts (P := My.R.prog) (w := w) KX G hmg c e
    exact ⟨K, fd, _, KX, hb, fun H a ns hl _ hS => _root_.G.law_lift (Nat.le_trans hl (by decide)) hS, hF⟩


