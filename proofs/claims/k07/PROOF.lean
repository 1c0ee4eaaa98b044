import PyProof.Rows.All
import Wide.All
import OpenK.AllK
import Wide.FinOn
import KE.KStateDown
import HandS.ForMost
import HandS.Defaults
import HandS.Head2
import HandS.HeadEnd
import HandS.HeadHook2
import HandS.Wide
import HandS.IsInst
import HandS.Star
import HandS.Evl
import HandS.TryOnly
import HandS.ExcOwn
import HandS.WordsExc
import HandS.Zip
import HandS.Rev
import HandS.TupAny
import HandS.Style
import HandS.Steps
import KE.GoesEnum
import PySem.Challenge.RW_restchains_k07_whole_numbers_by_their_pa
import HandS.More
set_option Elab.async false
set_option linter.all false
set_option maxRecDepth 100000
set_option maxHeartbeats 4000000
/-! GA: a layer of data over HandS. A frame's slots, the values of expressions and the lists that a def owns are told as plain data;
the addresses and the heap are hidden in one state. -/
namespace G
open PySem PySem.Spec PyProof.Rows L2

/-! ### data -/
inductive D where
  | non | bl (b : Bool) | int (i : Int) | str (x : Str) | ty (n : String) | ref (a : Addr)
  | lst (xs : List D) | tup (xs : List D) | ins (C : Addr) (fs : List (Str × D)) | dic (kvs : List (Key × D)) | scr (ns : List Int) | exc (C : Addr) (fs : List (Str × D))
/-- a slot, a value: plain data, or the i-th thing that is owned, or unknown -/
inductive T where
  | v (d : D) | own (i : Nat) | no
/-- what an owned thing holds -/
inductive OD where
  | lst (xs : List D) | ins (C : Addr) (fs : List (Str × D)) | dic (kvs : List (Key × D)) | gone

/-- at a: an exception that was caught, of the class C, its dict at d -/
def excH (a C : Addr) (d : Option Addr) : HO := .ext fun h => ∃ oe : Obj, h.get? a = some oe ∧ oe.cls = .ref C ∧ oe.dict = d ∧ ∃ vs, oe.data = .fields vs
mutual
def Rep (K : PySem.W.Frag) (H : Hp) : D → V → Prop
  | .non, v => v = .non
  | .bl b, v => v = .bl b
  | .int i, v => v = .int i
  | .str x, v => v = .str x
  | .ty n, v => v = .ty n
  | .ref a, v => v = .ref a
  | .lst ds, v => ∃ a vs, v = .ref a ∧ H a = some (.lst vs) ∧ RepL K H ds vs
  | .scr ns, v => ∃ a, v = .ref a ∧ SqL K H a (ns.map V.int)
  | .exc C fs, v => ∃ a d vs, v = .ref a ∧ H a = some (excH a C (some d)) ∧ H d = some (.xd vs) ∧ RepF K H fs vs
  | .tup ds, v => ∃ a vs, v = .ref a ∧ SqT K H a vs ∧ RepL K H ds vs
  | .ins C fs, v => ∃ a dx vs, v = .ref a ∧ H a = some (.ins C dx vs) ∧ RepF K H fs vs
  | .dic kvs, v => ∃ a ws, v = .ref a ∧ H a = some (.dK ws) ∧ RepK K H kvs ws
def RepL (K : PySem.W.Frag) (H : Hp) : List D → List V → Prop
  | [], vs => vs = []
  | d :: ds, vs => ∃ v r, vs = v :: r ∧ Rep K H d v ∧ RepL K H ds r
def RepF (K : PySem.W.Frag) (H : Hp) : List (Str × D) → List (Str × V) → Prop
  | [], vs => vs = []
  | p :: ds, vs => ∃ v r, vs = (p.1, v) :: r ∧ Rep K H p.2 v ∧ RepF K H ds r
def RepK (K : PySem.W.Frag) (H : Hp) : List (Key × D) → List (Key × V) → Prop
  | [], vs => vs = []
  | p :: ds, vs => ∃ v r, vs = (p.1, v) :: r ∧ Rep K H p.2 v ∧ RepK K H ds r
end

def Ex (H H' : Hp) : Prop := ∀ a o, H a = some o → H' a = some o
theorem Ex.refl (H : Hp) : Ex H H := fun _ _ h => h
theorem Ex.trans {H H1 H2 : Hp} (a : Ex H H1) (b : Ex H1 H2) : Ex H H2 := fun x o h => b x o (a x o h)
theorem Ex.l {K : PySem.W.Frag} {H H' : Hp} {a : Addr} {xs : List V} (e : Ex H H') (h : SqL K H a xs) : SqL K H' a xs := Evl.ex_l e h
theorem Ex.t {K : PySem.W.Frag} {H H' : Hp} {a : Addr} {xs : List V} (e : Ex H H') (h : SqT K H a xs) : SqT K H' a xs := Evl.ex_t e h

mutual
theorem Rep.ex {K : PySem.W.Frag} {H H' : Hp} (e : Ex H H') : ∀ (d : D) {v : V}, Rep K H d v → Rep K H' d v
  | .non, _, h => h
  | .bl _, _, h => h
  | .int _, _, h => h
  | .str _, _, h => h
  | .ty _, _, h => h
  | .ref _, _, h => h
  | .lst ds, _, h => by
    obtain ⟨a, vs, e1, h1, h2⟩ := h
    exact ⟨a, vs, e1, e _ _ h1, RepL.ex e ds h2⟩
  | .scr ns, _, h => by
    obtain ⟨a, e1, h1⟩ := h
    exact ⟨a, e1, e.l h1⟩
  | .exc C fs, _, h => by
    obtain ⟨a, d, vs, e1, h1, h2, h3⟩ := h
    exact ⟨a, d, vs, e1, e _ _ h1, e _ _ h2, RepF.ex e fs h3⟩
  | .tup ds, _, h => by
    obtain ⟨a, vs, e1, h1, h2⟩ := h
    exact ⟨a, vs, e1, e.t h1, RepL.ex e ds h2⟩
  | .ins C fs, _, h => by
    obtain ⟨a, dx, vs, e1, h1, h2⟩ := h
    exact ⟨a, dx, vs, e1, e _ _ h1, RepF.ex e fs h2⟩
  | .dic kvs, _, h => by
    obtain ⟨a, ws, e1, h1, h2⟩ := h
    exact ⟨a, ws, e1, e _ _ h1, RepK.ex e kvs h2⟩
theorem RepL.ex {K : PySem.W.Frag} {H H' : Hp} (e : Ex H H') : ∀ (ds : List D) {vs : List V}, RepL K H ds vs → RepL K H' ds vs
  | [], _, h => h
  | d :: ds, _, h => by
    obtain ⟨v, r, e1, h1, h2⟩ := h
    exact ⟨v, r, e1, Rep.ex e d h1, RepL.ex e ds h2⟩
theorem RepF.ex {K : PySem.W.Frag} {H H' : Hp} (e : Ex H H') : ∀ (ds : List (Str × D)) {vs : List (Str × V)}, RepF K H ds vs → RepF K H' ds vs
  | [], _, h => h
  | p :: ds, _, h => by
    obtain ⟨v, r, e1, h1, h2⟩ := h
    exact ⟨v, r, e1, Rep.ex e p.2 h1, RepF.ex e ds h2⟩
theorem RepK.ex {K : PySem.W.Frag} {H H' : Hp} (e : Ex H H') : ∀ (ds : List (Key × D)) {vs : List (Key × V)}, RepK K H ds vs → RepK K H' ds vs
  | [], _, h => h
  | p :: ds, _, h => by
    obtain ⟨v, r, e1, h1, h2⟩ := h
    exact ⟨v, r, e1, Rep.ex e p.2 h1, RepK.ex e ds h2⟩
end
theorem RepL.length {K : PySem.W.Frag} {H : Hp} : ∀ {ds : List D} {vs : List V}, RepL K H ds vs → vs.length = ds.length
  | [], _, h => by rw [show _ = [] from h] <;> rfl
  | d :: ds, _, h => by
    obtain ⟨v, r, e1, h1, h2⟩ := h
    rw [e1, List.length_cons, List.length_cons, RepL.length h2]
theorem RepL.get {K : PySem.W.Frag} {H : Hp} : ∀ {ds : List D} {vs : List V} {i : Nat} {d : D}, RepL K H ds vs → ds[i]? = some d → ∃ v, vs[i]? = some v ∧ Rep K H d v
  | [], _, _, _, _, h => by simp at h
  | d :: ds, _, 0, _, h, q => by
    obtain ⟨v, r, e1, h1, h2⟩ := h
    have e : d = _ := Option.some.inj q
    subst e e1
    exact ⟨v, rfl, h1⟩
  | d :: ds, _, i + 1, _, h, q => by
    obtain ⟨v, r, e1, h1, h2⟩ := h
    subst e1
    exact RepL.get (i := i) h2 q
theorem RepL.append {K : PySem.W.Frag} {H : Hp} : ∀ {ds es : List D} {vs ws : List V}, RepL K H ds vs → RepL K H es ws → RepL K H (ds ++ es) (vs ++ ws)
  | [], _, _, _, h, q => by
    rw [show _ = [] from h]
    exact q
  | d :: ds, _, _, _, h, q => by
    obtain ⟨v, r, e1, h1, h2⟩ := h
    subst e1
    exact ⟨v, _, rfl, h1, RepL.append h2 q⟩
theorem RepL.take {K : PySem.W.Frag} {H : Hp} : ∀ {ds : List D} {vs : List V} (n : Nat), RepL K H ds vs → RepL K H (ds.take n) (vs.take n)
  | ds, vs, 0, _ => by
    rw [List.take_zero, List.take_zero]
    exact rfl
  | [], _, n + 1, h => by
    rw [show _ = [] from h]
    exact rfl
  | d :: ds, _, n + 1, h => by
    obtain ⟨v, r, e1, h1, h2⟩ := h
    subst e1
    exact ⟨v, _, rfl, h1, RepL.take n h2⟩
theorem RepL.drop {K : PySem.W.Frag} {H : Hp} : ∀ {ds : List D} {vs : List V} (n : Nat), RepL K H ds vs → RepL K H (ds.drop n) (vs.drop n)
  | ds, vs, 0, h => h
  | [], _, n + 1, h => by
    rw [show _ = [] from h]
    exact rfl
  | d :: ds, _, n + 1, h => by
    obtain ⟨v, r, e1, h1, h2⟩ := h
    subst e1
    exact RepL.drop n h2
theorem RepL.set {K : PySem.W.Frag} {H : Hp} {e : D} {w : V} (q : Rep K H e w) : ∀ {ds : List D} {vs : List V} (n : Nat), RepL K H ds vs → RepL K H (ds.set n e) (vs.set n w)
  | [], _, n, h => by
    rw [show _ = [] from h]
    exact rfl
  | d :: ds, _, 0, h => by
    obtain ⟨v, r, e1, h1, h2⟩ := h
    subst e1
    exact ⟨w, _, rfl, q, h2⟩
  | d :: ds, _, n + 1, h => by
    obtain ⟨v, r, e1, h1, h2⟩ := h
    subst e1
    exact ⟨v, _, rfl, h1, RepL.set q n h2⟩
theorem RepF.look {K : PySem.W.Frag} {H : Hp} {f : Str} : ∀ {ds : List (Str × D)} {vs : List (Str × V)} {d : D}, RepF K H ds vs → ds.lookup f = some d → ∃ v, vs.lookup f = some v ∧ Rep K H d v
  | [], _, _, _, h => by cases h
  | p :: ds, _, d, h, q => by
    obtain ⟨v, r, e1, h1, h2⟩ := h
    subst e1
    rw [List.lookup_cons] at q ⊢
    cases e : (f == p.1) with
    | true =>
      rw [e] at q
      have e2 : p.2 = d := Option.some.inj q
      subst e2
      exact ⟨v, rfl, h1⟩
    | false =>
      rw [e] at q
      exact RepF.look h2 q
theorem RepF.none {K : PySem.W.Frag} {H : Hp} {f : Str} : ∀ {ds : List (Str × D)} {vs : List (Str × V)}, RepF K H ds vs → ds.lookup f = none → vs.lookup f = none
  | [], _, h, _ => by rw [show _ = [] from h] <;> rfl
  | p :: ds, _, h, q => by
    obtain ⟨v, r, e1, h1, h2⟩ := h
    subst e1
    rw [List.lookup_cons] at q ⊢
    cases e : (f == p.1) with
    | true =>
      rw [e] at q
      cases q
    | false =>
      rw [e] at q
      exact RepF.none h2 q
theorem RepF.length {K : PySem.W.Frag} {H : Hp} : ∀ {ds : List (Str × D)} {vs : List (Str × V)}, RepF K H ds vs → vs.length = ds.length
  | [], _, h => by rw [show _ = [] from h] <;> rfl
  | d :: ds, _, h => by
    obtain ⟨v, r, e1, h1, h2⟩ := h
    rw [e1, List.length_cons, List.length_cons, RepF.length h2]

/-! ### the state -/
structure Bs where
  B : Hp
  Z : List Addr
  A0 : List Addr
def live : List Addr → List OD → List Addr
  | _ :: A, .gone :: O => live A O
  | a :: A, _ :: O => a :: live A O
  | _, _ => []
def hid (L : List Addr) (H : Hp) : Hp := fun a => if a ∈ L then none else H a
theorem hid_some {L : List Addr} {H : Hp} {a : Addr} {o : HO} : hid L H a = some o ↔ a ∉ L ∧ H a = some o := by
  unfold hid
  by_cases h : a ∈ L
  · rw [if_pos h]
    exact ⟨fun z => (nomatch z), fun z => absurd h z.1⟩
  · rw [if_neg h]
    exact ⟨fun z => ⟨h, z⟩, fun z => z.2⟩
theorem hid_ex {L : List Addr} {H : Hp} : Ex (hid L H) H := fun _ _ h => (hid_some.mp h).2
theorem hid_mono {L M : List Addr} {H H' : Hp} (e : ∀ a o, a ∉ L → H a = some o → H' a = some o) (s : ∀ a o, a ∉ L → H a = some o → a ∉ M) : Ex (hid L H) (hid M H') := fun a o h => by
  obtain ⟨h1, h2⟩ := hid_some.mp h
  exact hid_some.mpr ⟨s a o h1 h2, e a o h1 h2⟩

def CellOk (K : PySem.W.Frag) (F H : Hp) (a : Addr) : OD → Prop
  | .lst ds => ∃ vs, H a = some (.lst vs) ∧ RepL K F ds vs
  | .ins C fs => ∃ dx vs, H a = some (.ins C dx vs) ∧ RepF K F fs vs
  | .dic kvs => ∃ ws, H a = some (.dK ws) ∧ RepK K F kvs ws
  | .gone => True
theorem CellOk.ex {K : PySem.W.Frag} {F F' H H' : Hp} {a : Addr} {o : OD} (e : Ex F F') (h : ∀ u, H a = some u → H' a = some u) (c : CellOk K F H a o) : CellOk K F' H' a o := by
  cases o with
  | lst ds =>
    obtain ⟨vs, h1, h2⟩ := c
    exact ⟨vs, h _ h1, h2.ex e⟩
  | ins C fs =>
    obtain ⟨dx, vs, h1, h2⟩ := c
    exact ⟨dx, vs, h _ h1, h2.ex e⟩
  | dic kvs =>
    obtain ⟨ws, h1, h2⟩ := c
    exact ⟨ws, h _ h1, h2.ex e⟩
  | gone => trivial
/-- what is frozen -/
def Fz (b : Bs) (A : List Addr) (O : List OD) (H : Hp) : Hp := hid (live A O ++ b.Z) H

structure StO (K : PySem.W.Frag) (b : Bs) (A : List Addr) (O : List OD) (H : Hp) : Prop where
  len : A.length = O.length
  pre : ∃ M, A = b.A0 ++ M
  ext : Ex b.B (hid (live A O) H)
  zs : ∀ z ∈ b.Z, ∃ o, b.B z = some o
  nd : A.Nodup
  inh : ∀ a ∈ A, ∃ o, H a = some o
  cell : ∀ (i : Nat) (a : Addr) (o : OD), A[i]? = some a → O[i]? = some o → CellOk K (Fz b A O H) H a o

theorem live_mem : ∀ {A : List Addr} {O : List OD} {a : Addr}, a ∈ live A O → ∃ (i : Nat) (o : OD), A[i]? = some a ∧ O[i]? = some o ∧ o ≠ OD.gone
  | [], _, _, h => by simp [live] at h
  | _ :: _, [], _, h => by simp [live] at h
  | c :: A, o :: O, a, h => by
    have key : a ∈ live A O → ∃ (i : Nat) (o' : OD), (c :: A)[i]? = some a ∧ (o :: O)[i]? = some o' ∧ o' ≠ OD.gone := fun h => by
      obtain ⟨i, o', h1, h2, h3⟩ := live_mem h
      exact ⟨i + 1, o', h1, h2, h3⟩
    cases o with
    | gone => exact key h
    | lst ds =>
      rcases List.mem_cons.mp h with e | h
      · exact ⟨0, _, by rw [e] <;> rfl, rfl, fun z => by cases z⟩
      · exact key h
    | ins C fs =>
      rcases List.mem_cons.mp h with e | h
      · exact ⟨0, _, by rw [e] <;> rfl, rfl, fun z => by cases z⟩
      · exact key h
    | dic kvs =>
      rcases List.mem_cons.mp h with e | h
      · exact ⟨0, _, by rw [e] <;> rfl, rfl, fun z => by cases z⟩
      · exact key h
theorem live_at : ∀ {A : List Addr} {O : List OD} {i : Nat} {a : Addr} {o : OD}, A[i]? = some a → O[i]? = some o → o ≠ .gone → a ∈ live A O
  | [], _, _, _, _, h, _, _ => by simp at h
  | _ :: _, [], _, _, _, _, h, _ => by simp at h
  | c :: A, u :: O, 0, a, o, h1, h2, h3 => by
    have e1 : c = a := Option.some.inj h1
    have e2 : u = o := Option.some.inj h2
    subst e1 e2
    cases u with
    | gone => exact absurd rfl h3
    | lst ds => exact List.mem_cons_self
    | ins C fs => exact List.mem_cons_self
    | dic kvs => exact List.mem_cons_self
  | c :: A, u :: O, i + 1, a, o, h1, h2, h3 => by
    have ih : a ∈ live A O := live_at (i := i) h1 h2 h3
    cases u with
    | gone => exact ih
    | lst ds => exact List.mem_cons_of_mem _ ih
    | ins C fs => exact List.mem_cons_of_mem _ ih
    | dic kvs => exact List.mem_cons_of_mem _ ih

section
variable {K : PySem.W.Frag} {b : Bs} {A A' A2 : List Addr} {O O' O2 : List OD} {H H' H2 : Hp}
theorem StO.some_at (s : StO K b A O H) {a : Addr} (h : a ∈ live A O) : ∃ o, H a = some o := by
  obtain ⟨i, o, h1, h2, h3⟩ := live_mem h
  have c := s.cell i a o h1 h2
  cases o with
  | gone => exact absurd rfl h3
  | lst ds =>
    obtain ⟨vs, q, _⟩ := c
    exact ⟨_, q⟩
  | ins C fs =>
    obtain ⟨dx, vs, q, _⟩ := c
    exact ⟨_, q⟩
  | dic kvs =>
    obtain ⟨ws, q, _⟩ := c
    exact ⟨_, q⟩
theorem StO.z_at (s : StO K b A O H) {a : Addr} (h : a ∈ b.Z) : a ∉ live A O ∧ ∃ o, H a = some o := by
  obtain ⟨o, q⟩ := s.zs a h
  obtain ⟨h1, h2⟩ := hid_some.mp (s.ext a o q)
  exact ⟨h1, o, h2⟩
theorem StO.fresh (s : StO K b A O H) {p : Addr} (h : H p = none) : p ∉ live A O ++ b.Z := fun hm => by
  rcases List.mem_append.mp hm with hm | hm
  · obtain ⟨o, q⟩ := s.some_at hm
    rw [h] at q
    cases q
  · obtain ⟨_, o, q⟩ := s.z_at hm
    rw [h] at q
    cases q
/-- the next state sees what this one sees -/
structure Nxt (b : Bs) (A : List Addr) (O : List OD) (H : Hp) (A' : List Addr) (O' : List OD) (H' : Hp) : Prop where
  pre : ∃ M, A' = A ++ M
  ext : Ex (Fz b A O H) (Fz b A' O' H')
theorem Nxt.refl : Nxt b A O H A O H := ⟨⟨[], (List.append_nil A).symm⟩, Ex.refl _⟩
theorem Nxt.trans (x : Nxt b A O H A' O' H') (y : Nxt b A' O' H' A2 O2 H2) : Nxt b A O H A2 O2 H2 := by
  obtain ⟨M, e⟩ := x.pre
  obtain ⟨N, e2⟩ := y.pre
  exact ⟨⟨M ++ N, by rw [e2, e, List.append_assoc]⟩, x.ext.trans y.ext⟩
theorem Nxt.at_ (x : Nxt b A O H A' O' H') {i : Nat} {a : Addr} (h : A[i]? = some a) : A'[i]? = some a := by
  obtain ⟨M, e⟩ := x.pre
  rw [e, List.getElem?_append_left (List.getElem?_eq_some_iff.mp h).1]
  exact h

def RepT (K : PySem.W.Frag) (F : Hp) (A : List Addr) : T → Option V → Prop
  | .v d, o => ∃ v, o = some v ∧ Rep K F d v
  | .own i, o => ∃ a, A[i]? = some a ∧ o = some (.ref a)
  | .no, _ => True
theorem RepT.nxt {t : T} {o : Option V} (x : Nxt b A O H A' O' H') (h : RepT K (Fz b A O H) A t o) : RepT K (Fz b A' O' H') A' t o := by
  cases t with
  | v d =>
    obtain ⟨v, e, r⟩ := h
    exact ⟨v, e, r.ex x.ext⟩
  | own i =>
    obtain ⟨a, e, r⟩ := h
    exact ⟨a, x.at_ e, r⟩
  | no => trivial
def RepS (K : PySem.W.Frag) (F : Hp) (A : List Addr) (ts : List T) (σ : L2.St) : Prop := ts.length = σ.length ∧ ∀ (i : Nat) (t : T), ts[i]? = some t → ∃ o, σ[i]? = some o ∧ RepT K F A t o
theorem RepS.nxt {ts : List T} {σ : L2.St} (x : Nxt b A O H A' O' H') (h : RepS K (Fz b A O H) A ts σ) : RepS K (Fz b A' O' H') A' ts σ :=
  ⟨h.1, fun i t e => let ⟨o, e1, r⟩ := h.2 i t e; ⟨o, e1, r.nxt x⟩⟩
theorem RepS.set {F : Hp} {ts : List T} {σ : L2.St} {t : T} {v : V} (h : RepS K F A ts σ) (r : RepT K F A t (some v)) (i : Nat) : RepS K F A (ts.set i t) (σ.set i (some v)) := by
  refine ⟨by rw [List.length_set, List.length_set]; exact h.1, fun j u e => ?_⟩
  rw [List.getElem?_set] at e
  by_cases hij : i = j
  · subst hij
    rw [if_pos rfl] at e
    by_cases hl : i < ts.length
    · rw [if_pos hl] at e
      have e2 : t = u := Option.some.inj e
      subst e2
      refine ⟨some v, ?_, r⟩
      rw [List.getElem?_set_self (by rw [← h.1]; exact hl)]
    · rw [if_neg hl] at e
      cases e
  · rw [if_neg hij] at e
    obtain ⟨o, e1, r1⟩ := h.2 j u e
    refine ⟨o, ?_, r1⟩
    rw [List.getElem?_set_ne hij]
    exact e1
/-- what a list of values stands for -/
def RepTs (K : PySem.W.Frag) (F : Hp) (A : List Addr) : List T → List V → Prop
  | [], vs => vs = []
  | t :: ts, vs => ∃ v r, vs = v :: r ∧ RepT K F A t (some v) ∧ RepTs K F A ts r
theorem RepTs.nxt (x : Nxt b A O H A' O' H') : ∀ {ts : List T} {vs : List V}, RepTs K (Fz b A O H) A ts vs → RepTs K (Fz b A' O' H') A' ts vs
  | [], _, h => h
  | t :: ts, _, h => by
    obtain ⟨v, r, e, h1, h2⟩ := h
    exact ⟨v, r, e, h1.nxt x, RepTs.nxt x h2⟩
theorem RepTs.length {F : Hp} : ∀ {ts : List T} {vs : List V}, RepTs K F A ts vs → vs.length = ts.length
  | [], _, h => by rw [show _ = [] from h] <;> rfl
  | t :: ts, _, h => by
    obtain ⟨v, r, e, h1, h2⟩ := h
    rw [e, List.length_cons, List.length_cons, RepTs.length h2]
theorem RepTs.get {F : Hp} : ∀ {ts : List T} {vs : List V} {i : Nat} {t : T}, RepTs K F A ts vs → ts[i]? = some t → ∃ v, vs[i]? = some v ∧ RepT K F A t (some v)
  | [], _, _, _, _, h => by simp at h
  | t :: ts, _, 0, _, h, q => by
    obtain ⟨v, r, e1, h1, h2⟩ := h
    have e : t = _ := Option.some.inj q
    subst e e1
    exact ⟨v, rfl, h1⟩
  | t :: ts, _, i + 1, _, h, q => by
    obtain ⟨v, r, e1, h1, h2⟩ := h
    subst e1
    exact RepTs.get (i := i) h2 q
/-- plain data only -/
def unv : List T → Option (List D)
  | [] => some []
  | .v d :: r => (unv r).map (d :: ·)
  | _ :: _ => none
theorem RepTs.plain {F : Hp} : ∀ {ts : List T} {vs : List V} {ds : List D}, unv ts = some ds → RepTs K F A ts vs → RepL K F ds vs
  | [], _, ds, e, h => by
    have e2 : [] = ds := Option.some.inj e
    subst e2
    exact h
  | .v d :: ts, _, ds, e, h => by
    obtain ⟨v, r, e1, h1, h2⟩ := h
    have e3 : (unv ts).map (d :: ·) = some ds := e
    cases q : unv ts with
    | none =>
      rw [q] at e3
      cases e3
    | some es =>
      rw [q] at e3
      have e4 : d :: es = ds := Option.some.inj e3
      subst e4
      obtain ⟨w, e5, r5⟩ := h1
      have e6 := Option.some.inj e5
      subst e6
      exact ⟨v, r, e1, r5, RepTs.plain q h2⟩
  | .own _ :: _, _, _, e, _ => by cases e
  | .no :: _, _, _, e, _ => by cases e

/-! ### new frozen objects, owned ones -/
theorem StO.lay (s : StO K b A O H) {p : Addr} (hp : H p = none) (o : HO) : StO K b A O (upd H p o) ∧ Nxt b A O H A O (upd H p o) ∧ Fz b A O (upd H p o) p = some o := by
  have hn := s.fresh hp
  have e1 : Ex H (upd H p o) := fun a u h => by
    rw [upd_ne (ne_of_none h hp)]
    exact h
  have e2 : Ex (Fz b A O H) (Fz b A O (upd H p o)) := hid_mono (fun a u _ h => e1 a u h) fun a u h _ => h
  refine ⟨⟨s.len, s.pre, s.ext.trans (hid_mono (fun a u _ h => e1 a u h) fun a u h _ => h), s.zs, s.nd, fun a h => let ⟨u, q⟩ := s.inh a h; ⟨u, e1 a u q⟩, fun i a u h1 h2 => (s.cell i a u h1 h2).ex e2 (e1 a)⟩, ⟨⟨[], (List.append_nil A).symm⟩, e2⟩, ?_⟩
  exact hid_some.mpr ⟨hn, upd_same⟩
theorem live_append : ∀ {A : List Addr} {O : List OD}, A.length = O.length → ∀ (p : Addr) (o : OD), live (A ++ [p]) (O ++ [o]) = live A O ++ live [p] [o]
  | [], [], _, p, o => rfl
  | [], _ :: _, h, _, _ => by simp at h
  | _ :: _, [], h, _, _ => by simp at h
  | a :: A, u :: O, h, p, o => by
    have ih := live_append (A := A) (O := O) (by simpa using h) p o
    cases u <;> simp only [List.cons_append, live, ih]
theorem live1_sub {p : Addr} {o : OD} : ∀ a ∈ live [p] [o], a = p := fun a h => by
  cases o <;> simp [live] at h <;> exact h
/-- p, new, becomes the next owned thing -/
theorem StO.own (s : StO K b A O H) {p : Addr} (hp : H p = none) {u : HO} {o : OD} (c : CellOk K (Fz b A O H) (upd H p u) p o) : StO K b (A ++ [p]) (O ++ [o]) (upd H p u) ∧ Nxt b A O H (A ++ [p]) (O ++ [o]) (upd H p u) := by
  have hn := s.fresh hp
  have hA : p ∉ A := fun z => by
    obtain ⟨x, q⟩ := s.inh p z
    rw [hp] at q
    cases q
  have e1 : Ex H (upd H p u) := fun a w h => by
    rw [upd_ne (ne_of_none h hp)]
    exact h
  have hl := live_append s.len p o
  have sub : ∀ a w, a ∉ live A O → H a = some w → a ∉ live (A ++ [p]) (O ++ [o]) := fun a w h1 h2 h3 => by
    rw [hl] at h3
    rcases List.mem_append.mp h3 with h3 | h3
    · exact h1 h3
    · have e := live1_sub a h3
      rw [e, hp] at h2
      cases h2
  have e2 : Ex (Fz b A O H) (Fz b (A ++ [p]) (O ++ [o]) (upd H p u)) := hid_mono (fun a w _ h => e1 a w h) fun a w h1 h2 h3 => by
    rcases List.mem_append.mp h3 with h3 | h3
    · exact sub a w (fun z => h1 (List.mem_append_left _ z)) h2 h3
    · exact h1 (List.mem_append_right _ h3)
  obtain ⟨M, eM⟩ := s.pre
  refine ⟨⟨by rw [List.length_append, List.length_append, s.len] <;> rfl, ⟨M ++ [p], by rw [eM, List.append_assoc]⟩, s.ext.trans (hid_mono (fun a w _ h => e1 a w h) sub), s.zs, ?_, fun a h => ?_, fun i a w h1 h2 => ?_⟩, ⟨⟨[p], rfl⟩, e2⟩⟩
  · rw [List.nodup_append]
    refine ⟨s.nd, by simp, fun x hx y hy => ?_⟩
    rw [List.mem_singleton.mp hy]
    intro z
    exact hA (z ▸ hx)
  · rcases List.mem_append.mp h with h | h
    · obtain ⟨x, q⟩ := s.inh a h
      exact ⟨x, e1 a x q⟩
    · rw [List.mem_singleton.mp h]
      exact ⟨u, upd_same⟩
  · by_cases hi : i < A.length
    · rw [List.getElem?_append_left hi] at h1
      rw [List.getElem?_append_left (by rw [← s.len]; exact hi)] at h2
      exact (s.cell i a w h1 h2).ex e2 (e1 a)
    · rw [List.getElem?_append_right (by omega)] at h1
      rw [List.getElem?_append_right (by rw [← s.len]; omega)] at h2
      have hz : i - A.length = 0 := by
        cases q : i - A.length with
        | zero => rfl
        | succ n =>
          rw [q] at h1
          simp at h1
      rw [hz] at h1
      rw [show i - O.length = 0 by rw [← s.len]; exact hz] at h2
      have e3 : p = a := Option.some.inj h1
      have e4 : o = w := Option.some.inj h2
      subst e3 e4
      exact c.ex e2 fun _ h => h
/-- the i-th owned thing changes -/
theorem live_set : ∀ {A : List Addr} {O : List OD} {i : Nat} {o u : OD}, O[i]? = some u → u ≠ .gone → o ≠ .gone → live A (O.set i o) = live A O
  | [], O, _, _, _, _, _, _ => by cases O <;> rfl
  | _ :: _, [], _, _, _, h, _, _ => by simp at h
  | a :: A, w :: O, 0, o, u, h, h1, h2 => by
    have e : w = u := Option.some.inj h
    subst e
    cases w <;> cases o <;> first | rfl | exact absurd rfl h1 | exact absurd rfl h2
  | a :: A, w :: O, i + 1, o, u, h, h1, h2 => by
    have ih := live_set (A := A) (O := O) (i := i) h h1 h2
    cases w <;> simp only [List.set_cons_succ, live, ih]
theorem StO.put (s : StO K b A O H) {i : Nat} {a : Addr} {u o : OD} {w : HO} (hA : A[i]? = some a) (hO : O[i]? = some u) (hu : u ≠ .gone) (ho : o ≠ .gone) (c : CellOk K (Fz b A O H) (upd H a w) a o) :
    StO K b A (O.set i o) (upd H a w) ∧ Nxt b A O H A (O.set i o) (upd H a w) := by
  have hl : live A (O.set i o) = live A O := live_set hO hu ho
  have hm : a ∈ live A O := live_at hA hO hu
  have e2 : Ex (Fz b A O H) (Fz b A (O.set i o) (upd H a w)) := by
    unfold Fz
    rw [hl]
    refine hid_mono (fun y x h1 h2 => ?_) fun _ _ h _ => h
    have hne : y ≠ a := fun z => h1 (List.mem_append_left _ (by rw [z]; exact hm))
    rw [upd_ne hne]
    exact h2
  refine ⟨⟨by rw [List.length_set]; exact s.len, s.pre, ?_, s.zs, s.nd, fun c h => ?_, fun j y x h1 h2 => ?_⟩, ⟨⟨[], (List.append_nil A).symm⟩, e2⟩⟩
  · rw [hl]
    refine s.ext.trans (hid_mono (fun y x h1 h2 => ?_) fun _ _ h _ => h)
    have hne : y ≠ a := fun z => h1 (by rw [z]; exact hm)
    rw [upd_ne hne]
    exact h2
  · by_cases z : c = a
    · exact ⟨w, by rw [z, upd_same]⟩
    · obtain ⟨x, q⟩ := s.inh c h
      exact ⟨x, by rw [upd_ne z]; exact q⟩
  · rw [List.getElem?_set] at h2
    by_cases hij : i = j
    · subst hij
      rw [if_pos rfl] at h2
      rw [hA] at h1
      have e3 : a = y := Option.some.inj h1
      subst e3
      by_cases hlt : i < O.length
      · rw [if_pos hlt] at h2
        have e4 : o = x := Option.some.inj h2
        subst e4
        exact c.ex e2 fun _ h => h
      · rw [if_neg hlt] at h2
        cases h2
    · rw [if_neg hij] at h2
      have hne : y ≠ a := fun z => hij (nd_ix s.nd hA (z ▸ h1))
      refine (s.cell j y x h1 h2).ex e2 fun q hq => ?_
      rw [upd_ne hne]
      exact hq
end
end G

set_option Elab.async false
set_option linter.all false
set_option maxRecDepth 100000
set_option maxHeartbeats 4000000
namespace G
open PySem PySem.Spec PyProof.Rows L2

/-! ### what is wanted -/
abbrev PT' := T → List OD → Prop
abbrev PB := Bool → List OD → Prop
abbrev PL := List T → List OD → Prop
/-- an exception: its class, its own fields (none: no dict of its own) -/
abbrev XX := Value → Option (List (Str × D)) → List OD → Prop
def RepX (K : PySem.W.Frag) (F H : Hp) : Option (List (Str × D)) → Option Addr → Prop
  | none, d => d = none
  | some fs, d => ∃ dx vs, d = some dx ∧ H dx = some (.xd vs) ∧ RepF K F fs vs
/-- what an exception leaves is wanted -/
def KX (K : PySem.W.Frag) (W : WX) (b : Bs) (A : List Addr) (O : List OD) (σ : L2.St) (H : Hp) (X : XX) : Prop :=
  ∀ C fs A' O' H' d, X C fs O' → StO K b A' O' H' → Nxt b A O H A' O' H' → RepX K (Fz b A' O' H') H' fs d → W C d σ H'
def KV' (K : PySem.W.Frag) (b : Bs) (A : List Addr) (O : List OD) (H : Hp) (P : PT') (Q : VK) : Prop :=
  ∀ t v A' O' H', P t O' → StO K b A' O' H' → Nxt b A O H A' O' H' → RepT K (Fz b A' O' H') A' t (some v) → Q v H'
def KB (K : PySem.W.Frag) (b : Bs) (A : List Addr) (O : List OD) (H : Hp) (P : PB) (Q : Bool → Hp → Prop) : Prop :=
  ∀ c A' O' H', P c O' → StO K b A' O' H' → Nxt b A O H A' O' H' → Q c H'
def KL (K : PySem.W.Frag) (b : Bs) (A : List Addr) (O : List OD) (H : Hp) (P : PL) (Q : List V → Hp → Prop) : Prop :=
  ∀ ts vs A' O' H', P ts O' → StO K b A' O' H' → Nxt b A O H A' O' H' → RepTs K (Fz b A' O' H') A' ts vs → Q vs H'
section
variable {K : PySem.W.Frag} {W : WX} {b : Bs} {A A' : List Addr} {O O' : List OD} {H H' : Hp} {σ : L2.St}
theorem KX.nxt {X : XX} (k : KX K W b A O σ H X) (n : Nxt b A O H A' O' H') : KX K W b A' O' σ H' X := fun C fs A2 O2 H2 d x s m r => k C fs A2 O2 H2 d x s (n.trans m) r
theorem KV'.nxt {P : PT'} {Q : VK} (k : KV' K b A O H P Q) (n : Nxt b A O H A' O' H') : KV' K b A' O' H' P Q := fun t v A2 O2 H2 x s m r => k t v A2 O2 H2 x s (n.trans m) r
theorem KB.nxt {P : PB} {Q : Bool → Hp → Prop} (k : KB K b A O H P Q) (n : Nxt b A O H A' O' H') : KB K b A' O' H' P Q := fun c A2 O2 H2 x s m => k c A2 O2 H2 x s (n.trans m)
theorem KL.nxt {P : PL} {Q : List V → Hp → Prop} (k : KL K b A O H P Q) (n : Nxt b A O H A' O' H') : KL K b A' O' H' P Q := fun ts vs A2 O2 H2 x s m r => k ts vs A2 O2 H2 x s (n.trans m) r
end

/-! ### readings over data -/
def WE (K : PySem.W.Frag) (W : WX) (te : TE) (O : List OD) (ts : List T) (P : PT') (X : XX) : Prop :=
  ∀ b A σ H Q, StO K b A O H → RepS K (Fz b A O H) A ts σ → KV' K b A O H P Q → KX K W b A O σ H X → te σ H Q
def WT (K : PySem.W.Frag) (W : WX) (tt : TT) (O : List OD) (ts : List T) (P : PB) (X : XX) : Prop :=
  ∀ b A σ H Q, StO K b A O H → RepS K (Fz b A O H) A ts σ → KB K b A O H P Q → KX K W b A O σ H X → tt σ H Q
def WA (K : PySem.W.Frag) (W : WX) (ta : TA) (O : List OD) (ts : List T) (P : PL) (X : XX) : Prop :=
  ∀ b A σ H Q, StO K b A O H → RepS K (Fz b A O H) A ts σ → KL K b A O H P Q → KX K W b A O σ H X → ta σ H Q
/-- by values -/
def WR (K : PySem.W.Frag) (r : R2) (x y : T) (O : List OD) (P : PT') : Prop :=
  ∀ b A H Q v u, StO K b A O H → RepT K (Fz b A O H) A x (some v) → RepT K (Fz b A O H) A y (some u) → KV' K b A O H P Q → r v u H Q
def WU (K : PySem.W.Frag) (r : V → Hp → VK → Prop) (x : T) (O : List OD) (P : PT') : Prop :=
  ∀ b A H Q v, StO K b A O H → RepT K (Fz b A O H) A x (some v) → KV' K b A O H P Q → r v H Q
def WC (K : PySem.W.Frag) (r : List V → Hp → VK → Prop) (xs : List T) (O : List OD) (P : PT') : Prop :=
  ∀ b A H Q vs, StO K b A O H → RepTs K (Fz b A O H) A xs vs → KV' K b A O H P Q → r vs H Q
def WM (K : PySem.W.Frag) (r : V → List V → Hp → VK → Prop) (x : T) (xs : List T) (O : List OD) (P : PT') : Prop :=
  ∀ b A H Q v vs, StO K b A O H → RepT K (Fz b A O H) A x (some v) → RepTs K (Fz b A O H) A xs vs → KV' K b A O H P Q → r v vs H Q

/-! ### ends of a block -/
structure DE where
  nx : List T → List OD → Prop
  rt : PT'
  bk : List T → List OD → Prop := fun _ _ => False
  ct : List T → List OD → Prop := fun _ _ => False
  xe : Value → Option (List (Str × D)) → List T → List OD → Prop := fun _ _ _ _ => False
def KN (K : PySem.W.Frag) (b : Bs) (A : List Addr) (O : List OD) (H : Hp) (N : List T → List OD → Prop) (Q : L2.St → Hp → Prop) : Prop :=
  ∀ ts σ A' O' H', N ts O' → StO K b A' O' H' → Nxt b A O H A' O' H' → RepS K (Fz b A' O' H') A' ts σ → Q σ H'
structure KS (K : PySem.W.Frag) (W : WX) (b : Bs) (A : List Addr) (O : List OD) (H : Hp) (E : DE) (D : Ends) : Prop where
  nx : KN K b A O H E.nx D.nx
  rt : KV' K b A O H E.rt D.rt
  bk : KN K b A O H E.bk D.bk
  ct : KN K b A O H E.ct D.ct
  xe : ∀ C fs ts σ A' O' H' d, E.xe C fs ts O' → StO K b A' O' H' → Nxt b A O H A' O' H' → RepS K (Fz b A' O' H') A' ts σ → RepX K (Fz b A' O' H') H' fs d → W C d σ H'
def WS (K : PySem.W.Frag) (W : WX) (t : TS) (O : List OD) (ts : List T) (E : DE) : Prop :=
  ∀ b A σ H D, StO K b A O H → RepS K (Fz b A O H) A ts σ → KS K W b A O H E D → t D σ H
section
variable {K : PySem.W.Frag} {W : WX} {b : Bs} {A A' : List Addr} {O O' : List OD} {H H' : Hp} {σ : L2.St}
theorem KN.nxt {N : List T → List OD → Prop} {Q : L2.St → Hp → Prop} (k : KN K b A O H N Q) (n : Nxt b A O H A' O' H') : KN K b A' O' H' N Q := fun ts σ A2 O2 H2 x s m r => k ts σ A2 O2 H2 x s (n.trans m) r
theorem KS.nxt {E : DE} {D : Ends} (k : KS K W b A O H E D) (n : Nxt b A O H A' O' H') : KS K W b A' O' H' E D :=
  ⟨k.nx.nxt n, k.rt.nxt n, k.bk.nxt n, k.ct.nxt n, fun C fs ts σ A2 O2 H2 d x s m r q => k.xe C fs ts σ A2 O2 H2 d x s (n.trans m) r q⟩
theorem KS.kx {E : DE} {D : Ends} {ts : List T} (k : KS K W b A O H E D) (rs : RepS K (Fz b A O H) A ts σ) : KX K W b A O σ H (fun C fs O' => E.xe C fs ts O') :=
  fun C fs A' O' H' d x s m r => k.xe C fs ts σ A' O' H' d x s m (rs.nxt m) r
end

/-! ### expressions -/
section
variable {K : PySem.W.Frag} {W : WX} {O : List OD} {ts : List T} {P : PT'} {PB' : PB} {PL' : PL} {X : XX} {te ta tb tc : TE} {tt uu : TT} {tr : TA} {r r' : R2}
theorem WE.imp {P' : PT'} (h : WE K W te O ts P X) (q : ∀ t O', P t O' → P' t O') : WE K W te O ts P' X := fun b A σ H Q s rs k kx => h b A σ H Q s rs (fun t v A' O' H' p => k t v A' O' H' (q t O' p)) kx
theorem w_var {i : Nat} {t : T} (h : ts[i]? = some t) (hn : t ≠ .no) (k : P t O) : WE K W (tVar i) O ts P X := fun b A σ H Q s rs kv _ => by
  obtain ⟨o, e, rt⟩ := rs.2 i t h
  cases t with
  | v d =>
    obtain ⟨v, e2, rd⟩ := rt
    subst e2
    exact ⟨v, e, kv _ v A O H k s Nxt.refl ⟨v, rfl, rd⟩⟩
  | own j =>
    obtain ⟨a, e1, e2⟩ := rt
    subst e2
    exact ⟨_, e, kv _ _ A O H k s Nxt.refl ⟨a, e1, rfl⟩⟩
  | no => exact absurd rfl hn
theorem w_v {i : Nat} {d : D} (h : ts[i]? = some (.v d)) (k : P (.v d) O) : WE K W (tVar i) O ts P X := w_var h (fun z => by cases z) k
theorem w_o {i j : Nat} (h : ts[i]? = some (.own j)) (k : P (.own j) O) : WE K W (tVar i) O ts P X := w_var h (fun z => by cases z) k
theorem w_c {v : V} {d : D} (h : ∀ H, Rep K H d v) (k : P (.v d) O) : WE K W (tC v) O ts P X := fun b A σ H Q s rs kv _ => kv _ v A O H k s Nxt.refl ⟨v, rfl, h _⟩
theorem w_ci {i : Int} (k : P (.v (.int i)) O) : WE K W (tC (.int i)) O ts P X := w_c (d := .int i) (fun _ => rfl) k
theorem w_cb {i : Bool} (k : P (.v (.bl i)) O) : WE K W (tC (.bl i)) O ts P X := w_c (d := .bl i) (fun _ => rfl) k
theorem w_cs {i : Str} (k : P (.v (.str i)) O) : WE K W (tC (.str i)) O ts P X := w_c (d := .str i) (fun _ => rfl) k
theorem w_cn (k : P (.v .non) O) : WE K W (tC .non) O ts P X := w_c (d := .non) (fun _ => rfl) k
theorem w_cr {a : Addr} (k : P (.v (.ref a)) O) : WE K W (tC (.ref a)) O ts P X := w_c (d := .ref a) (fun _ => rfl) k
theorem w_cty {a : String} (k : P (.v (.ty a)) O) : WE K W (tC (.ty a)) O ts P X := w_c (d := .ty a) (fun _ => rfl) k
theorem w_op (h : WE K W ta O ts (fun x O1 => WE K W tb O1 ts (fun y O2 => WR K r x y O2 P) X) X) : WE K W (tOp r ta tb) O ts P X := fun b A σ H Q s rs kv kx => by
  refine h b A σ H _ s rs (fun x v A1 O1 H1 p1 s1 n1 r1 => ?_) kx
  refine p1 b A1 σ H1 _ s1 (rs.nxt n1) (fun y u A2 O2 H2 p2 s2 n2 r2 => ?_) (kx.nxt n1)
  exact p2 b A2 H2 Q v u s2 (r1.nxt n2) r2 (kv.nxt (n1.trans n2))
theorem w_un {r : V → Hp → VK → Prop} (h : WE K W ta O ts (fun x O1 => WU K r x O1 P) X) : WE K W (tUn r ta) O ts P X := fun b A σ H Q s rs kv kx =>
  h b A σ H _ s rs (fun x v A1 O1 H1 p1 s1 n1 r1 => p1 b A1 H1 Q v s1 r1 (kv.nxt n1)) kx
theorem w_I0 {g : Int → Int → V} {i j : Int} {d : D} (hd : ∀ H, Rep K H d (g i j)) (k : P (.v d) O) : WR K (rI0 g) (.v (.int i)) (.v (.int j)) O P := fun b A H Q v u s r1 r2 kv => by
  obtain ⟨_, e1, rfl⟩ := r1
  obtain ⟨_, e2, rfl⟩ := r2
  cases e1
  cases e2
  exact ⟨i, j, rfl, rfl, kv _ _ A O H k s Nxt.refl ⟨_, rfl, hd _⟩⟩
theorem w_I {C : Int → Int → Prop} {g : Int → Int → V} {i j : Int} {d : D} (hc : C i j) (hd : ∀ H, Rep K H d (g i j)) (k : P (.v d) O) : WR K (rI C g) (.v (.int i)) (.v (.int j)) O P := fun b A H Q v u s r1 r2 kv => by
  obtain ⟨_, e1, rfl⟩ := r1
  obtain ⟨_, e2, rfl⟩ := r2
  cases e1
  cases e2
  exact ⟨i, j, rfl, rfl, hc, kv _ _ A O H k s Nxt.refl ⟨_, rfl, hd _⟩⟩
theorem w_Ui {g : Int → V} {i : Int} {d : D} (hd : ∀ H, Rep K H d (g i)) (k : P (.v d) O) : WU K (rU g) (.v (.int i)) O P := fun b A H Q v s r1 kv => by
  obtain ⟨_, e1, rfl⟩ := r1
  cases e1
  exact ⟨i, rfl, kv _ _ A O H k s Nxt.refl ⟨_, rfl, hd _⟩⟩
/-- values that are no objects -/
def scalD : D → Option V
  | .non => some .non
  | .bl b => some (.bl b)
  | .int i => some (.int i)
  | .str x => some (.str x)
  | _ => none
theorem scalD_rep {K : PySem.W.Frag} {H : Hp} {d : D} {v w : V} (h : scalD d = some v) (r : Rep K H d w) : w = v := by
  cases d <;> first | (have e := Option.some.inj h; subst e; exact r) | cases h
theorem w_eq {d e : D} {v u : V} (h1 : scalD d = some v) (h2 : scalD e = some u) (hs : scal v u = true) (k : P (.v (.bl (decide (v = u)))) O) : WR K rEq (.v d) (.v e) O P := fun b A H Q x y s r1 r2 kv => by
  obtain ⟨_, e1, q1⟩ := r1
  obtain ⟨_, e2, q2⟩ := r2
  cases e1
  cases e2
  rw [scalD_rep h1 q1, scalD_rep h2 q2]
  exact ⟨hs, kv _ _ A O H k s Nxt.refl ⟨_, rfl, rfl⟩⟩
theorem w_ne {d e : D} {v u : V} (h1 : scalD d = some v) (h2 : scalD e = some u) (hs : scal v u = true) (k : P (.v (.bl (!decide (v = u)))) O) : WR K rNe (.v d) (.v e) O P := fun b A H Q x y s r1 r2 kv => by
  obtain ⟨_, e1, q1⟩ := r1
  obtain ⟨_, e2, q2⟩ := r2
  cases e1
  cases e2
  rw [scalD_rep h1 q1, scalD_rep h2 q2]
  exact ⟨hs, kv _ _ A O H k s Nxt.refl ⟨_, rfl, rfl⟩⟩
theorem dI (i j : Int) : decide (V.int i = V.int j) = decide (i = j) := by
  by_cases h : i = j
  · subst h
    simp
  · rw [decide_eq_false h, decide_eq_false (fun z => h (V.int.inj z))]
theorem w_eqI {i j : Int} (k : P (.v (.bl (decide (i = j)))) O) : WR K rEq (.v (.int i)) (.v (.int j)) O P := w_eq rfl rfl rfl (by rw [dI]; exact k)
theorem w_neI {i j : Int} (k : P (.v (.bl (!decide (i = j)))) O) : WR K rNe (.v (.int i)) (.v (.int j)) O P := w_ne rfl rfl rfl (by rw [dI]; exact k)
/-! tests -/
theorem w_test (h : WE K W te O ts (fun t O' => ∃ c, t = .v (.bl c) ∧ PB' c O') X) : WT K W (tTest te) O ts PB' X := fun b A σ H Q s rs kb kx =>
  h b A σ H _ s rs (fun t v A1 O1 H1 p1 s1 n1 r1 => by
    obtain ⟨c, rfl, p⟩ := p1
    obtain ⟨_, e, rfl⟩ := r1
    cases e
    exact ⟨c, rfl, kb c A1 O1 H1 p s1 n1⟩) kx
theorem w_B (h : WE K W te O ts (fun t O' => ∃ c, t = .v (.bl c) ∧ PB' c O') X) : WT K W (tB te) O ts PB' X := w_test h
theorem w_and (h : WT K W tt O ts (fun c O' => (c = true → WT K W uu O' ts PB' X) ∧ (c = false → PB' false O')) X) : WT K W (tAnd tt uu) O ts PB' X := fun b A σ H Q s rs kb kx =>
  h b A σ H _ s rs (fun c A1 O1 H1 p1 s1 n1 => by
    cases c with
    | true => exact iteT (p1.1 rfl b A1 σ H1 Q s1 (rs.nxt n1) (kb.nxt n1) (kx.nxt n1))
    | false => exact iteF (kb false A1 O1 H1 (p1.2 rfl) s1 n1)) kx
theorem w_or (h : WT K W tt O ts (fun c O' => (c = true → PB' true O') ∧ (c = false → WT K W uu O' ts PB' X)) X) : WT K W (tOr tt uu) O ts PB' X := fun b A σ H Q s rs kb kx =>
  h b A σ H _ s rs (fun c A1 O1 H1 p1 s1 n1 => by
    cases c with
    | true => exact iteT (kb true A1 O1 H1 (p1.1 rfl) s1 n1)
    | false => exact iteF (p1.2 rfl b A1 σ H1 Q s1 (rs.nxt n1) (kb.nxt n1) (kx.nxt n1))) kx
theorem w_not (h : WT K W tt O ts (fun c O' => PB' (!c) O') X) : WT K W (tNot tt) O ts PB' X := fun b A σ H Q s rs kb kx =>
  h b A σ H _ s rs (fun c A1 O1 H1 p1 s1 n1 => kb (!c) A1 O1 H1 p1 s1 n1) kx
theorem w_andV (h : WE K W ta O ts (fun t O' => ∃ c, t = .v (.bl c) ∧ (c = true → WE K W tb O' ts P X) ∧ (c = false → P (.v (.bl false)) O')) X) : WE K W (tAndV ta tb) O ts P X := fun b A σ H Q s rs kv kx =>
  h b A σ H _ s rs (fun t v A1 O1 H1 p1 s1 n1 r1 => by
    obtain ⟨c, rfl, pt, pf⟩ := p1
    obtain ⟨_, e, rfl⟩ := r1
    cases e
    refine ⟨c, rfl, ?_⟩
    cases c with
    | true => exact iteT (pt rfl b A1 σ H1 Q s1 (rs.nxt n1) (kv.nxt n1) (kx.nxt n1))
    | false => exact iteF (kv _ _ A1 O1 H1 (pf rfl) s1 n1 ⟨_, rfl, rfl⟩)) kx
theorem w_orV (h : WE K W ta O ts (fun t O' => ∃ c, t = .v (.bl c) ∧ (c = true → P (.v (.bl true)) O') ∧ (c = false → WE K W tb O' ts P X)) X) : WE K W (tOrV ta tb) O ts P X := fun b A σ H Q s rs kv kx =>
  h b A σ H _ s rs (fun t v A1 O1 H1 p1 s1 n1 r1 => by
    obtain ⟨c, rfl, pt, pf⟩ := p1
    obtain ⟨_, e, rfl⟩ := r1
    cases e
    refine ⟨c, rfl, ?_⟩
    cases c with
    | true => exact iteT (kv _ _ A1 O1 H1 (pt rfl) s1 n1 ⟨_, rfl, rfl⟩)
    | false => exact iteF (pf rfl b A1 σ H1 Q s1 (rs.nxt n1) (kv.nxt n1) (kx.nxt n1))) kx
theorem w_notV (h : WE K W ta O ts (fun t O' => ∃ c, t = .v (.bl c) ∧ P (.v (.bl (!c))) O') X) : WE K W (tNotV ta) O ts P X := fun b A σ H Q s rs kv kx =>
  h b A σ H _ s rs (fun t v A1 O1 H1 p1 s1 n1 r1 => by
    obtain ⟨c, rfl, p⟩ := p1
    obtain ⟨_, e, rfl⟩ := r1
    cases e
    exact ⟨c, rfl, kv _ _ A1 O1 H1 p s1 n1 ⟨_, rfl, rfl⟩⟩) kx
theorem w_ife (h : WT K W tt O ts (fun c O' => (c = true → WE K W ta O' ts P X) ∧ (c = false → WE K W tb O' ts P X)) X) : WE K W (tIf tt ta tb) O ts P X := fun b A σ H Q s rs kv kx =>
  h b A σ H _ s rs (fun c A1 O1 H1 p1 s1 n1 => by
    cases c with
    | true => exact iteT (p1.1 rfl b A1 σ H1 Q s1 (rs.nxt n1) (kv.nxt n1) (kx.nxt n1))
    | false => exact iteF (p1.2 rfl b A1 σ H1 Q s1 (rs.nxt n1) (kv.nxt n1) (kx.nxt n1))) kx
theorem w_chain {t3 : TE} (h : WE K W ta O ts (fun x O1 => WE K W tb O1 ts (fun y O2 => WR K r x y O2 (fun z O3 => ∃ c, z = .v (.bl c) ∧ (c = true → WE K W t3 O3 ts (fun w' O4 => WR K r' y w' O4 P) X) ∧ (c = false → P (.v (.bl false)) O3))) X) X) :
    WE K W (tChain r r' ta tb t3) O ts P X := fun b A σ H Q s rs kv kx => by
  refine h b A σ H _ s rs (fun x v A1 O1 H1 p1 s1 n1 r1 => ?_) kx
  refine p1 b A1 σ H1 _ s1 (rs.nxt n1) (fun y u A2 O2 H2 p2 s2 n2 r2 => ?_) (kx.nxt n1)
  refine p2 b A2 H2 _ v u s2 (r1.nxt n2) r2 (fun z w' A3 O3 H3 p3 s3 n3 r3 => ?_)
  obtain ⟨c, rfl, pt, pf⟩ := p3
  obtain ⟨_, e, rfl⟩ := r3
  cases e
  refine ⟨c, rfl, ?_⟩
  have n13 := (n1.trans n2).trans n3
  cases c with
  | true => exact iteT (pt rfl b A3 σ H3 _ s3 (rs.nxt n13) (fun y4 u4 A4 O4 H4 p4 s4 n4 r4 => p4 b A4 H4 Q u u4 s4 (r2.nxt (n3.trans n4)) r4 (kv.nxt (n13.trans n4))) (kx.nxt n13))
  | false => exact iteF (kv _ _ A3 O3 H3 (pf rfl) s3 n13 ⟨_, rfl, rfl⟩)
/-! arguments, displays -/
theorem w_nil (k : PL' [] O) : WA K W tNil O ts PL' X := fun b A σ H Q s rs kl _ => kl [] [] A O H k s Nxt.refl rfl
theorem w_cons (h : WE K W te O ts (fun x O1 => WA K W tr O1 ts (fun xs O2 => PL' (x :: xs) O2) X) X) : WA K W (tCons te tr) O ts PL' X := fun b A σ H Q s rs kl kx =>
  h b A σ H _ s rs (fun x v A1 O1 H1 p1 s1 n1 r1 => p1 b A1 σ H1 _ s1 (rs.nxt n1) (fun xs vs A2 O2 H2 p2 s2 n2 r2 => kl _ _ A2 O2 H2 p2 s2 (n1.trans n2) ⟨v, vs, rfl, r1.nxt n2, r2⟩) (kx.nxt n1)) kx
theorem w_tup (h : WA K W tr O ts (fun xs O1 => ∃ ds, unv xs = some ds ∧ xs.length ≤ sizeLine ∧ P (.v (.tup ds)) O1) X) : WE K W (tTup tr) O ts P X := fun b A σ H Q s rs kv kx =>
  h b A σ H _ s rs (fun xs vs A1 O1 H1 p1 s1 n1 r1 => by
    obtain ⟨ds, e, l, p⟩ := p1
    refine ⟨by rw [r1.length]; exact l, fun p' hp => ?_⟩
    obtain ⟨s2, n2, q⟩ := s1.lay hp (.tup vs)
    exact kv _ _ A1 O1 _ p s2 (n1.trans n2) ⟨_, rfl, p', vs, rfl, SqT.of q, (r1.plain e).ex n2.ext⟩) kx
theorem w_lst (h : WA K W tr O ts (fun xs O1 => ∃ ds, unv xs = some ds ∧ xs.length ≤ sizeLine ∧ P (.v (.lst ds)) O1) X) : WE K W (tLst tr) O ts P X := fun b A σ H Q s rs kv kx =>
  h b A σ H _ s rs (fun xs vs A1 O1 H1 p1 s1 n1 r1 => by
    obtain ⟨ds, e, l, p⟩ := p1
    refine ⟨by rw [r1.length]; exact l, fun p' hp => ?_⟩
    obtain ⟨s2, n2, q⟩ := s1.lay hp (.lst vs)
    exact kv _ _ A1 O1 _ p s2 (n1.trans n2) ⟨_, rfl, p', vs, rfl, q, (r1.plain e).ex n2.ext⟩) kx
/-- a list that is owned -/
theorem w_lstO (h : WA K W tr O ts (fun xs O1 => ∃ ds, unv xs = some ds ∧ xs.length ≤ sizeLine ∧ P (.own O1.length) (O1 ++ [.lst ds])) X) : WE K W (tLst tr) O ts P X := fun b A σ H Q s rs kv kx =>
  h b A σ H _ s rs (fun xs vs A1 O1 H1 p1 s1 n1 r1 => by
    obtain ⟨ds, e, l, p⟩ := p1
    refine ⟨by rw [r1.length]; exact l, fun p' hp => ?_⟩
    obtain ⟨s2, n2⟩ := s1.own (o := .lst ds) hp ⟨vs, upd_same, r1.plain e⟩
    refine kv _ _ _ _ _ p s2 (n1.trans n2) ⟨p', ?_, rfl⟩
    rw [← s1.len, List.getElem?_append_right (Nat.le_refl _), Nat.sub_self]
    exact rfl) kx
theorem w_call {rc : List V → Hp → VK → Prop} (h : WA K W tr O ts (fun xs O1 => WC K rc xs O1 P) X) : WE K W (tCB rc tr) O ts P X := fun b A σ H Q s rs kv kx =>
  h b A σ H _ s rs (fun xs vs A1 O1 H1 p1 s1 n1 r1 => p1 b A1 H1 Q vs s1 r1 (kv.nxt n1)) kx
end
end G

set_option Elab.async false
set_option linter.all false
set_option maxRecDepth 100000
set_option maxHeartbeats 4000000
namespace G
open PySem PySem.Spec PyProof.Rows L2

/-! ### statements -/
section
variable {K : PySem.W.Frag} {W : WX} {O : List OD} {ts : List T} {E : DE} {t u : TS} {te : TE} {tt : TT} {ta : TA}
theorem WS.imp {E' : DE} (h : WS K W t O ts E) (hn : ∀ ts O, E.nx ts O → E'.nx ts O) (hr : ∀ t O, E.rt t O → E'.rt t O) (hb : ∀ ts O, E.bk ts O → E'.bk ts O) (hc : ∀ ts O, E.ct ts O → E'.ct ts O) (hx : ∀ C fs ts O, E.xe C fs ts O → E'.xe C fs ts O) : WS K W t O ts E' :=
  fun b A σ H D s rs ks => h b A σ H D s rs ⟨fun ts σ A' O' H' p => ks.nx ts σ A' O' H' (hn _ _ p), fun t v A' O' H' p => ks.rt t v A' O' H' (hr _ _ p), fun ts σ A' O' H' p => ks.bk ts σ A' O' H' (hb _ _ p), fun ts σ A' O' H' p => ks.ct ts σ A' O' H' (hc _ _ p),
    fun C fs ts σ A' O' H' d p => ks.xe C fs ts σ A' O' H' d (hx _ _ _ _ p)⟩
theorem s_next (k : E.nx ts O) : WS K W tNext O ts E := fun b A σ H D s rs ks => ks.nx ts σ A O H k s Nxt.refl rs
theorem s_brk (k : E.bk ts O) : WS K W tBreak O ts E := fun b A σ H D s rs ks => ks.bk ts σ A O H k s Nxt.refl rs
theorem s_cont (k : E.ct ts O) : WS K W tCont O ts E := fun b A σ H D s rs ks => ks.ct ts σ A O H k s Nxt.refl rs
theorem s_seq (h : WS K W t O ts { E with nx := fun ts' O' => WS K W u O' ts' E }) : WS K W (tSeq t u) O ts E := fun b A σ H D s rs ks =>
  h b A σ H { D with nx := u D } s rs ⟨fun ts' σ' A' O' H' p s' n' rs' => p b A' σ' H' D s' rs' (ks.nxt n'), ks.rt, ks.bk, ks.ct, ks.xe⟩
/-- the same, with a word between -/
theorem s_cut (M : List T → List OD → Prop) (h : WS K W t O ts { E with nx := M }) (k : ∀ ts' O', M ts' O' → WS K W u O' ts' E) : WS K W (tSeq t u) O ts E :=
  s_seq (WS.imp h (fun ts O p => k ts O p) (fun _ _ p => p) (fun _ _ p => p) (fun _ _ p => p) (fun _ _ _ _ p => p))
theorem s_drop (h : WE K W te O ts (fun _ O' => E.nx ts O') (fun C fs O' => E.xe C fs ts O')) : WS K W (tDrop te) O ts E := fun b A σ H D s rs ks =>
  h b A σ H _ s rs (fun t v A' O' H' p s' n' r' => ks.nx ts σ A' O' H' p s' n' (rs.nxt n')) (ks.kx rs)
theorem s_ret (h : WE K W te O ts E.rt (fun C fs O' => E.xe C fs ts O')) : WS K W (tRet te) O ts E := fun b A σ H D s rs ks => h b A σ H _ s rs ks.rt (ks.kx rs)
theorem s_retN (k : E.rt (.v .non) O) : WS K W tRetN O ts E := fun b A σ H D s rs ks => ks.rt (.v .non) .non A O H k s Nxt.refl ⟨_, rfl, rfl⟩
theorem s_if (h : WT K W tt O ts (fun c O' => (c = true → WS K W t O' ts E) ∧ (c = false → WS K W u O' ts E)) (fun C fs O' => E.xe C fs ts O')) : WS K W (tIfS tt t u) O ts E := fun b A σ H D s rs ks =>
  h b A σ H _ s rs (fun c A1 O1 H1 p1 s1 n1 => by
    cases c with
    | true => exact iteT (p1.1 rfl b A1 σ H1 D s1 (rs.nxt n1) (ks.nxt n1))
    | false => exact iteF (p1.2 rfl b A1 σ H1 D s1 (rs.nxt n1) (ks.nxt n1))) (ks.kx rs)

/-! targets -/
theorem repT_int {F : Hp} {A : List Addr} (i : Int) : RepT K F A (.v (.int i)) (some (.int i)) := ⟨_, rfl, rfl⟩
def WG (K : PySem.W.Frag) (W : WX) (g : TG) (t : T) (O : List OD) (ts : List T) (N : List T → List OD → Prop) : Prop :=
  ∀ b A σ H Q v, StO K b A O H → RepS K (Fz b A O H) A ts σ → RepT K (Fz b A O H) A t (some v) → KN K b A O H N Q → g v σ H Q
def WGs (K : PySem.W.Frag) (W : WX) (g : TGs) (xs : List T) (O : List OD) (ts : List T) (N : List T → List OD → Prop) : Prop :=
  ∀ b A σ H Q vs, StO K b A O H → RepS K (Fz b A O H) A ts σ → RepTs K (Fz b A O H) A xs vs → KN K b A O H N Q → g vs σ H Q
theorem g_name {i : Nat} {x : T} {N : List T → List OD → Prop} (k : N (ts.set i x) O) : WG K W (gName i) x O ts N := fun b A σ H Q v s rs r kn => kn _ _ A O H k s Nxt.refl (rs.set r i)
theorem g_nil {N : List T → List OD → Prop} (k : N ts O) : WGs K W gNil [] O ts N := fun b A σ H Q vs s rs r kn => ⟨r, kn ts σ A O H k s Nxt.refl rs⟩
theorem g_cons {g : TG} {gs : TGs} {x : T} {xs : List T} {N : List T → List OD → Prop} (h : WG K W g x O ts (fun ts' O' => WGs K W gs xs O' ts' N)) : WGs K W (gCons g gs) (x :: xs) O ts N := fun b A σ H Q vs s rs r kn => by
  obtain ⟨v, r', rfl, r1, r2⟩ := r
  exact ⟨v, r', rfl, h b A σ H _ v s rs r1 fun ts' σ' A' O' H' p s' n' rs' => p b A' σ' H' Q r' s' rs' (r2.nxt n') (kn.nxt n')⟩
theorem repTs_v {F : Hp} {A : List Addr} : ∀ {ds : List D} {vs : List V}, RepL K F ds vs → RepTs K F A (ds.map T.v) vs
  | [], _, h => h
  | d :: ds, _, h => by
    obtain ⟨v, r, e, h1, h2⟩ := h
    exact ⟨v, r, e, ⟨v, rfl, h1⟩, repTs_v h2⟩
/-- a, b = a tuple -/
theorem g_tup {n : Nat} {gs : TGs} {ds : List D} {N : List T → List OD → Prop} (hl : ds.length = n) (h : WGs K W gs (ds.map T.v) O ts N) : WG K W (gTup K n gs) (.v (.tup ds)) O ts N := fun b A σ H Q v s rs r kn => by
  obtain ⟨_, e, a, vs, rfl, h1, h2⟩ := r
  cases e
  exact ⟨a, vs, rfl, (hid_ex : Ex (Fz b A O H) H).t h1, by rw [h2.length]; exact hl, h b A σ H Q vs s rs (repTs_v h2) kn⟩
theorem s_asg {g : TG} (h : WE K W te O ts (fun t O' => WG K W g t O' ts E.nx) (fun C fs O' => E.xe C fs ts O')) : WS K W (tAsg te g) O ts E := fun b A σ H D s rs ks =>
  h b A σ H _ s rs (fun t v A' O' H' p s' n' r' => p b A' σ H' D.nx v s' (rs.nxt n') r' (ks.nx.nxt n')) (ks.kx rs)
theorem s_set {i : Nat} (h : WE K W te O ts (fun t O' => E.nx (ts.set i t) O') (fun C fs O' => E.xe C fs ts O')) : WS K W (tAsg te (gName i)) O ts E := s_asg (h.imp fun t O' p => g_name p)
theorem s_par {i j : Nat} (h : WA K W ta O ts (fun xs O' => ∃ x y, xs = [x, y] ∧ E.nx ((ts.set i x).set j y) O') (fun C fs O' => E.xe C fs ts O')) : WS K W (tPar i j ta) O ts E := fun b A σ H D s rs ks =>
  h b A σ H _ s rs (fun xs vs A' O' H' p s' n' r' => by
    obtain ⟨x, y, rfl, q⟩ := p
    obtain ⟨v, _, rfl, r1, w', _, rfl, r2, rfl⟩ := r'
    exact ⟨v, w', rfl, ks.nx _ _ A' O' H' q s' n' (((rs.nxt n').set r1 i).set r2 j)⟩) (ks.kx rs)
theorem s_aug {i : Nat} {f : Int → Int → Int} {a : Int} (ha : ts[i]? = some (.v (.int a))) (h : WE K W te O ts (fun t O' => ∃ c, t = .v (.int c) ∧ E.nx (ts.set i (.v (.int (f a c)))) O') (fun C fs O' => E.xe C fs ts O')) : WS K W (tAug i te (ipI f)) O ts E := fun b A σ H D s rs ks => by
  obtain ⟨o, e, v, rfl, rd⟩ := rs.2 i _ ha
  refine ⟨v, e, h b A σ H _ s rs (fun t y A' O' H' p s' n' r' => ?_) (ks.kx rs)⟩
  obtain ⟨c, rfl, q⟩ := p
  obtain ⟨_, e2, rd2⟩ := r'
  cases e2
  exact ⟨a, c, rd, rd2, ks.nx _ _ A' O' H' q s' n' ((rs.nxt n').set (repT_int (f a c)) i)⟩

/-! ### loops -/
/-- what a for loop's source is, over data: the items, as they come -/
def WI (K : PySem.W.Frag) (W : WX) (wi : TI) (O : List OD) (ts : List T) (S : (Nat → Option T) → List OD → Prop) (X : XX) : Prop :=
  ∀ b A σ H R, StO K b A O H → RepS K (Fz b A O H) A ts σ →
    (∀ J f A' O' H', S f O' → StO K b A' O' H' → Nxt b A O H A' O' H' →
      (∀ i A2 O2 H2, StO K b A2 O2 H2 → Nxt b A' O' H' A2 O2 H2 → (f i = none → (∀ j, j < i → f j ≠ none) → J.stop i H2) ∧ (∀ t, f i = some t → J.go i H2 ∧ ∀ x H3, J.yld i H2 x H3 → StO K b A2 O2 H3 ∧ Nxt b A2 O2 H2 A2 O2 H3 ∧ RepT K (Fz b A2 O2 H3) A2 t (some x))) → R J H') →
    KX K W b A O σ H X → wi σ H R
/-- the items of a list of data -/
def itD (ds : List D) : Nat → Option T := fun i => (ds[i]?).map T.v
theorem itD_none {ds : List D} {i : Nat} (h : itD ds i = none) : ds.length ≤ i := by
  unfold itD at h
  cases q : ds[i]? with
  | none => exact List.getElem?_eq_none_iff.mp q
  | some d =>
    rw [q] at h
    cases h
theorem itD_some {ds : List D} {i : Nat} {t : T} (h : itD ds i = some t) : ∃ d, ds[i]? = some d ∧ t = .v d := by
  unfold itD at h
  cases q : ds[i]? with
  | none =>
    rw [q] at h
    cases h
  | some d =>
    rw [q] at h
    exact ⟨d, rfl, (Option.some.inj h).symm⟩
theorem i_list {tl : TE} {S : (Nat → Option T) → List OD → Prop} {X : XX} (h : WE K W tl O ts (fun t O' => ∃ ds, t = .v (.lst ds) ∧ S (itD ds) O') X) : WI K W (iList K tl) O ts S X := fun b A σ H R s rs k kx =>
  h b A σ H _ s rs (fun t v A' O' H' p s' n' r' => by
    obtain ⟨ds, rfl, q⟩ := p
    obtain ⟨_, e, a, vs, rfl, h1, h2⟩ := r'
    replace h1 := SqL.of (K := K) h1
    cases e
    have h1' := (hid_ex : Ex (Fz b A' O' H') H').l h1
    refine ⟨a, rfl, ⟨vs, h1'⟩, k _ _ A' O' H' q s' n' fun i A2 O2 H2 s2 n2 => ⟨fun hn _ => ⟨vs, hid_ex.l (n2.ext.l h1), by rw [h2.length]; exact itD_none hn⟩, fun t ht => ?_⟩⟩
    obtain ⟨d, e1, rfl⟩ := itD_some ht
    obtain ⟨v, e2, r⟩ := h2.get e1
    have h2' : SqL K H2 a vs := hid_ex.l (n2.ext.l h1)
    refine ⟨⟨vs, v, h2', e2⟩, fun x H3 y => ?_⟩
    obtain ⟨rfl, y⟩ := y
    have e3 := (y vs h2').symm.trans e2
    have e4 : x = v := Option.some.inj e3
    subst e4
    exact ⟨s2, Nxt.refl, ⟨_, rfl, r.ex n2.ext⟩⟩) kx
theorem i_tup {tl : TE} {S : (Nat → Option T) → List OD → Prop} {X : XX} (h : WE K W tl O ts (fun t O' => ∃ ds, t = .v (.tup ds) ∧ S (itD ds) O') X) : WI K W (iTup K tl) O ts S X := fun b A σ H R s rs k kx =>
  h b A σ H _ s rs (fun t v A' O' H' p s' n' r' => by
    obtain ⟨ds, rfl, q⟩ := p
    obtain ⟨_, e, a, vs, rfl, h1, h2⟩ := r'
    cases e
    have h1' := (hid_ex : Ex (Fz b A' O' H') H').t h1
    refine ⟨a, rfl, ⟨vs, h1'⟩, k _ _ A' O' H' q s' n' fun i A2 O2 H2 s2 n2 => ⟨fun hn _ => ⟨vs, hid_ex.t (n2.ext.t h1), by rw [h2.length]; exact itD_none hn⟩, fun t ht => ?_⟩⟩
    obtain ⟨d, e1, rfl⟩ := itD_some ht
    obtain ⟨v, e2, r⟩ := h2.get e1
    have h2' : SqT K H2 a vs := hid_ex.t (n2.ext.t h1)
    refine ⟨⟨vs, v, h2', e2⟩, fun x H3 y => ?_⟩
    obtain ⟨rfl, y⟩ := y
    have e3 := (y vs h2').symm.trans e2
    have e4 : x = v := Option.some.inj e3
    subst e4
    exact ⟨s2, Nxt.refl, ⟨_, rfl, r.ex n2.ext⟩⟩) kx
/-- the integers from lo on, n of them -/
def itR (lo c : Int) (n : Nat) : Nat → Option T := fun i => if i < n then some (.v (.int (lo + (i : Int) * c))) else none
theorem itR_none {lo c : Int} {n i : Nat} (h : itR lo c n i = none) : n ≤ i := by
  unfold itR at h
  by_cases q : i < n
  · rw [if_pos q] at h
    cases h
  · omega
theorem itR_some {lo c : Int} {n i : Nat} {t : T} (h : itR lo c n i = some t) : i < n ∧ t = .v (.int (lo + (i : Int) * c)) := by
  unfold itR at h
  by_cases q : i < n
  · rw [if_pos q] at h
    exact ⟨q, (Option.some.inj h).symm⟩
  · rw [if_neg q] at h
    cases h
theorem r_facts {b : Bs} {lo : Int} {n : Nat} {A' : List Addr} {O' : List OD} {H' : Hp} (i : Nat) (A2 : List Addr) (O2 : List OD) (H2 : Hp) (s2 : StO K b A2 O2 H2) :
    (itR lo 1 n i = none → (∀ j, j < i → itR lo 1 n j ≠ none) → (Itr lo n).stop i H2) ∧ (∀ t, itR lo 1 n i = some t → (Itr lo n).go i H2 ∧ ∀ x H3, (Itr lo n).yld i H2 x H3 → StO K b A2 O2 H3 ∧ Nxt b A2 O2 H2 A2 O2 H3 ∧ RepT K (Fz b A2 O2 H3) A2 t (some x)) := by
  refine ⟨fun hn _ => itR_none hn, fun t ht => ?_⟩
  obtain ⟨hi, rfl⟩ := itR_some ht
  refine ⟨hi, fun x H3 y => ?_⟩
  obtain ⟨rfl, rfl⟩ := y
  exact ⟨s2, Nxt.refl, ⟨_, rfl, by rw [Int.mul_one]; exact rfl⟩⟩
theorem i_rng1 {S : (Nat → Option T) → List OD → Prop} {X : XX} (h : WA K W ta O ts (fun xs O' => ∃ j : Int, xs = [.v (.int j)] ∧ (-(2 ^ 62) ≤ j ∧ j < 2 ^ 62) ∧ S (itR 0 1 j.toNat) O') X) : WI K W (iRng1 ta) O ts S X := fun b A σ H R s rs k kx =>
  h b A σ H _ s rs (fun xs vs A' O' H' p s' n' r' => by
    obtain ⟨j, rfl, hj, q⟩ := p
    obtain ⟨v, _, rfl, ⟨_, e, rfl⟩, rfl⟩ := r'
    cases e
    exact ⟨j, rfl, hj.1, hj.2, k _ _ A' O' H' q s' n' fun i A2 O2 H2 s2 _ => r_facts (A' := A') (O' := O') (H' := H') i A2 O2 H2 s2⟩) kx
theorem i_rng2 {S : (Nat → Option T) → List OD → Prop} {X : XX} (h : WA K W ta O ts (fun xs O' => ∃ i j : Int, xs = [.v (.int i), .v (.int j)] ∧ (-(2 ^ 62) ≤ i ∧ i < 2 ^ 62 ∧ -(2 ^ 62) ≤ j ∧ j < 2 ^ 62) ∧ S (itR i 1 (j - i).toNat) O') X) : WI K W (iRng2 ta) O ts S X := fun b A σ H R s rs k kx =>
  h b A σ H _ s rs (fun xs vs A' O' H' p s' n' r' => by
    obtain ⟨i, j, rfl, hj, q⟩ := p
    obtain ⟨v, _, rfl, ⟨_, e, rfl⟩, w', _, rfl, ⟨_, e2, rfl⟩, rfl⟩ := r'
    cases e
    cases e2
    exact ⟨i, j, rfl, hj, k _ _ A' O' H' q s' n' fun i A2 O2 H2 s2 _ => r_facts (A' := A') (O' := O') (H' := H') i A2 O2 H2 s2⟩) kx
theorem i_rng3 {S : (Nat → Option T) → List OD → Prop} {X : XX} (h : WA K W ta O ts (fun xs O' => ∃ (i j c : Int) (n : Nat), xs = [.v (.int i), .v (.int j), .v (.int c)] ∧ RgC i j c n ∧ S (itR i c n) O') X) : WI K W (iRng3 ta) O ts S X := fun b A σ H R s rs k kx =>
  h b A σ H _ s rs (fun xs vs A' O' H' p s' n' r' => by
    obtain ⟨i, j, c, n, rfl, hj, q⟩ := p
    obtain ⟨v, _, rfl, ⟨_, e, rfl⟩, w', _, rfl, ⟨_, e2, rfl⟩, w2, _, rfl, ⟨_, e3, rfl⟩, rfl⟩ := r'
    cases e
    cases e2
    cases e3
    refine ⟨i, j, c, n, rfl, hj, k _ _ A' O' H' q s' n' fun i' A2 O2 H2 s2 _ => ⟨fun hn _ => itR_none hn, fun t ht => ?_⟩⟩
    obtain ⟨hi, rfl⟩ := itR_some ht
    refine ⟨hi, fun x H3 y => ?_⟩
    obtain ⟨rfl, rfl⟩ := y
    exact ⟨s2, Nxt.refl, ⟨_, rfl, rfl⟩⟩) kx

/-- a for loop by an invariant over the turn, the slots and the owned things; n: the number of items -/
theorem s_for {wi : TI} {g : TG} {tb : TS} (h : WI K W wi O ts (fun f O1 => ∃ (n : Nat) (I : Nat → List T → List OD → Prop), (∀ i, i < n → f i ≠ none) ∧ f n = none ∧ I 0 ts O1 ∧
      (∀ i t ts' O', i < n → f i = some t → I i ts' O' → WG K W g t O' ts' (fun ts2 O2 => WS K W tb O2 ts2 { E with nx := I (i + 1), ct := I (i + 1), bk := E.nx })) ∧ (∀ ts' O', I n ts' O' → E.nx ts' O')) (fun C fs O' => E.xe C fs ts O')) : WS K W (tFor wi g tb) O ts E := fun b A σ H D s rs ks =>
  h b A σ H _ s rs (fun J f A1 O1 H1 p s1 n1 fc => by
    obtain ⟨n, I, hf, hn, h0, hs, hd⟩ := p
    refine ⟨fun i m σ' H' => m = n - i ∧ i ≤ n ∧ ∃ ts' A' O', I i ts' O' ∧ StO K b A' O' H' ∧ Nxt b A1 O1 H1 A' O' H' ∧ RepS K (Fz b A' O' H') A' ts' σ', ⟨n, by omega, Nat.zero_le _, ts, A1, O1, h0, s1, Nxt.refl, rs.nxt n1⟩, ?_⟩
    rintro i m σ' H' ⟨rfl, hi, ts', A', O', hI, s', n', rs'⟩
    obtain ⟨c1, c2⟩ := fc i A' O' H' s' n'
    by_cases hlt : i < n
    · right
      obtain ⟨t, ht⟩ := Option.ne_none_iff_exists'.mp (hf i hlt)
      obtain ⟨hgo, hy⟩ := c2 t ht
      refine ⟨hgo, fun σ2 H2 => ∃ ts2 A2 O2, I (i + 1) ts2 O2 ∧ StO K b A2 O2 H2 ∧ Nxt b A1 O1 H1 A2 O2 H2 ∧ RepS K (Fz b A2 O2 H2) A2 ts2 σ2, fun σ2 H2 q => ⟨n - (i + 1), by omega, rfl, hlt, q⟩, fun x H3 y => ?_⟩
      obtain ⟨s3, n3, r3⟩ := hy x H3 y
      refine hs i t ts' O' hlt ht hI b A' σ' H3 _ x s3 (rs'.nxt n3) r3 fun ts4 σ4 A4 O4 H4 p4 s4 n4 rs4 => ?_
      have n14 := (n'.trans n3).trans n4
      refine p4 b A4 σ4 H4 _ s4 rs4 ⟨fun ts5 σ5 A5 O5 H5 p5 s5 n5 rs5 => ⟨ts5, A5, O5, p5, s5, n14.trans n5, rs5⟩, ks.rt.nxt (n1.trans n14), ks.nx.nxt (n1.trans n14), fun ts5 σ5 A5 O5 H5 p5 s5 n5 rs5 => ⟨ts5, A5, O5, p5, s5, n14.trans n5, rs5⟩,
        fun C fs ts5 σ5 A5 O5 H5 d p5 s5 n5 rs5 rx => ks.xe C fs ts5 σ5 A5 O5 H5 d p5 s5 ((n1.trans n14).trans n5) rs5 rx⟩
    · left
      have e : i = n := by omega
      subst e
      exact ⟨c1 hn hf, ks.nx ts' σ' A' O' H' (hd ts' O' hI) s' (n1.trans n') rs'⟩) (ks.kx rs)
/-- while: an invariant with a measure -/
theorem s_while {tb : TS} (I : Nat → List T → List OD → Prop) (m0 : Nat) (h0 : I m0 ts O)
    (hs : ∀ m ts' O', I m ts' O' → WT K W tt O' ts' (fun c O2 => (c = true → WS K W tb O2 ts' { E with nx := fun ts3 O3 => ∃ m', m' < m ∧ I m' ts3 O3, ct := fun ts3 O3 => ∃ m', m' < m ∧ I m' ts3 O3, bk := E.nx }) ∧ (c = false → E.nx ts' O2)) (fun C fs O2 => E.xe C fs ts' O2)) :
    WS K W (tWhile tt tb) O ts E := fun b A σ H D s rs ks => by
  refine ⟨fun m σ' H' => ∃ ts' A' O', I m ts' O' ∧ StO K b A' O' H' ∧ Nxt b A O H A' O' H' ∧ RepS K (Fz b A' O' H') A' ts' σ', ⟨m0, ts, A, O, h0, s, Nxt.refl, rs⟩, ?_⟩
  rintro m σ' H' ⟨ts', A', O', hI, s', n', rs'⟩
  refine hs m ts' O' hI b A' σ' H' _ s' rs' (fun c A2 O2 H2 p2 s2 n2 => ?_) ((ks.nxt n').kx rs')
  cases c with
  | true =>
    refine iteT ⟨fun σ3 H3 => ∃ m', m' < m ∧ ∃ ts3 A3 O3, I m' ts3 O3 ∧ StO K b A3 O3 H3 ∧ Nxt b A O H A3 O3 H3 ∧ RepS K (Fz b A3 O3 H3) A3 ts3 σ3, fun σ3 H3 q => q, ?_⟩
    have n12 := n'.trans n2
    exact p2.1 rfl b A2 σ' H2 _ s2 (rs'.nxt n2) ⟨fun ts3 σ3 A3 O3 H3 ⟨m', l, p3⟩ s3 n3 rs3 => ⟨m', l, ts3, A3, O3, p3, s3, n12.trans n3, rs3⟩, ks.rt.nxt n12, ks.nx.nxt n12, fun ts3 σ3 A3 O3 H3 ⟨m', l, p3⟩ s3 n3 rs3 => ⟨m', l, ts3, A3, O3, p3, s3, n12.trans n3, rs3⟩,
      fun C fs ts3 σ3 A3 O3 H3 d p3 s3 n3 rs3 rx => ks.xe C fs ts3 σ3 A3 O3 H3 d p3 s3 (n12.trans n3) rs3 rx⟩
  | false => exact iteF (ks.nx ts' σ' A2 O2 H2 (p2.2 rfl) s2 (n'.trans n2) (rs'.nxt n2))
end
end G

set_option Elab.async false
set_option linter.all false
set_option maxRecDepth 100000
set_option maxHeartbeats 4000000
namespace G
open PySem PySem.Spec PyProof.Rows L2

/-! ### owned things are given up -/
theorem live_app : ∀ {A M : List Addr} {O N : List OD}, A.length = O.length → live (A ++ M) (O ++ N) = live A O ++ live M N
  | [], _, [], _, _ => rfl
  | [], _, _ :: _, _, h => by simp at h
  | _ :: _, _, [], _, h => by simp at h
  | a :: A, M, u :: O, N, h => by
    have ih := live_app (A := A) (O := O) (M := M) (N := N) (by simpa using h)
    cases u <;> simp only [List.cons_append, live, ih]
section
variable {K : PySem.W.Frag} {b : Bs} {A M : List Addr} {O N : List OD} {H : Hp}
theorem StO.drop (s : StO K b (A ++ M) (O ++ N) H) (hl : A.length = O.length) (hp : ∃ L, A = b.A0 ++ L) : StO K b A O H ∧ Ex (Fz b (A ++ M) (O ++ N) H) (Fz b A O H) := by
  have e := live_app (M := M) (N := N) hl
  have sub : ∀ a, a ∈ live A O → a ∈ live (A ++ M) (O ++ N) := fun a h => by
    rw [e]
    exact List.mem_append_left _ h
  have x : Ex (Fz b (A ++ M) (O ++ N) H) (Fz b A O H) := hid_mono (fun _ _ _ h => h) fun a o h _ z => by
    rcases List.mem_append.mp z with z | z
    · exact h (List.mem_append_left _ (sub a z))
    · exact h (List.mem_append_right _ z)
  refine ⟨⟨hl, hp, s.ext.trans (hid_mono (fun _ _ _ h => h) fun a o h _ z => h (sub a z)), s.zs, (List.nodup_append.mp s.nd).1, fun a h => s.inh a (List.mem_append_left _ h), fun i a o h1 h2 => ?_⟩, x⟩
  have l1 : i < A.length := (List.getElem?_eq_some_iff.mp h1).1
  exact (s.cell i a o (by rw [List.getElem?_append_left l1]; exact h1) (by rw [List.getElem?_append_left (by rw [← hl]; exact l1)]; exact h2)).ex x fun _ h => h
end

/-! ### a def's promise over data -/
def okG : List OD → Bool
  | [] => true
  | .gone :: _ => false
  | _ :: r => okG r
theorem okG_live : ∀ {A : List Addr} {O : List OD}, A.length = O.length → okG O = true → live A O = A
  | [], [], _, _ => rfl
  | [], _ :: _, h, _ => by simp at h
  | _ :: _, [], h, _ => by simp at h
  | a :: A, o :: O, h, g => by
    cases o with
    | gone => cases g
    | lst ds => exact congrArg (a :: ·) (okG_live (A := A) (O := O) (by simpa using h) g)
    | ins C fs => exact congrArg (a :: ·) (okG_live (A := A) (O := O) (by simpa using h) g)
    | dic kvs => exact congrArg (a :: ·) (okG_live (A := A) (O := O) (by simpa using h) g)
theorem okG_at : ∀ {O : List OD} {i : Nat} {o : OD}, okG O = true → O[i]? = some o → o ≠ .gone
  | [], _, _, _, h => by simp at h
  | o :: O, 0, _, g, h => by
    have e : o = _ := Option.some.inj h
    subst e
    intro z
    subst z
    cases g
  | o :: O, i + 1, _, g, h => by
    have g2 : okG O = true := by
      cases o with
      | gone => cases g
      | lst ds => exact g
      | ins C fs => exact g
      | dic kvs => exact g
    exact okG_at (i := i) g2 h

abbrev SpD := List T → List OD → PT' → XX → Prop
/-- the promise, over the heap -/
def lift (K : PySem.W.Frag) (sp : SpD) : Sp := fun vs H Q E => ∃ (Z A : List Addr) (O : List OD) (ts : List T) (P : PT') (X : XX),
  StO K ⟨hid A H, Z, A⟩ A O H ∧ okG O = true ∧ RepTs K (Fz ⟨hid A H, Z, A⟩ A O H) A ts vs ∧ sp ts O P X ∧
  (∀ t v O' H', P t O' → okG O' = true → StO K ⟨hid A H, Z, A⟩ A O' H' → RepT K (Fz ⟨hid A H, Z, A⟩ A O' H') A t (some v) → Q v H') ∧
  (∀ C fs O' H' d, X C fs O' → okG O' = true → StO K ⟨hid A H, Z, A⟩ A O' H' → RepX K (Fz ⟨hid A H, Z, A⟩ A O' H') H' fs d → E C d H')
theorem lift_len {K : PySem.W.Frag} {sp : SpD} {n : Nat} (h : ∀ ts O P X, sp ts O P X → ts.length = n) : ∀ vs H Q E, lift K sp vs H Q E → vs.length = n := fun vs H Q E ⟨_, _, _, ts, _, _, _, _, r, p, _, _⟩ => by
  rw [r.length]
  exact h _ _ _ _ p
/-- what a def hands back: an owned list of its own becomes plain data -/
def retOk (n : Nat) (P : PT') (t : T) (O : List OD) : Prop := okG (O.take n) = true ∧ match t with
  | .v d => P (.v d) (O.take n)
  | .own i => if i < n then P (.own i) (O.take n) else (match O[i]? with
    | some (.lst ds) => P (.v (.lst ds)) (O.take n)
    | some (.ins C fs) => P (.v (.ins C fs)) (O.take n)
    | some (.dic kvs) => P (.v (.dic kvs)) (O.take n)
    | _ => False)
  | .no => False
def bodyE (n : Nat) (P : PT') (X : XX) : DE where
  nx := fun _ O' => okG (O'.take n) = true ∧ P (.v .non) (O'.take n)
  rt := retOk n P
  xe := fun C fs _ O' => okG (O'.take n) = true ∧ X C fs (O'.take n)
def startT (N : Nat) (ts : List T) : List T := ts ++ List.replicate (N - ts.length) .no
theorem repS_start {K : PySem.W.Frag} {F : Hp} {A : List Addr} {N : List Str} {ts : List T} {vs : List V} (r : RepTs K F A ts vs) : RepS K F A (startT N.length ts) (L2.start N vs) := by
  have hl := r.length
  refine ⟨?_, fun i t h => ?_⟩
  · unfold startT L2.start
    rw [List.length_append, List.length_append, List.length_replicate, List.length_replicate, List.length_map, hl]
  · unfold startT at h
    unfold L2.start
    by_cases hi : i < ts.length
    · rw [List.getElem?_append_left hi] at h
      obtain ⟨v, e, q⟩ := r.get h
      refine ⟨some v, ?_, q⟩
      rw [List.getElem?_append_left (by rw [List.length_map, hl]; exact hi), List.getElem?_map, e]
      exact rfl
    · rw [List.getElem?_append_right (by omega)] at h
      rw [List.getElem?_append_right (by rw [List.length_map, hl]; omega), List.length_map, hl]
      rw [List.getElem?_replicate] at h ⊢
      by_cases h2 : i - ts.length < N.length - ts.length
      · rw [if_pos h2] at h ⊢
        have e : T.no = t := Option.some.inj h
        subst e
        exact ⟨_, rfl, trivial⟩
      · rw [if_neg h2] at h
        cases h
theorem enter {K : PySem.W.Frag} {sp : SpD} {t : TS} {N : List Str} {vs : List V} {H : Hp} {Q : VK} {E : XK} (h : lift K sp vs H Q E)
    (hb : ∀ ts O P X, sp ts O P X → okG O = true → WS K (fun c d _ H => E c d H) t O (startT N.length ts) (bodyE O.length P X)) : t { nx := fun _ H' => Q .non H', rt := Q } (L2.start N vs) H := by
  obtain ⟨Z, A, O, ts, P, X, s, g, r, p, hq, hx⟩ := h
  have hlen := s.len
  have shut : ∀ {A' O' H'}, StO K ⟨hid A H, Z, A⟩ A' O' H' → ∃ M, A' = A ++ M ∧ StO K ⟨hid A H, Z, A⟩ A (O'.take O.length) H' ∧ Ex (Fz ⟨hid A H, Z, A⟩ A' O' H') (Fz ⟨hid A H, Z, A⟩ A (O'.take O.length) H') := fun {A' O' H'} s' => by
    obtain ⟨M, e⟩ := s'.pre
    have e : A' = A ++ M := e
    subst e
    have l1 := s'.len
    rw [List.length_append] at l1
    have e2 : O' = O'.take O.length ++ O'.drop O.length := (List.take_append_drop _ _).symm
    have s2 := s'
    rw [e2] at s2
    obtain ⟨s3, x3⟩ := s2.drop (by rw [List.length_take]; omega) ⟨[], (List.append_nil A).symm⟩
    refine ⟨M, rfl, s3, ?_⟩
    rw [← e2] at x3
    exact x3
  refine hb ts O P X p g _ A _ H _ s (repS_start r) ⟨fun ts' σ' A' O' H' q s' _ _ => ?_, fun t v A' O' H' q s' _ rt => ?_, fun _ _ _ _ _ q => q.elim, fun _ _ _ _ _ q => q.elim, fun C fs ts' σ' A' O' H' d q s' _ _ rx => ?_⟩
  · obtain ⟨M, _, s3, _⟩ := shut s'
    exact hq (.v .non) .non _ H' q.2 q.1 s3 ⟨_, rfl, rfl⟩
  · obtain ⟨M, e, s3, x3⟩ := shut s'
    obtain ⟨q1, q2⟩ := q
    cases t with
    | v d =>
      obtain ⟨w, e4, r4⟩ := rt
      exact hq (.v d) v _ H' q2 q1 s3 ⟨w, e4, r4.ex x3⟩
    | own i =>
      obtain ⟨a, e4, e5⟩ := rt
      have ev : v = .ref a := Option.some.inj e5
      subst ev
      have q3 : if i < O.length then P (.own i) (O'.take O.length) else (match O'[i]? with
        | some (.lst ds) => P (.v (.lst ds)) (O'.take O.length)
        | some (.ins C fs) => P (.v (.ins C fs)) (O'.take O.length)
        | some (.dic kvs) => P (.v (.dic kvs)) (O'.take O.length)
        | _ => False) := q2
      by_cases hi : i < O.length
      · rw [if_pos hi] at q3
        refine hq (.own i) _ _ H' q3 q1 s3 ⟨a, ?_, rfl⟩
        rw [e, List.getElem?_append_left (by rw [hlen]; exact hi)] at e4
        exact e4
      · rw [if_neg hi] at q3
        have hn : a ∉ A := fun hm => by
          have nd := s'.nd
          rw [e] at nd e4
          rw [List.getElem?_append_right (by rw [hlen]; omega)] at e4
          exact (List.nodup_append.mp nd).2.2 a hm a (List.mem_of_getElem? e4) rfl
        have fz : ∀ o, H' a = some o → Fz ⟨hid A H, Z, A⟩ A (O'.take O.length) H' a = some o := fun o ho => hid_some.mpr ⟨fun z => by
          rcases List.mem_append.mp z with z | z
          · rw [okG_live s3.len q1] at z
            exact hn z
          · obtain ⟨o2, z2⟩ := s3.zs a z
            have z3 := (hid_some.mp z2).2
            have zz := s'.z_at (a := a) z
            cases ho' : O'[i]? with
            | none =>
              rw [ho'] at q3
              exact q3
            | some w =>
              rw [ho'] at q3
              have ng : w ≠ .gone := fun zz2 => by
                subst zz2
                exact q3
              exact zz.1 (live_at e4 ho' ng), ho⟩
        cases ho : O'[i]? with
        | none =>
          rw [ho] at q3
          exact q3.elim
        | some w =>
          rw [ho] at q3
          have c := s'.cell i a w e4 ho
          cases w with
          | gone => exact q3.elim
          | lst ds =>
            obtain ⟨us, c1, c2⟩ := c
            exact hq (.v (.lst ds)) _ _ H' q3 q1 s3 ⟨_, rfl, a, us, rfl, fz _ c1, c2.ex x3⟩
          | ins C fs =>
            obtain ⟨dx, us, c1, c2⟩ := c
            exact hq (.v (.ins C fs)) _ _ H' q3 q1 s3 ⟨_, rfl, a, dx, us, rfl, fz _ c1, c2.ex x3⟩
          | dic kvs =>
            obtain ⟨us, c1, c2⟩ := c
            exact hq (.v (.dic kvs)) _ _ H' q3 q1 s3 ⟨_, rfl, a, us, rfl, fz _ c1, c2.ex x3⟩
    | no => exact q2.elim
  · obtain ⟨M, _, s3, x3⟩ := shut s'
    refine hx C fs _ H' d q.2 q.1 s3 ?_
    cases fs with
    | none => exact rx
    | some l =>
      obtain ⟨dx, us, r1, r2, r3⟩ := rx
      exact ⟨dx, us, r1, r2, r3.ex x3⟩

/-! ### calls -/
section
variable {K : PySem.W.Frag} {W : WX} {O : List OD} {ts : List T} {P : PT'} {X : XX} {sp : SpD} {te ta : TE} {tr : TA} {E : XK}
theorem unv_reps {F : Hp} {A A' : List Addr} : ∀ {xs : List T} {vs : List V} {ds : List D}, unv xs = some ds → RepTs K F A xs vs → RepTs K F A' xs vs
  | [], _, _, _, h => h
  | .v d :: xs, _, ds, e, h => by
    obtain ⟨v, r, e1, ⟨w, e2, r2⟩, h2⟩ := h
    have e3 : (unv xs).map (d :: ·) = some ds := e
    cases q : unv xs with
    | none =>
      rw [q] at e3
      cases e3
    | some es => exact ⟨v, r, e1, ⟨w, e2, r2⟩, unv_reps q h2⟩
  | .own _ :: _, _, _, e, _ => by cases e
  | .no :: _, _, _, e, _ => by cases e
/-- into a def that is handed plain data alone -/
theorem lift_p {b : Bs} {A : List Addr} {O : List OD} {H : Hp} {σ : L2.St} {Q : VK} {vs : List V} {xs : List T} {ds : List D} (s : StO K b A O H) (r : RepTs K (Fz b A O H) A xs vs) (hx : unv xs = some ds) (hE : ∀ C d H, W C d σ H → E C d H)
    (p : sp xs [] (fun t _ => (∃ d, t = .v d) ∧ P t O) (fun C fs _ => X C fs O)) (kv : KV' K b A O H P Q) (kx : KX K W b A O σ H X) : lift K sp vs H Q E := by
  have eh : hid [] H = H := by
    funext a
    unfold hid
    rw [if_neg (by simp)]
  have nz : ∀ a, a ∈ live A O ++ b.Z → ∃ o, H a = some o := fun a h => by
    rcases List.mem_append.mp h with h | h
    · exact s.some_at h
    · exact (s.z_at h).2
  have back : ∀ {H'}, StO K ⟨hid [] H, live A O ++ b.Z, []⟩ [] [] H' → StO K b A O H' ∧ Nxt b A O H A O H' := fun {H'} s' => by
    have x : Ex H H' := by
      have x1 := s'.ext
      have e2 : hid (live [] []) H' = H' := by
        funext a
        show hid [] H' a = H' a
        unfold hid
        rw [if_neg (by simp)]
      rw [e2] at x1
      have x2 : Ex (hid [] H) H' := x1
      rw [eh] at x2
      exact x2
    have x3 : Ex (Fz b A O H) (Fz b A O H') := hid_mono (fun a o _ h => x a o h) fun _ _ h _ => h
    exact ⟨⟨s.len, s.pre, s.ext.trans (hid_mono (fun a o _ h => x a o h) fun _ _ h _ => h), s.zs, s.nd, fun a h => let ⟨o, q⟩ := s.inh a h; ⟨o, x a o q⟩, fun i a o h1 h2 => (s.cell i a o h1 h2).ex x3 (x a)⟩, ⟨[], (List.append_nil A).symm⟩, x3⟩
  refine ⟨live A O ++ b.Z, [], [], xs, _, _, ⟨rfl, ⟨[], rfl⟩, ?_, fun z hz => ?_, List.nodup_nil, fun a h => (by simp at h), fun i a o h _ => (by simp at h)⟩, rfl, unv_reps hx r, p, fun t v O' H' ⟨⟨d, e⟩, q⟩ g s' rt => ?_, fun C fs O' H' d q g s' rx => ?_⟩
  · show Ex (hid [] H) (hid [] H)
    exact Ex.refl _
  · obtain ⟨o, q⟩ := nz z hz
    exact ⟨o, by show hid [] H z = some o; rw [eh]; exact q⟩
  · have e0 : O' = [] := List.length_eq_zero_iff.mp s'.len.symm
    subst e0
    obtain ⟨s2, n2⟩ := back s'
    subst e
    exact kv _ v A O H' q s2 n2 rt
  · have e0 : O' = [] := List.length_eq_zero_iff.mp s'.len.symm
    subst e0
    obtain ⟨s2, n2⟩ := back s'
    exact hE C d H' (kx C fs A O H' d q s2 n2 rx)
theorem w_fn (hE : ∀ C d σ H, W C d σ H → E C d H) (h : WA K W tr O ts (fun xs O1 => ∃ ds, unv xs = some ds ∧ sp xs [] (fun t _ => (∃ d, t = .v d) ∧ P t O1) (fun C fs _ => X C fs O1)) X) : WE K W (tCall (lift K sp) [] E tr) O ts P X := fun b A σ H Q s rs kv kx =>
  h b A σ H _ s rs (fun xs vs A1 O1 H1 p1 s1 n1 r1 => by
    obtain ⟨ds, e, p⟩ := p1
    rw [List.append_nil]
    exact lift_p (W := W) (σ := σ) s1 r1 e (fun C d H => hE C d σ H) p (kv.nxt n1) (kx.nxt n1)) kx
/-- .. one that lets no exception out -/
theorem w_fn0 (h : WA K W tr O ts (fun xs O1 => ∃ ds, unv xs = some ds ∧ sp xs [] (fun t _ => (∃ d, t = .v d) ∧ P t O1) (fun _ _ _ => False)) X) : WE K W (tCall (lift K sp) [] E0 tr) O ts P X := fun b A σ H Q s rs kv kx =>
  h b A σ H _ s rs (fun xs vs A1 O1 H1 p1 s1 n1 r1 => by
    obtain ⟨ds, e, p⟩ := p1
    rw [List.append_nil]
    exact lift_p (W := fun _ _ _ _ => False) (X := fun _ _ _ => False) (σ := σ) s1 r1 e (fun C d H z => z) p (kv.nxt n1) (fun C fs A' O' H' d z => z.elim)) kx
end
end G

set_option Elab.async false
set_option linter.all false
set_option maxRecDepth 100000
set_option maxHeartbeats 4000000
namespace G
open PySem PySem.Spec PyProof.Rows L2

section
variable {K : PySem.W.Frag} {W : WX} {O : List OD} {ts : List T} {P : PT'} {X : XX} {sp : SpD} {te ta : TE} {tr : TA} {E : XK}
/-- into a def that is handed one owned thing, the i-th one (by it .own 0) -/
def tr1 (i : Nat) : List T → Option (List T)
  | [] => some []
  | .v d :: r => (tr1 i r).map (.v d :: ·)
  | .own j :: r => if j = i then (tr1 i r).map (.own 0 :: ·) else none
  | .no :: _ => none
abbrev un1 (i : Nat) : T → T
  | .own _ => .own i
  | t => t
theorem tr1_reps {F : Hp} {A : List Addr} {i : Nat} {a : Addr} (ha : A[i]? = some a) : ∀ {xs ys : List T} {vs : List V}, tr1 i xs = some ys → RepTs K F A xs vs → RepTs K F [a] ys vs
  | [], ys, _, e, h => by
    have e2 : [] = ys := Option.some.inj e
    subst e2
    exact h
  | .v d :: xs, ys, _, e, h => by
    obtain ⟨v, r, e1, ⟨w, e2, r2⟩, h2⟩ := h
    have e3 : (tr1 i xs).map (.v d :: ·) = some ys := e
    cases q : tr1 i xs with
    | none =>
      rw [q] at e3
      cases e3
    | some es =>
      rw [q] at e3
      have e4 : .v d :: es = ys := Option.some.inj e3
      subst e4
      exact ⟨v, r, e1, ⟨w, e2, r2⟩, tr1_reps ha q h2⟩
  | .own j :: xs, ys, _, e, h => by
    obtain ⟨v, r, e1, ⟨c, e2, r2⟩, h2⟩ := h
    have e3 : (if j = i then (tr1 i xs).map (.own 0 :: ·) else none) = some ys := e
    by_cases hj : j = i
    · rw [if_pos hj] at e3
      subst hj
      cases q : tr1 j xs with
      | none =>
        rw [q] at e3
        cases e3
      | some es =>
        rw [q] at e3
        have e4 : .own 0 :: es = ys := Option.some.inj e3
        subst e4
        rw [ha] at e2
        have e5 : a = c := Option.some.inj e2
        subst e5
        exact ⟨v, r, e1, ⟨a, rfl, r2⟩, tr1_reps ha q h2⟩
    · rw [if_neg hj] at e3
      cases e3
  | .no :: _, _, _, e, _ => by cases e
theorem lift_1 {b : Bs} {A : List Addr} {H : Hp} {σ : L2.St} {Q : VK} {vs : List V} {xs ys : List T} {i : Nat} {o : OD} (s : StO K b A O H) (r : RepTs K (Fz b A O H) A xs vs) (hx : tr1 i xs = some ys) (ho : O[i]? = some o) (ng : okG [o] = true) (hE : ∀ C d H, W C d σ H → E C d H)
    (p : sp ys [o] (fun t O' => ∃ o', O' = [o'] ∧ t ≠ .no ∧ P (un1 i t) (O.set i o')) (fun C fs O' => ∃ o', O' = [o'] ∧ X C fs (O.set i o'))) (kv : KV' K b A O H P Q) (kx : KX K W b A O σ H X) : lift K sp vs H Q E := by
  have ng1 : o ≠ .gone := fun z => by
    subst z
    cases ng
  have hi : i < A.length := by
    rw [s.len]
    exact (List.getElem?_eq_some_iff.mp ho).1
  obtain ⟨a, ha⟩ : ∃ a, A[i]? = some a := ⟨A[i], List.getElem?_eq_getElem hi⟩
  have hl : a ∈ live A O := live_at ha ho ng1
  have lv1 : ∀ {o' : OD}, o' ≠ .gone → live [a] [o'] = [a] := fun {o'} h => by
    cases o' with
    | gone => exact absurd rfl h
    | _ => rfl
  have mem : ∀ x, x ∈ [a] ++ ((live A O).filter (fun y => y != a) ++ b.Z) ↔ x ∈ live A O ++ b.Z := fun x => by
    simp only [List.mem_append, List.mem_singleton, List.mem_filter, bne_iff_ne, ne_eq]
    constructor
    · rintro (rfl | ⟨h, _⟩ | h)
      · exact .inl hl
      · exact .inl h
      · exact .inr h
    · rintro (h | h)
      · by_cases hx : x = a
        · exact .inl hx
        · exact .inr (.inl ⟨h, hx⟩)
      · exact .inr (.inr h)
  have hid_eq : ∀ H0 : Hp, hid ([a] ++ ((live A O).filter (fun y => y != a) ++ b.Z)) H0 = hid (live A O ++ b.Z) H0 := fun H0 => by
    funext x
    unfold hid
    by_cases hx : x ∈ live A O ++ b.Z
    · rw [if_pos hx, if_pos ((mem x).mpr hx)]
    · rw [if_neg hx, if_neg fun z => hx ((mem x).mp z)]
  have fzc : ∀ {o' : OD} {H0 : Hp}, o' ≠ .gone → Fz ⟨hid [a] H, (live A O).filter (fun y => y != a) ++ b.Z, [a]⟩ [a] [o'] H0 = hid (live A O ++ b.Z) H0 := fun {o' H0} h => by
    show hid (live [a] [o'] ++ ((live A O).filter (fun y => y != a) ++ b.Z)) H0 = _
    rw [lv1 h]
    exact hid_eq H0
  have back : ∀ {o' : OD} {H' : Hp}, o' ≠ .gone → StO K ⟨hid [a] H, (live A O).filter (fun y => y != a) ++ b.Z, [a]⟩ [a] [o'] H' → StO K b A (O.set i o') H' ∧ Nxt b A O H A (O.set i o') H' ∧ Fz b A (O.set i o') H' = hid (live A O ++ b.Z) H' := fun {o' H'} g s' => by
    have x : ∀ c u, c ≠ a → H c = some u → H' c = some u := fun c u hc h => by
      have x1 : Ex (hid [a] H) (hid (live [a] [o']) H') := s'.ext
      exact (hid_some.mp (x1 c u (hid_some.mpr ⟨by simpa using hc, h⟩))).2
    have el : live A (O.set i o') = live A O := live_set ho ng1 g
    have x3 : Ex (Fz b A O H) (Fz b A (O.set i o') H') := by
      unfold Fz
      rw [el]
      exact hid_mono (fun c u hc h => x c u (fun z => hc (List.mem_append_left _ (by rw [z]; exact hl))) h) fun _ _ h _ => h
    refine ⟨⟨by rw [List.length_set]; exact s.len, s.pre, ?_, s.zs, s.nd, fun c h => ?_, fun j c u h1 h2 => ?_⟩, ⟨⟨[], (List.append_nil A).symm⟩, x3⟩, by unfold Fz; rw [el]⟩
    · rw [el]
      exact s.ext.trans (hid_mono (fun c u hc h => x c u (fun z => hc (by rw [z]; exact hl)) h) fun _ _ h _ => h)
    · by_cases z : c = a
      · rw [z]
        exact s'.inh a List.mem_cons_self
      · obtain ⟨u, q⟩ := s.inh c h
        exact ⟨u, x c u z q⟩
    · rw [List.getElem?_set] at h2
      by_cases hij : i = j
      · subst hij
        rw [if_pos rfl] at h2
        rw [ha] at h1
        have e3 : a = c := Option.some.inj h1
        subst e3
        by_cases hlt : i < O.length
        · rw [if_pos hlt] at h2
          have e4 : o' = u := Option.some.inj h2
          subst e4
          have c := s'.cell 0 a o' rfl rfl
          refine c.ex (fun y w h => ?_) fun _ h => h
          rw [fzc g] at h
          unfold Fz
          rw [el]
          exact h
        · rw [if_neg hlt] at h2
          cases h2
      · rw [if_neg hij] at h2
        have hne : c ≠ a := fun z => hij (nd_ix s.nd ha (z ▸ h1))
        exact (s.cell j c u h1 h2).ex x3 fun w h => x c w hne h
  have one : ∀ {o' : OD}, okG [o'] = true → o' ≠ .gone := fun {o'} g z => by
    subst z
    cases g
  refine ⟨(live A O).filter (fun y => y != a) ++ b.Z, [a], [o], ys, _, _, ⟨rfl, ⟨[], rfl⟩, ?_, fun z hz => ?_, by simp, fun c h => ?_, fun j c u h1 h2 => ?_⟩, ng, ?_, p, fun t v O' H' ⟨o', e, hn, q⟩ g s' rt => ?_, fun C fs O' H' d ⟨o', e, q⟩ g s' rx => ?_⟩
  · show Ex (hid [a] H) (hid (live [a] [o]) H)
    rw [lv1 ng1]
    exact Ex.refl _
  · have hz' : z ≠ a ∧ ∃ u, H z = some u := by
      rcases List.mem_append.mp hz with hz | hz
      · obtain ⟨h1, h2⟩ := List.mem_filter.mp hz
        exact ⟨by simpa using h2, s.some_at h1⟩
      · obtain ⟨h1, h2⟩ := s.z_at hz
        exact ⟨fun z => h1 (by rw [z]; exact hl), h2⟩
    obtain ⟨h1, u, h2⟩ := hz'
    exact ⟨u, hid_some.mpr ⟨by simpa using h1, h2⟩⟩
  · rw [List.mem_singleton.mp h]
    exact s.some_at hl
  · have hj : j = 0 := by
      cases j with
      | zero => rfl
      | succ n => simp at h1
    subst hj
    have e1 : a = c := Option.some.inj h1
    have e2 : o = u := Option.some.inj h2
    subst e1 e2
    rw [fzc ng1]
    exact s.cell i a o ha ho
  · rw [fzc ng1]
    exact tr1_reps ha hx r
  · subst e
    have g1 := one g
    obtain ⟨s2, n2, f2⟩ := back g1 s'
    rw [fzc g1] at rt
    refine kv _ v A _ H' q s2 n2 ?_
    rw [f2]
    cases t with
    | v d => exact rt
    | own j =>
      obtain ⟨c, e1, e2⟩ := rt
      have hj : j = 0 := by
        cases j with
        | zero => rfl
        | succ n => simp at e1
      subst hj
      have e3 : a = c := Option.some.inj e1
      subst e3
      exact ⟨a, ha, e2⟩
    | no => exact absurd rfl hn
  · subst e
    have g1 := one g
    obtain ⟨s2, n2, f2⟩ := back g1 s'
    refine hE C d H' (kx C fs A _ H' d q s2 n2 ?_)
    rw [f2]
    rw [fzc g1] at rx
    exact rx
theorem w_fn1 (i : Nat) (hE : ∀ C d σ H, W C d σ H → E C d H) (h : WA K W tr O ts (fun xs O1 => ∃ ys o, tr1 i xs = some ys ∧ O1[i]? = some o ∧ okG [o] = true ∧
    sp ys [o] (fun t O' => ∃ o', O' = [o'] ∧ t ≠ .no ∧ P (un1 i t) (O1.set i o')) (fun C fs O' => ∃ o', O' = [o'] ∧ X C fs (O1.set i o'))) X) : WE K W (tCall (lift K sp) [] E tr) O ts P X := fun b A σ H Q s rs kv kx =>
  h b A σ H _ s rs (fun xs vs A1 O1 H1 p1 s1 n1 r1 => by
    obtain ⟨ys, o, e, ho, ng, p⟩ := p1
    rw [List.append_nil]
    exact lift_1 (W := W) (σ := σ) s1 r1 e ho ng (fun C d H => hE C d σ H) p (kv.nxt n1) (kx.nxt n1)) kx
theorem w_fn10 (i : Nat) (h : WA K W tr O ts (fun xs O1 => ∃ ys o, tr1 i xs = some ys ∧ O1[i]? = some o ∧ okG [o] = true ∧
    sp ys [o] (fun t O' => ∃ o', O' = [o'] ∧ t ≠ .no ∧ P (un1 i t) (O1.set i o')) (fun C fs O' => False)) X) : WE K W (tCall (lift K sp) [] E0 tr) O ts P X := fun b A σ H Q s rs kv kx =>
  h b A σ H _ s rs (fun xs vs A1 O1 H1 p1 s1 n1 r1 => by
    obtain ⟨ys, o, e, ho, ng, p⟩ := p1
    rw [List.append_nil]
    have x0 : (fun (C : Value) (fs : Option (List (Str × D))) (O' : List OD) => ∃ o', O' = [o'] ∧ (fun _ _ _ => False : XX) C fs (O1.set i o')) = fun _ _ _ => False := by
      funext C fs O'
      exact propext ⟨fun ⟨_, _, z⟩ => z, fun z => z.elim⟩
    exact lift_1 (W := fun _ _ _ _ => False) (X := fun _ _ _ => False) (σ := σ) s1 r1 e ho ng (fun C d H z => z) (by rw [x0]; exact p) (kv.nxt n1) (fun C fs A' O' H' d z => z.elim)) kx

/-! ### instances -/
theorem StO.lay2 {b : Bs} {A : List Addr} {H : Hp} (s : StO K b A O H) {p : Addr} (hp : H p = none) (o : HO) : StO K b A O (upd H p o) ∧ Nxt b A O H A O (upd H p o) := ⟨(s.lay hp o).1, (s.lay hp o).2.1⟩
/-- C(..): __init__ is handed the new instance as the owned thing 0, of no fields -/
theorem w_make0 {C : Addr} (h : WA K W tr O ts (fun xs O1 => ∃ ds, unv xs = some ds ∧ sp (.own 0 :: xs) [.ins C []] (fun t O' => t = .v .non ∧ ∃ fs, O' = [.ins C fs] ∧ P (.v (.ins C fs)) O1) (fun _ _ _ => False)) X) :
    WE K W (tMake C (lift K sp) [] E0 tr) O ts P X := fun b A σ H Q s rs kv kx =>
  h b A σ H _ s rs (fun xs vs A1 O1 H1 p1 s1 n1 r1 x dx hx hdx hne => by
    obtain ⟨ds, e, p⟩ := p1
    rw [List.append_nil]
    obtain ⟨s2, n2⟩ := s1.lay2 hdx (.own x)
    have hx2 : upd H1 dx (.own x) x = none := by
      rw [upd_ne hne.symm]
      exact hx
    obtain ⟨s3, n3⟩ := s2.own (u := .ins C dx []) (o := .ins C []) hx2 ⟨dx, [], upd_same, rfl⟩
    have n13 := n2.trans n3
    have hat : (A1 ++ [x])[A1.length]? = some x := by
      rw [List.getElem?_append_right (Nat.le_refl _), Nat.sub_self]
      exact rfl
    have hoat : (O1 ++ [OD.ins C []])[A1.length]? = some (.ins C []) := by
      rw [s1.len, List.getElem?_append_right (Nat.le_refl _), Nat.sub_self]
      exact rfl
    have tr : tr1 A1.length (.own A1.length :: xs) = some (.own 0 :: xs) := by
      have z : ∀ {xs : List T} {ds : List D}, unv xs = some ds → tr1 A1.length xs = some xs := fun {xs} => by
        induction xs with
        | nil => exact fun _ => rfl
        | cons t xs ih =>
          intro ds e
          cases t with
          | v d =>
            have e3 : (unv xs).map (d :: ·) = some ds := e
            cases q : unv xs with
            | none =>
              rw [q] at e3
              cases e3
            | some es =>
              show (tr1 A1.length xs).map (T.v d :: ·) = _
              rw [ih q]
              exact rfl
          | own j => cases e
          | no => cases e
      show (if A1.length = A1.length then (tr1 A1.length xs).map (T.own 0 :: ·) else none) = _
      rw [if_pos rfl, z e]
      exact rfl
    refine lift_1 (W := fun _ _ _ _ => False) (X := fun _ _ _ => False) (σ := σ) (P := fun t O' => t = .v .non ∧ ∃ fs, O' = O1 ++ [.ins C fs] ∧ P (.v (.ins C fs)) O1) s3 (xs := .own A1.length :: xs) ⟨.ref x, vs, rfl, ⟨x, hat, rfl⟩, r1.nxt n13⟩ tr hoat rfl (fun C d H z => z) ?_
      (fun t v A' O' H' q s' n' rt => ?_) (fun C fs A' O' H' d z => z.elim)
    · have x0 : (fun (C' : Value) (fs : Option (List (Str × D))) (O' : List OD) => ∃ o', O' = [o'] ∧ (fun _ _ _ => False : XX) C' fs ((O1 ++ [OD.ins C []]).set A1.length o')) = fun _ _ _ => False := by
        funext C fs O'
        exact propext ⟨fun ⟨_, _, z⟩ => z, fun z => z.elim⟩
      rw [x0]
      have pq : (fun (t : T) (O' : List OD) => ∃ o', O' = [o'] ∧ t ≠ .no ∧ (un1 A1.length t = .v .non ∧ ∃ fs, (O1 ++ [OD.ins C []]).set A1.length o' = O1 ++ [.ins C fs] ∧ P (.v (.ins C fs)) O1)) = fun t O' => t = .v .non ∧ ∃ fs, O' = [.ins C fs] ∧ P (.v (.ins C fs)) O1 := by
        have es : ∀ o' : OD, (O1 ++ [OD.ins C []]).set A1.length o' = O1 ++ [o'] := fun o' => by
          rw [s1.len, List.set_append_right _ _ (Nat.le_refl _), Nat.sub_self]
          exact rfl
        funext t O'
        refine propext ⟨?_, ?_⟩
        · rintro ⟨o', rfl, hn, hu, fs, e1, q⟩
          rw [es] at e1
          have e2 : o' = .ins C fs := by
            have := List.append_cancel_left e1
            injection this
          subst e2
          refine ⟨?_, fs, rfl, q⟩
          cases t with
          | v d => exact hu
          | own j => cases hu
          | no => exact absurd rfl hn
        · rintro ⟨rfl, fs, rfl, q⟩
          exact ⟨_, rfl, (fun z => by cases z), rfl, fs, es _, q⟩
      rw [pq]
      exact p
    · obtain ⟨rfl, fs, rfl, q⟩ := q
      obtain ⟨_, e1, e2⟩ := rt
      cases e1
      obtain ⟨M, eM⟩ := n'.pre
      have l2 := s'.len
      have eM0 : M = [] := by
        have l3 : A'.length = (A1 ++ [x] ++ M).length := by rw [eM]
        rw [List.length_append, List.length_append] at l3
        rw [List.length_append] at l2
        have l4 := s1.len
        refine List.length_eq_zero_iff.mp ?_
        simp only [List.length_singleton] at l2 l3
        omega
      subst eM0
      rw [List.append_nil] at eM
      subst eM
      have c := s'.cell A1.length x (.ins C fs) hat (by rw [s1.len, List.getElem?_append_right (Nat.le_refl _), Nat.sub_self]; exact rfl)
      obtain ⟨s4, x4⟩ := s'.drop s1.len s1.pre
      obtain ⟨dx', us, c1, c2⟩ := c
      have nA : x ∉ A1 := fun hm => (List.nodup_append.mp s'.nd).2.2 x hm x (List.mem_singleton.mpr rfl) rfl
      have nz : x ∉ live A1 O1 ++ b.Z := fun z => by
        rcases List.mem_append.mp z with z | z
        · obtain ⟨j, o, z1, _, _⟩ := live_mem z
          exact nA (List.mem_of_getElem? z1)
        · have zz := s1.z_at (a := x) z
          obtain ⟨o, zz⟩ := zz.2
          rw [hx] at zz
          cases zz
      have fz : Fz b A1 O1 H' x = some (.ins C dx' us) := hid_some.mpr ⟨nz, c1⟩
      refine ⟨e2, kv _ _ A1 O1 H' q s4 (n1.trans ⟨⟨[], (List.append_nil A1).symm⟩, ?_⟩) ⟨_, rfl, x, dx', us, rfl, fz, c2.ex x4⟩⟩
      exact (n13.ext.trans n'.ext).trans x4) kx
end
end G

set_option Elab.async false
set_option linter.all false
set_option maxRecDepth 100000
set_option maxHeartbeats 4000000
namespace G
open PySem PySem.Spec PyProof.Rows L2

/-! ### fields, methods -/
/-- an instance: plain, or owned -/
def InsD (x : T) (O : List OD) (C : Addr) (fs : List (Str × D)) : Prop := x = .v (.ins C fs) ∨ ∃ i, x = .own i ∧ O[i]? = some (.ins C fs)
theorem insD_v {O : List OD} {C : Addr} {fs : List (Str × D)} : InsD (.v (.ins C fs)) O C fs := .inl rfl
theorem insD_o {O : List OD} {C : Addr} {fs : List (Str × D)} {i : Nat} (h : O[i]? = some (.ins C fs)) : InsD (.own i) O C fs := .inr ⟨i, rfl, h⟩
theorem insD_at {K : PySem.W.Frag} {b : Bs} {A : List Addr} {O : List OD} {H : Hp} {x : T} {C : Addr} {fs : List (Str × D)} {v : V} (h : InsD x O C fs) (s : StO K b A O H) (r : RepT K (Fz b A O H) A x (some v)) :
    ∃ a dx vs, v = .ref a ∧ H a = some (.ins C dx vs) ∧ RepF K (Fz b A O H) fs vs := by
  rcases h with rfl | ⟨i, rfl, ho⟩
  · obtain ⟨_, e, a, dx, vs, rfl, h1, h2⟩ := r
    cases e
    exact ⟨a, dx, vs, rfl, (hid_some.mp h1).2, h2⟩
  · obtain ⟨a, ha, e⟩ := r
    cases e
    obtain ⟨dx, vs, h1, h2⟩ := s.cell i a _ ha ho
    exact ⟨a, dx, vs, rfl, h1, h2⟩
section
variable {K : PySem.W.Frag} {W : WX} {O : List OD} {ts : List T} {P : PT'} {X : XX} {sp : SpD} {te ta tv : TE} {tr : TA} {E : XK} {DE' : DE} {C : Addr} {f m : Str}
theorem w_fld (c : Cls K C) (n : NoAttr K C f) (h : WE K W ta O ts (fun x O1 => ∃ fs d, InsD x O1 C fs ∧ fs.lookup f = some d ∧ P (.v d) O1) X) : WE K W (tFld K ta f) O ts P X := fun b A σ H Q s rs kv kx =>
  h b A σ H _ s rs (fun x v A1 O1 H1 p1 s1 n1 r1 => by
    obtain ⟨fs, d, hi, hl, p⟩ := p1
    obtain ⟨a, dx, vs, rfl, h1, h2⟩ := insD_at hi s1 r1
    obtain ⟨w, e, r⟩ := h2.look hl
    exact ⟨a, C, dx, vs, w, rfl, h1, c, n, e, kv _ w A1 O1 H1 p s1 n1 ⟨w, rfl, r⟩⟩) kx
theorem w_con {cv : V} {u : Value} {d : D} (c : Cls K C) (k : Con K C f cv u) (hd : ∀ H, Rep K H d cv) (h : WE K W ta O ts (fun x O1 => ∃ fs, InsD x O1 C fs ∧ fs.lookup f = none ∧ P (.v d) O1) X) : WE K W (tCon K ta f) O ts P X := fun b A σ H Q s rs kv kx =>
  h b A σ H _ s rs (fun x v A1 O1 H1 p1 s1 n1 r1 => by
    obtain ⟨fs, hi, hl, p⟩ := p1
    obtain ⟨a, dx, vs, rfl, h1, h2⟩ := insD_at hi s1 r1
    exact ⟨a, C, dx, vs, cv, u, rfl, h1, c, k, h2.none hl, kv _ _ A1 O1 H1 p s1 n1 ⟨_, rfl, hd _⟩⟩) kx
def putD (f : Str) (d : D) : List (Str × D) → List (Str × D)
  | [] => [(f, d)]
  | p :: r => if p.1 = f then (f, d) :: r else p :: putD f d r
theorem repF_put {F : Hp} {f : Str} {d : D} {v : V} (q : Rep K F d v) : ∀ {fs : List (Str × D)} {vs : List (Str × V)}, RepF K F fs vs → RepF K F (putD f d fs) (putF f v vs)
  | [], _, h => by
    rw [show _ = [] from h]
    exact ⟨v, [], rfl, q, rfl⟩
  | p :: fs, _, h => by
    obtain ⟨w, r, e1, h1, h2⟩ := h
    subst e1
    show RepF K F (if p.1 = f then (f, d) :: fs else p :: putD f d fs) (putF f v ((p.1, w) :: r))
    unfold putF
    by_cases e : p.1 = f
    · rw [if_pos e]
      first
        | (rw [if_pos e]; exact ⟨v, r, rfl, q, h2⟩)
        | (rw [if_pos e.symm]; exact ⟨v, r, rfl, q, h2⟩)
        | (simp only [e, beq_self_eq_true, if_true]; exact ⟨v, r, rfl, q, h2⟩)
    · rw [if_neg e]
      first
        | (rw [if_neg e]; exact ⟨w, _, rfl, h1, repF_put q h2⟩)
        | (rw [if_neg (Ne.symm e)]; exact ⟨w, _, rfl, h1, repF_put q h2⟩)
        | (simp only [beq_iff_eq, e, if_false]; exact ⟨w, _, rfl, h1, repF_put q h2⟩)
theorem s_fld (c : Cls K C) (n : NoAttr K C f) (h : WE K W tv O ts (fun y O1 => WE K W ta O1 ts (fun x O2 => ∃ i fs d, x = .own i ∧ y = .v d ∧ O2[i]? = some (.ins C fs) ∧ fs.length < 1000 ∧ DE'.nx ts (O2.set i (.ins C (putD f d fs)))) (fun C fs O' => DE'.xe C fs ts O')) (fun C fs O' => DE'.xe C fs ts O')) :
    WS K W (sFld K ta tv f) O ts DE' := fun b A σ H D s rs ks =>
  h b A σ H _ s rs (fun y v A1 O1 H1 p1 s1 n1 r1 => by
    refine p1 b A1 σ H1 _ s1 (rs.nxt n1) (fun x u A2 O2 H2 p2 s2 n2 r2 => ?_) ((ks.kx rs).nxt n1)
    obtain ⟨i, fs, d, rfl, rfl, ho, hz, q⟩ := p2
    obtain ⟨a, ha, e⟩ := r2
    cases e
    obtain ⟨dx, vs, h1, h2⟩ := s2.cell i a _ ha ho
    obtain ⟨w, e2, rw'⟩ := r1.nxt n2
    cases e2
    obtain ⟨s3, n3⟩ := s2.put (w := .ins C dx (putF f v vs)) (o := .ins C (putD f d fs)) ha ho (fun z => by cases z) (fun z => by cases z) ⟨dx, _, upd_same, repF_put rw' h2⟩
    refine ⟨a, C, dx, vs, rfl, h1, c, n, by rw [h2.length]; exact hz, ks.nx ts σ A2 _ _ q s3 ((n1.trans n2).trans n3) (rs.nxt ((n1.trans n2).trans n3))⟩) (ks.kx rs)
/-- o.m(..) of a plain instance -/
theorem w_meth0 (h : WE K W ta O ts (fun x O1 => ∃ fs, x = .v (.ins C fs) ∧ fs.lookup m = none ∧ WA K W tr O1 ts (fun xs O2 => ∃ ds, unv xs = some ds ∧ sp (.v (.ins C fs) :: xs) [] (fun t _ => (∃ d, t = .v d) ∧ P t O2) (fun _ _ _ => False)) X) X) :
    WE K W (tMeth C m (lift K sp) [] E0 ta tr) O ts P X := fun b A σ H Q s rs kv kx =>
  h b A σ H _ s rs (fun x v A1 O1 H1 p1 s1 n1 r1 => by
    obtain ⟨fs, rfl, hm, p⟩ := p1
    obtain ⟨a, dx, vs, rfl, h1, h2⟩ := insD_at insD_v s1 r1
    refine ⟨a, dx, vs, rfl, h1, h2.none hm, p b A1 σ H1 _ s1 (rs.nxt n1) (fun xs us A2 O2 H2 p2 s2 n2 r2 => ?_) (kx.nxt n1)⟩
    obtain ⟨ds, e, q⟩ := p2
    rw [List.append_nil]
    exact lift_p (W := fun _ _ _ _ => False) (X := fun _ _ _ => False) (σ := σ) s2 (xs := .v (.ins C fs) :: xs) (ds := .ins C fs :: ds) ⟨.ref a, us, rfl, r1.nxt n2, r2⟩ (by show (unv xs).map _ = _; rw [e] <;> rfl) (fun C d H z => z) q (kv.nxt (n1.trans n2)) (fun C fs A' O' H' d z => z.elim)) kx
theorem w_meth (hE : ∀ C d σ H, W C d σ H → E C d H) (h : WE K W ta O ts (fun x O1 => ∃ fs, x = .v (.ins C fs) ∧ fs.lookup m = none ∧ WA K W tr O1 ts (fun xs O2 => ∃ ds, unv xs = some ds ∧ sp (.v (.ins C fs) :: xs) [] (fun t _ => (∃ d, t = .v d) ∧ P t O2) (fun C fs _ => X C fs O2)) X) X) :
    WE K W (tMeth C m (lift K sp) [] E ta tr) O ts P X := fun b A σ H Q s rs kv kx =>
  h b A σ H _ s rs (fun x v A1 O1 H1 p1 s1 n1 r1 => by
    obtain ⟨fs, rfl, hm, p⟩ := p1
    obtain ⟨a, dx, vs, rfl, h1, h2⟩ := insD_at insD_v s1 r1
    refine ⟨a, dx, vs, rfl, h1, h2.none hm, p b A1 σ H1 _ s1 (rs.nxt n1) (fun xs us A2 O2 H2 p2 s2 n2 r2 => ?_) (kx.nxt n1)⟩
    obtain ⟨ds, e, q⟩ := p2
    rw [List.append_nil]
    exact lift_p (W := W) (σ := σ) s2 (xs := .v (.ins C fs) :: xs) (ds := .ins C fs :: ds) ⟨.ref a, us, rfl, r1.nxt n2, r2⟩ (by show (unv xs).map _ = _; rw [e] <;> rfl) (fun C d H => hE C d σ H) q (kv.nxt (n1.trans n2)) (kx.nxt (n1.trans n2))) kx
end

/-! ### lists and tuples -/
def LstD (x : T) (O : List OD) (ds : List D) : Prop := x = .v (.lst ds) ∨ ∃ i, x = .own i ∧ O[i]? = some (.lst ds)
theorem lstD_v {O : List OD} {ds : List D} : LstD (.v (.lst ds)) O ds := .inl rfl
theorem lstD_o {O : List OD} {ds : List D} {i : Nat} (h : O[i]? = some (.lst ds)) : LstD (.own i) O ds := .inr ⟨i, rfl, h⟩
theorem lstD_atH {K : PySem.W.Frag} {b : Bs} {A : List Addr} {O : List OD} {H : Hp} {x : T} {ds : List D} {v : V} (h : LstD x O ds) (s : StO K b A O H) (r : RepT K (Fz b A O H) A x (some v)) :
    ∃ a vs, v = .ref a ∧ H a = some (.lst vs) ∧ RepL K (Fz b A O H) ds vs := by
  rcases h with rfl | ⟨i, rfl, ho⟩
  · obtain ⟨_, e, a, vs, rfl, h1, h2⟩ := r
    cases e
    exact ⟨a, vs, rfl, hid_ex _ _ h1, h2⟩
  · obtain ⟨a, ha, e⟩ := r
    cases e
    obtain ⟨vs, h1, h2⟩ := s.cell i a _ ha ho
    exact ⟨a, vs, rfl, h1, h2⟩
theorem lstD_at {K : PySem.W.Frag} {b : Bs} {A : List Addr} {O : List OD} {H : Hp} {x : T} {ds : List D} {v : V} (h : LstD x O ds) (s : StO K b A O H) (r : RepT K (Fz b A O H) A x (some v)) :
    ∃ a vs, v = .ref a ∧ SqL K H a vs ∧ RepL K (Fz b A O H) ds vs := by
  obtain ⟨a, vs, e, h1, h2⟩ := lstD_atH h s r
  exact ⟨a, vs, e, SqL.of h1, h2⟩
theorem tupD_at {K : PySem.W.Frag} {F H : Hp} {A : List Addr} {ds : List D} {v : V} (e : Ex F H) (r : RepT K F A (.v (.tup ds)) (some v)) : ∃ a vs, v = .ref a ∧ SqT K H a vs ∧ RepL K F ds vs := by
  obtain ⟨_, e1, a, vs, rfl, h1, h2⟩ := r
  cases e1
  exact ⟨a, vs, rfl, e.t h1, h2⟩
theorem atI_rep {K : PySem.W.Frag} {F : Hp} {ds : List D} {vs : List V} {i : Int} {d : D} (r : RepL K F ds vs) (h : atI ds i = some d) : ∃ v, atI vs i = some v ∧ Rep K F d v := by
  unfold atI at h ⊢
  rw [r.length]
  cases q : ixN ds.length i with
  | none =>
    rw [q] at h
    cases h
  | some j =>
    rw [q] at h
    exact r.get h
section
variable {K : PySem.W.Frag} {W : WX} {O : List OD} {ts : List T} {P : PT'} {X : XX} {te ta tv : TE} {tr : TA} {DE' : DE}
theorem w_ixL {x : T} {ds : List D} {i : Int} {d : D} (hx : LstD x O ds) (h : atI ds i = some d) (k : P (.v d) O) : WR K (rIxL K) x (.v (.int i)) O P := fun b A H Q v u s r1 r2 kv => by
  obtain ⟨a, vs, rfl, h1, h2⟩ := lstD_at hx s r1
  obtain ⟨_, e2, rfl⟩ := r2
  cases e2
  obtain ⟨w, e, r⟩ := atI_rep h2 h
  exact ⟨a, vs, i, w, rfl, rfl, h1, e, kv _ w A O H k s Nxt.refl ⟨w, rfl, r⟩⟩
theorem w_ixT {ds : List D} {i : Int} {d : D} (h : atI ds i = some d) (k : P (.v d) O) : WR K (rIxT K) (.v (.tup ds)) (.v (.int i)) O P := fun b A H Q v u s r1 r2 kv => by
  obtain ⟨a, vs, rfl, h1, h2⟩ := tupD_at (hid_ex : Ex (Fz b A O H) H) r1
  obtain ⟨_, e2, rfl⟩ := r2
  cases e2
  obtain ⟨w, e, r⟩ := atI_rep h2 h
  exact ⟨a, vs, i, w, rfl, rfl, h1, e, kv _ w A O H k s Nxt.refl ⟨w, rfl, r⟩⟩
theorem atI_0 {α : Type} {x : α} {r : List α} : atI (x :: r) 0 = some x := atI_nat (j := 0) rfl
theorem atI_1 {α : Type} {x y : α} {r : List α} : atI (x :: y :: r) 1 = some y := atI_nat (j := 1) rfl
theorem atI_2 {α : Type} {x y z : α} {r : List α} : atI (x :: y :: z :: r) 2 = some z := atI_nat (j := 2) rfl
theorem atI_3 {α : Type} {x y z u : α} {r : List α} : atI (x :: y :: z :: u :: r) 3 = some u := atI_nat (j := 3) rfl
theorem atI_4 {α : Type} {x y z u v : α} {r : List α} : atI (x :: y :: z :: u :: v :: r) 4 = some v := atI_nat (j := 4) rfl
theorem atI_5 {α : Type} {x y z u v w : α} {r : List α} : atI (x :: y :: z :: u :: v :: w :: r) 5 = some w := atI_nat (j := 5) rfl
theorem atI_6 {α : Type} {x y z u v w k : α} {r : List α} : atI (x :: y :: z :: u :: v :: w :: k :: r) 6 = some k := atI_nat (j := 6) rfl
/-- xs[i] = e -/
theorem g_setL {te ti : TE} {x : T} {N : List T → List OD → Prop} (h : WE K W te O ts (fun y O1 => WE K W ti O1 ts (fun z O2 => ∃ (i : Nat) (ds : List D) (k : Int) (j : Nat) (d : D), y = .own i ∧ z = .v (.int k) ∧ x = .v d ∧ O2[i]? = some (.lst ds) ∧ ixN ds.length k = some j ∧ N ts (O2.set i (.lst (ds.set j d)))) (fun _ _ _ => False)) (fun _ _ _ => False)) :
    WG K W (gSub te ti rSetL) x O ts N := fun b A σ H Q v s rs r kn => by
  refine h b A σ H _ s rs (fun y u A1 O1 H1 p1 s1 n1 r1 => ?_) (fun C fs A' O' H' d z => z.elim)
  refine p1 b A1 σ H1 _ s1 (rs.nxt n1) (fun z w A2 O2 H2 p2 s2 n2 r2 => ?_) (fun C fs A' O' H' d z => z.elim)
  obtain ⟨i, ds, k, j, d, rfl, rfl, rfl, ho, hk, q⟩ := p2
  obtain ⟨a, ha, e⟩ := r1.nxt n2
  cases e
  obtain ⟨_, e2, rfl⟩ := r2
  cases e2
  obtain ⟨vs, h1, h2⟩ := s2.cell i a _ ha ho
  obtain ⟨v', e3, rd⟩ := r.nxt (n1.trans n2)
  cases e3
  obtain ⟨s3, n3⟩ := s2.put (w := .lst (vs.set j v)) (o := .lst (ds.set j d)) ha ho (fun z => by cases z) (fun z => by cases z) ⟨_, upd_same, h2.set rd j⟩
  exact ⟨a, vs, k, j, rfl, rfl, h1, by rw [h2.length]; exact hk, kn ts σ A2 _ _ q s3 ((n1.trans n2).trans n3) (rs.nxt ((n1.trans n2).trans n3))⟩
/-! methods of lists -/
theorem w_bmL {rm : V → List V → Hp → VK → Prop} (h : WE K W ta O ts (fun x O1 => ∃ ds, LstD x O1 ds ∧ WA K W tr O1 ts (fun xs O2 => WM K rm x xs O2 P) X) X) : WE K W (tBM K "list" rm ta tr) O ts P X := fun b A σ H Q s rs kv kx =>
  h b A σ H _ s rs (fun x v A1 O1 H1 p1 s1 n1 r1 => by
    obtain ⟨ds, hx, p⟩ := p1
    obtain ⟨a, vs, rfl, h1, h2⟩ := lstD_at hx s1 r1
    exact ⟨.inl ⟨rfl, vs, h1⟩, p b A1 σ H1 _ s1 (rs.nxt n1) (fun xs us A2 O2 H2 p2 s2 n2 r2 => p2 b A2 H2 Q _ us s2 (r1.nxt n2) r2 (kv.nxt (n1.trans n2))) (kx.nxt n1)⟩) kx
theorem w_bmL0 {rm : V → List V → Hp → VK → Prop} (h : WE K W ta O ts (fun x O1 => ∃ ds, LstD x O1 ds ∧ WM K rm x [] O1 P) X) : WE K W (tBM0 K "list" rm ta) O ts P X := fun b A σ H Q s rs kv kx =>
  h b A σ H _ s rs (fun x v A1 O1 H1 p1 s1 n1 r1 => by
    obtain ⟨ds, hx, p⟩ := p1
    obtain ⟨a, vs, rfl, h1, h2⟩ := lstD_at hx s1 r1
    exact ⟨.inl ⟨rfl, vs, h1⟩, p b A1 H1 Q _ [] s1 r1 rfl (kv.nxt n1)⟩) kx
theorem m_append {i : Nat} {ds : List D} {d : D} (ho : O[i]? = some (.lst ds)) (hz : ds.length < sizeLine) (k : P (.v .non) (O.set i (.lst (ds ++ [d])))) : WM K rAppend (.own i) [.v d] O P := fun b A H Q v vs s r1 r2 kv => by
  obtain ⟨a, ha, e⟩ := r1
  cases e
  obtain ⟨us, h1, h2⟩ := s.cell i a _ ha ho
  obtain ⟨w, _, rfl, ⟨w2, e2, rd⟩, rfl⟩ := r2
  cases e2
  obtain ⟨s3, n3⟩ := s.put (w := .lst (us ++ [w])) (o := .lst (ds ++ [d])) ha ho (fun z => by cases z) (fun z => by cases z) ⟨_, upd_same, h2.append ⟨w, [], rfl, rd, rfl⟩⟩
  exact ⟨a, us, w, rfl, rfl, h1, by rw [h2.length]; exact hz, kv _ .non A _ _ k s3 n3 ⟨_, rfl, rfl⟩⟩
theorem m_pop {i : Nat} {ds : List D} {d : D} (ho : O[i]? = some (.lst ds)) (hz : ds[ds.length - 1]? = some d) (k : P (.v d) (O.set i (.lst ds.dropLast))) : WM K rPop (.own i) [] O P := fun b A H Q v vs s r1 r2 kv => by
  obtain ⟨a, ha, e⟩ := r1
  cases e
  obtain ⟨us, h1, h2⟩ := s.cell i a _ ha ho
  obtain ⟨w, e2, rd⟩ := h2.get hz
  have dl : RepL K (Fz b A O H) ds.dropLast us.dropLast := by
    rw [List.dropLast_eq_take, List.dropLast_eq_take, h2.length]
    exact h2.take _
  obtain ⟨s3, n3⟩ := s.put (w := .lst us.dropLast) (o := .lst ds.dropLast) ha ho (fun z => by cases z) (fun z => by cases z) ⟨_, upd_same, dl⟩
  exact ⟨a, us, w, rfl, r2, h1, by rw [h2.length]; exact e2, kv _ w A _ _ k s3 n3 ⟨w, rfl, rd.ex n3.ext⟩⟩

/-! slices -/
def WO (K : PySem.W.Frag) (W : WX) (to : TO) (O : List OD) (ts : List T) (P : Option Int → List OD → Prop) (X : XX) : Prop :=
  ∀ b A σ H Q, StO K b A O H → RepS K (Fz b A O H) A ts σ → (∀ c A' O' H', P c O' → StO K b A' O' H' → Nxt b A O H A' O' H' → Q c H') → KX K W b A O σ H X → to σ H Q
theorem o_none {PO' : Option Int → List OD → Prop} (k : PO' none O) : WO K W tNoPart O ts PO' X := fun b A σ H Q s rs kb _ => kb none A O H k s Nxt.refl
theorem o_some {PO' : Option Int → List OD → Prop} (h : WE K W te O ts (fun t O' => ∃ i, t = .v (.int i) ∧ PO' (some i) O') X) : WO K W (tPart te) O ts PO' X := fun b A σ H Q s rs kb kx =>
  h b A σ H _ s rs (fun t v A1 O1 H1 p1 s1 n1 r1 => by
    obtain ⟨i, rfl, p⟩ := p1
    obtain ⟨_, e, rfl⟩ := r1
    cases e
    exact ⟨i, rfl, kb _ A1 O1 H1 p s1 n1⟩) kx
def cutD (xs : List D) (lo hi : Option Int) : List D := (xs.drop (HT.sIx xs.length 0 lo)).take (HT.sIx xs.length xs.length hi - HT.sIx xs.length 0 lo)
theorem cut_rep {F : Hp} {ds : List D} {vs : List V} (r : RepL K F ds vs) (lo hi : Option Int) : RepL K F (cutD ds lo hi) (cutV vs lo hi) := by
  unfold cutD cutV
  rw [r.length]
  exact (r.drop _).take _
theorem w_slL {tl th : TO} (h : WE K W te O ts (fun x O1 => WO K W tl O1 ts (fun lo O2 => WO K W th O2 ts (fun hi O3 => ∃ ds, LstD x O3 ds ∧ P (.v (.lst (cutD ds lo hi))) O3) X) X) X) : WE K W (tSl (rSlL K) te tl th) O ts P X := fun b A σ H Q s rs kv kx =>
  h b A σ H _ s rs (fun x v A1 O1 H1 p1 s1 n1 r1 => p1 b A1 σ H1 _ s1 (rs.nxt n1) (fun lo A2 O2 H2 p2 s2 n2 => p2 b A2 σ H2 _ s2 (rs.nxt (n1.trans n2)) (fun hi A3 O3 H3 p3 s3 n3 => by
    obtain ⟨ds, hx, p⟩ := p3
    obtain ⟨a, vs, rfl, h1, h2⟩ := lstD_at hx s3 (r1.nxt (n2.trans n3))
    refine ⟨a, vs, rfl, h1, fun p' hp => ?_⟩
    obtain ⟨s4, n4, q⟩ := s3.lay hp (.lst (cutV vs lo hi))
    exact kv _ _ A3 O3 _ p s4 (((n1.trans n2).trans n3).trans n4) ⟨_, rfl, p', _, rfl, q, (cut_rep h2 lo hi).ex n4.ext⟩) (kx.nxt (n1.trans n2))) (kx.nxt n1)) kx
/-- a tuple's slice; the whole is the tuple itself -/
def rSlT2 (K : PySem.W.Frag) : V → Option Int → Option Int → Hp → VK → Prop := fun x lo hi H Q => ∃ a xs, x = .ref a ∧ SqT K H a xs ∧ (¬ (HT.sIx xs.length 0 lo = 0 ∧ HT.sIx xs.length xs.length hi = xs.length) ∧ ∀ p, H p = none → Q (.ref p) (upd H p (.tup (cutV xs lo hi))))

/-! ### built-in calls -/
theorem c_int {i : Int} (k : P (.v (.int i)) O) : WC K (fun xs H Q => (∃ i, xs = [.int i] ∧ Q (.int i) H) ∨ ∃ k, xs = [.bl k] ∧ Q (.int (if k then 1 else 0)) H) [.v (.int i)] O P := fun b A H Q vs s r kv => by
  obtain ⟨v, _, rfl, ⟨_, e, rfl⟩, rfl⟩ := r
  cases e
  exact .inl ⟨i, rfl, kv _ _ A O H k s Nxt.refl ⟨_, rfl, rfl⟩⟩
theorem c_intB {c : Bool} (k : P (.v (.int (if c then 1 else 0))) O) : WC K (fun xs H Q => (∃ i, xs = [.int i] ∧ Q (.int i) H) ∨ ∃ k, xs = [.bl k] ∧ Q (.int (if k then 1 else 0)) H) [.v (.bl c)] O P := fun b A H Q vs s r kv => by
  obtain ⟨v, _, rfl, ⟨_, e, rfl⟩, rfl⟩ := r
  cases e
  exact .inr ⟨c, rfl, kv _ _ A O H k s Nxt.refl ⟨_, rfl, rfl⟩⟩
theorem c_abs {i : Int} (k : P (.v (.int (if i < 0 then -i else i))) O) : WC K (fun xs H Q => ∃ i, xs = [.int i] ∧ Q (.int (if i < 0 then -i else i)) H) [.v (.int i)] O P := fun b A H Q vs s r kv => by
  obtain ⟨v, _, rfl, ⟨_, e, rfl⟩, rfl⟩ := r
  cases e
  exact ⟨i, rfl, kv _ _ A O H k s Nxt.refl ⟨_, rfl, rfl⟩⟩
def rLen (K : PySem.W.Frag) : List V → Hp → VK → Prop := fun xs H Q => ∃ x n, xs = [x] ∧ LenV K x H n ∧ Q (.int n) H
theorem cr_len {X : Cx} : CallR X (.builtin "len") (rLen X.K) := call_len
theorem c_lenL {x : T} {ds : List D} (hx : LstD x O ds) (k : P (.v (.int ds.length)) O) : WC K (rLen K) [x] O P := fun b A H Q vs s r kv => by
  obtain ⟨v, _, rfl, r1, rfl⟩ := r
  obtain ⟨a, us, rfl, h1, h2⟩ := lstD_at hx s r1
  refine ⟨.ref a, ds.length, rfl, .inl ⟨us, h1, h2.length.symm⟩, kv _ _ A O H k s Nxt.refl ⟨_, rfl, rfl⟩⟩
theorem c_lenT {ds : List D} (k : P (.v (.int ds.length)) O) : WC K (rLen K) [.v (.tup ds)] O P := fun b A H Q vs s r kv => by
  obtain ⟨v, _, rfl, r1, rfl⟩ := r
  obtain ⟨a, us, rfl, h1, h2⟩ := tupD_at (hid_ex : Ex (Fz b A O H) H) r1
  refine ⟨.ref a, ds.length, rfl, .inr ⟨us, h1, h2.length.symm⟩, kv _ _ A O H k s Nxt.refl ⟨_, rfl, rfl⟩⟩
theorem c_lenS {x : Str} (hz : x.length ≤ sizeLine) (k : P (.v (.int x.length)) O) : WC K (rLen K) [.v (.str x)] O P := fun b A H Q vs s r kv => by
  obtain ⟨v, _, rfl, ⟨_, e, rfl⟩, rfl⟩ := r
  cases e
  exact ⟨.str x, x.length, rfl, ⟨hz, rfl⟩, kv _ _ A O H k s Nxt.refl ⟨_, rfl, rfl⟩⟩
def rListOf (K : PySem.W.Frag) : List V → Hp → VK → Prop := fun xs H Q => ∃ p ys, xs = [.ref p] ∧ (SqL K H p ys ∨ SqT K H p ys) ∧ ∀ l, H l = none → Q (.ref l) (upd H l (.lst ys))
theorem cr_list {X : Cx} : CallR X (.type "list") (rListOf X.K) := call_list_of
def rTupOf (K : PySem.W.Frag) : List V → Hp → VK → Prop := fun xs H Q => ∃ p ys, xs = [.ref p] ∧ ((SqL K H p ys ∧ ∀ l, H l = none → Q (.ref l) (upd H l (.tup ys))) ∨ (SqT K H p ys ∧ Q (.ref p) H))
theorem cr_tup {X : Cx} : CallR X (.type "tuple") (rTupOf X.K) := call_tuple_of
theorem c_listL {x : T} {ds : List D} (hx : LstD x O ds) (k : P (.v (.lst ds)) O) : WC K (rListOf K) [x] O P := fun b A H Q vs s r kv => by
  obtain ⟨v, _, rfl, r1, rfl⟩ := r
  obtain ⟨a, us, rfl, h1, h2⟩ := lstD_at hx s r1
  refine ⟨a, us, rfl, .inl h1, fun p hp => ?_⟩
  obtain ⟨s2, n2, q⟩ := s.lay hp (.lst us)
  exact kv _ _ A O _ k s2 n2 ⟨_, rfl, p, us, rfl, q, h2.ex n2.ext⟩
theorem c_listT {ds : List D} (k : P (.v (.lst ds)) O) : WC K (rListOf K) [.v (.tup ds)] O P := fun b A H Q vs s r kv => by
  obtain ⟨v, _, rfl, r1, rfl⟩ := r
  obtain ⟨a, us, rfl, h1, h2⟩ := tupD_at (hid_ex : Ex (Fz b A O H) H) r1
  refine ⟨a, us, rfl, .inr h1, fun p hp => ?_⟩
  obtain ⟨s2, n2, q⟩ := s.lay hp (.lst us)
  exact kv _ _ A O _ k s2 n2 ⟨_, rfl, p, us, rfl, q, h2.ex n2.ext⟩
theorem c_tupL {x : T} {ds : List D} (hx : LstD x O ds) (k : P (.v (.tup ds)) O) : WC K (rTupOf K) [x] O P := fun b A H Q vs s r kv => by
  obtain ⟨v, _, rfl, r1, rfl⟩ := r
  obtain ⟨a, us, rfl, h1, h2⟩ := lstD_at hx s r1
  refine ⟨a, us, rfl, .inl ⟨h1, fun p hp => ?_⟩⟩
  obtain ⟨s2, n2, q⟩ := s.lay hp (.tup us)
  exact kv _ _ A O _ k s2 n2 ⟨_, rfl, p, us, rfl, SqT.of q, h2.ex n2.ext⟩
theorem c_tupT {ds : List D} (k : P (.v (.tup ds)) O) : WC K (rTupOf K) [.v (.tup ds)] O P := fun b A H Q vs s r kv => by
  obtain ⟨v, _, rfl, r1, rfl⟩ := r
  obtain ⟨a, us, rfl, h1, h2⟩ := tupD_at (hid_ex : Ex (Fz b A O H) H) r1
  exact ⟨a, us, rfl, .inr ⟨h1, kv _ _ A O H k s Nxt.refl r1⟩⟩
/-! lists of ints, of bools -/
def dI' (ns : List Int) : List D := ns.map D.int
def dB (bs : List Bool) : List D := bs.map D.bl
theorem rep_ints {F : Hp} : ∀ {ns : List Int} {vs : List V}, RepL K F (ns.map D.int) vs → vs = ns.map V.int
  | [], _, h => h
  | n :: ns, _, h => by
    obtain ⟨v, r, rfl, rfl, h2⟩ := h
    rw [rep_ints h2] <;> rfl
theorem rep_bools {F : Hp} : ∀ {ns : List Bool} {vs : List V}, RepL K F (ns.map D.bl) vs → vs = ns.map V.bl
  | [], _, h => h
  | n :: ns, _, h => by
    obtain ⟨v, r, rfl, rfl, h2⟩ := h
    rw [rep_bools h2] <;> rfl
theorem ints_rep {F : Hp} : ∀ {ns : List Int}, RepL K F (ns.map D.int) (ns.map V.int)
  | [] => rfl
  | n :: ns => ⟨_, _, rfl, rfl, ints_rep (ns := ns)⟩
theorem c_sum {x : T} {ns : List Int} (hx : LstD x O (ns.map D.int)) (k : P (.v (.int ns.sum)) O) : WC K (rSum K) [x] O P := fun b A H Q vs s r kv => by
  obtain ⟨v, _, rfl, r1, rfl⟩ := r
  obtain ⟨a, us, rfl, h1, h2⟩ := lstD_at hx s r1
  rw [rep_ints h2] at h1
  exact ⟨a, ns, rfl, h1, kv _ _ A O H k s Nxt.refl ⟨_, rfl, rfl⟩⟩
theorem c_all {x : T} {bs : List Bool} (hx : LstD x O (bs.map D.bl)) (k : P (.v (.bl (bs.all id))) O) : WC K (rAll K) [x] O P := fun b A H Q vs s r kv => by
  obtain ⟨v, _, rfl, r1, rfl⟩ := r
  obtain ⟨a, us, rfl, h1, h2⟩ := lstD_at hx s r1
  rw [rep_bools h2] at h1
  exact ⟨a, bs, rfl, h1, kv _ _ A O H k s Nxt.refl ⟨_, rfl, rfl⟩⟩
theorem c_any {x : T} {bs : List Bool} (hx : LstD x O (bs.map D.bl)) (k : P (.v (.bl (bs.any id))) O) : WC K (rAny K) [x] O P := fun b A H Q vs s r kv => by
  obtain ⟨v, _, rfl, r1, rfl⟩ := r
  obtain ⟨a, us, rfl, h1, h2⟩ := lstD_at hx s r1
  rw [rep_bools h2] at h1
  exact ⟨a, bs, rfl, h1, kv _ _ A O H k s Nxt.refl ⟨_, rfl, rfl⟩⟩
end
end G

set_option Elab.async false
set_option linter.all false
set_option maxRecDepth 100000
set_option maxHeartbeats 4000000
namespace G
open PySem PySem.Spec PyProof.Rows L2

/-! ### comprehensions -/
def wipeT (ts : List T) : List Nat → List T
  | [] => ts
  | v :: vs => (wipeT ts vs).set v .no
theorem repS_wipe {K : PySem.W.Frag} {F : Hp} {A : List Addr} {ts : List T} {σ : L2.St} (h : RepS K F A ts σ) : ∀ vs : List Nat, RepS K F A (wipeT ts vs) (wipe σ vs)
  | [] => h
  | v :: vs => by
    have ih := repS_wipe h vs
    refine ⟨by show ((wipeT ts vs).set v .no).length = ((wipe σ vs).set v none).length; rw [List.length_set, List.length_set]; exact ih.1, fun j u e => ?_⟩
    have e : ((wipeT ts vs).set v .no)[j]? = some u := e
    show ∃ o, ((wipe σ vs).set v none)[j]? = some o ∧ _
    rw [List.getElem?_set] at e
    by_cases hij : v = j
    · subst hij
      rw [if_pos rfl] at e
      by_cases hl : v < (wipeT ts vs).length
      · rw [if_pos hl] at e
        have e2 : T.no = u := Option.some.inj e
        subst e2
        refine ⟨none, ?_, trivial⟩
        rw [List.getElem?_set_self (by rw [← ih.1]; exact hl)]
      · rw [if_neg hl] at e
        cases e
    · rw [if_neg hij] at e
      obtain ⟨o, e1, r1⟩ := ih.2 j u e
      refine ⟨o, ?_, r1⟩
      rw [List.getElem?_set_ne hij]
      exact e1
/-- the target touches the block's own slots alone -/
def Tgt (g : TG) (vs : List Nat) : Prop := ∀ v σ H (Q : L2.St → Hp → Prop), g v σ H Q → g v σ H fun σ2 H2 => wipe σ2 vs = wipe σ vs ∧ Q σ2 H2
def Tgts (g : TGs) (vs : List Nat) : Prop := ∀ xs σ H (Q : L2.St → Hp → Prop), g xs σ H Q → g xs σ H fun σ2 H2 => wipe σ2 vs = wipe σ vs ∧ Q σ2 H2
theorem wipe_get {σ : L2.St} : ∀ (vs : List Nat) (i : Nat), (wipe σ vs)[i]? = if i ∈ vs then (σ[i]?).map (fun _ => none) else σ[i]?
  | [], i => by simp [wipe]
  | v :: vs, i => by
    show ((wipe σ vs).set v none)[i]? = _
    rw [List.getElem?_set, wipe_get vs i]
    by_cases h : v = i
    · subst h
      rw [if_pos rfl, if_pos List.mem_cons_self]
      by_cases hl : v < (wipe σ vs).length
      · rw [if_pos hl]
        rw [wipe_length] at hl
        rw [List.getElem?_eq_getElem hl] <;> rfl
      · rw [if_neg hl]
        rw [wipe_length] at hl
        rw [List.getElem?_eq_none (by omega)] <;> rfl
    · rw [if_neg h]
      by_cases hm : i ∈ vs
      · rw [if_pos hm, if_pos (List.mem_cons_of_mem _ hm)]
      · rw [if_neg hm, if_neg (fun z => by rcases List.mem_cons.mp z with z | z; exact h z.symm; exact hm z)]
theorem wipe_set {σ : L2.St} {j : Nat} {o : Option V} {vs : List Nat} (h : j ∈ vs) : wipe (σ.set j o) vs = wipe σ vs := by
  refine List.ext_getElem? fun i => ?_
  rw [wipe_get, wipe_get, List.getElem?_set]
  by_cases hi : i ∈ vs
  · rw [if_pos hi, if_pos hi]
    by_cases hj : j = i
    · subst hj
      rw [if_pos rfl]
      by_cases hl : j < σ.length
      · rw [if_pos hl, List.getElem?_eq_getElem hl] <;> rfl
      · rw [if_neg hl, List.getElem?_eq_none (by omega)]
    · rw [if_neg hj]
  · have hne : ¬ j = i := fun z => hi (z ▸ h)
    rw [if_neg hi, if_neg hi, if_neg hne]
theorem tgt_name {j : Nat} {vs : List Nat} (h : j ∈ vs) : Tgt (gName j) vs := fun v σ H Q q => ⟨wipe_set h, q⟩
theorem tgt_nil {vs : List Nat} : Tgts gNil vs := fun xs σ H Q q => ⟨q.1, rfl, q.2⟩
theorem TGs_mono {g : TGs} {vs : List Nat} (h : Tgts g vs) {xs : List V} {σ : L2.St} {H : Hp} {Q : L2.St → Hp → Prop} (q : g xs σ H Q) : g xs σ H fun σ2 H2 => wipe σ2 vs = wipe σ vs ∧ Q σ2 H2 := h xs σ H Q q
theorem tgt_cons1 {j : Nat} {gs : TGs} {vs : List Nat} (h : j ∈ vs) (hs : Tgts gs vs) : Tgts (gCons (gName j) gs) vs := fun xs σ H Q q => by
  obtain ⟨v, r, rfl, q⟩ := q
  refine ⟨v, r, rfl, ?_⟩
  have q2 := hs r (σ.set j (some v)) H Q q
  rw [wipe_set h] at q2
  exact q2
theorem tgt_tup {K : PySem.W.Frag} {n : Nat} {gs : TGs} {vs : List Nat} (h : Tgts gs vs) : Tgt (gTup K n gs) vs := fun v σ H Q q => by
  obtain ⟨a, xs, e, h1, h2, q⟩ := q
  exact ⟨a, xs, e, h1, h2, h xs σ H Q q⟩

section
variable {K : PySem.W.Frag} {W : WX} {O : List OD} {ts : List T} {P : PT'} {X : XX} {te : TE} {tt : TT}
/-- no exception may leave -/
abbrev X0 : XX := fun _ _ _ => False
theorem w_yes {PB' : PB} (k : PB' true O) : WT K W tYes O ts PB' X := fun b A σ H Q s rs kb _ => kb true A O H k s Nxt.refl
theorem w_lc {wi : TI} {g : TG} {vs : List Nat} (hg : Tgt g vs) (h : WI K W wi O ts (fun f O1 => ∃ (n : Nat) (I : Nat → List D → List OD → Prop), (∀ i, i < n → f i ≠ none) ∧ f n = none ∧ I 0 [] O1 ∧ (∀ i acc O', I i acc O' → O'.length = O1.length) ∧
      (∀ i t acc O', i < n → f i = some t → I i acc O' → WG K W g t (O' ++ [.lst acc]) (wipeT ts vs) (fun ts2 O2 => WT K W tt O2 ts2 (fun c O3 =>
        (c = true → WE K W te O3 ts2 (fun y O4 => ∃ d O5, y = .v d ∧ O4 = O5 ++ [.lst acc] ∧ acc.length < sizeLine ∧ I (i + 1) (acc ++ [d]) O5) X0) ∧ (c = false → ∃ O5, O3 = O5 ++ [.lst acc] ∧ I (i + 1) acc O5)) X0)) ∧
      (∀ acc O', I n acc O' → P (.v (.lst acc)) O')) X) : WE K W (tLc wi g tt te vs) O ts P X := fun b A σ H Q s rs kv kx =>
  h b A σ H _ s rs (fun J f A1 O1 H1 p s1 n1 fc => by
    obtain ⟨n, I, hf, hn, h0, hlen, hs, hd⟩ := p
    intro Dl hD
    obtain ⟨s2, n2⟩ := s1.own (u := .lst []) (o := .lst []) hD ⟨[], upd_same, rfl⟩
    have at_ : ∀ {O' : List OD} {acc : List D}, O'.length = O1.length → (O' ++ [OD.lst acc])[A1.length]? = some (.lst acc) := fun {O' acc} e => by
      rw [s1.len, List.getElem?_append_right (by omega), e, Nat.sub_self]
      exact rfl
    have atA : (A1 ++ [Dl])[A1.length]? = some Dl := by
      rw [List.getElem?_append_right (Nat.le_refl _), Nat.sub_self]
      exact rfl
    refine ⟨fun i m H' => m = n - i ∧ i ≤ n ∧ ∃ acc O', I i acc O' ∧ StO K b (A1 ++ [Dl]) (O' ++ [.lst acc]) H' ∧ Nxt b A1 O1 H1 (A1 ++ [Dl]) (O' ++ [.lst acc]) H', ⟨n, by omega, Nat.zero_le _, [], O1, h0, s2, n2⟩, ?_⟩
    rintro i m H' ⟨rfl, hi, acc, O', hI, s', n'⟩
    have hl := hlen i acc O' hI
    obtain ⟨c1, c2⟩ := fc i _ _ H' s' n'
    by_cases hlt : i < n
    · right
      obtain ⟨t, ht⟩ := Option.ne_none_iff_exists'.mp (hf i hlt)
      obtain ⟨hgo, hy⟩ := c2 t ht
      refine ⟨hgo, fun H2 => ∃ acc2 O2, I (i + 1) acc2 O2 ∧ StO K b (A1 ++ [Dl]) (O2 ++ [.lst acc2]) H2 ∧ Nxt b A1 O1 H1 (A1 ++ [Dl]) (O2 ++ [.lst acc2]) H2, fun H2 q => ⟨n - (i + 1), by omega, rfl, hlt, q⟩, fun x H3 y => ?_⟩
      obtain ⟨s3, n3, r3⟩ := hy x H3 y
      have rsw : RepS K (Fz b (A1 ++ [Dl]) (O' ++ [.lst acc]) H3) (A1 ++ [Dl]) (wipeT ts vs) (wipe σ vs) := repS_wipe (rs.nxt ((n1.trans n').trans n3)) vs
      have key := hs i t acc O' hlt ht hI b (A1 ++ [Dl]) (wipe σ vs) H3 (fun σ2 H2 => tt σ2 H2 fun c H4 => if c = true then te σ2 H4 fun y H5 => ∃ acc, H5 Dl = some (.lst acc) ∧ acc.length < sizeLine ∧ ∃ acc2 O2, I (i + 1) acc2 O2 ∧ StO K b (A1 ++ [Dl]) (O2 ++ [.lst acc2]) (upd H5 Dl (.lst (acc ++ [y]))) ∧ Nxt b A1 O1 H1 (A1 ++ [Dl]) (O2 ++ [.lst acc2]) (upd H5 Dl (.lst (acc ++ [y])))
        else ∃ acc2 O2, I (i + 1) acc2 O2 ∧ StO K b (A1 ++ [Dl]) (O2 ++ [.lst acc2]) H4 ∧ Nxt b A1 O1 H1 (A1 ++ [Dl]) (O2 ++ [.lst acc2]) H4) x s3 rsw r3 fun ts4 σ4 A4 O4 H4 p4 s4 n4 rs4 => ?_
      · have k2 := hg x (wipe σ vs) H3 _ key
        have ww : wipe (wipe σ vs) vs = wipe σ vs := by
          refine List.ext_getElem? fun i => ?_
          rw [wipe_get, wipe_get]
          by_cases hi : i ∈ vs
          · rw [if_pos hi, if_pos hi]
            cases σ[i]? <;> rfl
          · rw [if_neg hi, if_neg hi]
        rw [ww] at k2
        exact k2
      · have n14 := (n'.trans n3).trans n4
        refine p4 b A4 σ4 H4 _ s4 rs4 (fun c A5 O5 H5 p5 s5 n5 => ?_) (fun C fs A' O' H' d z => z.elim)
        have n15 := n14.trans n5
        have prefixA : ∀ {A6 O6 H6}, Nxt b A1 O1 H1 A6 O6 H6 → Nxt b (A1 ++ [Dl]) (O' ++ [.lst acc]) H' A6 O6 H6 → StO K b A6 O6 H6 → O6.length = O1.length + 1 → A6 = A1 ++ [Dl] := fun {A6 O6 H6} n6 m6 s6 l6 => by
          obtain ⟨M, e⟩ := m6.pre
          have l7 := s6.len
          rw [e, List.length_append, List.length_append, s1.len] at l7
          have : M.length = 0 := by
            simp only [List.length_singleton] at l7
            omega
          rw [e, List.length_eq_zero_iff.mp this, List.append_nil]
        cases c with
        | true =>
          refine iteT (p5.1 rfl b A5 σ4 H5 _ s5 (rs4.nxt n5) (fun y v A6 O6 H6 p6 s6 n6 r6 => ?_) (fun C fs A' O' H' d z => z.elim))
          obtain ⟨d, O7, rfl, rfl, hz, hI2⟩ := p6
          have hl7 := hlen _ _ _ hI2
          have eA := prefixA (n'.trans (((n3.trans n4).trans n5).trans n6)) (((n3.trans n4).trans n5).trans n6) s6 (by rw [List.length_append, hl7] <;> rfl)
          subst eA
          obtain ⟨us, h1, h2⟩ := s6.cell A1.length Dl _ atA (at_ hl7)
          obtain ⟨w, e2, rd⟩ := r6
          cases e2
          refine ⟨us, h1, by rw [h2.length]; exact hz, acc ++ [d], O7, hI2, ?_⟩
          obtain ⟨s8, n8⟩ := s6.put (w := .lst (us ++ [v])) (o := .lst (acc ++ [d])) atA (at_ hl7) (fun z => by cases z) (fun z => by cases z) ⟨_, upd_same, h2.append ⟨v, [], rfl, rd, rfl⟩⟩
          have es : (O7 ++ [OD.lst acc]).set A1.length (.lst (acc ++ [d])) = O7 ++ [.lst (acc ++ [d])] := by
            rw [s1.len, ← hl7, List.set_append_right _ _ (Nat.le_refl _), Nat.sub_self]
            exact rfl
          rw [es] at s8 n8
          exact ⟨s8, n'.trans ((((n3.trans n4).trans n5).trans n6).trans n8)⟩
        | false =>
          refine iteF ?_
          obtain ⟨O7, rfl, hI2⟩ := p5.2 rfl
          have hl7 := hlen _ _ _ hI2
          have eA := prefixA (n'.trans ((n3.trans n4).trans n5)) ((n3.trans n4).trans n5) s5 (by rw [List.length_append, hl7] <;> rfl)
          subst eA
          exact ⟨acc, O7, hI2, s5, n'.trans ((n3.trans n4).trans n5)⟩
    · left
      have e : i = n := by omega
      subst e
      refine ⟨c1 hn hf, ?_⟩
      obtain ⟨us, h1, h2⟩ := s'.cell A1.length Dl _ atA (at_ hl)
      obtain ⟨s5, x5⟩ := s'.drop (by rw [hl]; exact s1.len) s1.pre
      have nA : Dl ∉ A1 := fun hm => (List.nodup_append.mp s'.nd).2.2 Dl hm Dl (List.mem_singleton.mpr rfl) rfl
      have nz : Dl ∉ live A1 O' ++ b.Z := fun z => by
        rcases List.mem_append.mp z with z | z
        · obtain ⟨j, o, z1, _, _⟩ := live_mem z
          exact nA (List.mem_of_getElem? z1)
        · have zz := s1.z_at (a := Dl) z
          obtain ⟨o, zz⟩ := zz.2
          rw [hD] at zz
          cases zz
      exact kv _ _ A1 O' H' (hd acc O' hI) s5 (n1.trans ⟨⟨[], (List.append_nil A1).symm⟩, n'.ext.trans x5⟩) ⟨_, rfl, Dl, us, rfl, (hid_some.mpr ⟨nz, h1⟩), h2.ex x5⟩) kx
end

/-! ### equality of data -/
mutual
def toP : D → PyData
  | .non => .none
  | .bl b => .bool b
  | .int i => .int i
  | .str x => .str x
  | .lst ds => .list (toPs ds)
  | .tup ds => .tuple (toPs ds)
  | _ => .none
def toPs : List D → List PyData
  | [] => []
  | d :: ds => toP d :: toPs ds
end
mutual
/-- data that can be compared, of depth at most n -/
def pl : Nat → D → Bool
  | _, .non => true
  | _, .bl _ => true
  | _, .int _ => true
  | _, .str x => PyData.canLay0 (.str x)
  | n + 1, .lst ds => pls n ds
  | n + 1, .tup ds => pls n ds
  | _, _ => false
def pls : Nat → List D → Bool
  | _, [] => true
  | n, d :: ds => pl n d && pls n ds
end
mutual
theorem rep_dp {K : PySem.W.Frag} {H : Hp} : ∀ (n : Nat) (d : D) {v : V}, pl n d = true → Rep K H d v → Dp K H v (toP d)
  | _, .non, _, _, r => by rw [show _ = V.non from r]; exact .non
  | _, .bl b, _, _, r => by rw [show _ = V.bl b from r]; exact .bl b
  | _, .int b, _, _, r => by rw [show _ = V.int b from r]; exact .int b
  | _, .str b, _, _, r => by rw [show _ = V.str b from r]; exact .str b
  | n + 1, .lst ds, _, h, r => by
    obtain ⟨a, vs, rfl, h1, h2⟩ := r
    exact .lst (SqL.of h1) (reps_dp n ds h h2)
  | n + 1, .tup ds, _, h, r => by
    obtain ⟨a, vs, rfl, h1, h2⟩ := r
    exact .tup h1 (reps_dp n ds h h2)
  | 0, .lst ds, _, h, _ => by cases h
  | 0, .tup ds, _, h, _ => by cases h
  | 0, .ins _ _, _, h, _ => by cases h
  | _ + 1, .ins _ _, _, h, _ => by cases h
  | 0, .ref _, _, h, _ => by cases h
  | _ + 1, .ref _, _, h, _ => by cases h
  | 0, .ty _, _, h, _ => by cases h
  | _ + 1, .ty _, _, h, _ => by cases h
  | 0, .dic _, _, h, _ => by cases h
  | _ + 1, .dic _, _, h, _ => by cases h
  | 0, .scr _, _, h, _ => by cases h
  | _ + 1, .scr _, _, h, _ => by cases h
  | 0, .exc _ _, _, h, _ => by cases h
  | _ + 1, .exc _ _, _, h, _ => by cases h
theorem reps_dp {K : PySem.W.Frag} {H : Hp} : ∀ (n : Nat) (ds : List D) {vs : List V}, pls n ds = true → RepL K H ds vs → DpAll K H vs (toPs ds)
  | _, [], _, _, r => by rw [show _ = [] from r]; exact .nil
  | n, d :: ds, _, h, r => by
    obtain ⟨v, s, rfl, r1, r2⟩ := r
    have h' : (pl n d && pls n ds) = true := h
    obtain ⟨h1, h2⟩ := Bool.and_eq_true_iff.mp h'
    exact .cons (rep_dp n d h1 r1) (reps_dp n ds h2 r2)
end
mutual
theorem pl_shape : ∀ (n : Nat) (d : D), pl n d = true → (toP d).canLay0 = true ∧ (toP d).depth ≤ n
  | _, .non, _ => ⟨by simp only [toP, PyData.canLay0], by simp only [toP, PyData.depth]; omega⟩
  | _, .bl b, _ => ⟨by simp only [toP, PyData.canLay0], by simp only [toP, PyData.depth]; omega⟩
  | _, .int b, _ => ⟨by simp only [toP, PyData.canLay0], by simp only [toP, PyData.depth]; omega⟩
  | _, .str b, h => ⟨h, by simp only [toP, PyData.depth]; omega⟩
  | n + 1, .lst ds, h => by
    obtain ⟨h1, h2⟩ := pls_shape n ds h
    exact ⟨by simp only [toP, PyData.canLay0]; exact h1, by simp only [toP, PyData.depth]; omega⟩
  | n + 1, .tup ds, h => by
    obtain ⟨h1, h2⟩ := pls_shape n ds h
    exact ⟨by simp only [toP, PyData.canLay0]; exact h1, by simp only [toP, PyData.depth]; omega⟩
  | 0, .lst ds, h => by cases h
  | 0, .tup ds, h => by cases h
  | 0, .ins _ _, h => by cases h
  | _ + 1, .ins _ _, h => by cases h
  | 0, .ref _, h => by cases h
  | _ + 1, .ref _, h => by cases h
  | 0, .ty _, h => by cases h
  | _ + 1, .ty _, h => by cases h
  | 0, .scr _, h => by cases h
  | _ + 1, .scr _, h => by cases h
  | 0, .exc _ _, h => by cases h
  | _ + 1, .exc _ _, h => by cases h
  | 0, .dic _, h => by cases h
  | _ + 1, .dic _, h => by cases h
theorem pls_shape : ∀ (n : Nat) (ds : List D), pls n ds = true → PyData.canLayAll0 (toPs ds) = true ∧ PyData.depthAll (toPs ds) ≤ n
  | n, [], _ => ⟨by simp only [toPs, PyData.canLayAll0], by simp only [toPs, PyData.depthAll]; omega⟩
  | n, d :: ds, h => by
    have h' : (pl n d && pls n ds) = true := h
    obtain ⟨h1, h2⟩ := Bool.and_eq_true_iff.mp h'
    obtain ⟨a1, a2⟩ := pl_shape n d h1
    obtain ⟨b1, b2⟩ := pls_shape n ds h2
    exact ⟨by simp only [toPs, PyData.canLayAll0, a1, b1, Bool.and_self], by simp only [toPs, PyData.depthAll]; omega⟩
end
theorem pl_shaped {d : D} (h : pl 60 d = true) : SeqAt.shaped (toP d) = true := by
  obtain ⟨h1, h2⟩ := pl_shape 60 d h
  unfold SeqAt.shaped
  rw [h1, decide_eq_true (by omega)] <;> rfl
def eqD (d e : D) : Bool := PyData.eqv (toP d) (toP e)
/-- a value, or an owned list, as data -/
def ValD (x : T) (O : List OD) (d : D) : Prop := x = .v d ∨ ∃ i ds, x = .own i ∧ O[i]? = some (.lst ds) ∧ d = .lst ds
theorem valD_v {O : List OD} {d : D} : ValD (.v d) O d := .inl rfl
theorem valD_o {O : List OD} {i : Nat} {ds : List D} (h : O[i]? = some (.lst ds)) : ValD (.own i) O (.lst ds) := .inr ⟨i, ds, rfl, h, rfl⟩
theorem valD_dp {K : PySem.W.Frag} {b : Bs} {A : List Addr} {O : List OD} {H : Hp} {x : T} {d : D} {v : V} (hp : pl 60 d = true) (h : ValD x O d) (s : StO K b A O H) (r : RepT K (Fz b A O H) A x (some v)) : Dp K H v (toP d) := by
  rcases h with rfl | ⟨i, ds, rfl, ho, rfl⟩
  · obtain ⟨_, e, r⟩ := r
    cases e
    exact rep_dp 60 d hp (r.ex hid_ex)
  · obtain ⟨a, ha, e⟩ := r
    cases e
    obtain ⟨vs, h1, h2⟩ := s.cell i a _ ha ho
    have h2' : RepL K H ds vs := h2.ex hid_ex
    exact rep_dp 60 (.lst ds) hp ⟨a, vs, rfl, h1, h2'⟩
section
variable {K : PySem.W.Frag} {W : WX} {O : List OD} {ts : List T} {P : PT'} {X : XX} {te : TE} {tr : TA}
theorem w_eqD {x y : T} {d e : D} (hx : ValD x O d) (hy : ValD y O e) (h1 : pl 60 d = true) (h2 : pl 60 e = true) (k : P (.v (.bl (eqD d e))) O) : WR K (rEqD K) x y O P := fun b A H Q v u s r1 r2 kv =>
  ⟨toP d, toP e, valD_dp h1 hx s r1, valD_dp h2 hy s r2, pl_shaped h1, pl_shaped h2, kv _ _ A O H k s Nxt.refl ⟨_, rfl, rfl⟩⟩
theorem w_neD {x y : T} {d e : D} (hx : ValD x O d) (hy : ValD y O e) (h1 : pl 60 d = true) (h2 : pl 60 e = true) (k : P (.v (.bl (!eqD d e))) O) : WR K (rNeD K) x y O P := fun b A H Q v u s r1 r2 kv =>
  ⟨toP d, toP e, valD_dp h1 hx s r1, valD_dp h2 hy s r2, pl_shaped h1, pl_shaped h2, kv _ _ A O H k s Nxt.refl ⟨_, rfl, rfl⟩⟩
/-! is None -/
def isNon : D → Bool
  | .non => true
  | _ => false
theorem isNon_v {F : Hp} {d : D} {v : V} (r : Rep K F d v) : decide (v = .non) = isNon d := by
  cases d with
  | non => rw [show v = .non from r] <;> rfl
  | bl b => rw [show v = .bl b from r] <;> rfl
  | int b => rw [show v = .int b from r] <;> rfl
  | str b => rw [show v = .str b from r] <;> rfl
  | ty b => rw [show v = .ty b from r] <;> rfl
  | ref b => rw [show v = .ref b from r] <;> rfl
  | lst ds =>
    obtain ⟨a, vs, rfl, _⟩ := r
    rfl
  | tup ds =>
    obtain ⟨a, vs, rfl, _⟩ := r
    rfl
  | ins C fs =>
    obtain ⟨a, dx, vs, rfl, _⟩ := r
    rfl
  | dic kvs =>
    obtain ⟨a, vs, rfl, _⟩ := r
    rfl
  | scr kvs =>
    obtain ⟨a, rfl, _⟩ := r
    rfl
  | exc C fs =>
    obtain ⟨a, d, vs, rfl, _⟩ := r
    rfl
theorem w_isN {d : D} (k : P (.v (.bl (isNon d))) O) : WR K rIsN (.v d) (.v .non) O P := fun b A H Q v u s r1 r2 kv => by
  obtain ⟨_, e1, q1⟩ := r1
  obtain ⟨_, e2, rfl⟩ := r2
  cases e1
  cases e2
  refine ⟨rfl, ?_⟩
  rw [isNon_v q1]
  exact kv _ _ A O H k s Nxt.refl ⟨_, rfl, rfl⟩
theorem w_notN {d : D} (k : P (.v (.bl (!isNon d))) O) : WR K rNotN (.v d) (.v .non) O P := fun b A H Q v u s r1 r2 kv => by
  obtain ⟨_, e1, q1⟩ := r1
  obtain ⟨_, e2, rfl⟩ := r2
  cases e1
  cases e2
  refine ⟨rfl, ?_⟩
  rw [isNon_v q1]
  exact kv _ _ A O H k s Nxt.refl ⟨_, rfl, rfl⟩
/-! slices of tuples, sums of lists and tuples, stars -/
theorem cutV_whole {xs : List V} {lo hi : Option Int} (h : HT.sIx xs.length 0 lo = 0 ∧ HT.sIx xs.length xs.length hi = xs.length) : cutV xs lo hi = xs := by
  unfold cutV
  rw [h.1, h.2, Nat.sub_zero, List.drop_zero, List.take_length]
theorem w_slT {tl th : TO} (h : WE K W te O ts (fun x O1 => WO K W tl O1 ts (fun lo O2 => WO K W th O2 ts (fun hi O3 => ∃ ds, x = .v (.tup ds) ∧ P (.v (.tup (cutD ds lo hi))) O3) X) X) X) : WE K W (tSl (rSlA K) te tl th) O ts P X := fun b A σ H Q s rs kv kx =>
  h b A σ H _ s rs (fun x v A1 O1 H1 p1 s1 n1 r1 => p1 b A1 σ H1 _ s1 (rs.nxt n1) (fun lo A2 O2 H2 p2 s2 n2 => p2 b A2 σ H2 _ s2 (rs.nxt (n1.trans n2)) (fun hi A3 O3 H3 p3 s3 n3 => by
    obtain ⟨ds, rfl, p⟩ := p3
    have r3 := r1.nxt (n2.trans n3)
    obtain ⟨_, e3, a, vs, rfl, h1, h2⟩ := r3
    cases e3
    refine ⟨a, vs, rfl, (hid_ex : Ex (Fz b A3 O3 H3) H3).t h1, fun hw => ?_, fun _ p' hp => ?_⟩
    · have c := cut_rep h2 lo hi
      rw [cutV_whole hw] at c
      exact kv _ _ A3 O3 _ p s3 ((n1.trans n2).trans n3) ⟨_, rfl, a, vs, rfl, h1, c⟩
    · obtain ⟨s4, n4, q⟩ := s3.lay hp (.tup (cutV vs lo hi))
      exact kv _ _ A3 O3 _ p s4 (((n1.trans n2).trans n3).trans n4) ⟨_, rfl, p', _, rfl, SqT.of q, (cut_rep h2 lo hi).ex n4.ext⟩) (kx.nxt (n1.trans n2))) (kx.nxt n1)) kx
theorem w_catT {ds es : List D} (hz : ds.length + es.length ≤ sizeLine) (k : P (.v (.tup (ds ++ es))) O) : WR K (rCatA K) (.v (.tup ds)) (.v (.tup es)) O P := fun b A H Q v u s r1 r2 kv => by
  obtain ⟨_, e1, a, vs, rfl, h1, h2⟩ := r1
  obtain ⟨_, e2, c, us, rfl, h3, h4⟩ := r2
  cases e1
  cases e2
  have x : Ex (Fz b A O H) H := hid_ex
  refine ⟨a, c, vs, us, rfl, rfl, x.t h1, x.t h3, by rw [h2.length, h4.length]; exact hz, fun e => ?_, fun _ e => ?_, fun _ _ p hp => ?_⟩
  · subst e
    have e0 : ds = [] := List.length_eq_zero_iff.mp h2.length.symm
    subst e0
    exact kv _ _ A O H k s Nxt.refl ⟨_, rfl, c, us, rfl, h3, h4⟩
  · subst e
    have e0 : es = [] := List.length_eq_zero_iff.mp h4.length.symm
    subst e0
    rw [List.append_nil] at k
    exact kv _ _ A O H k s Nxt.refl ⟨_, rfl, a, vs, rfl, h1, h2⟩
  · obtain ⟨s4, n4, q⟩ := s.lay hp (.tup (vs ++ us))
    exact kv _ _ A O _ k s4 n4 ⟨_, rfl, p, _, rfl, SqT.of q, (h2.append h4).ex n4.ext⟩
theorem repTs_app {F : Hp} {A : List Addr} {ys : List T} {us : List V} (q : RepTs K F A ys us) : ∀ {ds : List D} {vs : List V}, RepL K F ds vs → RepTs K F A (ds.map T.v ++ ys) (vs ++ us)
  | [], _, h => by
    rw [show _ = [] from h]
    exact q
  | d :: ds, _, h => by
    obtain ⟨v, r, rfl, h1, h2⟩ := h
    exact ⟨v, r ++ us, rfl, ⟨v, rfl, h1⟩, repTs_app q h2⟩
/-- *xs in a display or a call -/
theorem w_star {PL' : PL} (h : WE K W te O ts (fun x O1 => ∃ ds, (ValD x O1 (.lst ds) ∨ x = .v (.tup ds)) ∧ WA K W tr O1 ts (fun ys O2 => PL' (ds.map T.v ++ ys) O2) X) X) : WA K W (StX.tStar K te tr) O ts PL' X := fun b A σ H Q s rs kl kx =>
  h b A σ H _ s rs (fun x v A1 O1 H1 p1 s1 n1 r1 => by
    obtain ⟨ds, hx, p⟩ := p1
    have key : ∃ a vs, v = .ref a ∧ (SqT K H1 a vs ∨ SqL K H1 a vs) ∧ RepL K (Fz b A1 O1 H1) ds vs := by
      rcases hx with hx | rfl
      · have hx' : LstD x O1 ds := by
          rcases hx with rfl | ⟨i, es, rfl, ho, e⟩
          · exact .inl rfl
          · cases e
            exact .inr ⟨i, rfl, ho⟩
        obtain ⟨a, vs, e, h1, h2⟩ := lstD_at hx' s1 r1
        exact ⟨a, vs, e, .inr h1, h2⟩
      · obtain ⟨a, vs, e, h1, h2⟩ := tupD_at (hid_ex : Ex (Fz b A1 O1 H1) H1) r1
        exact ⟨a, vs, e, .inl h1, h2⟩
    obtain ⟨a, vs, rfl, h1, h2⟩ := key
    refine ⟨a, vs, rfl, h1, p b A1 σ H1 _ s1 (rs.nxt n1) (fun ys us A2 O2 H2 p2 s2 n2 r2 => kl _ _ A2 O2 H2 p2 s2 (n1.trans n2) ?_) (kx.nxt n1)⟩
    exact repTs_app r2 (h2.ex n2.ext)) kx
end
end G

set_option Elab.async false
set_option linter.all false
set_option maxRecDepth 100000
set_option maxHeartbeats 4000000
namespace G
open PySem PySem.Spec PyProof.Rows L2

/-! ### enumerate(x), x told by how its iterator begins -/
set_option maxHeartbeats 4000000 in
theorem meets_enum1 {v : Value} {o : Obj} {H : Heap → Prop} (B : Begins v o H) :
    Meets (Builtin.«enumerate.__new__» ⟨[.type "enumerate", v], []⟩) (fun _ R s => H s.heap ∧
      R (.ok (.ret (.ref (s.heap.push o).objs.size))) { s with heap := (s.heap.push o).push { cls := .type "enumerate", data := .fields #[.none, .bool false, .ref s.heap.objs.size, rawInt 0, .none, .none] } }) :=
  .of_wp fun prog w A R s h => by
    obtain ⟨hp, g, d, tk, os⟩ := s
    obtain ⟨h1, h⟩ := h
    have hsub := sub_enumerate
    have go : ∀ {A' : Around} {E : Value → Shared → Prop} {Q : Value → Shared → Prop}, Q (.ref hp.objs.size) ⟨hp.push o, g, d, tk, os⟩ → wpAny (model prog w) A' (pyIter v) Q E ⟨hp, g, d, tk, os⟩ :=
      fun q => B.iter prog w _ _ ⟨hp, g, d, tk, os⟩ _ h1 q
    wp_walk using go
    refine wpAny_stack_any fun st => wpAny_pure ?_
    split
    · rename_i c _ _ _ _ _
      cases (c == Value.type "enumerate") <;> (wp_walk using go; exact ⟨_, rfl, h⟩)
    · wp_walk using go
      exact ⟨_, rfl, h⟩
theorem call_enum1 {prog : Program} {w : World} {A : Around} {E : Value → Shared → Prop} {s : Shared} {v : Value} {o : Obj} {H : Heap → Prop} {Q : Value → Shared → Prop} (B : Begins v o H) (h1 : H s.heap)
    (h : ∀ h', IsEnum h' (s.heap.objs.size + 1) s.heap.objs.size 0 .none → h'.get? s.heap.objs.size = some o → (∀ b u, s.heap.get? b = some u → h'.get? b = some u) → Q (.ref (s.heap.objs.size + 1)) { s with heap := h' }) :
    wpAny (model prog w) A (call (.type "enumerate") [v]) Q E s := by
  refine callType_new F.called_enumerate (by decide) (F.typeCall_enumerate_1 _) (F.newCall_enumerate_1 _) (fun obj => F.args_object_init_2 obj _) F.entry_enumerate_new (meets_enum1 B) ⟨h1, ?_⟩
  have hz : (s.heap.push o).objs.size = s.heap.objs.size + 1 := Heap.size_push ..
  show _ ∧ _
  rw [hz]
  have he : IsEnum ((s.heap.push o).push { cls := .type "enumerate", data := .fields #[.none, .bool false, .ref s.heap.objs.size, rawInt 0, .none, .none] }) (s.heap.objs.size + 1) s.heap.objs.size 0 .none := by
    have q := Heap.get?_push_size (s.heap.push o) (o := { cls := .type "enumerate", data := .fields #[.none, .bool false, .ref s.heap.objs.size, rawInt 0, .none, .none] }) rfl
    rw [hz] at q
    exact q
  exact ⟨⟨_, he, rfl⟩, h _ he (Heap.get?_push_of_some _ (Heap.get?_push_size _ B.free)) fun b u x => Heap.get?_push_of_some _ (Heap.get?_push_of_some _ x)⟩
/-- the tuple at a, each item in a new pair -/
def IteT (K : PySem.W.Frag) (a : Addr) : It where
  go := fun i H => ∃ (xs : List V) (x : V), SqT K H a xs ∧ xs[i]? = some x
  yld := fun i H v H' => ∃ p x, v = .ref p ∧ H p = none ∧ H' = upd H p (.tup [.int (i : Nat), x]) ∧ ∀ xs, SqT K H a xs → xs[i]? = some x
  stop := fun i H => ∃ xs : List V, SqT K H a xs ∧ xs.length = i
theorem turn_enumT {P : Program} {w : World} {K : PySem.W.Frag} {elts : List Expr} {kk : Nat} {tpos : Pos} (a e it : Addr) (hae : a ≠ e) (hai : a ≠ it) :
    Turn P w K (.Tuple elts kk tpos) (IteT K a) [e, it] e (fun i h => (∃ old, IsEnum h e it ((i : Nat) : Int) old) ∧ h.IsTupleIter it a i ∧ e ≠ it) where
  mem := by simp
  obj := fun i h st b hb => by
    obtain ⟨⟨old, he⟩, ⟨o, ho, hc, hd⟩, _⟩ := st
    rcases (show b = e ∨ b = it by simpa using hb) with z | z
    · subst z
      exact ⟨_, he, fun v q => nomatch q⟩
    · subst z
      exact ⟨o, ho, fun v q => by rw [hd] at q; cases q⟩
  keep := fun i h h' st k => by
    obtain ⟨⟨old, he⟩, ⟨o, ho, r⟩, hne⟩ := st
    exact ⟨⟨old, k e (by simp) _ he⟩, ⟨o, k it (by simp) _ ho, r⟩, hne⟩
  item := by
    intro X hP hw hK hc i pins s σ H E I hf st hg
    subst hP hw hK
    obtain ⟨⟨old, he⟩, hit, hne⟩ := st
    obtain ⟨xs, x, hq, hx⟩ := hg
    obtain ⟨its, rv, p, hz⟩ := I.tuple hq
    obtain ⟨u, hu, ru⟩ := rv.get hx
    have hel : e < s.heap.objs.size := Heap.lt_size he
    have hil : it < s.heap.objs.size := by
      obtain ⟨_, q, _⟩ := hit
      exact Heap.lt_size q
    have hi : i < its.toArray.size := by
      rw [List.size_toArray]
      exact (List.getElem?_eq_some_iff.mp hu).1
    have D := Draws.tuple (prog := X.prog) (w := X.w) (A := X.A.in1) (I.ok.hd hc) it a hai its.toArray
    refine wpAny_pyNext_enum_itemC D he ⟨hit, p⟩ hi hne (by simp only [List.mem_cons, List.not_mem_nil, or_false, not_or]; exact ⟨hne, Ne.symm hae⟩) fun x' h' tk hx' ho hst hT hsz hk => ?_
    have ex : x' = u := by
      have q : its.toArray[i]? = some x' := hx'
      rw [List.getElem?_toArray, hu] at q
      exact (Option.some.inj q).symm
    subst ex
    refine ⟨_, rfl, wpAny_letOwnedTupleGo_enum (s := { s with heap := h', toks := tk + 1 }) ho fun h'' he' sb => ?_⟩
    have hT2 : h''.get? s.heap.objs.size = some { cls := .type "tuple", data := .seq #[.int i tk, x'] } := (sb.2 _ (Nat.ne_of_gt hel)).trans hT
    have new : ObjOk X.prog X.w (upd H s.heap.objs.size (.tup [.int (i : Nat), x])) h'' s.heap.objs.size (.tup [.int (i : Nat), x]) :=
      ⟨by show 2 ≤ sizeLine; decide, [.int i tk, x'], .cons ⟨_, rfl⟩ (.cons ru .nil), ⟨_, hT2, rfl, _, rfl⟩⟩
    have I1 : Inv X pins σ (upd H s.heap.objs.size (.tup [.int (i : Nat), x])) { s with heap := h'', toks := tk + 1 } :=
      I.turnedNew (ch := [e, it]) (fun b ob hb q => (sb.2 b (fun z => hb (by simp [z]))).trans (hk b ob (fun z => hb (by simp [z])) (fun z => hb (by simp [z])) q)) hf (Nat.le_refl _) new
    refine ⟨.ref s.heap.objs.size, _, I1, rfl, ⟨_, x, rfl, I.hok.fresh (Nat.le_refl _), rfl, fun ys hy => by rw [I.tuple_inj hy hq]; exact hx⟩, ⟨⟨x', ?_⟩, ?_, hne⟩, fun b hb => ?_⟩
    · have e1 : ((i + 1 : Nat) : Int) = (i : Int) + 1 := by omega
      rw [e1]
      exact he'
    · obtain ⟨o, ho2, r⟩ := hst.1
      exact ⟨o, (sb.2 it (Ne.symm hne)).trans ho2, r⟩
    · have hb' : b < s.heap.objs.size := by
        rcases (show b = e ∨ b = it by simpa using hb) with z | z
        · rw [z]; exact hel
        · rw [z]; exact hil
      rw [upd_ne (Nat.ne_of_lt hb')]
      exact (hf b hb).1
  done := by
    intro X hP hw hK hc i pins s σ H E I hf st hg
    subst hP hw hK
    obtain ⟨⟨old, he⟩, hit, hne⟩ := st
    obtain ⟨xs, hq, hx⟩ := hg
    obtain ⟨its, rv, p, hz⟩ := I.tuple hq
    obtain ⟨f0, f1, f2, f3, f4, f5⟩ := hf it (by simp)
    have hl := rv.length
    have D := Draws.tuple (prog := X.prog) (w := X.w) (A := X.A.in1) (I.ok.hd hc) it a hai its.toArray
    have hii : i = its.toArray.size := by
      rw [List.size_toArray]
      omega
    subst hii
    exact wpAny_pyNext_enum_endD D he ⟨hit, p⟩ fun h' eb => ⟨rfl, I.turned (t' := s.toks) (fun b o hb q => eb b o hb q) f0 f1 f3 f4 f5⟩
  self := fun A i s Q E st h => let ⟨⟨_, he⟩, _⟩ := st; wpAny_pyIter_enum he h

def iEnumT (K : PySem.W.Frag) (ta : TA) : TI := fun σ H R => ta σ H fun vs H1 => ∃ a xs, vs = [.ref a] ∧ SqT K H1 a xs ∧ R (IteT K a) H1
theorem pi_enumT {X : Cx} {e : Expr} {ta : TA} {p pos tpos : Pos} {elts : List Expr} {kk : Nat} (hg : Gl X "enumerate") (hm : X.mg "enumerate" = none) (ha : PA X [e] ta) (hs : starEach [e] X.env = [(false, eval e X.env)] := by rfl) :
    PI X (.Tuple elts kk tpos) (.Call (.Name "enumerate" p) [e] [] pos) (iEnumT X.K ta) := by
  refine ⟨fun pins s σ H R I h => ?_⟩
  refine Call_ (ld_blt I hg hm boot_enumerate (PyProof.Rows.callWith_type1 (thn (ha.run pos pins s σ H _ I h) fun us s1 ⟨vs, H1, I1, r1, q1⟩ => ?_) hs rfl))
  obtain ⟨a, xs, ex, hq, q⟩ := q1
  subst ex
  obtain rfl : us = [Value.ref a] := Vals.ref1 r1
  obtain ⟨its, rv, p', hz⟩ := I1.tuple hq
  have la : a < s1.heap.objs.size := by
    obtain ⟨o, ho, _⟩ := p'
    exact Heap.lt_size ho
  refine call_enum1 (begins_tuple a its.toArray) p' fun h' he hit hk => wpAny_pyIter_enum he ?_
  have I2 : Inv X pins σ H1 { s1 with heap := h' } := I1.kept (t' := s1.toks) hk
  refine ⟨s1.heap.objs.size + 1, [s1.heap.objs.size + 1, s1.heap.objs.size], _, _, H1, rfl, I2, turn_enumT a (s1.heap.objs.size + 1) s1.heap.objs.size (Nat.ne_of_lt (Nat.lt_succ_of_lt la)) (Nat.ne_of_lt la), ⟨⟨.none, he⟩, ⟨_, hit, rfl, rfl⟩, Nat.succ_ne_self _⟩, fun b hb => ?_, q⟩
  have hle : s1.heap.objs.size ≤ b := by
    rcases (show b = s1.heap.objs.size + 1 ∨ b = s1.heap.objs.size by simpa using hb) with z | z
    · rw [z]; exact Nat.le_add_right _ _
    · rw [z]; exact Nat.le_refl _
  exact I1.fpOk hle (I1.hok.fresh hle)

section
variable {K : PySem.W.Frag} {W : WX} {O : List OD} {ts : List T} {X : XX} {ta : TA}
def itE (ds : List D) : Nat → Option T := fun i => (ds[i]?).map fun d => T.v (.tup [.int (i : Nat), d])
theorem itE_none {ds : List D} {i : Nat} (h : itE ds i = none) : ds.length ≤ i := by
  unfold itE at h
  cases q : ds[i]? with
  | none => exact List.getElem?_eq_none_iff.mp q
  | some d =>
    rw [q] at h
    cases h
theorem itE_some {ds : List D} {i : Nat} {t : T} (h : itE ds i = some t) : ∃ d, ds[i]? = some d ∧ t = .v (.tup [.int (i : Nat), d]) := by
  unfold itE at h
  cases q : ds[i]? with
  | none =>
    rw [q] at h
    cases h
  | some d =>
    rw [q] at h
    exact ⟨d, rfl, (Option.some.inj h).symm⟩
theorem itE_len {ds : List D} {i : Nat} (h : itE ds i = none) (hj : ∀ j, j < i → itE ds j ≠ none) : ds.length = i := by
  have h1 := itE_none h
  by_cases e : ds.length = i
  · exact e
  · exact absurd (by unfold itE; rw [List.getElem?_eq_none (Nat.le_refl _)] <;> rfl) (hj ds.length (by omega))
theorem pair_laid {b : Bs} {A : List Addr} {H : Hp} {p : Addr} {x y : V} {d e : D} (s : StO K b A O H) (hp : H p = none) (r1 : Rep K (Fz b A O H) d x) (r2 : Rep K (Fz b A O H) e y) :
    StO K b A O (upd H p (.tup [x, y])) ∧ Nxt b A O H A O (upd H p (.tup [x, y])) ∧ RepT K (Fz b A O (upd H p (.tup [x, y]))) A (.v (.tup [d, e])) (some (.ref p)) := by
  obtain ⟨s2, n2, q⟩ := s.lay hp (.tup [x, y])
  exact ⟨s2, n2, _, rfl, p, _, rfl, SqT.of q, x, [y], rfl, r1.ex n2.ext, y, [], rfl, r2.ex n2.ext, rfl⟩
theorem i_enumL {S : (Nat → Option T) → List OD → Prop} (h : WA K W ta O ts (fun xs O' => ∃ ds, xs = [.v (.lst ds)] ∧ S (itE ds) O') X) : WI K W (iEnum K ta) O ts S X := fun b A σ H R s rs k kx =>
  h b A σ H _ s rs (fun xs vs A' O' H' p s' n' r' => by
    obtain ⟨ds, rfl, q⟩ := p
    obtain ⟨v, _, rfl, ⟨_, e, a, us, rfl, h1, h2⟩, rfl⟩ := r'
    replace h1 := SqL.of (K := K) h1
    cases e
    refine ⟨a, us, rfl, hid_ex.l h1, k _ _ A' O' H' q s' n' fun i A2 O2 H2 s2 n2 => ⟨fun hn _ => ⟨us, hid_ex.l (n2.ext.l h1), by rw [h2.length]; exact itE_none hn⟩, fun t ht => ?_⟩⟩
    obtain ⟨d, e1, rfl⟩ := itE_some ht
    obtain ⟨v, e2, r⟩ := h2.get e1
    have h2' : SqL K H2 a us := hid_ex.l (n2.ext.l h1)
    refine ⟨⟨us, v, h2', e2⟩, fun x H3 y => ?_⟩
    obtain ⟨p, w, rfl, hp, rfl, y⟩ := y
    have e4 : w = v := Option.some.inj ((y us h2').symm.trans e2)
    subst e4
    exact pair_laid s2 hp (d := .int (i : Nat)) (by exact rfl) (r.ex n2.ext)) kx
theorem i_enumT {S : (Nat → Option T) → List OD → Prop} (h : WA K W ta O ts (fun xs O' => ∃ ds, xs = [.v (.tup ds)] ∧ S (itE ds) O') X) : WI K W (iEnumT K ta) O ts S X := fun b A σ H R s rs k kx =>
  h b A σ H _ s rs (fun xs vs A' O' H' p s' n' r' => by
    obtain ⟨ds, rfl, q⟩ := p
    obtain ⟨v, _, rfl, ⟨_, e, a, us, rfl, h1, h2⟩, rfl⟩ := r'
    cases e
    refine ⟨a, us, rfl, hid_ex.t h1, k _ _ A' O' H' q s' n' fun i A2 O2 H2 s2 n2 => ⟨fun hn hj => ⟨us, hid_ex.t (n2.ext.t h1), by rw [h2.length]; exact itE_len hn hj⟩, fun t ht => ?_⟩⟩
    obtain ⟨d, e1, rfl⟩ := itE_some ht
    obtain ⟨v, e2, r⟩ := h2.get e1
    have h2' : SqT K H2 a us := hid_ex.t (n2.ext.t h1)
    refine ⟨⟨us, v, h2', e2⟩, fun x H3 y => ?_⟩
    obtain ⟨p, w, rfl, hp, rfl, y⟩ := y
    have e4 : w = v := Option.some.inj ((y us h2').symm.trans e2)
    subst e4
    exact pair_laid s2 hp (d := .int (i : Nat)) (by exact rfl) (r.ex n2.ext)) kx
/-- zip of two lists, of two tuples -/
def itZ (ds es : List D) : Nat → Option T := fun i => match ds[i]?, es[i]? with
  | some d, some e => some (.v (.tup [d, e]))
  | _, _ => none
theorem itZ_none {ds es : List D} {i : Nat} (h : itZ ds es i = none) : ds.length ≤ i ∨ es.length ≤ i := by
  unfold itZ at h
  cases q : ds[i]? with
  | none => exact .inl (List.getElem?_eq_none_iff.mp q)
  | some d =>
    cases q2 : es[i]? with
    | none => exact .inr (List.getElem?_eq_none_iff.mp q2)
    | some e =>
      rw [q, q2] at h
      cases h
theorem itZ_some {ds es : List D} {i : Nat} {t : T} (h : itZ ds es i = some t) : ∃ d e, ds[i]? = some d ∧ es[i]? = some e ∧ t = .v (.tup [d, e]) := by
  unfold itZ at h
  cases q : ds[i]? with
  | none =>
    rw [q] at h
    cases h
  | some d =>
    cases q2 : es[i]? with
    | none =>
      rw [q, q2] at h
      cases h
    | some e =>
      rw [q, q2] at h
      exact ⟨d, e, rfl, rfl, (Option.some.inj h).symm⟩
theorem i_zipL {S : (Nat → Option T) → List OD → Prop} (h : WA K W ta O ts (fun xs O' => ∃ ds es, xs = [.v (.lst ds), .v (.lst es)] ∧ S (itZ ds es) O') X) : WI K W (RZ.iZipA K ta) O ts S X := fun b A σ H R s rs k kx =>
  h b A σ H _ s rs (fun xs vs A' O' H' p s' n' r' => by
    obtain ⟨ds, es, rfl, q⟩ := p
    obtain ⟨v, _, rfl, ⟨_, e, a, us, rfl, h1, h2⟩, v', _, rfl, ⟨_, e', c, ws, rfl, h3, h4⟩, rfl⟩ := r'
    replace h1 := SqL.of (K := K) h1
    replace h3 := SqL.of (K := K) h3
    cases e
    cases e'
    refine ⟨a, c, us, ws, rfl, .inl ⟨hid_ex.l h1, hid_ex.l h3, k _ _ A' O' H' q s' n' fun i A2 O2 H2 s2 n2 => ⟨fun hn _ => ⟨us, ws, hid_ex.l (n2.ext.l h1), hid_ex.l (n2.ext.l h3), by rw [h2.length, h4.length]; exact itZ_none hn⟩, fun t ht => ?_⟩⟩⟩
    obtain ⟨d, e, e1, e2, rfl⟩ := itZ_some ht
    obtain ⟨v, e3, r3⟩ := h2.get e1
    obtain ⟨v', e4, r4⟩ := h4.get e2
    have k1 : SqL K H2 a us := hid_ex.l (n2.ext.l h1)
    have k2 : SqL K H2 c ws := hid_ex.l (n2.ext.l h3)
    refine ⟨⟨us, ws, v, v', k1, k2, e3, e4⟩, fun x H3 y => ?_⟩
    obtain ⟨p, w, w', rfl, hp, rfl, y1, y2⟩ := y
    have e5 : w = v := Option.some.inj ((y1 us k1).symm.trans e3)
    have e6 : w' = v' := Option.some.inj ((y2 ws k2).symm.trans e4)
    subst e5 e6
    exact pair_laid s2 hp (r3.ex n2.ext) (r4.ex n2.ext)) kx
theorem i_zipT {S : (Nat → Option T) → List OD → Prop} (h : WA K W ta O ts (fun xs O' => ∃ ds es, xs = [.v (.tup ds), .v (.tup es)] ∧ S (itZ ds es) O') X) : WI K W (RZ.iZipA K ta) O ts S X := fun b A σ H R s rs k kx =>
  h b A σ H _ s rs (fun xs vs A' O' H' p s' n' r' => by
    obtain ⟨ds, es, rfl, q⟩ := p
    obtain ⟨v, _, rfl, ⟨_, e, a, us, rfl, h1, h2⟩, v', _, rfl, ⟨_, e', c, ws, rfl, h3, h4⟩, rfl⟩ := r'
    cases e
    cases e'
    refine ⟨a, c, us, ws, rfl, .inr ⟨hid_ex.t h1, hid_ex.t h3, k _ _ A' O' H' q s' n' fun i A2 O2 H2 s2 n2 => ⟨fun hn _ => ⟨us, ws, hid_ex.t (n2.ext.t h1), hid_ex.t (n2.ext.t h3), by rw [h2.length, h4.length]; exact itZ_none hn⟩, fun t ht => ?_⟩⟩⟩
    obtain ⟨d, e, e1, e2, rfl⟩ := itZ_some ht
    obtain ⟨v, e3, r3⟩ := h2.get e1
    obtain ⟨v', e4, r4⟩ := h4.get e2
    have k1 : SqT K H2 a us := hid_ex.t (n2.ext.t h1)
    have k2 : SqT K H2 c ws := hid_ex.t (n2.ext.t h3)
    refine ⟨⟨us, ws, v, v', k1, k2, e3, e4⟩, fun x H3 y => ?_⟩
    obtain ⟨p, w, w', rfl, hp, rfl, y1, y2⟩ := y
    have e5 : w = v := Option.some.inj ((y1 us k1).symm.trans e3)
    have e6 : w' = v' := Option.some.inj ((y2 ws k2).symm.trans e4)
    subst e5 e6
    exact pair_laid s2 hp (r3.ex n2.ext) (r4.ex n2.ext)) kx
/-! three at once; an operator on an attribute -/
theorem s_par3 {E : DE} {i j l : Nat} (h : WA K W ta O ts (fun xs O' => ∃ x y z, xs = [x, y, z] ∧ E.nx (((ts.set i x).set j y).set l z) O') (fun C fs O' => E.xe C fs ts O')) : WS K W (tPar3 i j l ta) O ts E := fun b A σ H D s rs ks =>
  h b A σ H _ s rs (fun xs vs A' O' H' p s' n' r' => by
    obtain ⟨x, y, z, rfl, q⟩ := p
    obtain ⟨v, _, rfl, r1, w', _, rfl, r2, w2, _, rfl, r3, rfl⟩ := r'
    exact ⟨v, w', w2, rfl, ks.nx _ _ A' O' H' q s' n' ((((rs.nxt n').set r1 i).set r2 j).set r3 l)⟩) (ks.kx rs)
/-! ### isinstance -/
/-- what of the text an own class must have that isinstance may look at its instances -/
structure InsTy (K : PySem.W.Frag) (C : Addr) : Prop where
  cl : Cls K C
  ha : PySem.W.findIn K (.ref C) "__class__" = some (some (.builtin "object.__class__"))
  hn : PySem.W.specialIn K (.builtin "object.__class__") "__get__" = some (some (.builtin "getset_descriptor.__get__"))
  ht : PySem.W.takesIn K (.builtin "object.__class__") = some true
  hm : PySem.W.mroIn K C (.type "object") = some true
inductive TyD (K : PySem.W.Frag) : D → Value → Prop where
  | non : TyD K .non (.type "NoneType")
  | bl (b : Bool) : TyD K (.bl b) (.type "bool")
  | int (i : Int) : TyD K (.int i) (.type "int")
  | str (x : Str) : TyD K (.str x) (.type "str")
  | lst (ds : List D) : TyD K (.lst ds) (.type "list")
  | tup (ds : List D) : TyD K (.tup ds) (.type "tuple")
  | dic (kvs : List (Key × D)) : TyD K (.dic kvs) (.type "dict")
  | ins (C : Addr) (fs : List (Str × D)) (h : InsTy K C) : TyD K (.ins C fs) (.ref C)
theorem sqL_ty {H : Hp} {a : Addr} {vs : List V} (h : SqL K H a vs) : TyX K H (.ref a) (.type "list") := by
  rcases h with (h | ⟨o, h⟩) | h
  · exact .base (.lst h)
  · exact .base (.frz h)
  · obtain ⟨o, its, n, h1, h2, _⟩ := h
    exact .kList h1 h2
theorem sqT_ty {H : Hp} {a : Addr} {vs : List V} (h : SqT K H a vs) : TyX K H (.ref a) (.type "tuple") := by
  rcases h with (h | ⟨o, h⟩) | h
  · exact .base (.tup h)
  · exact .fTuple h
  · obtain ⟨o, its, n, h1, h2, _⟩ := h
    exact .kTuple h1 h2
theorem TyD.tyX {H : Hp} {d : D} {t : Value} {v : V} (h : TyD K d t) (r : Rep K H d v) : TyX K H v t := by
  cases h with
  | non => rw [show v = .non from r]; exact .base .non
  | bl b => rw [show v = .bl b from r]; exact .base (.bl b)
  | int i => rw [show v = .int i from r]; exact .base (.int i)
  | str x => rw [show v = .str x from r]; exact .base (.str x)
  | lst ds =>
    obtain ⟨a, vs, rfl, h1, _⟩ := r
    exact sqL_ty (SqL.of h1)
  | tup ds =>
    obtain ⟨a, vs, rfl, h1, _⟩ := r
    exact sqT_ty h1
  | dic kvs =>
    obtain ⟨a, vs, rfl, h1, _⟩ := r
    exact .base (.dK h1)
  | ins C fs h =>
    obtain ⟨a, dx, vs, rfl, h1, _⟩ := r
    exact .base (.ins h1 h.cl h.ha h.hn h.ht h.hm)
/-- a class as data -/
inductive ClsD : D → Value → Prop where
  | ty (n : String) : ClsD (.ty n) (.type n)
  | own (C : Addr) : ClsD (.ref C) (.ref C)
theorem ClsD.cls {H : Hp} {d : D} {u : Value} {v : V} (h : ClsD d u) (r : Rep K H d v) : ClsV v u := by
  cases h with
  | ty n => rw [show v = .ty n from r]; exact .ty n
  | own C => rw [show v = .ref C from r]; exact .own C
theorem c_isi {P : PT'} {d c : D} {t u : Value} {b : Bool} (ht : TyD K d t) (hc : ClsD c u) (e : PySem.W.kitOne K t u = some b) (k : P (.v (.bl b)) O) : WC K (rIsi K) [.v d, .v c] O P := fun b' A H Q vs s r kv => by
  obtain ⟨v, _, rfl, ⟨_, e1, r1⟩, w, _, rfl, ⟨_, e2, r2⟩, rfl⟩ := r
  cases e1
  cases e2
  exact ⟨v, w, t, u, b, rfl, hc.cls r2, ht.tyX (r1.ex hid_ex), e, kv _ _ A O H k s Nxt.refl ⟨_, rfl, rfl⟩⟩
/-- an owned instance -/
theorem c_isiO {P : PT'} {i : Nat} {C : Addr} {fs : List (Str × D)} {c : D} {u : Value} {b : Bool} (ho : O[i]? = some (.ins C fs)) (h : InsTy K C) (hc : ClsD c u) (e : PySem.W.kitOne K (.ref C) u = some b) (k : P (.v (.bl b)) O) : WC K (rIsi K) [.own i, .v c] O P := fun b' A H Q vs s r kv => by
  obtain ⟨v, _, rfl, ⟨a, ha, e1⟩, w, _, rfl, ⟨_, e2, r2⟩, rfl⟩ := r
  cases e1
  cases e2
  obtain ⟨dx, us, h1, _⟩ := s.cell i a _ ha ho
  exact ⟨.ref a, w, .ref C, u, b, rfl, hc.cls r2, .base (.ins h1 h.cl h.ha h.hn h.ht h.hm), e, kv _ _ A O H k s Nxt.refl ⟨_, rfl, rfl⟩⟩
/-- isinstance(x, (c1, c2)): the tuple as it can be read -/
def rIsiS (K : PySem.W.Frag) : List V → Hp → VK → Prop := fun xs H Q => ∃ (x : V) (tp : Addr) (cs : List V) (t : Value) (us : List Value) (b : Bool), xs = [x, .ref tp] ∧ SqT K H tp cs ∧ Paired ClsV cs us ∧ TyX K H x t ∧ PySem.W.kitAny K t us = some b ∧ Q (.bl b) H
theorem call_isiS {X : Cx} : CallR X (.builtin "isinstance") (rIsiS X.K) := by
  intro pins s σ H xs us Q I r h
  obtain ⟨x, tp, cs, t, ws, b, rfl, hT, k, ty, e, q⟩ := h
  obtain ⟨u1, u2, rfl, r1, r2⟩ := vals2 r
  obtain rfl : u2 = Value.ref tp := r2
  obtain ⟨P, Z, p, hx⟩ := kit_of I r1 ty
  obtain ⟨its, rv, ⟨o, h1, h2, n, h3⟩, _⟩ := I.tuple hT
  have e3 := ClsV.all k rv
  subst e3
  obtain ⟨oc, od, dt, sl⟩ := o
  simp only at h2 h3
  subst h2 h3
  exact PySem.W.kia_tup Z I.kIn p h1 e hx fun tk => ⟨.bl b, H, I.tok tk, rfl, q⟩
theorem clsDs {H : Hp} : ∀ {ds : List D} {us : List Value} {vs : List V}, Paired ClsD ds us → RepL K H ds vs → Paired ClsV vs us
  | [], _, _, .nil, r => by
    rw [show _ = [] from r]
    exact .nil
  | d :: ds, _, _, .cons h t, r => by
    obtain ⟨v, r, rfl, h1, h2⟩ := r
    exact .cons (h.cls h1) (clsDs t h2)
theorem c_isiS {P : PT'} {d : D} {cs : List D} {t : Value} {us : List Value} {b : Bool} (ht : TyD K d t) (hc : Paired ClsD cs us) (e : PySem.W.kitAny K t us = some b) (k : P (.v (.bl b)) O) : WC K (rIsiS K) [.v d, .v (.tup cs)] O P := fun b' A H Q vs s r kv => by
  obtain ⟨v, _, rfl, ⟨_, e1, r1⟩, w, _, rfl, ⟨_, e2, a, xs, rfl, h1, h2⟩, rfl⟩ := r
  cases e1
  cases e2
  exact ⟨v, a, xs, t, us, b, rfl, (hid_ex : Ex (Fz b' A O H) H).t h1, clsDs hc h2, ht.tyX (r1.ex hid_ex), e, kv _ _ A O H k s Nxt.refl ⟨_, rfl, rfl⟩⟩
end
end G

set_option Elab.async false
set_option linter.all false
set_option maxRecDepth 100000
set_option maxHeartbeats 4000000
namespace G
open PySem PySem.Spec PyProof.Rows L2
section
variable {K : PySem.W.Frag} {W : WX} {O : List OD} {ts : List T} {P : PT'} {X : XX}
theorem w_add {i j : Int} (k : P (.v (.int (i + j))) O) : WR K (rI0 fun i j => .int (i + j)) (.v (.int i)) (.v (.int j)) O P := w_I0 (d := .int (i + j)) (fun _ => rfl) k
theorem w_sub {i j : Int} (k : P (.v (.int (i - j))) O) : WR K (rI0 fun i j => .int (i - j)) (.v (.int i)) (.v (.int j)) O P := w_I0 (d := .int (i - j)) (fun _ => rfl) k
theorem w_lt {i j : Int} (k : P (.v (.bl (decide (i < j)))) O) : WR K (rI0 fun i j => .bl (decide (i < j))) (.v (.int i)) (.v (.int j)) O P := w_I0 (d := .bl (decide (i < j))) (fun _ => rfl) k
theorem w_le {i j : Int} (k : P (.v (.bl (decide (i ≤ j)))) O) : WR K (rI0 fun i j => .bl (decide (i ≤ j))) (.v (.int i)) (.v (.int j)) O P := w_I0 (d := .bl (decide (i ≤ j))) (fun _ => rfl) k
theorem w_gt {i j : Int} (k : P (.v (.bl (decide (j < i)))) O) : WR K (rI0 fun i j => .bl (decide (j < i))) (.v (.int i)) (.v (.int j)) O P := w_I0 (d := .bl (decide (j < i))) (fun _ => rfl) k
theorem w_ge {i j : Int} (k : P (.v (.bl (decide (j ≤ i)))) O) : WR K (rI0 fun i j => .bl (decide (j ≤ i))) (.v (.int i)) (.v (.int j)) O P := w_I0 (d := .bl (decide (j ≤ i))) (fun _ => rfl) k
theorem w_mul {i j : Int} (h : CMul i j) (k : P (.v (.int (i * j))) O) : WR K (rI CMul fun i j => .int (i * j)) (.v (.int i)) (.v (.int j)) O P := w_I (d := .int (i * j)) h (fun _ => rfl) k
theorem w_mulW {i j : Int} (h : CMulW i j) (k : P (.v (.int (i * j))) O) : WR K (rI CMulW fun i j => .int (i * j)) (.v (.int i)) (.v (.int j)) O P := w_I (d := .int (i * j)) h (fun _ => rfl) k
theorem w_fdiv {i j : Int} (h : CDiv i j) (k : P (.v (.int (i / j))) O) : WR K (rI CDiv fun i j => .int (i / j)) (.v (.int i)) (.v (.int j)) O P := w_I (d := .int (i / j)) h (fun _ => rfl) k
theorem w_fdivW {i j : Int} (h : CDivW i j) (k : P (.v (.int (i / j))) O) : WR K (rI CDivW fun i j => .int (i / j)) (.v (.int i)) (.v (.int j)) O P := w_I (d := .int (i / j)) h (fun _ => rfl) k
theorem w_mod {i j : Int} (h : 0 < j) (k : P (.v (.int (i % j))) O) : WR K (rI (fun _ j => 0 < j) fun i j => .int (i % j)) (.v (.int i)) (.v (.int j)) O P := w_I (d := .int (i % j)) h (fun _ => rfl) k
theorem w_pow {i j : Int} (h : CPow i j) (k : P (.v (.int (i ^ j.toNat))) O) : WR K (rI CPow fun i j => .int (i ^ j.toNat)) (.v (.int i)) (.v (.int j)) O P := w_I (d := .int (i ^ j.toNat)) h (fun _ => rfl) k
theorem w_neg {i : Int} (k : P (.v (.int (-i))) O) : WU K (rU fun i => .int (-i)) (.v (.int i)) O P := w_Ui (d := .int (-i)) (fun _ => rfl) k
/-! branches -/
theorem brT {p : Prop} [Decidable p] {A B : Prop} (hp : p) (h : A) : (decide p = true → A) ∧ (decide p = false → B) := ⟨fun _ => h, fun z => absurd hp (of_decide_eq_false z)⟩
theorem brF {p : Prop} [Decidable p] {A B : Prop} (hp : ¬ p) (h : B) : (decide p = true → A) ∧ (decide p = false → B) := ⟨fun z => absurd (of_decide_eq_true z) hp, fun _ => h⟩
theorem br {p : Prop} [Decidable p] {A B : Prop} (h1 : p → A) (h2 : ¬ p → B) : (decide p = true → A) ∧ (decide p = false → B) := ⟨fun z => h1 (of_decide_eq_true z), fun z => h2 (of_decide_eq_false z)⟩
theorem nbT {p : Prop} [Decidable p] {A B : Prop} (hp : ¬ p) (h : A) : ((!decide p) = true → A) ∧ ((!decide p) = false → B) := ⟨fun _ => h, fun z => by rw [decide_eq_false hp] at z; cases z⟩
theorem nbF {p : Prop} [Decidable p] {A B : Prop} (hp : p) (h : B) : ((!decide p) = true → A) ∧ ((!decide p) = false → B) := ⟨fun z => (by rw [decide_eq_true hp] at z; cases z), fun _ => h⟩
theorem nbr {p : Prop} [Decidable p] {A B : Prop} (h1 : ¬ p → A) (h2 : p → B) : ((!decide p) = true → A) ∧ ((!decide p) = false → B) := ⟨fun z => h1 fun hp => (by rw [decide_eq_true hp] at z; cases z), fun z => h2 (Decidable.byContradiction fun hp => (by rw [decide_eq_false hp] at z; cases z))⟩
theorem bT {c : Bool} {A B : Prop} (hp : c = true) (h : A) : (c = true → A) ∧ (c = false → B) := ⟨fun _ => h, fun z => by rw [hp] at z; cases z⟩
theorem bF {c : Bool} {A B : Prop} (hp : c = false) (h : B) : (c = true → A) ∧ (c = false → B) := ⟨fun z => (by rw [hp] at z; cases z), fun _ => h⟩
theorem bnT {c : Bool} {A B : Prop} (hp : c = false) (h : A) : ((!c) = true → A) ∧ ((!c) = false → B) := ⟨fun _ => h, fun z => by rw [hp] at z; cases z⟩
theorem bnF {c : Bool} {A B : Prop} (hp : c = true) (h : B) : ((!c) = true → A) ∧ ((!c) = false → B) := ⟨fun z => (by rw [hp] at z; cases z), fun _ => h⟩
theorem tt_ {A B : Prop} (h : A) : (true = true → A) ∧ (true = false → B) := ⟨fun _ => h, fun z => (nomatch z)⟩
theorem ff_ {A B : Prop} (h : B) : (false = true → A) ∧ (false = false → B) := ⟨fun z => (nomatch z), fun _ => h⟩
theorem ntt_ {A B : Prop} (h : B) : ((!true) = true → A) ∧ ((!true) = false → B) := ⟨fun z => (nomatch z), fun _ => h⟩
theorem nff_ {A B : Prop} (h : A) : ((!false) = true → A) ∧ ((!false) = false → B) := ⟨fun _ => h, fun z => (nomatch z)⟩
end
def LkF (K : PySem.W.Frag) (f : Addr) (fd : FuncData) : Prop := ∃ oc od osl, K.lookup f = some ⟨oc, od, .func fd, osl⟩
theorem lk_of {K : PySem.W.Frag} {x qual : Str} {params : Arguments} {body : List Stmt} {scope : Scope} {dvs : List V} {kws : List (Str × V)} {f : Addr} {fd : FuncData} (F : FunD K x qual params body scope dvs kws f fd) : LkF K f fd := by
  obtain ⟨oc, od, dV, kV, doc, pm, an, cdv, ct, osl, rfl, lk, _⟩ := F.ex
  exact ⟨oc, od, osl, lk⟩
/-- a def by its promise over data -/
def Fn (P : Program) (w : World) (K : PySem.W.Frag) (mg : Str → Option Value) (base : Heap) (k : Nat) (f : Addr) (ps : List Str) (sp : SpD) : Prop :=
  ∃ fd, FnOk P w K mg base (L2.CX P w) k f fd ps (lift K sp) ∧ Binds K fd ps [] ∧ PySem.W.keepIn K (.ref f) = true ∧ LkF K f fd
def orS (a b : SpD) : SpD := fun ts O P X => a ts O P X ∨ b ts O P X
theorem Fn.or {P : Program} {w : World} {K : PySem.W.Frag} {mg : Str → Option Value} {base : Heap} {k j l : Nat} {f : Addr} {ps : List Str} {a b : SpD} (x : Fn P w K mg base k f ps a) (y : Fn P w K mg base j f ps b) (hk : k ≤ l) (hj : j ≤ l) : Fn P w K mg base l f ps (orS a b) := by
  obtain ⟨fd, F, B, kp, lk⟩ := x
  obtain ⟨fd2, F2, B2, kp2, lk2⟩ := y
  obtain ⟨oc, od, osl, e⟩ := lk
  obtain ⟨oc2, od2, osl2, e2⟩ := lk2
  rw [e] at e2
  injection e2 with e2
  injection e2 with _ _ e2
  injection e2 with e2
  subst e2
  refine ⟨fd, ⟨fun vs H Q E h => ?_, fun A outer s H args us vs Q E hr h0 hb hv h => ?_⟩, B, kp, ⟨oc, od, osl, e⟩⟩
  · obtain ⟨Z, A, O, ts, P, X, h1, h2, h3, h4, h5⟩ := h
    rcases h4 with h4 | h4
    · exact F.len vs H Q E ⟨Z, A, O, ts, P, X, h1, h2, h3, h4, h5⟩
    · exact F2.len vs H Q E ⟨Z, A, O, ts, P, X, h1, h2, h3, h4, h5⟩
  · obtain ⟨Z, A', O, ts, P, X, h1, h2, h3, h4, h5⟩ := h
    rcases h4 with h4 | h4
    · exact F.run A outer s H args us vs Q E (hr.mono hk) h0 hb hv ⟨Z, A', O, ts, P, X, h1, h2, h3, h4, h5⟩
    · exact F2.run A outer s H args us vs Q E (hr.mono hj) h0 hb hv ⟨Z, A', O, ts, P, X, h1, h2, h3, h4, h5⟩
/-! bounds -/
theorem natAbs_lt {i : Int} {n : Nat} (h0 : -(2 ^ n : Int) < i) (h1 : i < 2 ^ n) : i.natAbs < 2 ^ n := by
  have e : ((2 ^ n : Nat) : Int) = (2 ^ n : Int) := by simp
  omega
theorem mulW_ok {i j : Int} (hi : -(2 ^ 250 : Int) < i ∧ i < 2 ^ 250) (hj : -(2 ^ 250 : Int) < j ∧ j < 2 ^ 250) : CMulW i j :=
  wide_mul (a := 250) (b := 250) (natAbs_lt hi.1 hi.2) (natAbs_lt hj.1 hj.2) (by omega) (by omega) (by omega)
theorem divW_ok {i j : Int} (h : 0 < j) (hj : j < 2 ^ 250) : CDivW i j := by
  have h2 : -(2 ^ 250 : Int) < j := Int.lt_trans (by decide) h
  exact wide_div (b := 250) h (natAbs_lt h2 hj) (by omega) (by omega)
/-! kinds of values -/
/-- whether a value is an integer and no bool, as isinstance tells it -/
def IntQ (K : PySem.W.Frag) (d : D) (b : Bool) : Prop := ∃ t b1 b2, TyD K d t ∧ PySem.W.kitOne K t (.type "int") = some b1 ∧ PySem.W.kitOne K t (.type "bool") = some b2 ∧ b = (b1 && !b2)
theorem intQ_int {K : PySem.W.Frag} {n : Int} : IntQ K (.int n) true := ⟨_, true, false, .int n, kit_ty (by decide +kernel), kit_ty (by decide +kernel), rfl⟩
theorem intQ_bl {K : PySem.W.Frag} {n : Bool} : IntQ K (.bl n) false := ⟨_, true, true, .bl n, kit_ty (by decide +kernel), kit_ty (by decide +kernel), rfl⟩
theorem intQ_non {K : PySem.W.Frag} : IntQ K .non false := ⟨_, false, false, .non, kit_ty (by decide +kernel), kit_ty (by decide +kernel), rfl⟩
theorem intQ_str {K : PySem.W.Frag} {n : Str} : IntQ K (.str n) false := ⟨_, false, false, .str n, kit_ty (by decide +kernel), kit_ty (by decide +kernel), rfl⟩
theorem intQ_lst {K : PySem.W.Frag} {n : List D} : IntQ K (.lst n) false := ⟨_, false, false, .lst n, kit_ty (by decide +kernel), kit_ty (by decide +kernel), rfl⟩
theorem intQ_tup {K : PySem.W.Frag} {n : List D} : IntQ K (.tup n) false := ⟨_, false, false, .tup n, kit_ty (by decide +kernel), kit_ty (by decide +kernel), rfl⟩
theorem intQ_dic {K : PySem.W.Frag} {n : List (Key × D)} : IntQ K (.dic n) false := ⟨_, false, false, .dic n, kit_ty (by decide +kernel), kit_ty (by decide +kernel), rfl⟩
end G

set_option Elab.async false
set_option linter.all false
set_option maxRecDepth 100000
set_option maxHeartbeats 4000000
/-! GJ: the pens of the laws. -/
namespace G
open PySem PySem.Spec PyProof.Rows L2

def nums (ns : List Int) : List D := ns.map D.int
/-- a pen: its cells, where it is, what is left of a great cell; n: how often it has drawn at most -/
def Pen (n : Nat) (p : List D) : Prop := ∃ (cs : List Int) (at_ g : Int), p = [.lst (nums cs), .int at_, .int g] ∧ 0 ≤ at_ ∧ at_ ≤ n ∧ 0 ≤ g
theorem Pen.mono {n m : Nat} {p : List D} (h : Pen n p) (k : n ≤ m) : Pen m p := by
  obtain ⟨cs, a, g, e, h1, h2, h3⟩ := h
  exact ⟨cs, a, g, e, h1, by omega, h3⟩
/-- what making a pen does: the script's cut, its copy, the pen -/
def penSp (K : PySem.W.Frag) (n : Int) : Sp := fun vs H Q _ => ∃ (a : Addr) (cs : List Int), vs = [.ref a] ∧ SqL K H a (cs.map V.int) ∧
  ∀ s l p, H s = none → upd H s (.lst (cutV (cs.map V.int) none (some n))) l = none → upd (upd H s (.lst (cutV (cs.map V.int) none (some n)))) l (.lst (cutV (cs.map V.int) none (some n))) p = none →
    Q (.ref p) (upd (upd (upd H s (.lst (cutV (cs.map V.int) none (some n)))) l (.lst (cutV (cs.map V.int) none (some n)))) p (.lst [.ref l, .int 0, .int 0]))
theorem penSp_len {K : PySem.W.Frag} {n : Int} {vs H Q E} (h : penSp K n vs H Q E) : vs.length = 1 := by
  obtain ⟨a, cs, rfl, _⟩ := h
  rfl
theorem cut_ints {cs : List Int} {n : Int} : ∃ ds : List Int, cutV (cs.map V.int) none (some n) = List.map V.int ds := ⟨(cs.drop (HT.sIx (cs.map V.int).length 0 none)).take (HT.sIx (cs.map V.int).length (cs.map V.int).length (some n) - HT.sIx (cs.map V.int).length 0 none), by
  unfold cutV
  rw [List.map_take, List.map_drop]⟩
/-- a def by its promise as it is -/
def FnRaw (P : Program) (w : World) (K : PySem.W.Frag) (mg : Str → Option Value) (base : Heap) (k : Nat) (f : Addr) (ps : List Str) (sp : Sp) : Prop :=
  ∃ fd, FnOk P w K mg base (L2.CX P w) k f fd ps sp ∧ Binds K fd ps [] ∧ PySem.W.keepIn K (.ref f) = true ∧ LkF K f fd
section
variable {K : PySem.W.Frag} {W : WX} {O : List OD} {ts : List T} {P : PT'} {X : XX} {te ta : TE} {tr : TA} {E : XK}
theorem repL_ints {F : Hp} : ∀ {ns : List Int}, RepL K F (nums ns) (ns.map V.int)
  | [] => rfl
  | n :: ns => ⟨_, _, rfl, rfl, repL_ints (ns := ns)⟩
theorem ints_repL {F : Hp} : ∀ {ns : List Int} {vs : List V}, RepL K F (nums ns) vs → vs = ns.map V.int
  | [], _, h => h
  | n :: ns, _, h => by
    obtain ⟨v, r, e, h1, h2⟩ := h
    rw [e, ints_repL h2, show v = .int n from h1] <;> rfl
theorem w_pen {n : Int} (h : WA K W tr O ts (fun xs O1 => ∃ cs, xs = [.v (.scr cs)] ∧ ∀ p, Pen 0 p → P (.own O1.length) (O1 ++ [.lst p])) X) : WE K W (tCall (penSp K n) [] E tr) O ts P X := fun b A σ H Q s rs kv kx =>
  h b A σ H _ s rs (fun xs vs A1 O1 H1 p1 s1 n1 r1 => by
    obtain ⟨cs, rfl, p⟩ := p1
    rw [List.append_nil]
    obtain ⟨v, _, rfl, ⟨_, e, a, rfl, h1⟩, rfl⟩ := r1
    cases e
    refine ⟨a, cs, rfl, hid_ex.l h1, fun s0 l q hs hl hq => ?_⟩
    obtain ⟨ds, ed⟩ := cut_ints (cs := cs) (n := n)
    rw [ed] at hl hq ⊢
    obtain ⟨s2, n2, _⟩ := s1.lay hs (.lst (List.map V.int ds))
    obtain ⟨s3, n3, f3⟩ := s2.lay hl (.lst (List.map V.int ds))
    obtain ⟨s4, n4⟩ := s3.own (u := .lst [.ref l, .int 0, .int 0]) (o := .lst [.lst (nums ds), .int 0, .int 0]) hq ⟨_, upd_same, _, _, rfl, ⟨l, _, rfl, f3, repL_ints⟩, _, _, rfl, rfl, _, _, rfl, rfl, rfl⟩
    refine kv _ _ _ _ _ (p _ ⟨ds, 0, 0, rfl, by omega, by omega, by omega⟩) s4 (((n1.trans n2).trans n3).trans n4) ⟨q, ?_, rfl⟩
    rw [← s3.len, List.getElem?_append_right (Nat.le_refl _), Nat.sub_self]
    exact rfl) kx
end
/-! ### draws -/
def sp_draw (K : PySem.W.Frag) : SpD := fun ts O P _ => ∃ (n : Nat) (p : List D) (m : Int), ts = [.own 0, .v (.int m)] ∧ O = [.lst p] ∧ Pen n p ∧ n < 1000000 ∧ 1 ≤ m ∧ m < 2 ^ 200 ∧ ∀ p' r, Pen (n + 1) p' → 0 ≤ r → r < m → P (.v (.int r)) [.lst p']
theorem sp_draw_len {K : PySem.W.Frag} {ts O P X} (h : sp_draw K ts O P X) : ts.length = 2 := by
  obtain ⟨n, p, m, rfl, _⟩ := h
  rfl
theorem u_draw {K : PySem.W.Frag} {P : PT'} {X : XX} {n : Nat} {p : List D} {m : Int} (hp : Pen n p) (hn : n < 1000000) (h1 : 1 ≤ m) (h2 : m < 2 ^ 200) (k : ∀ p' r, Pen (n + 1) p' → 0 ≤ r → r < m → P (.v (.int r)) [.lst p']) :
    sp_draw K [.own 0, .v (.int m)] [.lst p] P X := ⟨n, p, m, rfl, rfl, hp, hn, h1, h2, k⟩
/-- one of some values, by a draw; d: the i-th of them -/
def sp_pick (K : PySem.W.Frag) : SpD := fun ts O P _ => ∃ (n : Nat) (p : List D) (ds : List D), ts = [.own 0, .v (.lst ds)] ∧ O = [.lst p] ∧ Pen n p ∧ n < 1000000 ∧ 1 ≤ ds.length ∧ ds.length ≤ 1000000 ∧ ∀ p' (i : Nat) d, Pen (n + 1) p' → ds[i]? = some d → P (.v d) [.lst p']
theorem sp_pick_len {K : PySem.W.Frag} {ts O P X} (h : sp_pick K ts O P X) : ts.length = 2 := by
  obtain ⟨n, p, m, rfl, _⟩ := h
  rfl
theorem u_pick {K : PySem.W.Frag} {P : PT'} {X : XX} {n : Nat} {p : List D} {ds : List D} (hp : Pen n p) (hn : n < 1000000) (h1 : 1 ≤ ds.length) (h2 : ds.length ≤ 1000000) (k : ∀ p' (j : Nat) d, Pen (n + 1) p' → ds[j]? = some d → P (.v d) [.lst p']) :
    sp_pick K [.own 0, .v (.lst ds)] [.lst p] P X := ⟨n, p, ds, rfl, rfl, hp, hn, h1, h2, k⟩
theorem nno {d : D} : T.v d ≠ .no := fun z => by cases z
/-! ### fixed laws of arithmetic used by the pens -/
theorem pow5_ok {x a : Int} (hx : 0 ≤ x) (hx2 : x < 2147483543) (ha : 0 ≤ a) (ha2 : a ≤ 1000000) : CPow (x + 71887 * a + 977) 5 := ⟨by omega, by omega, by omega⟩
end G

set_option Elab.async false
set_option linter.all false
set_option maxRecDepth 100000
set_option maxHeartbeats 4000000
/-! GK: equality of plain data. -/
namespace G
open PySem PySem.Spec PyProof.Rows L2
mutual
theorem pl_refl : ∀ (n : Nat) (d : D), pl n d = true → eqD d d = true
  | _, .non, _ => by unfold eqD; simp only [toP, PyData.eqv]
  | _, .bl b, _ => by unfold eqD; simp only [toP, PyData.eqv]; exact beq_self_eq_true b
  | _, .int b, _ => by unfold eqD; simp only [toP, PyData.eqv]; exact beq_self_eq_true b
  | _, .str b, h => by
    unfold eqD
    simp only [toP, PyData.eqv]
    first | exact beq_self_eq_true b | simp
  | n + 1, .lst ds, h => by
    unfold eqD
    simp only [toP, PyData.eqv]
    exact pls_refl n ds h
  | n + 1, .tup ds, h => by
    unfold eqD
    simp only [toP, PyData.eqv]
    exact pls_refl n ds h
  | 0, .lst ds, h => by cases h
  | 0, .tup ds, h => by cases h
  | 0, .ins _ _, h => by cases h
  | _ + 1, .ins _ _, h => by cases h
  | 0, .ref _, h => by cases h
  | _ + 1, .ref _, h => by cases h
  | 0, .ty _, h => by cases h
  | _ + 1, .ty _, h => by cases h
  | 0, .scr _, h => by cases h
  | _ + 1, .scr _, h => by cases h
  | 0, .exc _ _, h => by cases h
  | _ + 1, .exc _ _, h => by cases h
  | 0, .dic _, h => by cases h
  | _ + 1, .dic _, h => by cases h
theorem pls_refl : ∀ (n : Nat) (ds : List D), pls n ds = true → PyData.eqvAll (toPs ds) (toPs ds) = true
  | n, [], _ => by simp only [toPs, PyData.eqvAll]
  | n, d :: ds, h => by
    have h' : (pl n d && pls n ds) = true := h
    obtain ⟨h1, h2⟩ := Bool.and_eq_true_iff.mp h'
    have a := pl_refl n d h1
    unfold eqD at a
    simp only [toPs, PyData.eqvAll, a, pls_refl n ds h2, Bool.and_self]
end
theorem eqD_refl {d : D} (h : pl 60 d = true) : eqD d d = true := pl_refl 60 d h
section
variable {K : PySem.W.Frag} {W : WX} {O : List OD} {ts : List T} {P : PT'} {X : XX} {te : TE} {tr : TA}
theorem w_eqT {x y : T} {d : D} (hx : ValD x O d) (hy : ValD y O d) (h1 : pl 60 d = true) (k : P (.v (.bl true)) O) : WR K (rEqD K) x y O P := w_eqD hx hy h1 h1 (by rw [eqD_refl h1]; exact k)
theorem w_neF {x y : T} {d : D} (hx : ValD x O d) (hy : ValD y O d) (h1 : pl 60 d = true) (k : P (.v (.bl false)) O) : WR K (rNeD K) x y O P := w_neD hx hy h1 h1 (by rw [eqD_refl h1]; exact k)
end
theorem pls_map {α : Type} {n : Nat} {f : α → D} (h : ∀ x, pl n (f x) = true) : ∀ xs : List α, pls n (xs.map f) = true
  | [] => by cases n <;> rfl
  | x :: xs => by
    have e : pls n ((x :: xs).map f) = (pl n (f x) && pls n (xs.map f)) := by cases n <;> rfl
    rw [e, h x, pls_map h xs] <;> rfl
theorem pl_int {n : Nat} {i : Int} : pl n (.int i) = true := by cases n <;> rfl
theorem pls_nums {n : Nat} {ns : List Int} : pls n (nums ns) = true := pls_map (fun _ => pl_int) ns
theorem pl_numsL {n : Nat} {ns : List Int} : pl (n + 1) (.lst (nums ns)) = true := pls_nums
theorem pl_numsT {n : Nat} {ns : List Int} : pl (n + 1) (.tup (nums ns)) = true := pls_nums
theorem pl_nilL {n : Nat} : pl (n + 1) (.lst []) = true := by cases n <;> rfl
/-- lists and tuples of integers -/
theorem toPs_nums : ∀ {ns ms : List Int}, PyData.eqvAll (toPs (nums ns)) (toPs (nums ms)) = decide (ns = ms)
  | [], [] => by simp [nums, toPs, PyData.eqvAll]
  | [], m :: ms => by simp [nums, toPs, PyData.eqvAll]
  | n :: ns, [] => by simp [nums, toPs, PyData.eqvAll]
  | n :: ns, m :: ms => by
    have ih := toPs_nums (ns := ns) (ms := ms)
    have e : PyData.eqvAll (toPs (nums (n :: ns))) (toPs (nums (m :: ms))) = (n == m && PyData.eqvAll (toPs (nums ns)) (toPs (nums ms))) := by
      simp only [nums, List.map_cons, toPs, toP, PyData.eqvAll, PyData.eqv]
    rw [e, ih]
    by_cases h1 : n = m
    · subst h1
      simp
    · simp [h1]
theorem eqD_numsL {ns ms : List Int} : eqD (.lst (nums ns)) (.lst (nums ms)) = decide (ns = ms) := by
  unfold eqD
  simp only [toP, PyData.eqv]
  exact toPs_nums
theorem eqD_numsT {ns ms : List Int} : eqD (.tup (nums ns)) (.tup (nums ms)) = decide (ns = ms) := by
  unfold eqD
  simp only [toP, PyData.eqv]
  exact toPs_nums
theorem eqD_nilL {ns : List Int} : eqD (.lst (nums ns)) (.lst []) = decide (ns = []) := eqD_numsL (ms := [])
theorem nums_len {ns : List Int} : (nums ns).length = ns.length := List.length_map _
theorem mulB {x y a b : Int} (h0 : 0 ≤ x) (h1 : x ≤ a) (h2 : 0 ≤ y) (h3 : y ≤ b) : 0 ≤ x * y ∧ x * y ≤ a * b :=
  ⟨Int.mul_nonneg h0 h2, Int.mul_le_mul h1 h3 h2 (Int.le_trans h0 h1)⟩
theorem atI_pos {α : Type} {xs : List α} {i : Int} (h0 : 0 ≤ i) (h1 : i < xs.length) : ∃ x, atI xs i = some x ∧ xs[i.toNat]? = some x := by
  obtain ⟨j, rfl⟩ := Int.eq_ofNat_of_zero_le h0
  have hj : j < xs.length := by omega
  exact ⟨xs[j], atI_nat (List.getElem?_eq_getElem hj), List.getElem?_eq_getElem hj⟩
theorem atI_nums {ns : List Int} {i : Int} (h0 : 0 ≤ i) (h1 : i < ns.length) : ∃ x, atI (nums ns) i = some (.int x) ∧ ns[i.toNat]? = some x := by
  obtain ⟨j, rfl⟩ := Int.eq_ofNat_of_zero_le h0
  have hj : j < ns.length := by omega
  refine ⟨ns[j], atI_nat ?_, List.getElem?_eq_getElem hj⟩
  show (ns.map D.int)[j]? = _
  rw [List.getElem?_map, List.getElem?_eq_getElem hj] <;> rfl
end G

set_option Elab.async false
set_option linter.all false
set_option maxRecDepth 100000
set_option maxHeartbeats 4000000
/-! GL: an owned thing becomes plain data. -/
namespace G
open PySem PySem.Spec PyProof.Rows L2
def odD : OD → Option D
  | .lst ds => some (.lst ds)
  | .ins C fs => some (.ins C fs)
  | .dic kvs => some (.dic kvs)
  | .gone => none
def thaw (i : Nat) (d : D) : T → T
  | .own j => if j = i then .v d else .own j
  | t => t
section
variable {K : PySem.W.Frag} {W : WX} {b : Bs} {A : List Addr} {O : List OD} {H : Hp} {ts : List T} {t : TS} {te : TE} {E : DE} {P : PT'} {X : XX}
theorem live_sub {i : Nat} {a : Addr} (h : a ∈ live A (O.set i .gone)) : a ∈ live A O := by
  obtain ⟨j, o, h1, h2, h3⟩ := live_mem h
  rw [List.getElem?_set] at h2
  by_cases hij : i = j
  · rw [if_pos hij] at h2
    by_cases hl : i < O.length
    · rw [if_pos hl] at h2
      exact absurd (Option.some.inj h2).symm h3
    · rw [if_neg hl] at h2
      cases h2
  · rw [if_neg hij] at h2
    exact live_at h1 h2 h3
theorem StO.freeze (s : StO K b A O H) {i : Nat} {o : OD} {d : D} (ho : O[i]? = some o) (hd : odD o = some d) : StO K b A (O.set i .gone) H ∧ Nxt b A O H A (O.set i .gone) H ∧ ∃ a, A[i]? = some a ∧ Rep K (Fz b A (O.set i .gone) H) d (.ref a) := by
  have ng : o ≠ .gone := fun z => by
    subst z
    cases hd
  have hi : i < A.length := by
    rw [s.len]
    exact (List.getElem?_eq_some_iff.mp ho).1
  obtain ⟨a, ha⟩ : ∃ a, A[i]? = some a := ⟨A[i], List.getElem?_eq_getElem hi⟩
  have hl : a ∈ live A O := live_at ha ho ng
  have x3 : Ex (Fz b A O H) (Fz b A (O.set i .gone) H) := hid_mono (fun _ _ _ h => h) fun c o h1 h2 h3 => by
    rcases List.mem_append.mp h3 with h3 | h3
    · exact h1 (List.mem_append_left _ (live_sub h3))
    · exact h1 (List.mem_append_right _ h3)
  have fz : ∀ u, H a = some u → Fz b A (O.set i .gone) H a = some u := fun u hu => hid_some.mpr ⟨fun h3 => by
    rcases List.mem_append.mp h3 with h3 | h3
    · obtain ⟨j, o', h1, h2, h4⟩ := live_mem h3
      have e : i = j := nd_ix s.nd ha h1
      subst e
      rw [List.getElem?_set_self (List.getElem?_eq_some_iff.mp ho).1] at h2
      exact h4 (Option.some.inj h2).symm
    · exact (s.z_at h3).1 hl, hu⟩
  have c := s.cell i a o ha ho
  refine ⟨⟨by rw [List.length_set]; exact s.len, s.pre, s.ext.trans (hid_mono (fun _ _ _ h => h) fun c o h1 h2 h3 => h1 (live_sub h3)), s.zs, s.nd, s.inh, fun j c' u h1 h2 => ?_⟩, ⟨⟨[], (List.append_nil A).symm⟩, x3⟩, a, ha, ?_⟩
  · rw [List.getElem?_set] at h2
    by_cases hij : i = j
    · rw [if_pos hij] at h2
      by_cases hl : i < O.length
      · rw [if_pos hl] at h2
        have e : OD.gone = u := Option.some.inj h2
        subst e
        trivial
      · rw [if_neg hl] at h2
        cases h2
    · rw [if_neg hij] at h2
      exact (s.cell j c' u h1 h2).ex x3 fun _ h => h
  · cases o with
    | gone => cases hd
    | lst ds =>
      have e := Option.some.inj hd
      subst e
      obtain ⟨vs, c1, c2⟩ := c
      exact ⟨a, vs, rfl, fz _ c1, c2.ex x3⟩
    | ins C fs =>
      have e := Option.some.inj hd
      subst e
      obtain ⟨dx, vs, c1, c2⟩ := c
      exact ⟨a, dx, vs, rfl, fz _ c1, c2.ex x3⟩
    | dic kvs =>
      have e := Option.some.inj hd
      subst e
      obtain ⟨vs, c1, c2⟩ := c
      exact ⟨a, vs, rfl, fz _ c1, c2.ex x3⟩
theorem RepT.thaw {F : Hp} {i : Nat} {d : D} {a : Addr} {x : T} {o : Option V} (h : RepT K F A x o) (ha : A[i]? = some a) (r : Rep K F d (.ref a)) : RepT K F A (thaw i d x) o := by
  cases x with
  | v d => exact h
  | no => trivial
  | own j =>
    show RepT K F A (if j = i then .v d else .own j) o
    by_cases e : j = i
    · subst e
      rw [if_pos rfl]
      obtain ⟨c, h1, h2⟩ := h
      rw [ha] at h1
      have e2 := Option.some.inj h1
      subst e2
      exact ⟨_, h2, r⟩
    · rw [if_neg e]
      exact h
theorem RepS.thaw {F : Hp} {i : Nat} {d : D} {a : Addr} {σ : L2.St} (h : RepS K F A ts σ) (ha : A[i]? = some a) (r : Rep K F d (.ref a)) : RepS K F A (ts.map (G.thaw i d)) σ := by
  refine ⟨by rw [List.length_map]; exact h.1, fun j t e => ?_⟩
  rw [List.getElem?_map] at e
  cases q : ts[j]? with
  | none =>
    rw [q] at e
    cases e
  | some u =>
    rw [q] at e
    have e2 : G.thaw i d u = t := Option.some.inj e
    subst e2
    obtain ⟨o, h1, h2⟩ := h.2 j u q
    exact ⟨o, h1, h2.thaw ha r⟩
theorem s_frz (i : Nat) {o : OD} {d : D} (ho : O[i]? = some o) (hd : odD o = some d) (h : WS K W t (O.set i .gone) (ts.map (G.thaw i d)) E) : WS K W t O ts E := fun b A σ H D s rs ks => by
  obtain ⟨s2, n2, a, ha, r⟩ := s.freeze ho hd
  exact h b A σ H D s2 ((rs.nxt n2).thaw ha r) (ks.nxt n2)
end
end G

set_option Elab.async false
set_option linter.all false
set_option maxRecDepth 100000
set_option maxHeartbeats 4000000
/-! GM: loops over what is known. -/
namespace G
open PySem PySem.Spec PyProof.Rows L2
section
variable {K : PySem.W.Frag} {W : WX} {O : List OD} {ts : List T} {E : DE} {g : TG} {tb : TS}
def ForEx (K : PySem.W.Frag) (W : WX) (g : TG) (tb : TS) (E : DE) (ts : List T) (f : Nat → Option T) (O1 : List OD) : Prop :=
  ∃ (n : Nat) (I : Nat → List T → List OD → Prop), (∀ i, i < n → f i ≠ none) ∧ f n = none ∧ I 0 ts O1 ∧
      (∀ i t ts' O', i < n → f i = some t → I i ts' O' → WG K W g t O' ts' (fun ts2 O2 => WS K W tb O2 ts2 { E with nx := I (i + 1), ct := I (i + 1), bk := E.nx })) ∧ (∀ ts' O', I n ts' O' → E.nx ts' O')
theorem itD_ne {ds : List D} {i : Nat} (h : i < ds.length) : itD ds i ≠ none := fun z => by
  have := itD_none z
  omega
theorem for_D {ds : List D} (I : Nat → List T → List OD → Prop) (h0 : I 0 ts O)
    (hs : ∀ i d ts' O', i < ds.length → ds[i]? = some d → I i ts' O' → WG K W g (.v d) O' ts' (fun ts2 O2 => WS K W tb O2 ts2 { E with nx := I (i + 1), ct := I (i + 1), bk := E.nx }))
    (hd : ∀ ts' O', I ds.length ts' O' → E.nx ts' O') : ForEx K W g tb E ts (itD ds) O :=
  ⟨ds.length, I, fun i h => itD_ne h, by unfold itD; rw [List.getElem?_eq_none (Nat.le_refl _)]; rfl, h0, fun i t ts' O' hi ht hI => by
    obtain ⟨d, e, rfl⟩ := itD_some ht
    exact hs i d ts' O' hi e hI, hd⟩
theorem for_N {ns : List Int} (I : Nat → List T → List OD → Prop) (h0 : I 0 ts O)
    (hs : ∀ i r ts' O', i < ns.length → ns[i]? = some r → I i ts' O' → WG K W g (.v (.int r)) O' ts' (fun ts2 O2 => WS K W tb O2 ts2 { E with nx := I (i + 1), ct := I (i + 1), bk := E.nx }))
    (hd : ∀ ts' O', I ns.length ts' O' → E.nx ts' O') : ForEx K W g tb E ts (itD (nums ns)) O :=
  for_D I h0 (fun i d ts' O' hi e hI => by
    have e' : (ns.map D.int)[i]? = some d := e
    rw [List.getElem?_map] at e'
    cases q : ns[i]? with
    | none =>
      rw [q] at e'
      cases e'
    | some r =>
      rw [q] at e'
      have e2 : D.int r = d := Option.some.inj e'
      subst e2
      exact hs i r ts' O' (by rw [nums_len] at hi; exact hi) q hI) (by rw [nums_len]; exact hd)
theorem for_E {ds : List D} (I : Nat → List T → List OD → Prop) (h0 : I 0 ts O)
    (hs : ∀ i d ts' O', i < ds.length → ds[i]? = some d → I i ts' O' → WG K W g (.v (.tup [.int (i : Nat), d])) O' ts' (fun ts2 O2 => WS K W tb O2 ts2 { E with nx := I (i + 1), ct := I (i + 1), bk := E.nx }))
    (hd : ∀ ts' O', I ds.length ts' O' → E.nx ts' O') : ForEx K W g tb E ts (itE ds) O :=
  ⟨ds.length, I, fun i h z => by
    have := itE_none z
    omega, by unfold itE; rw [List.getElem?_eq_none (Nat.le_refl _)]; rfl, h0, fun i t ts' O' hi ht hI => by
    obtain ⟨d, e, rfl⟩ := itE_some ht
    exact hs i d ts' O' hi e hI, hd⟩
theorem for_EN {ns : List Int} (I : Nat → List T → List OD → Prop) (h0 : I 0 ts O)
    (hs : ∀ i r ts' O', i < ns.length → ns[i]? = some r → I i ts' O' → WG K W g (.v (.tup [.int (i : Nat), .int r])) O' ts' (fun ts2 O2 => WS K W tb O2 ts2 { E with nx := I (i + 1), ct := I (i + 1), bk := E.nx }))
    (hd : ∀ ts' O', I ns.length ts' O' → E.nx ts' O') : ForEx K W g tb E ts (itE (nums ns)) O :=
  for_E I h0 (fun i d ts' O' hi e hI => by
    have e' : (ns.map D.int)[i]? = some d := e
    rw [List.getElem?_map] at e'
    cases q : ns[i]? with
    | none =>
      rw [q] at e'
      cases e'
    | some r =>
      rw [q] at e'
      have e2 : D.int r = d := Option.some.inj e'
      subst e2
      exact hs i r ts' O' (by rw [nums_len] at hi; exact hi) q hI) (by rw [nums_len]; exact hd)
theorem for_R {lo c : Int} {n : Nat} (I : Nat → List T → List OD → Prop) (h0 : I 0 ts O)
    (hs : ∀ i ts' O', i < n → I i ts' O' → WG K W g (.v (.int (lo + (i : Int) * c))) O' ts' (fun ts2 O2 => WS K W tb O2 ts2 { E with nx := I (i + 1), ct := I (i + 1), bk := E.nx }))
    (hd : ∀ ts' O', I n ts' O' → E.nx ts' O') : ForEx K W g tb E ts (itR lo c n) O :=
  ⟨n, I, fun i h z => by
    have := itR_none z
    omega, by unfold itR; rw [if_neg (Nat.lt_irrefl n)], h0, fun i t ts' O' hi ht hI => by
    obtain ⟨_, rfl⟩ := itR_some ht
    exact hs i ts' O' hi hI, hd⟩
/-- range(n), range(lo, hi): the items as they are -/
theorem for_R1 {n : Nat} (I : Nat → List T → List OD → Prop) (h0 : I 0 ts O)
    (hs : ∀ i ts' O', i < n → I i ts' O' → WG K W g (.v (.int (i : Nat))) O' ts' (fun ts2 O2 => WS K W tb O2 ts2 { E with nx := I (i + 1), ct := I (i + 1), bk := E.nx }))
    (hd : ∀ ts' O', I n ts' O' → E.nx ts' O') : ForEx K W g tb E ts (itR 0 1 n) O :=
  for_R I h0 (fun i ts' O' hi hI => by
    rw [Int.zero_add, Int.mul_one]
    exact hs i ts' O' hi hI) hd
theorem for_Z {ds es : List D} (hl : ds.length = es.length) (I : Nat → List T → List OD → Prop) (h0 : I 0 ts O)
    (hs : ∀ i d e ts' O', i < ds.length → ds[i]? = some d → es[i]? = some e → I i ts' O' → WG K W g (.v (.tup [d, e])) O' ts' (fun ts2 O2 => WS K W tb O2 ts2 { E with nx := I (i + 1), ct := I (i + 1), bk := E.nx }))
    (hd : ∀ ts' O', I ds.length ts' O' → E.nx ts' O') : ForEx K W g tb E ts (itZ ds es) O :=
  ⟨ds.length, I, fun i h z => by
    rcases itZ_none z with z | z <;> omega, by unfold itZ; rw [List.getElem?_eq_none (Nat.le_refl ds.length)], h0, fun i t ts' O' hi ht hI => by
    obtain ⟨d, e, e1, e2, rfl⟩ := itZ_some ht
    exact hs i d e ts' O' hi e1 e2 hI, hd⟩
theorem s_forE {wi : TI} (h : WI K W wi O ts (fun f O1 => ForEx K W g tb E ts f O1) (fun C fs O' => E.xe C fs ts O')) : WS K W (tFor wi g tb) O ts E := s_for h
/-- a, b = a pair -/
theorem g_pair {n : Nat} {i j : Nat} {a b : D} {N : List T → List OD → Prop} (hn : n = 2) (k : N ((ts.set i (.v a)).set j (.v b)) O) : WG K W (gTup K n (gCons (gName i) (gCons (gName j) gNil))) (.v (.tup [a, b])) O ts N :=
  g_tup (by rw [hn] <;> rfl) (g_cons (g_name (g_cons (g_name (g_nil k)))))
theorem g_trip {n : Nat} {i j l : Nat} {a b c : D} {N : List T → List OD → Prop} (hn : n = 3) (k : N (((ts.set i (.v a)).set j (.v b)).set l (.v c)) O) : WG K W (gTup K n (gCons (gName i) (gCons (gName j) (gCons (gName l) gNil)))) (.v (.tup [a, b, c])) O ts N :=
  g_tup (by rw [hn] <;> rfl) (g_cons (g_name (g_cons (g_name (g_cons (g_name (g_nil k)))))))
theorem g_quad {n : Nat} {i j l m : Nat} {a b c d : D} {N : List T → List OD → Prop} (hn : n = 4) (k : N ((((ts.set i (.v a)).set j (.v b)).set l (.v c)).set m (.v d)) O) : WG K W (gTup K n (gCons (gName i) (gCons (gName j) (gCons (gName l) (gCons (gName m) gNil))))) (.v (.tup [a, b, c, d])) O ts N :=
  g_tup (by rw [hn] <;> rfl) (g_cons (g_name (g_cons (g_name (g_cons (g_name (g_cons (g_name (g_nil k)))))))))
variable {P : PT'} {X : XX} {te ta tv : TE} {DE' : DE} {C : Addr} {f : Str}
theorem w_fldN (n : NoAttr K C f) (c : Cls K C) (h : WE K W ta O ts (fun x O1 => ∃ fs d, InsD x O1 C fs ∧ fs.lookup f = some d ∧ P (.v d) O1) X) : WE K W (tFld K ta f) O ts P X := w_fld c n h
theorem s_fldN (n : NoAttr K C f) (c : Cls K C) (h : WE K W tv O ts (fun y O1 => WE K W ta O1 ts (fun x O2 => ∃ i fs d, x = .own i ∧ y = .v d ∧ O2[i]? = some (.ins C fs) ∧ fs.length < 1000 ∧ DE'.nx ts (O2.set i (.ins C (putD f d fs)))) (fun C fs O' => DE'.xe C fs ts O')) (fun C fs O' => DE'.xe C fs ts O')) :
    WS K W (sFld K ta tv f) O ts DE' := s_fld c n h
theorem drop_at {α : Type} {xs : List α} {i : Nat} {x : α} (h : xs[i]? = some x) : xs.drop i = x :: xs.drop (i + 1) := by
  obtain ⟨hi, e⟩ := List.getElem?_eq_some_iff.mp h
  rw [List.drop_eq_getElem_cons hi, e]
theorem unv_vs : ∀ {ds : List D} {ys : List T} {es : List D}, unv ys = some es → unv (ds.map T.v ++ ys) = some (ds ++ es)
  | [], _, _, h => h
  | d :: ds, _, _, h => by
    show (unv (ds.map T.v ++ _)).map (d :: ·) = _
    rw [unv_vs h] <;> rfl
theorem atI_m1 {α : Type} {xs : List α} {x : α} : atI (xs ++ [x]) (-1) = some x := by
  have e : ixN (xs ++ [x]).length (-1) = some xs.length := by
    unfold ixN
    rw [List.length_append]
    simp
    omega
  unfold atI
  rw [e]
  simp
theorem unv_nums {fs : List Int} {x : Int} : unv ((nums fs).map T.v ++ [.v (.int x)]) = some (nums (fs ++ [x])) := by
  rw [unv_vs (ys := [.v (.int x)]) (es := [.int x]) rfl]
  unfold nums
  rw [List.map_append] <;> rfl
theorem star_len {fs : List Int} {y : T} : ((nums fs).map T.v ++ [y]).length = fs.length + 1 := by
  rw [List.length_append, List.length_map, nums_len] <;> rfl
theorem sizeL_ok {n : Nat} (h : n ≤ 1000000) : n ≤ sizeLine := Nat.le_trans h (Nat.le_of_ble_eq_true rfl)
theorem lt_sz {fs : List Int} (h : fs.length < 1000000) : (nums fs).length < sizeLine := Nat.lt_of_lt_of_le (by rw [nums_len]; exact h) (Nat.le_of_ble_eq_true rfl)
theorem lt_szD {fs : List D} (h : fs.length < 1000000) : fs.length < sizeLine := Nat.lt_of_lt_of_le h (Nat.le_of_ble_eq_true rfl)
theorem nums_app {fs : List Int} {x : Int} : nums fs ++ [.int x] = nums (fs ++ [x]) := by
  unfold nums
  rw [List.map_append] <;> rfl
theorem atI_m1n {fs : List Int} {x : Int} : atI (nums (fs ++ [x])) (-1) = some (.int x) := by
  rw [← nums_app]
  exact atI_m1
/-- a stop that is never reached -/
theorem nb_t {A B : Prop} {c : Bool} (hc : c = true) (h : B) : ((!c) = true → A) ∧ ((!c) = false → B) := ⟨fun z => (by rw [hc] at z; cases z), fun _ => h⟩
end
end G

set_option Elab.async false
set_option linter.all false
set_option maxRecDepth 100000
set_option maxHeartbeats 4000000
/-! GN: comprehensions over what is known. -/
namespace G
open PySem PySem.Spec PyProof.Rows L2
section
variable {K : PySem.W.Frag} {W : WX} {O : List OD} {ts : List T} {g : TG} {te : TE} {vs : List Nat} {P : PT'}
def LcEx (K : PySem.W.Frag) (W : WX) (g : TG) (te : TE) (vs : List Nat) (P : PT') (ts : List T) (f : Nat → Option T) (O1 : List OD) : Prop :=
  ∃ (n : Nat) (I : Nat → List D → List OD → Prop), (∀ i, i < n → f i ≠ none) ∧ f n = none ∧ I 0 [] O1 ∧ (∀ i acc O', I i acc O' → O'.length = O1.length) ∧
      (∀ i t acc O', i < n → f i = some t → I i acc O' → WG K W g t (O' ++ [.lst acc]) (wipeT ts vs) (fun ts2 O2 => WT K W tYes O2 ts2 (fun c O3 =>
        (c = true → WE K W te O3 ts2 (fun y O4 => ∃ d O5, y = .v d ∧ O4 = O5 ++ [.lst acc] ∧ acc.length < sizeLine ∧ I (i + 1) (acc ++ [d]) O5) X0) ∧ (c = false → ∃ O5, O3 = O5 ++ [.lst acc] ∧ I (i + 1) acc O5)) X0)) ∧
      (∀ acc O', I n acc O' → P (.v (.lst acc)) O')
theorem WG.imp {t : T} {N N' : List T → List OD → Prop} (h : WG K W g t O ts N) (q : ∀ ts O, N ts O → N' ts O) : WG K W g t O ts N' := fun b A σ H Q v s rs r kn => h b A σ H Q v s rs r fun ts σ A' O' H' x s m r => kn ts σ A' O' H' (q ts O' x) s m r
/-- with effects -/
theorem lc_I {f : Nat → Option T} {n : Nat} {item : Nat → T} (hf : ∀ i, i < n → f i = some (item i)) (hn : f n = none) (hz : n ≤ 1000000) (I : Nat → List D → List OD → Prop) (h0 : I 0 [] O)
    (hlen : ∀ i acc O', I i acc O' → O'.length = O.length ∧ acc.length = i)
    (hs : ∀ i acc O', i < n → I i acc O' → WG K W g (item i) (O' ++ [.lst acc]) (wipeT ts vs) (fun ts2 O2 => WE K W te O2 ts2 (fun y O4 => ∃ d O5, y = .v d ∧ O4 = O5 ++ [.lst acc] ∧ I (i + 1) (acc ++ [d]) O5) X0))
    (hd : ∀ acc O', I n acc O' → P (.v (.lst acc)) O') : LcEx K W g te vs P ts f O := by
  refine ⟨n, I, fun i h z => ?_, hn, h0, fun i acc O' h => (hlen i acc O' h).1, fun i t acc O' hi ht hI => ?_, hd⟩
  · rw [hf i h] at z
    cases z
  · have e : item i = t := by
      rw [hf i hi] at ht
      exact Option.some.inj ht
    subst e
    refine (hs i acc O' hi hI).imp fun ts2 O2 q => w_yes ⟨fun _ => q.imp fun y O4 p => ?_, fun z => by cases z⟩
    obtain ⟨d, O5, e1, e2, p⟩ := p
    exact ⟨d, O5, e1, e2, Nat.lt_of_lt_of_le (show acc.length < 1000000 by rw [(hlen i acc O' hI).2]; omega) (Nat.le_of_ble_eq_true rfl), p⟩
theorem range_get {α : Type} {n : Nat} {r : Nat → α} {i : Nat} : ((List.range n).map r) ++ [r n] = (List.range (n + 1)).map r := by
  rw [List.range_succ, List.map_append] <;> rfl
/-- without -/
theorem lc_P {f : Nat → Option T} {n : Nat} {item : Nat → T} (r : Nat → D) (hf : ∀ i, i < n → f i = some (item i)) (hn : f n = none) (hz : n ≤ 1000000)
    (hs : ∀ i acc, i < n → WG K W g (item i) (O ++ [.lst acc]) (wipeT ts vs) (fun ts2 O2 => WE K W te O2 ts2 (fun y O4 => y = .v (r i) ∧ O4 = O ++ [.lst acc]) X0))
    (hd : P (.v (.lst ((List.range n).map r))) O) : LcEx K W g te vs P ts f O := by
  refine lc_I hf hn hz (fun i acc O' => O' = O ∧ acc = (List.range i).map r) ⟨rfl, rfl⟩ (fun i acc O' h => ?_) (fun i acc O' hi h => ?_) fun acc O' h => ?_
  · obtain ⟨rfl, rfl⟩ := h
    exact ⟨rfl, by rw [List.length_map, List.length_range]⟩
  · obtain ⟨rfl, rfl⟩ := h
    refine (hs i _ hi).imp fun ts2 O2 q => q.imp fun y O4 p => ?_
    obtain ⟨rfl, rfl⟩ := p
    exact ⟨_, _, rfl, rfl, rfl, range_get (i := i)⟩
  · obtain ⟨rfl, rfl⟩ := h
    exact hd
theorem lc_R {n : Nat} (r : Nat → D) (hz : n ≤ 1000000)
    (hs : ∀ i acc, i < n → WG K W g (.v (.int (i : Nat))) (O ++ [.lst acc]) (wipeT ts vs) (fun ts2 O2 => WE K W te O2 ts2 (fun y O4 => y = .v (r i) ∧ O4 = O ++ [.lst acc]) X0))
    (hd : P (.v (.lst ((List.range n).map r))) O) : LcEx K W g te vs P ts (itR 0 1 n) O :=
  lc_P (item := fun i => .v (.int (i : Nat))) r (fun i hi => by
    unfold itR
    rw [if_pos hi, Int.zero_add, Int.mul_one]) (by unfold itR; rw [if_neg (Nat.lt_irrefl n)]) hz hs hd
theorem lc_RI {n : Nat} (hz : n ≤ 1000000) (I : Nat → List D → List OD → Prop) (h0 : I 0 [] O)
    (hlen : ∀ i acc O', I i acc O' → O'.length = O.length ∧ acc.length = i)
    (hs : ∀ i acc O', i < n → I i acc O' → WG K W g (.v (.int (i : Nat))) (O' ++ [.lst acc]) (wipeT ts vs) (fun ts2 O2 => WE K W te O2 ts2 (fun y O4 => ∃ d O5, y = .v d ∧ O4 = O5 ++ [.lst acc] ∧ I (i + 1) (acc ++ [d]) O5) X0))
    (hd : ∀ acc O', I n acc O' → P (.v (.lst acc)) O') : LcEx K W g te vs P ts (itR 0 1 n) O :=
  lc_I (item := fun i => .v (.int (i : Nat))) (fun i hi => by
    unfold itR
    rw [if_pos hi, Int.zero_add, Int.mul_one]) (by unfold itR; rw [if_neg (Nat.lt_irrefl n)]) hz I h0 hlen hs hd
theorem map_range {α β : Type} {f : α → β} : ∀ {xs : List α} {r : Nat → β}, (∀ i x, xs[i]? = some x → r i = f x) → (List.range xs.length).map r = xs.map f := fun {xs r} h => by
  refine List.ext_getElem (by rw [List.length_map, List.length_range, List.length_map]) fun i h1 h2 => ?_
  rw [List.getElem_map, List.getElem_map, List.getElem_range]
  rw [List.length_map] at h2
  exact h i _ (List.getElem?_eq_getElem h2)
theorem lc_A {α : Type} (xs : List α) (e : α → D) (f : α → D) (hz : xs.length ≤ 1000000)
    (hs : ∀ x acc, x ∈ xs → WG K W g (.v (e x)) (O ++ [.lst acc]) (wipeT ts vs) (fun ts2 O2 => WE K W te O2 ts2 (fun y O4 => y = .v (f x) ∧ O4 = O ++ [.lst acc]) X0))
    (hd : P (.v (.lst (xs.map f))) O) : LcEx K W g te vs P ts (itD (xs.map e)) O := by
  refine lc_P (n := xs.length) (item := fun i => .v ((xs.map e).getD i .non)) (fun i => (xs.map f).getD i .non) (fun i hi => ?_) ?_ hz (fun i acc hi => ?_) ?_
  · unfold itD
    have h2 : i < (xs.map e).length := by rw [List.length_map]; exact hi
    rw [List.getElem?_eq_getElem h2, List.getD_eq_getElem?_getD, List.getElem?_eq_getElem h2] <;> rfl
  · unfold itD
    rw [List.getElem?_eq_none (by rw [List.length_map]; exact Nat.le_refl _)] <;> rfl
  · have h2 := hs xs[i] acc (List.getElem_mem hi)
    have e1 : (xs.map e).getD i .non = e xs[i] := by
      rw [List.getD_eq_getElem?_getD, List.getElem?_map, List.getElem?_eq_getElem hi] <;> rfl
    have e2 : (xs.map f).getD i .non = f xs[i] := by
      rw [List.getD_eq_getElem?_getD, List.getElem?_map, List.getElem?_eq_getElem hi] <;> rfl
    rw [e1, e2]
    exact h2
  · rw [map_range (f := f) (xs := xs) fun i x hx => by rw [List.getD_eq_getElem?_getD, List.getElem?_map, hx] <;> rfl]
    exact hd
/-- the target is one name -/
theorem w_lc1 {wi : TI} {i : Nat} {vs : List Nat} {X : XX} (h : WI K W wi O ts (fun f O1 => LcEx K W (gName i) te vs P ts f O1) X) (hm : i ∈ vs) : WE K W (tLc wi (gName i) tYes te vs) O ts P X := w_lc (tgt_name hm) h
theorem w_lcT {wi : TI} {vs : List Nat} {X : XX} (h : WI K W wi O ts (fun f O1 => LcEx K W g te vs P ts f O1) X) (hg : Tgt g vs) : WE K W (tLc wi g tYes te vs) O ts P X := w_lc hg h
end
/-! places -/
theorem getD_some {α : Type} {xs : List α} {i : Nat} {d : α} (h : i < xs.length) : xs[i]? = some (xs.getD i d) := by
  rw [List.getD_eq_getElem?_getD, List.getElem?_eq_getElem h] <;> rfl
theorem atIM {α : Type} {xs : List α} {f : α → D} {i : Nat} (d : α) (h : i < xs.length) : atI (xs.map f) (i : Int) = some (f (xs.getD i d)) := by
  refine atI_nat ?_
  rw [List.getElem?_map, getD_some (d := d) h] <;> rfl
theorem atIZ {α : Type} {xs : List α} {f : α → D} {j : Int} (i : Nat) (d : α) (hj : j = i) (h : i < xs.length) : atI (xs.map f) j = some (f (xs.getD i d)) := by
  rw [hj]
  exact atIM d h
theorem atIN {xs : List Int} {i : Nat} (h : i < xs.length) : atI (nums xs) (i : Int) = some (.int (xs.getD i 0)) := atIM (f := D.int) 0 h
theorem atINZ {xs : List Int} {j : Int} (i : Nat) (hj : j = i) (h : i < xs.length) : atI (nums xs) j = some (.int (xs.getD i 0)) := atIZ (f := D.int) i 0 hj h
theorem atIneg {α : Type} {xs : List α} {x : α} (h : xs[xs.length - 1]? = some x) : atI xs (-1) = some x := by
  have hl := (List.getElem?_eq_some_iff.mp h).1
  have e : ixN xs.length (-1) = some (xs.length - 1) := by
    unfold ixN
    rw [if_neg (by omega), if_pos (by omega)]
    congr 1
    omega
  unfold atI
  rw [e]
  exact h
theorem atInegM {α : Type} {xs : List α} {f : α → D} {n : Nat} (d : α) (h : xs.length = n + 1) : atI (xs.map f) (-1) = some (f (xs.getD n d)) := by
  refine atIneg ?_
  rw [List.length_map, h, Nat.add_sub_cancel, List.getElem?_map, getD_some (d := d) (by omega)] <;> rfl
theorem atI_m1M {α : Type} {xs : List α} {f : α → D} {x : α} : atI ((xs ++ [x]).map f) (-1) = some (f x) := by
  rw [List.map_append]
  exact atI_m1
theorem len_m {α : Type} {xs : List α} {f : α → D} : ((xs.map f).length : Int) = xs.length := by rw [List.length_map]
theorem len_n {xs : List Int} : ((nums xs).length : Int) = xs.length := by rw [nums_len]
def tupN (ns : List Int) : D := .tup (nums ns)
theorem pl_tupN {n : Nat} {ns : List Int} : pl (n + 1) (tupN ns) = true := pl_numsT
theorem pl_tups {n : Nat} {xs : List (List Int)} : pl (n + 2) (.lst (xs.map tupN)) = true := pls_map (fun _ => pl_tupN) xs
theorem rg_down {n : Nat} (h : n ≤ 1000000) : RgC ((n : Int) - 1) (-1) (-1) n := by
  have := RgC.neg (i := (n : Int) - 1) (j := -1) (by omega) (by omega) (by omega) (by omega)
  rwa [show (((n : Int) - 1) - (-1)).toNat = n by omega] at this
theorem cutD_take {xs : List D} {n : Nat} (h : n ≤ xs.length) : cutD xs none (some (n : Int)) = xs.take n := by
  unfold cutD
  rw [HT.sIx_none, HT.sIx_nat, Nat.min_eq_left h, List.drop_zero, Nat.sub_zero]
theorem cut_nums {xs : List Int} {n : Nat} (h : n ≤ xs.length) : cutD (nums xs) none (some (n : Int)) = nums (xs.take n) := by
  rw [cutD_take (by rw [nums_len]; exact h)]
  unfold nums
  rw [List.map_take]
end G

set_option Elab.async false
set_option linter.all false
set_option maxRecDepth 100000
set_option maxHeartbeats 4000000
/-! GO: the rules of HandS with K given, so that they serve inside comprehensions. -/
namespace G
open PySem PySem.Spec PyProof.Rows L2
section
variable {X : Cx}
theorem ix_listK (K : PySem.W.Frag) (h : X.K = K := by rfl) : IxR X (rIxL K) := h ▸ ix_list
theorem ix_tupK (K : PySem.W.Frag) (h : X.K = K := by rfl) : IxR X (rIxT K) := h ▸ ix_tup
theorem sl_listK (K : PySem.W.Frag) (h : X.K = K := by rfl) : SlR X (rSlL K) := h ▸ sl_list
theorem sl_tupAK (K : PySem.W.Frag) (h : X.K = K := by rfl) : SlR X (rSlA K) := h ▸ sl_tupA
theorem op_eqDK (K : PySem.W.Frag) (hu : X.A.units + 64 < cLine) (h : X.K = K := by rfl) : OpR X (compareOp .Eq) (rEqD K) := h ▸ op_eqD hu
theorem op_neDK (K : PySem.W.Frag) (hu : X.A.units + 64 < cLine) (h : X.K = K := by rfl) : OpR X (compareOp .NotEq) (rNeD K) := h ▸ op_neD hu
theorem op_catAK (K : PySem.W.Frag) (h : X.K = K := by rfl) : OpR X (binaryOp .Add) (rCatA K) := h ▸ op_catA
theorem call_isiK (K : PySem.W.Frag) (h : X.K = K := by rfl) : CallR X (.builtin "isinstance") (rIsi K) := h ▸ call_isi
theorem call_isiSK (K : PySem.W.Frag) (h : X.K = K := by rfl) : CallR X (.builtin "isinstance") (rIsiS K) := h ▸ call_isiS
theorem cr_lenK (K : PySem.W.Frag) (h : X.K = K := by rfl) : CallR X (.builtin "len") (rLen K) := h ▸ cr_len
theorem cr_listK (K : PySem.W.Frag) (h : X.K = K := by rfl) : CallR X (.type "list") (rListOf K) := h ▸ cr_list
theorem cr_tupK (K : PySem.W.Frag) (h : X.K = K := by rfl) : CallR X (.type "tuple") (rTupOf K) := h ▸ cr_tup
theorem cr_sumK (K : PySem.W.Frag) (hc : X.calm = true) (h : X.K = K := by rfl) : CallR X (.builtin "sum") (rSum K) := h ▸ cr_sum hc
theorem cr_allK (K : PySem.W.Frag) (hc : X.calm = true) (h : X.K = K := by rfl) : CallR X (.builtin "all") (rAll K) := h ▸ cr_all hc
theorem cr_anyK (K : PySem.W.Frag) (hc : X.calm = true) (h : X.K = K := by rfl) : CallR X (.builtin "any") (rAny K) := h ▸ cr_any hc
variable {e : Expr} {f : Str} {pos : Pos} {ta : TE}
theorem pe_fldK (K : PySem.W.Frag) (he : PE X e ta) (hb : attributeBase e f X.env (eval e X.env) = eval e X.env := by rfl) (h : X.K = K := by rfl) : PE X (.Attribute e f pos) (tFld K ta f) := h ▸ pe_fld he hb
theorem pe_conK (K : PySem.W.Frag) (he : PE X e ta) (hb : attributeBase e f X.env (eval e X.env) = eval e X.env := by rfl) (h : X.K = K := by rfl) : PE X (.Attribute e f pos) (tCon K ta f) := h ▸ pe_con he hb
theorem pg_tupK (K : PySem.W.Frag) {es : List Expr} {k : Nat} {t : TGs} {n : Nat} (hc : X.calm = true) (h : PGs X es t)
    (hn : (assignEach es X.env).length = n := by rfl) (hst : (assignEach es X.env).findIdx? (·.1) = none := by rfl) (hK : X.K = K := by rfl) : PG X (.Tuple es k pos) (gTup K n t) := hK ▸ pg_tup hc h hn hst
theorem pi_listK (K : PySem.W.Frag) {tg : Expr} (he : PE X e ta) (h : X.K = K := by rfl) : PI X tg e (iList K ta) := h ▸ pi_list he
theorem pi_tupK (K : PySem.W.Frag) {tg : Expr} (he : PE X e ta) (h : X.K = K := by rfl) : PI X tg e (iTup K ta) := h ▸ pi_tup he
end
end G

set_option Elab.async false
set_option linter.all false
set_option maxRecDepth 100000
set_option maxHeartbeats 4000000
/-! GP: a law's end. -/
namespace G
open PySem PySem.Spec PyProof.Rows L2
def CXa (P : Program) : CXT := fun outer H s E u s' => ∃ w, L2.CX P w outer H s E u s'
theorem cxa_nil {P : Program} {H : Hp} {s : Shared} {e : Value} {s' : Shared} (h : CXa P [] H s (fun _ _ _ => False) e s') : False := by
  obtain ⟨w, a, B, H', cls, d, _, _, _, _, _, _, _, z⟩ := h
  exact z
theorem fn_end {P : Program} {w : World} {K : PySem.W.Frag} {mg : Str → Option Value} {base : Heap} {k l : Nat} {f : Addr} {fd : FuncData} {ps : List Str} {sp : SpD} (h : Fn P w K mg base k f ps sp) (lk : LkF K f fd) (hk : k ≤ l) : FnOk P w K mg base (CXa P) l f fd ps (lift K sp) := by
  obtain ⟨fd2, F, _, _, lk2⟩ := h
  obtain ⟨oc, od, osl, e⟩ := lk
  obtain ⟨oc2, od2, osl2, e2⟩ := lk2
  rw [e] at e2
  injection e2 with e2
  injection e2 with _ _ e2
  injection e2 with e2
  subst e2
  refine ⟨F.len, fun A outer s H args us vs Q E hr h0 hb hv h => ?_⟩
  refine codeAny_mono (F.run A outer s H args us vs Q E (hr.mono hk) h0 hb hv h) fun r s' c => ?_
  cases r with
  | ok x => cases x <;> exact c
  | error e => exact ⟨w, c⟩
/-- the law's own call -/
def sp_law (_K : PySem.W.Frag) : SpD := fun ts O P _ => ∃ (cs : List Int), ts = [.v (.scr cs)] ∧ O = [] ∧ cs.length ≤ 1000000 ∧ P (.v (.bl true)) []
theorem sp_law_len {K : PySem.W.Frag} {ts O P X} (h : sp_law K ts O P X) : ts.length = 1 := by
  obtain ⟨cs, rfl, _⟩ := h
  rfl
theorem law_lift {K : PySem.W.Frag} {H : Hp} {a : Addr} {ns : List Int} (hz : ns.length ≤ 1000000) (h : SqL K H a (ns.map V.int)) : lift K (sp_law K) [.ref a] H (fun v _ => v = .bl true) fun _ _ _ => False := by
  have eh : ∀ L : List Addr, L = [] → hid L H = H := fun L e => by
    subst e
    funext a
    unfold hid
    rw [if_neg (by simp)]
  refine ⟨[], [], [], [.v (.scr ns)], fun t O => t = .v (.bl true), fun _ _ _ => False, ⟨rfl, ⟨[], rfl⟩, Ex.refl _, fun z hz => (by cases hz), List.nodup_nil, fun a h => (by cases h), fun i a o h _ => (by simp at h)⟩, rfl, ?_, ⟨ns, rfl, rfl, hz, rfl⟩, fun t v O' H' q _ _ r => ?_, fun _ _ _ _ _ q => q.elim⟩
  · refine ⟨.ref a, [], rfl, ⟨_, rfl, a, rfl, ?_⟩, rfl⟩
    show SqL K (hid _ H) a _
    rw [eh _ rfl]
    exact h
  · subst q
    obtain ⟨_, e, rfl⟩ := r
    exact (Option.some.inj e)
end G

set_option Elab.async false
set_option linter.all false
set_option maxRecDepth 100000
set_option maxHeartbeats 4000000
/-! GQ: defs with a star parameter. -/
namespace G
open PySem PySem.Spec PyProof.Rows L2
/-- a def with a star parameter, by its promise over data: behind n values the rest comes as a tuple -/
def liftS (K : PySem.W.Frag) (n : Nat) (sp : SpD) : Sp := fun vs H Q E => ∃ ws rest, vs = ws ++ rest ∧ ws.length = n ∧ rest.length ≤ sizeLine ∧ ∀ p, H p = none → lift K sp (ws ++ [V.ref p]) (upd H p (.tup rest)) Q E
def FnS (P : Program) (w : World) (K : PySem.W.Frag) (mg : Str → Option Value) (base : Heap) (k : Nat) (f : Addr) (n : Nat) (sp : SpD) : Prop :=
  L2.FnR P w K mg base (L2.CX P w) k f (liftS K n sp) ∧ PySem.W.keepIn K (.ref f) = true
section
variable {P : Program} {w : World} {K : PySem.W.Frag} {mg : Str → Option Value} {base : Heap} {k : Nat} {x qual : Str} {params : Arguments} {body : List Stmt} {scope : Scope} {f : Addr} {fd : FuncData} {N ps : List Str} {pv : Str} {sp : SpD}
theorem fnS (F : FunD K x qual params body scope [] [] f fd) (S : FnScope N (ps ++ [pv]) scope)
    (hb : ∀ (kV doc pm : Value) (an : Option Addr) (cdv ct : Value) (us rest : List Value), us.length = ps.length →
      bindArgs (PySem.W.fnOf x qual params body scope .none kV doc pm an cdv ct) ⟨us ++ rest, []⟩ = (newTuple rest >>= fun t => pure (ps.zip us ++ [(pv, t)])))
    (h : ∀ (cdv : Value) (A : Around) (outer : List Env) (s : Shared) (H : Hp) (vs : List V) (Q : VK) (E : XK), Room k (A.deeper (envOfC qual scope s.heap.objs.size f cdv)) → lift K sp vs H Q E →
      ∃ t, PSs (cxOf (L2.CX P w) P w K mg base N qual scope f cdv A outer s H E) body t ∧ t { nx := fun _ H' => Q .non H', rt := Q } (L2.start N vs) H) :
    FnS P w K mg base (k + 1) f ps.length sp := by
  obtain ⟨⟨oc, od, dV, kV, doc, pm, an, cdv, ct, osl, rfl, lk, hcd, hD, _⟩, kp⟩ := F
  refine ⟨?_, kp⟩
  rcases hD with ⟨_, rfl⟩ | ⟨z, _⟩
  · exact StX.fn_star lk hcd S StX.cxUp (hb kV doc pm an cdv ct) fun A outer s H vs Q E hr hs => h cdv A outer s H vs Q E hr hs
  · exact absurd rfl z
end
section
variable {X : Cx} {CX : CXT} {k : Nat} {f : Addr} {sp : Sp} {E : XK} {x : Str} {e : Expr} {es : List Expr} {t : TA} {p pos : Pos}
def tCallR (sp : Sp) (E : XK) (t : TA) : TE := fun σ H Q => t σ H fun vs H1 => sp vs H1 Q E
theorem pe_callR (F : L2.FnR X.prog X.w X.K X.mg X.base CX k f sp) (hr : Room k X.A) (hg : Gl X x)
    (hm : X.mg x = some (.ref f)) (hk : PySem.W.keepIn X.K (.ref f) = true) (hx : Passes CX X E) (ha : PA X (e :: es) t)
    (hdb : (x == ("__debug__" : Str)) = false := by decide) (he : starEach (e :: es) X.env = (false, eval e X.env) :: starEach es X.env := by rfl)
    (hpl : (backTo pos (starEach es X.env)).any (·.1) = false := by rfl) : PE X (.Call (.Name x p) (e :: es) [] pos) (tCallR sp E t) := by
  constructor
  intro pins s σ H Q I h
  apply wpAny_Call_Name_kw
  refine ld_glob I hg hm ?_ hdb
  refine PySem.W.callWith_K I.ok.mod.kin hk (thn (ha.run pos pins s σ H _ I h) fun us s1 z => ?_) he hpl
  obtain ⟨vs, H1, I1, r, q⟩ := z
  exact ⟨I1.kIn, wpAny_call (run_fnR F hr hx I1 r q)⟩
theorem pe_callR0 (F : L2.FnR X.prog X.w X.K X.mg X.base CX k f sp) (hr : Room k X.A) (hg : Gl X x)
    (hm : X.mg x = some (.ref f)) (hk : PySem.W.keepIn X.K (.ref f) = true) (hx : Passes CX X E) (hdb : (x == ("__debug__" : Str)) = false := by decide) : PE X (.Call (.Name x p) [] [] pos) (tCallR sp E tNil) := by
  constructor
  intro pins s σ H Q I h
  apply wpAny_Call_Name_kw
  refine ld_glob I hg hm ?_ hdb
  exact PySem.W.callWith_K0 I.kIn hk (wpAny_call (run_fnR (us := []) F hr hx I .nil h))
end
section
variable {K : PySem.W.Frag} {W : WX} {O : List OD} {ts : List T} {P : PT'} {X : XX} {sp : SpD} {tr : TA} {E : XK}
theorem repL_split {F : Hp} {ds : List D} {vs : List V} (h : RepL K F ds vs) (n : Nat) : RepL K F (ds.take n) (vs.take n) ∧ RepL K F (ds.drop n) (vs.drop n) := ⟨h.take n, h.drop n⟩
theorem unv_app {ds : List D} {d : D} : unv (ds.map T.v ++ [.v d]) = some (ds ++ [d]) := unv_vs (ys := [.v d]) (es := [d]) rfl
theorem w_fnS0 {n : Nat} (h : WA K W tr O ts (fun xs O1 => ∃ ds, unv xs = some ds ∧ n ≤ ds.length ∧ ds.length ≤ 1000000 ∧ sp ((ds.take n).map T.v ++ [.v (.tup (ds.drop n))]) [] (fun t _ => (∃ d, t = .v d) ∧ P t O1) (fun _ _ _ => False)) X) :
    WE K W (tCallR (liftS K n sp) E0 tr) O ts P X := fun b A σ H Q s rs kv kx =>
  h b A σ H _ s rs (fun xs vs A1 O1 H1 p1 s1 n1 r1 => by
    obtain ⟨ds, e, hn, hz, q⟩ := p1
    have r2 := r1.plain e
    have hl : vs.length = ds.length := r2.length
    obtain ⟨ra, rb⟩ := repL_split r2 n
    refine ⟨vs.take n, vs.drop n, (List.take_append_drop n vs).symm, by rw [List.length_take]; omega, Nat.le_trans (show (vs.drop n).length ≤ 1000000 by rw [List.length_drop]; omega) (Nat.le_of_ble_eq_true rfl), fun p hp => ?_⟩
    obtain ⟨s2, n2, f2⟩ := s1.lay hp (.tup (vs.drop n))
    refine lift_p (W := fun _ _ _ _ => False) (X := fun _ _ _ => False) (σ := σ) s2 (repTs_app (ys := [.v (.tup (ds.drop n))]) ⟨.ref p, [], rfl, ⟨_, rfl, p, vs.drop n, rfl, SqT.of f2, rb.ex n2.ext⟩, rfl⟩ (ra.ex n2.ext)) unv_app (fun C d H z => z) q (kv.nxt (n1.trans n2)) (fun C fs A' O' H' d z => z.elim)) kx
end
end G

set_option Elab.async false
set_option linter.all false
set_option maxRecDepth 100000
set_option maxHeartbeats 4000000
/-! GR: constant tuples; loops over typed rows; comprehensions with a test. -/
namespace G
open PySem PySem.Spec PyProof.Rows L2
/-! a tuple of integers that the module holds -/
def TupC (K : PySem.W.Frag) (a : Addr) (ns : List Int) : Prop := ∃ (o : Obj) (its : Array Value) (n : Nat), K.lookup a = some o ∧ o.cls = .type "tuple" ∧ o.data = .seq its n ∧ its.size ≤ sizeLine ∧ Vals (ns.map V.int) its.toList
def tupB (K : PySem.W.Frag) (a : Addr) (ns : List Int) : Bool := match K.lookup a with
  | some ⟨.type "tuple", _, .seq its _, _⟩ => Nat.ble its.size 1000 && decide (its.toList.map (fun v => match v with | .int i _ => some i | _ => none) = ns.map some)
  | _ => false
theorem vals_of : ∀ {vs : List Value} {ns : List Int}, vs.map (fun v => match v with | .int i _ => some i | _ => none) = ns.map some → Vals (ns.map V.int) vs
  | [], [], _ => .nil
  | [], _ :: _, h => by cases h
  | _ :: _, [], h => by cases h
  | v :: vs, n :: ns, h => by
    rw [List.map_cons, List.map_cons] at h
    injection h with h1 h2
    refine .cons ?_ (vals_of h2)
    cases v <;> first | cases h1 | skip
    exact ⟨_, rfl⟩
theorem tupB_ok {K : PySem.W.Frag} {a : Addr} {ns : List Int} (h : tupB K a ns = true) : TupC K a ns := by
  unfold tupB at h
  split at h
  · rename_i e
    obtain ⟨h1, h2⟩ := Bool.and_eq_true_iff.mp h
    exact ⟨_, _, _, e, rfl, rfl, Nat.le_trans (Nat.le_of_ble_eq_true h1) (Nat.le_of_ble_eq_true rfl), vals_of (of_decide_eq_true h2)⟩
  · cases h
section
variable {K : PySem.W.Frag} {W : WX} {O : List OD} {ts : List T} {P : PT'} {X : XX} {g : TG} {te : TE} {vs : List Nat}
theorem w_ctup {a : Addr} {ns : List Int} (h : TupC K a ns) (k : P (.v (.tup (nums ns))) O) : WE K W (tC (.ref a)) O ts P X := by
  obtain ⟨o, its, n, h1, h2, h3, h4, h5⟩ := h
  exact w_c (d := .tup (nums ns)) (fun H => ⟨a, ns.map V.int, rfl, .inr ⟨o, its, n, h1, h2, h3, h4, h5⟩, repL_ints⟩) k
/-! rows of one kind -/
theorem for_A {α : Type} {E : DE} {tb : TS} {xs : List α} {e : α → D} (I : Nat → List T → List OD → Prop) (h0 : I 0 ts O)
    (hs : ∀ i x ts' O', i < xs.length → xs[i]? = some x → I i ts' O' → WG K W g (.v (e x)) O' ts' (fun ts2 O2 => WS K W tb O2 ts2 { E with nx := I (i + 1), ct := I (i + 1), bk := E.nx }))
    (hd : ∀ ts' O', I xs.length ts' O' → E.nx ts' O') : ForEx K W g tb E ts (itD (xs.map e)) O :=
  for_D I h0 (fun i d ts' O' hi eq hI => by
    rw [List.getElem?_map] at eq
    cases q : xs[i]? with
    | none =>
      rw [q] at eq
      cases eq
    | some r =>
      rw [q] at eq
      have e2 : e r = d := Option.some.inj eq
      subst e2
      exact hs i r ts' O' (by rw [List.length_map] at hi; exact hi) q hI) (by rw [List.length_map]; exact hd)
theorem for_AE {α : Type} {E : DE} {tb : TS} {xs : List α} {e : α → D} (I : Nat → List T → List OD → Prop) (h0 : I 0 ts O)
    (hs : ∀ i x ts' O', i < xs.length → xs[i]? = some x → I i ts' O' → WG K W g (.v (.tup [.int (i : Nat), e x])) O' ts' (fun ts2 O2 => WS K W tb O2 ts2 { E with nx := I (i + 1), ct := I (i + 1), bk := E.nx }))
    (hd : ∀ ts' O', I xs.length ts' O' → E.nx ts' O') : ForEx K W g tb E ts (itE (xs.map e)) O :=
  for_E I h0 (fun i d ts' O' hi eq hI => by
    rw [List.getElem?_map] at eq
    cases q : xs[i]? with
    | none =>
      rw [q] at eq
      cases eq
    | some r =>
      rw [q] at eq
      have e2 : e r = d := Option.some.inj eq
      subst e2
      exact hs i r ts' O' (by rw [List.length_map] at hi; exact hi) q hI) (by rw [List.length_map]; exact hd)
/-! comprehensions with a test -/
def LcExT (K : PySem.W.Frag) (W : WX) (g : TG) (tt : TT) (te : TE) (vs : List Nat) (P : PT') (ts : List T) (f : Nat → Option T) (O1 : List OD) : Prop :=
  ∃ (n : Nat) (I : Nat → List D → List OD → Prop), (∀ i, i < n → f i ≠ none) ∧ f n = none ∧ I 0 [] O1 ∧ (∀ i acc O', I i acc O' → O'.length = O1.length) ∧
      (∀ i t acc O', i < n → f i = some t → I i acc O' → WG K W g t (O' ++ [.lst acc]) (wipeT ts vs) (fun ts2 O2 => WT K W tt O2 ts2 (fun c O3 =>
        (c = true → WE K W te O3 ts2 (fun y O4 => ∃ d O5, y = .v d ∧ O4 = O5 ++ [.lst acc] ∧ acc.length < sizeLine ∧ I (i + 1) (acc ++ [d]) O5) X0) ∧ (c = false → ∃ O5, O3 = O5 ++ [.lst acc] ∧ I (i + 1) acc O5)) X0)) ∧
      (∀ acc O', I n acc O' → P (.v (.lst acc)) O')
theorem w_lcF1 {wi : TI} {tt : TT} {i : Nat} (h : WI K W wi O ts (fun f O1 => LcExT K W (gName i) tt te vs P ts f O1) X) (hm : i ∈ vs) : WE K W (tLc wi (gName i) tt te vs) O ts P X := w_lc (tgt_name hm) h
theorem w_lcFT {wi : TI} {tt : TT} (h : WI K W wi O ts (fun f O1 => LcExT K W g tt te vs P ts f O1) X) (hg : Tgt g vs) : WE K W (tLc wi g tt te vs) O ts P X := w_lc hg h
/-- [f x for x in xs if p x], without effects -/
theorem lcF_A {α : Type} {tt : TT} (xs : List α) (e : α → D) (p : α → Bool) (f : α → D) (hz : xs.length ≤ 1000000)
    (hs : ∀ x acc, x ∈ xs → WG K W g (.v (e x)) (O ++ [.lst acc]) (wipeT ts vs) (fun ts2 O2 => WT K W tt O2 ts2 (fun c O3 => c = p x ∧ O3 = O ++ [.lst acc] ∧ (p x = true → WE K W te (O ++ [.lst acc]) ts2 (fun y O4 => y = .v (f x) ∧ O4 = O ++ [.lst acc]) X0)) X0))
    (hd : P (.v (.lst ((xs.filter p).map f))) O) : LcExT K W g tt te vs P ts (itD (xs.map e)) O := by
  refine ⟨xs.length, fun i acc O' => O' = O ∧ acc = ((xs.take i).filter p).map f, fun i hi => itD_ne (by rw [List.length_map]; exact hi), ?_, ⟨rfl, rfl⟩, fun i acc O' h => by rw [h.1], fun i t acc O' hi ht h => ?_, fun acc O' h => ?_⟩
  · unfold itD
    rw [List.getElem?_eq_none (by rw [List.length_map]; exact Nat.le_refl _)] <;> rfl
  · obtain ⟨rfl, rfl⟩ := h
    obtain ⟨d, hd', rfl⟩ := itD_some ht
    rw [List.getElem?_map, List.getElem?_eq_getElem hi] at hd'
    have e2 : e xs[i] = d := Option.some.inj hd'
    subst e2
    have hl : (((xs.take i).filter p).map f).length < sizeLine := by
      rw [List.length_map]
      exact Nat.lt_of_le_of_lt (List.length_filter_le _ _) (Nat.lt_of_lt_of_le (show (xs.take i).length < 1000000 by rw [List.length_take]; omega) (Nat.le_of_ble_eq_true rfl))
    have et : xs.take (i + 1) = xs.take i ++ [xs[i]] := by rw [List.take_succ, List.getElem?_eq_getElem hi] <;> rfl
    refine (hs xs[i] _ (List.getElem_mem hi)).imp fun ts2 O2 q b A σ H Q s rs kb kx => q b A σ H Q s rs (fun c A' O' H' q2 => kb c A' O' H' ?_) kx
    obtain ⟨rfl, rfl, q3⟩ := q2
    refine ⟨fun hp => (q3 hp).imp fun y O4 q4 => ?_, fun hp => ⟨_, rfl, rfl, ?_⟩⟩
    · obtain ⟨rfl, rfl⟩ := q4
      refine ⟨_, _, rfl, rfl, hl, rfl, ?_⟩
      rw [et, List.filter_append, List.map_append, List.filter_cons_of_pos hp] <;> rfl
    · rw [et, List.filter_append, List.filter_cons_of_neg (by rw [hp]; exact Bool.false_ne_true)]
      simp
  · obtain ⟨rfl, rfl⟩ := h
    rw [List.take_length]
    exact hd
end
/-! lists: +, *, turned about -/
section
variable {K : PySem.W.Frag} {W : WX} {O : List OD} {ts : List T} {P : PT'} {X : XX} {te : TE}
theorem w_catL {x y : T} {ds es : List D} (hx : LstD x O ds) (hy : LstD y O es) (hz : ds.length + es.length ≤ 1000000) (k : P (.v (.lst (ds ++ es))) O) : WR K rCat x y O P := fun b A H Q v u s r1 r2 kv => by
  obtain ⟨a, vs, rfl, h1, h2⟩ := lstD_atH hx s r1
  obtain ⟨c, us, rfl, h3, h4⟩ := lstD_atH hy s r2
  refine ⟨a, c, vs, us, rfl, rfl, h1, h3, Nat.le_trans (by rw [h2.length, h4.length]; exact hz) (Nat.le_of_ble_eq_true rfl), fun p hp => ?_⟩
  obtain ⟨s2, n2, q⟩ := s.lay hp (.lst (vs ++ us))
  exact kv _ _ A O _ k s2 n2 ⟨_, rfl, p, _, rfl, q, (h2.append h4).ex n2.ext⟩
theorem repL_rep {F : Hp} {ds : List D} {vs : List V} (h : RepL K F ds vs) : ∀ n : Nat, RepL K F (List.replicate n ds).flatten (List.replicate n vs).flatten
  | 0 => rfl
  | n + 1 => by
    rw [List.replicate_succ, List.flatten_cons, List.replicate_succ, List.flatten_cons]
    exact h.append (repL_rep h n)
theorem w_repL {x : T} {ds : List D} {k : Int} (hx : LstD x O ds) (h0 : 0 ≤ k) (h1 : k ≤ 1000) (hz : ds.length ≤ 100) (kk : P (.v (.lst (List.replicate k.toNat ds).flatten)) O) : WR K rRep x (.v (.int k)) O P := fun b A H Q v u s r1 r2 kv => by
  obtain ⟨a, vs, rfl, e1, e2⟩ := lstD_atH hx s r1
  obtain ⟨_, e, rfl⟩ := r2
  cases e
  have hl : vs.length * k.toNat ≤ 100 * 1000 := Nat.mul_le_mul (by rw [e2.length]; exact hz) (by omega)
  refine ⟨a, k, vs, rfl, rfl, e1, by omega, by omega, Nat.le_trans hl (Nat.le_of_ble_eq_true rfl), fun p hp => ?_⟩
  obtain ⟨s2, n2, q⟩ := s.lay hp (.lst (List.replicate k.toNat vs).flatten)
  exact kv _ _ A O _ kk s2 n2 ⟨_, rfl, p, _, rfl, q, (repL_rep e2 _).ex n2.ext⟩
theorem RepL.reverse {F : Hp} : ∀ {ds : List D} {vs : List V}, RepL K F ds vs → RepL K F ds.reverse vs.reverse
  | [], _, h => by
    rw [show _ = [] from h]
    exact rfl
  | d :: ds, _, h => by
    obtain ⟨v, r, e1, h1, h2⟩ := h
    subst e1
    rw [List.reverse_cons, List.reverse_cons]
    exact (RepL.reverse h2).append ⟨v, [], rfl, h1, rfl⟩
theorem w_revL (h : WE K W te O ts (fun x O1 => ∃ ds, LstD x O1 ds ∧ P (.v (.lst ds.reverse)) O1) X) : WE K W (tRevL K te) O ts P X := fun b A σ H Q s rs kv kx =>
  h b A σ H _ s rs (fun x v A1 O1 H1 p1 s1 n1 r1 => by
    obtain ⟨ds, hx, k⟩ := p1
    obtain ⟨a, vs, rfl, h1, h2⟩ := lstD_atH hx s1 r1
    refine ⟨a, vs, rfl, SqL.of h1, fun p hp => ?_⟩
    obtain ⟨s2, n2, q⟩ := s1.lay hp (.lst vs.reverse)
    exact kv _ _ A1 O1 _ k s2 (n1.trans n2) ⟨_, rfl, p, _, rfl, q, h2.reverse.ex n2.ext⟩) kx
/-- [f a b for a, b in zip(xs, ys)] -/
theorem lc_Z {g : TG} {te : TE} {vs : List Nat} {α β : Type} (xs : List α) (ys : List β) (e1 : α → D) (e2 : β → D) (f : α → β → D) (hl : xs.length = ys.length) (hz : xs.length ≤ 1000000)
    (hs : ∀ x y acc, x ∈ xs → y ∈ ys → WG K W g (.v (.tup [e1 x, e2 y])) (O ++ [.lst acc]) (wipeT ts vs) (fun ts2 O2 => WE K W te O2 ts2 (fun y' O4 => y' = .v (f x y) ∧ O4 = O ++ [.lst acc]) X0))
    (hd : P (.v (.lst (List.zipWith f xs ys))) O) : LcEx K W g te vs P ts (itZ (xs.map e1) (ys.map e2)) O := by
  refine lc_P (n := xs.length) (item := fun i => match xs[i]?, ys[i]? with | some x, some y => .v (.tup [e1 x, e2 y]) | _, _ => .no) (fun i => match xs[i]?, ys[i]? with | some x, some y => f x y | _, _ => .non) (fun i hi => ?_) ?_ hz (fun i acc hi => ?_) ?_
  · unfold itZ
    rw [List.getElem?_map, List.getElem?_map, List.getElem?_eq_getElem hi, List.getElem?_eq_getElem (show i < ys.length by omega)] <;> rfl
  · unfold itZ
    rw [List.getElem?_eq_none (by rw [List.length_map]; exact Nat.le_refl _)] <;> rfl
  · have h2 : i < ys.length := by omega
    have h := hs xs[i] ys[i] acc (List.getElem_mem hi) (List.getElem_mem h2)
    rw [List.getElem?_eq_getElem hi, List.getElem?_eq_getElem h2]
    exact h
  · have e : (List.range xs.length).map (fun i => match xs[i]?, ys[i]? with | some x, some y => f x y | _, _ => D.non) = List.zipWith f xs ys := by
      refine List.ext_getElem (by rw [List.length_map, List.length_range, List.length_zipWith]; omega) fun i h1 h2 => ?_
      rw [List.length_map, List.length_range] at h1
      rw [List.getElem_map, List.getElem_range, List.getElem_zipWith, List.getElem?_eq_getElem h1, List.getElem?_eq_getElem (show i < ys.length by omega)]
    rw [e]
    exact hd
/-- two names for a pair -/
theorem tgt_pair {n i j : Nat} {vs : List Nat} (hi : i ∈ vs) (hj : j ∈ vs) : Tgt (gTup K n (gCons (gName i) (gCons (gName j) gNil))) vs := tgt_tup (tgt_cons1 hi (tgt_cons1 hj tgt_nil))
end
/-! bounds of great numbers -/
theorem mul_okP {i j : Int} {a b : Nat} (ha : i.natAbs < 2 ^ a) (hb : j.natAbs < 2 ^ b) (h : a + b ≤ 999000) : CMulW i j := by
  refine wide_mul (a := a + 1) (b := b + 1) ?_ ?_ (by omega) (by omega) (by omega)
  · rw [Nat.pow_succ]; omega
  · rw [Nat.pow_succ]; omega
theorem nabs {i : Int} {n : Nat} (h0 : -(2 ^ n : Int) < i) (h1 : i < 2 ^ n) : i.natAbs < 2 ^ n := natAbs_lt h0 h1
end G

set_option Elab.async false
set_option linter.all false
set_option maxRecDepth 100000
/-! MI: rows of numbers below a bound. -/
namespace G
def InR (m : Int) (rs : List Int) : Prop := ∀ r ∈ rs, 0 ≤ r ∧ r < m
theorem InR.tail {m r : Int} {rs : List Int} (h : InR m (r :: rs)) : InR m rs := fun x hx => h x (List.mem_cons_of_mem _ hx)
theorem InR.head {m r : Int} {rs : List Int} (h : InR m (r :: rs)) : 0 ≤ r ∧ r < m := h r List.mem_cons_self
theorem InR.take {m : Int} {rs : List Int} (h : InR m rs) (n : Nat) : InR m (rs.take n) := fun x hx => h x (List.mem_of_mem_take hx)
theorem InR.at {m : Int} {rs : List Int} (h : InR m rs) {i : Nat} {r : Int} (e : rs[i]? = some r) : 0 ≤ r ∧ r < m := h r (List.mem_of_getElem? e)
theorem InR.mul {m k : Int} {rs : List Int} (h : InR m rs) (hk : 0 < k) : InR (m * k) (rs.map (· * k)) := fun x hx => by
  obtain ⟨r, hr, rfl⟩ := List.mem_map.mp hx
  obtain ⟨h1, h2⟩ := h r hr
  exact ⟨Int.mul_nonneg h1 (Int.le_of_lt hk), Int.mul_lt_mul_of_pos_right h2 hk⟩
theorem InR.nil {m : Int} : InR m [] := fun x hx => by cases hx
theorem InR.snoc {m x : Int} {rs : List Int} (h : InR m rs) (h0 : 0 ≤ x) (h1 : x < m) : InR m (rs ++ [x]) := fun y hy => by
  rcases List.mem_append.mp hy with hy | hy
  · exact h y hy
  · rw [List.mem_singleton.mp hy]
    exact ⟨h0, h1⟩
end G

/-! MN: numbers: powers in a number, common divisors, remainders put together, binomials, least divisors. -/
set_option linter.all false
set_option maxRecDepth 100000
namespace My
/-! ### powers of a prime in a number -/
def vlf (p : Nat) : Nat → Nat → Nat
  | 0, _ => 0
  | f + 1, n => if n % p = 0 then vlf p f (n / p) + 1 else 0
def vl (p n : Nat) : Nat := vlf p n n
theorem vlf_spec {p : Nat} (hp : 2 ≤ p) : ∀ (f n : Nat), 1 ≤ n → n ≤ f → ∃ q, n = p ^ vlf p f n * q ∧ q % p ≠ 0
  | 0, n, h1, h2 => by omega
  | f + 1, n, h1, h2 => by
    unfold vlf
    by_cases h : n % p = 0
    · rw [if_pos h]
      obtain ⟨k, rfl⟩ := Nat.dvd_of_mod_eq_zero h
      have hk : 1 ≤ k := by
        rcases Nat.eq_zero_or_pos k with rfl | hk
        · rw [Nat.mul_zero] at h1; omega
        · exact hk
      rw [Nat.mul_div_cancel_left k (by omega)]
      have : k < p * k := by
        have := Nat.mul_le_mul_right k hp
        omega
      obtain ⟨q, e, hq⟩ := vlf_spec hp f k hk (by omega)
      refine ⟨q, ?_, hq⟩
      rw [Nat.pow_succ, Nat.mul_comm _ p, Nat.mul_assoc, ← e]
    · rw [if_neg h]
      exact ⟨n, by rw [Nat.pow_zero, Nat.one_mul], h⟩
theorem vl_spec {p n : Nat} (hp : 2 ≤ p) (hn : 1 ≤ n) : ∃ q, n = p ^ vl p n * q ∧ q % p ≠ 0 := vlf_spec hp n n hn (Nat.le_refl n)
theorem vl_uniq {p : Nat} (hp : 2 ≤ p) : ∀ {s t q r : Nat}, p ^ s * q = p ^ t * r → q % p ≠ 0 → r % p ≠ 0 → s = t ∧ q = r
  | 0, 0, q, r, h, _, _ => by
    rw [Nat.pow_zero, Nat.one_mul, Nat.one_mul] at h
    exact ⟨rfl, h⟩
  | 0, t + 1, q, r, h, hq, _ => by
    rw [Nat.pow_zero, Nat.one_mul, Nat.pow_succ, Nat.mul_comm _ p, Nat.mul_assoc] at h
    rw [h, Nat.mul_mod_right] at hq
    exact absurd rfl hq
  | s + 1, 0, q, r, h, _, hr => by
    rw [Nat.pow_zero, Nat.one_mul, Nat.pow_succ, Nat.mul_comm _ p, Nat.mul_assoc] at h
    rw [← h, Nat.mul_mod_right] at hr
    exact absurd rfl hr
  | s + 1, t + 1, q, r, h, hq, hr => by
    rw [Nat.pow_succ, Nat.mul_comm _ p, Nat.mul_assoc, Nat.pow_succ, Nat.mul_comm _ p, Nat.mul_assoc] at h
    obtain ⟨a, b⟩ := vl_uniq hp (Nat.eq_of_mul_eq_mul_left (by omega) h) hq hr
    exact ⟨by rw [a], b⟩
theorem vl_eq {p n t q : Nat} (hp : 2 ≤ p) (hn : 1 ≤ n) (h : n = p ^ t * q) (hq : q % p ≠ 0) : vl p n = t := by
  obtain ⟨r, e, hr⟩ := vl_spec hp hn
  exact (vl_uniq hp (e.symm.trans h) hr hq).1
def PR : List Nat := [2, 3, 5, 7, 11]
def small (n most : Nat) : List (Nat × Nat) := (PR.filter fun p => decide (p ≤ most) && decide (n % p = 0)).map fun p => (p, vl p n)
def cutP (n : Nat) (x : Nat × Nat) : Nat := n / x.1 ^ x.2
def great (n most : Nat) : Nat := (small n most).foldl cutP n
def prodP (l : List (Nat × Nat)) : Nat := (l.map fun x => x.1 ^ x.2).foldl (· * ·) 1
theorem foldl_mul (l : List Nat) : ∀ a, l.foldl (· * ·) a = a * l.foldl (· * ·) 1 := by
  induction l with
  | nil => intro a; simp
  | cons x l ih =>
    intro a
    rw [List.foldl_cons, List.foldl_cons, ih, ih (1 * x), Nat.one_mul, Nat.mul_assoc]
def prodN (l : List Nat) : Nat := l.foldl (· * ·) 1
theorem prodN_cons (x : Nat) (l : List Nat) : prodN (x :: l) = x * prodN l := by
  unfold prodN
  rw [List.foldl_cons, foldl_mul, Nat.one_mul]
theorem prodN_nil : prodN [] = 1 := rfl
theorem prodN_app (l m : List Nat) : prodN (l ++ m) = prodN l * prodN m := by
  unfold prodN
  rw [List.foldl_append, foldl_mul]
/-- each one has no common divisor with the ones behind it -/
def Cop : List Nat → Prop
  | [] => True
  | x :: l => (∀ y ∈ l, Nat.Coprime x y) ∧ Cop l
theorem cop_prod {x : Nat} : ∀ {l : List Nat}, (∀ y ∈ l, Nat.Coprime x y) → Nat.Coprime x (prodN l)
  | [], _ => by rw [prodN_nil]; exact Nat.coprime_one_right x
  | y :: l, h => by
    rw [prodN_cons]
    exact Nat.Coprime.mul_right (h y List.mem_cons_self) (cop_prod fun z hz => h z (List.mem_cons_of_mem _ hz))
theorem foldl_cut : ∀ (l : List (Nat × Nat)) (n : Nat), Cop (l.map fun x => x.1 ^ x.2) → (∀ x ∈ l, 1 ≤ x.1 ^ x.2 ∧ x.1 ^ x.2 ∣ n) → n = l.foldl cutP n * prodN (l.map fun x => x.1 ^ x.2)
  | [], n, _, _ => by simp [prodN_nil]
  | x :: l, n, hc, hd => by
    obtain ⟨h1, h2⟩ := hd x List.mem_cons_self
    obtain ⟨k, hk⟩ := h2
    have hcut : cutP n x = k := by
      unfold cutP
      rw [hk, Nat.mul_div_cancel_left k h1]
    rw [List.foldl_cons, hcut, List.map_cons, prodN_cons]
    have ih := foldl_cut l k hc.2 fun y hy => by
      obtain ⟨a, b⟩ := hd y (List.mem_cons_of_mem _ hy)
      refine ⟨a, ?_⟩
      rw [hk] at b
      exact Nat.Coprime.dvd_of_dvd_mul_left (Nat.Coprime.symm (hc.1 _ (List.mem_map.mpr ⟨y, hy, rfl⟩))) b
    rw [hk, Nat.mul_left_comm, ← ih]
theorem pr_cop {p q : Nat} (hp : p ∈ PR) (hq : q ∈ PR) (h : p ≠ q) : Nat.Coprime p q := by
  simp only [PR, List.mem_cons, List.not_mem_nil, or_false] at hp hq
  rcases hp with rfl | rfl | rfl | rfl | rfl <;> rcases hq with rfl | rfl | rfl | rfl | rfl <;> first | exact absurd rfl h | (unfold Nat.Coprime; decide)
theorem pr_two {p : Nat} (hp : p ∈ PR) : 2 ≤ p ∧ p ≤ 11 := by
  simp only [PR, List.mem_cons, List.not_mem_nil, or_false] at hp
  omega
theorem pr_prime {p d : Nat} (hp : p ∈ PR) (h : d ∣ p) : d = 1 ∨ d = p := by
  have hl : d ≤ 11 := Nat.le_trans (Nat.le_of_dvd (by have := pr_two hp; omega) h) (pr_two hp).2
  simp only [PR, List.mem_cons, List.not_mem_nil, or_false] at hp
  have key : ∀ d : Nat, d ≤ 11 → ∀ p ∈ [2, 3, 5, 7, 11], d ∣ p → d = 1 ∨ d = p := by decide
  exact key d hl p (by simp only [List.mem_cons, List.not_mem_nil, or_false]; exact hp) h
theorem pr_no {p n : Nat} (hp : p ∈ PR) (h : n % p ≠ 0) : Nat.Coprime n p := by
  rcases pr_prime hp (Nat.gcd_dvd_right n p) with e | e
  · exact e
  · have hd := Nat.gcd_dvd_left n p
    rw [e] at hd
    exact absurd (Nat.mod_eq_zero_of_dvd hd) h
theorem cop_small (n : Nat) (most : Nat) : ∀ l : List Nat, l.Nodup → (∀ p ∈ l, p ∈ PR) → Cop ((l.map fun p => (p, vl p n)).map fun x => x.1 ^ x.2)
  | [], _, _ => trivial
  | p :: l, hn, hm => by
    refine ⟨fun y hy => ?_, cop_small n most l (List.nodup_cons.mp hn).2 fun q hq => hm q (List.mem_cons_of_mem _ hq)⟩
    obtain ⟨x, hx, rfl⟩ := List.mem_map.mp hy
    obtain ⟨q, hq, rfl⟩ := List.mem_map.mp hx
    exact Nat.Coprime.pow _ _ (pr_cop (hm p List.mem_cons_self) (hm q (List.mem_cons_of_mem _ hq)) fun z => (List.nodup_cons.mp hn).1 (by rw [show p = q from z]; exact hq))
theorem pr_nodup : PR.Nodup := by decide
theorem small_cop (n most : Nat) : Cop ((small n most).map fun x => x.1 ^ x.2) :=
  cop_small n most _ (List.Sublist.nodup List.filter_sublist pr_nodup) fun p hp => (List.mem_filter.mp hp).1
theorem small_mem {n most : Nat} {x : Nat × Nat} (h : x ∈ small n most) : x.1 ∈ PR ∧ x.1 ≤ most ∧ n % x.1 = 0 ∧ x.2 = vl x.1 n := by
  unfold small at h
  obtain ⟨p, hp, rfl⟩ := List.mem_map.mp h
  obtain ⟨h1, h2⟩ := List.mem_filter.mp hp
  obtain ⟨h3, h4⟩ := Bool.and_eq_true_iff.mp h2
  exact ⟨h1, of_decide_eq_true h3, of_decide_eq_true h4, rfl⟩
theorem small_dvd {n most : Nat} (hn : 1 ≤ n) {x : Nat × Nat} (h : x ∈ small n most) : 1 ≤ x.1 ^ x.2 ∧ x.1 ^ x.2 ∣ n := by
  obtain ⟨h1, _, _, h4⟩ := small_mem h
  have h2 := (pr_two h1).1
  obtain ⟨q, e, _⟩ := vl_spec (p := x.1) h2 hn
  refine ⟨Nat.pow_pos (by omega), ?_⟩
  rw [h4]
  exact ⟨q, e⟩
theorem great_mul {n : Nat} (most : Nat) (hn : 1 ≤ n) : n = great n most * prodN ((small n most).map fun x => x.1 ^ x.2) := foldl_cut _ n (small_cop n most) fun _ h => small_dvd hn h
theorem great_pos {n : Nat} (most : Nat) (hn : 1 ≤ n) : 1 ≤ great n most := by
  have e := great_mul most hn
  rcases Nat.eq_zero_or_pos (great n most) with h | h
  · rw [h, Nat.zero_mul] at e; omega
  · exact h
theorem prod_dvd {x : Nat} : ∀ {l : List Nat}, x ∈ l → x ∣ prodN l
  | [], h => by cases h
  | y :: l, h => by
    rw [prodN_cons]
    rcases List.mem_cons.mp h with rfl | h
    · exact Nat.dvd_mul_right _ _
    · exact Nat.dvd_trans (prod_dvd h) (Nat.dvd_mul_left _ _)
theorem great_no {n most : Nat} (hn : 1 ≤ n) {x : Nat × Nat} (h : x ∈ small n most) : great n most % x.1 ≠ 0 := fun z => by
  obtain ⟨h1, _, _, h4⟩ := small_mem h
  have h2 := (pr_two h1).1
  obtain ⟨q, e, hq⟩ := vl_spec (p := x.1) h2 hn
  obtain ⟨a, ha⟩ := Nat.dvd_of_mod_eq_zero z
  obtain ⟨c, hc⟩ := prod_dvd (x := x.1 ^ x.2) (l := (small n most).map fun x => x.1 ^ x.2) (List.mem_map.mpr ⟨x, h, rfl⟩)
  have em := great_mul most hn
  rw [hc, ha, h4] at em
  have : x.1 ^ vl x.1 n * q = x.1 ^ vl x.1 n * (x.1 * (a * c)) := by
    rw [← e]
    refine em.trans ?_
    ac_rfl
  have hp : 0 < x.1 ^ vl x.1 n := Nat.pow_pos (by omega)
  have := Nat.eq_of_mul_eq_mul_left hp this
  rw [this, Nat.mul_mod_right] at hq
  exact hq rfl
/-- the pieces of a number -/
def pieces (n most : Nat) : List Nat := great n most :: (small n most).map fun x => x.1 ^ x.2
theorem pieces_cop {n : Nat} (most : Nat) (hn : 1 ≤ n) : Cop (pieces n most) := by
  refine ⟨fun y hy => ?_, small_cop n most⟩
  obtain ⟨x, hx, rfl⟩ := List.mem_map.mp hy
  exact Nat.Coprime.pow_right _ (pr_no (small_mem hx).1 (great_no hn hx))
theorem pieces_prod {n : Nat} (most : Nat) (hn : 1 ≤ n) : prodN (pieces n most) = n := by
  unfold pieces
  rw [prodN_cons]
  exact (great_mul most hn).symm
theorem pieces_pos {n most : Nat} (hn : 1 ≤ n) {x : Nat} (h : x ∈ pieces n most) : 1 ≤ x ∧ x ≤ n := by
  have hd : x ∣ n := by
    have := prod_dvd h
    rw [pieces_prod most hn] at this
    exact this
  exact ⟨Nat.pos_of_dvd_of_pos hd hn, Nat.le_of_dvd hn hd⟩
theorem small_len (n most : Nat) : (small n most).length ≤ 5 := by
  unfold small
  rw [List.length_map]
  exact Nat.le_trans (List.length_filter_le _ _) (Nat.le_refl 5)

/-! ### common divisors -/
def gcdL (m : Nat) (ns : List Int) : Nat := ns.foldl (fun d n => Nat.gcd d n.natAbs) m
theorem gcdL_nil (m : Nat) : gcdL m [] = m := rfl
theorem gcdL_cons (m : Nat) (n : Int) (ns : List Int) : gcdL m (n :: ns) = gcdL (Nat.gcd m n.natAbs) ns := rfl
theorem gcdL_app (m : Nat) (ns ks : List Int) : gcdL m (ns ++ ks) = gcdL (gcdL m ns) ks := List.foldl_append
theorem gcdL_dvd : ∀ (ns : List Int) (m : Nat), gcdL m ns ∣ m
  | [], m => Nat.dvd_refl m
  | n :: ns, m => Nat.dvd_trans (gcdL_dvd ns _) (Nat.gcd_dvd_left m n.natAbs)
theorem gcdL_pos {m : Nat} (h : 1 ≤ m) (ns : List Int) : 1 ≤ gcdL m ns := Nat.pos_of_dvd_of_pos (gcdL_dvd ns m) h
theorem gcdL_le {m : Nat} (h : 1 ≤ m) (ns : List Int) : gcdL m ns ≤ m := Nat.le_of_dvd h (gcdL_dvd ns m)
/-- the common divisor of all -/
def gcdA (ns : List Int) : Nat := gcdL 0 ns
theorem gcdL_A : ∀ (ns : List Int) (m : Nat), gcdL m ns = Nat.gcd m (gcdA ns)
  | [], m => (Nat.gcd_zero_right m).symm
  | n :: ns, m => by
    have e : gcdA (n :: ns) = Nat.gcd n.natAbs (gcdA ns) := by
      unfold gcdA
      rw [gcdL_cons, Nat.gcd_zero_left, gcdL_A ns n.natAbs]
      rfl
    rw [gcdL_cons, gcdL_A ns, e, Nat.gcd_assoc]
theorem gcdA_app (ns ks : List Int) : gcdA (ns ++ ks) = Nat.gcd (gcdA ns) (gcdA ks) := by
  unfold gcdA
  rw [gcdL_app, gcdL_A]
  rfl
theorem gcdA_rev : ∀ ns : List Int, gcdA ns.reverse = gcdA ns
  | [] => rfl
  | n :: ns => by
    rw [List.reverse_cons, gcdA_app, gcdA_rev ns, Nat.gcd_comm]
    show _ = gcdL _ ns
    rw [gcdL_A]
    rfl
theorem gcdL_rev (m : Nat) (ns : List Int) : gcdL m ns.reverse = gcdL m ns := by rw [gcdL_A, gcdA_rev, ← gcdL_A]
theorem gcdL_again (m : Nat) (ns : List Int) : gcdL m (ns ++ [((gcdL m ns : Nat) : Int)]) = gcdL m ns := by
  rw [gcdL_app, gcdL_cons, gcdL_nil]
  exact Nat.gcd_self _
theorem gcdL_one {m : Nat} (ns : List Int) : gcdL m [((gcdL m ns : Nat) : Int)] = gcdL m ns := by
  rw [gcdL_cons, gcdL_nil]
  exact Nat.gcd_eq_right (gcdL_dvd ns m)
theorem gcd_prod (g : Nat) : ∀ l : List Nat, Cop l → Nat.gcd (prodN l) g = prodN (l.map fun x => Nat.gcd x g)
  | [], _ => by rw [prodN_nil, List.map_nil, prodN_nil, Nat.gcd_one_left]
  | x :: l, h => by
    rw [prodN_cons, List.map_cons, prodN_cons, ← gcd_prod g l h.2, Nat.gcd_comm, Nat.Coprime.gcd_mul g (cop_prod h.1), Nat.gcd_comm g x, Nat.gcd_comm g (prodN l)]
theorem gcdL_prod {l : List Nat} (h : Cop l) (ns : List Int) : gcdL (prodN l) ns = prodN (l.map fun x => gcdL x ns) := by
  rw [gcdL_A, gcd_prod _ l h]
  congr 1
  exact List.map_congr_left fun x _ => (gcdL_A ns x).symm
/-! the way by remainders, with multipliers -/
structure Bz (a0 b0 a b : Nat) (s t u v : Int) : Prop where
  e1 : (a : Int) = s * a0 + t * b0
  e2 : (b : Int) = u * a0 + v * b0
  g : Nat.gcd a b = Nat.gcd a0 b0
  k1 : s.natAbs * b + u.natAbs * a = b0
  k2 : t.natAbs * b + v.natAbs * a = a0
  s1 : 0 ≤ s ∧ u ≤ 0 ∧ t ≤ 0 ∧ 0 ≤ v ∨ s ≤ 0 ∧ 0 ≤ u ∧ 0 ≤ t ∧ v ≤ 0
  m1 : s.natAbs ≤ b0 + 1 ∧ t.natAbs ≤ a0 + 1 ∧ u.natAbs ≤ b0 + 1 ∧ v.natAbs ≤ a0 + 1
theorem Bz.start (a0 b0 : Nat) : Bz a0 b0 a0 b0 1 0 0 1 :=
  ⟨by omega, by omega, rfl, by simp, by simp, .inl ⟨by omega, by omega, by omega, by omega⟩, ⟨by simp, by simp, by simp, by simp⟩⟩
theorem mul_le_of {x b n : Nat} (h : x * b ≤ n) (hb : 1 ≤ b) : x ≤ n := Nat.le_trans (Nat.le_mul_of_pos_right x hb) h
theorem Bz.step {a0 b0 a b : Nat} {s t u v : Int} (z : Bz a0 b0 a b s t u v) (hb : 1 ≤ b) : Bz a0 b0 b (a % b) u v (s - (a / b : Nat) * u) (t - (a / b : Nat) * v) := by
  obtain ⟨e1, e2, g, k1, k2, s1, m1⟩ := z
  have hd := Nat.div_add_mod a b
  have hdI : (b : Int) * (a / b : Nat) + (a % b : Nat) = a := by
    rw [← hd]
    simp [hd]
    exact_mod_cast hd
  have neg : ∀ {x y : Int} {q : Nat}, (0 ≤ x ∧ y ≤ 0 ∨ x ≤ 0 ∧ 0 ≤ y) → (x - q * y).natAbs = x.natAbs + q * y.natAbs := fun {x y q} h => by
    rcases h with ⟨h1, h2⟩ | ⟨h1, h2⟩
    · have : (q : Int) * y ≤ 0 := Int.mul_nonpos_of_nonneg_of_nonpos (by omega) h2
      have e : ((q * y.natAbs : Nat) : Int) = -(q * y) := by
        rw [Int.natCast_mul, show ((y.natAbs : Nat) : Int) = -y by omega, Int.mul_neg]
      omega
    · have : 0 ≤ (q : Int) * y := Int.mul_nonneg (by omega) h2
      have e : ((q * y.natAbs : Nat) : Int) = q * y := by
        rw [Int.natCast_mul, show ((y.natAbs : Nat) : Int) = y by omega]
      omega
  have n1 : (s - (a / b : Nat) * u).natAbs = s.natAbs + (a / b) * u.natAbs := neg (s1.imp (fun h => ⟨h.1, h.2.1⟩) (fun h => ⟨h.1, h.2.1⟩))
  have n2 : (t - (a / b : Nat) * v).natAbs = t.natAbs + (a / b) * v.natAbs := neg (s1.symm.imp (fun h => ⟨h.2.2.1, h.2.2.2⟩) (fun h => ⟨h.2.2.1, h.2.2.2⟩))
  have kk : ∀ x y c : Nat, x * b + y * a = c → y * (a % b) + (x + a / b * y) * b = c := fun x y c h => by
    rw [← h, Nat.add_mul]
    have : y * a = y * (b * (a / b) + a % b) := by rw [hd]
    rw [this, Nat.mul_add]
    have : a / b * y * b = y * (b * (a / b)) := by ac_rfl
    omega
  have l1 := kk _ _ _ k1
  have l2 := kk _ _ _ k2
  refine ⟨e2, ?_, ?_, ?_, ?_, ?_, ⟨m1.2.2.1, m1.2.2.2, ?_, ?_⟩⟩
  · have : ((a % b : Nat) : Int) = a - b * (a / b : Nat) := by omega
    rw [this, e1, e2]
    simp only [Int.sub_mul, Int.add_mul]
    have x1 : (a / b : Nat) * u * (a0 : Int) = u * a0 * (a / b : Nat) := by ac_rfl
    have x2 : (a / b : Nat) * v * (b0 : Int) = v * b0 * (a / b : Nat) := by ac_rfl
    rw [x1, x2]
    omega
  · rw [← g, Nat.gcd_comm b, ← Nat.gcd_rec, Nat.gcd_comm]
  · rw [n1]; exact l1
  · rw [n2]; exact l2
  · have q0 : (0 : Int) ≤ (a / b : Nat) := Int.natCast_nonneg _
    rcases s1 with ⟨h1, h2, h3, h4⟩ | ⟨h1, h2, h3, h4⟩
    · have : ((a / b : Nat) : Int) * u ≤ 0 := Int.mul_nonpos_of_nonneg_of_nonpos q0 h2
      have : 0 ≤ ((a / b : Nat) : Int) * v := Int.mul_nonneg q0 h4
      exact .inr ⟨h2, by omega, h4, by omega⟩
    · have : 0 ≤ ((a / b : Nat) : Int) * u := Int.mul_nonneg q0 h2
      have : ((a / b : Nat) : Int) * v ≤ 0 := Int.mul_nonpos_of_nonneg_of_nonpos q0 h4
      exact .inl ⟨h2, by omega, h4, by omega⟩
  · rw [n1]
    have := mul_le_of (x := s.natAbs + a / b * u.natAbs) (b := b) (n := b0) (by omega) hb
    omega
  · rw [n2]
    have := mul_le_of (x := t.natAbs + a / b * v.natAbs) (b := b) (n := a0) (by omega) hb
    omega
theorem Bz.end_ {a0 b0 a b : Nat} {s t u v : Int} (z : Bz a0 b0 a b s t u v) (hb : b = 0) : a = Nat.gcd a0 b0 := by
  rw [← z.g, hb, Nat.gcd_zero_right]

/-! ### remainders put together -/
/-- x leaves the remainders r by the divisors d -/
def Lvs (x : Int) (ps : List (Int × Nat)) : Prop := ∀ p ∈ ps, ((p.2 : Nat) : Int) ∣ x - p.1
theorem dvd_prod {y : Int} : ∀ {l : List Nat}, Cop l → (∀ d ∈ l, ((d : Nat) : Int) ∣ y) → ((prodN l : Nat) : Int) ∣ y
  | [], _, _ => by rw [prodN_nil]; exact Int.one_dvd y
  | d :: l, h, q => by
    rw [prodN_cons]
    have h1 := Int.natAbs_dvd_natAbs.mpr (q d List.mem_cons_self)
    have h2 := Int.natAbs_dvd_natAbs.mpr (dvd_prod h.2 fun z hz => q z (List.mem_cons_of_mem _ hz))
    rw [Int.natAbs_natCast] at h1 h2
    refine Int.natAbs_dvd_natAbs.mp ?_
    rw [Int.natAbs_natCast]
    exact Nat.Coprime.mul_dvd_of_dvd_of_dvd (cop_prod h.1) h1 h2
/-- the only one below the product -/
theorem lvs_uniq {x y : Int} {ps : List (Int × Nat)} (hc : Cop (ps.map (·.2))) (hx : Lvs x ps) (hy : Lvs y ps) (x0 : 0 ≤ x) (x1 : x < (prodN (ps.map (·.2)) : Nat)) (y0 : 0 ≤ y) (y1 : y < (prodN (ps.map (·.2)) : Nat)) : x = y := by
  have h : ((prodN (ps.map (·.2)) : Nat) : Int) ∣ x - y := dvd_prod hc fun d hd => by
    obtain ⟨p, hp, rfl⟩ := List.mem_map.mp hd
    have := Int.dvd_sub (hx p hp) (hy p hp)
    rwa [show x - p.1 - (y - p.1) = x - y by omega] at this
  obtain ⟨k, hk⟩ := h
  have hP : (0 : Int) < (prodN (ps.map (·.2)) : Nat) := by omega
  rcases Int.lt_trichotomy k 0 with h | h | h
  · have : ((prodN (ps.map (·.2)) : Nat) : Int) * k ≤ ((prodN (ps.map (·.2)) : Nat) : Int) * (-1) := Int.mul_le_mul_of_nonneg_left (by omega) (by omega)
    omega
  · subst h
    omega
  · have : ((prodN (ps.map (·.2)) : Nat) : Int) * 1 ≤ ((prodN (ps.map (·.2)) : Nat) : Int) * k := Int.mul_le_mul_of_nonneg_left (by omega) (by omega)
    omega
/-- one step -/
theorem put_step {x : Int} {w : Nat} {ps : List (Int × Nat)} {r : Int} {d : Nat} {i : Int} (hw : w = prodN (ps.map (·.2))) (hx : Lvs x ps) (x0 : 0 ≤ x) (x1 : x < (w : Nat)) (hd : 1 ≤ d) (hi : (d : Int) ∣ i * w - 1) :
    Lvs (x + w * ((r - x) * i % d)) (ps ++ [(r, d)]) ∧ 0 ≤ x + w * ((r - x) * i % d) ∧ x + w * ((r - x) * i % d) < ((w * d : Nat) : Int) := by
  have hdI : (0 : Int) < d := by omega
  have m0 := Int.emod_nonneg ((r - x) * i) (show (d : Int) ≠ 0 by omega)
  have m1 := Int.emod_lt_of_pos ((r - x) * i) hdI
  have p0 : 0 ≤ (w : Int) * ((r - x) * i % d) := Int.mul_nonneg (by omega) m0
  have p1 : (w : Int) * ((r - x) * i % d) ≤ (w : Int) * (d - 1) := Int.mul_le_mul_of_nonneg_left (by omega) (by omega)
  refine ⟨fun p hp => ?_, by omega, ?_⟩
  · rcases List.mem_append.mp hp with hp | hp
    · have h1 := hx p hp
      have h2 : ((p.2 : Nat) : Int) ∣ (w : Int) := by
        rw [hw]
        exact Int.natCast_dvd_natCast.mpr (prod_dvd (List.mem_map.mpr ⟨p, hp, rfl⟩))
      have h3 := Int.dvd_add h1 (Int.dvd_mul_of_dvd_left (c := (r - x) * i % d) h2)
      rwa [show x - p.1 + (w : Int) * ((r - x) * i % d) = x + w * ((r - x) * i % d) - p.1 by omega] at h3
    · obtain rfl := List.mem_singleton.mp hp
      show (d : Int) ∣ x + w * ((r - x) * i % d) - r
      have e : (r - x) * i % d = (r - x) * i - d * ((r - x) * i / d) := Int.emod_def _ _
      rw [e]
      obtain ⟨k, hk⟩ := hi
      refine ⟨(r - x) * k - w * ((r - x) * i / d), ?_⟩
      have e2 : (w : Int) * ((r - x) * i - d * ((r - x) * i / d)) = (r - x) * (i * w) - d * (w * ((r - x) * i / d)) := by
        rw [Int.mul_sub]
        congr 1 <;> ac_rfl
      have e3 : i * (w : Int) = 1 + d * k := by omega
      rw [e2, e3, Int.mul_add, Int.mul_one, Int.mul_sub]
      have e4 : (r - x) * (d * k) = d * ((r - x) * k) := by ac_rfl
      rw [e4]
      omega
  · rw [Int.natCast_mul]
    have e5 : (w : Int) * (d - 1) = w * d - w := by rw [Int.mul_sub, Int.mul_one]
    omega

/-! ### binomials -/
def bin (n : Int) : Nat → Int
  | 0 => 1
  | k + 1 => bin n k * (n - k) / (k + 1)
theorem ediv_natAbs_le (x : Int) {c : Int} (hc : 1 ≤ c) : (x / c).natAbs ≤ x.natAbs := by
  have h := Int.emod_add_mul_ediv x c
  have h0 := Int.emod_nonneg x (show c ≠ 0 by omega)
  have h1 := Int.emod_lt_of_pos x (show 0 < c by omega)
  rcases Int.lt_or_le (x / c) 0 with hq | hq
  · have : c * (x / c) ≤ c * (-1) := Int.mul_le_mul_of_nonneg_left (by omega) (by omega)
    have h2 : 1 * -(x / c + 1) ≤ c * -(x / c + 1) := Int.mul_le_mul_of_nonneg_right hc (by omega)
    have h3 : c * -(x / c + 1) = -(c * (x / c)) - c := by rw [Int.mul_neg, Int.mul_add, Int.mul_one]; omega
    omega
  · have : 1 * (x / c) ≤ c * (x / c) := Int.mul_le_mul_of_nonneg_right hc hq
    omega
theorem bin_bd {n : Int} {a : Nat} (h : n.natAbs + 12 < 2 ^ a) : ∀ k : Nat, k ≤ 12 → (bin n k).natAbs < 2 ^ (a * k + 1)
  | 0, _ => by
    show (1 : Int).natAbs < _
    rw [Nat.mul_zero, Nat.zero_add]
    decide
  | k + 1, hk => by
    have ih := bin_bd h k (by omega)
    show (bin n k * (n - k) / (k + 1)).natAbs < _
    refine Nat.lt_of_le_of_lt (ediv_natAbs_le _ (by omega)) ?_
    rw [Int.natAbs_mul, show a * (k + 1) + 1 = (a * k + 1) + a by rw [Nat.mul_add, Nat.mul_one]; omega, Nat.pow_add]
    exact Nat.mul_lt_mul'' ih (by omega)

/-! ### the least divisor -/
def IsLeast (n p : Nat) : Prop := 2 ≤ p ∧ p ∣ n ∧ ∀ d, 2 ≤ d → d < p → ¬ d ∣ n
theorem least_uniq {n p q : Nat} (a : IsLeast n p) (b : IsLeast n q) : p = q := by
  rcases Nat.lt_trichotomy p q with h | h | h
  · exact absurd a.2.1 (b.2.2 p a.1 h)
  · exact h
  · exact absurd b.2.1 (a.2.2 q b.1 h)
theorem least_self {n b : Nat} (hn : 2 ≤ n) (hb : n < b * b) (h : ∀ d, 2 ≤ d → d < b → ¬ d ∣ n) : IsLeast n n := by
  refine ⟨hn, Nat.dvd_refl n, fun d h2 hd hdv => ?_⟩
  obtain ⟨k, hk⟩ := hdv
  have hdb : b ≤ d := Nat.le_of_not_lt fun z => h d h2 z ⟨k, hk⟩
  have hk2 : 2 ≤ k := by
    rcases k with _ | _ | k
    · omega
    · omega
    · omega
  have hkb : b ≤ k := Nat.le_of_not_lt fun z => h k hk2 z ⟨d, by rw [Nat.mul_comm]; exact hk⟩
  have := Nat.mul_le_mul hdb hkb
  omega
theorem small_first {n : Nat} {x : Nat × Nat} {l : List (Nat × Nat)} (h : small n 12 = x :: l) : IsLeast n x.1 := by
  have key : ∀ p : Nat, (decide (p ≤ 12) && decide (n % p = 0)) = true ↔ p ≤ 12 ∧ n % p = 0 := fun p => by
    rw [Bool.and_eq_true, decide_eq_true_iff, decide_eq_true_iff]
  unfold small PR at h
  have fin : ∀ p : Nat, 2 ≤ p → n % p = 0 → p ≤ 11 → (∀ q ∈ [2, 3, 5, 7, 11], q < p → n % q ≠ 0) → IsLeast n p := fun p h2 h0 h11 hq => by
    refine ⟨h2, Nat.dvd_of_mod_eq_zero h0, fun d hd hdp hdv => ?_⟩
    have hm := Nat.mod_eq_zero_of_dvd hdv
    have q2 := hq 2 (by simp)
    have q3 := hq 3 (by simp)
    have q5 := hq 5 (by simp)
    have q7 := hq 7 (by simp)
    have : d = 2 ∨ d = 3 ∨ d = 4 ∨ d = 5 ∨ d = 6 ∨ d = 7 ∨ d = 8 ∨ d = 9 ∨ d = 10 := by omega
    rcases this with rfl | rfl | rfl | rfl | rfl | rfl | rfl | rfl | rfl <;> omega
  have cons : ∀ (p : Nat) (r : List Nat), ((p :: r).filter fun p => decide (p ≤ 12) && decide (n % p = 0)) = if p ≤ 12 ∧ n % p = 0 then p :: r.filter (fun p => decide (p ≤ 12) && decide (n % p = 0)) else r.filter (fun p => decide (p ≤ 12) && decide (n % p = 0)) := fun p r => by
    by_cases hp : p ≤ 12 ∧ n % p = 0
    · rw [if_pos hp, List.filter_cons_of_pos (p := fun p => decide (p ≤ 12) && decide (n % p = 0)) ((key p).mpr hp)]
    · rw [if_neg hp, List.filter_cons_of_neg (p := fun p => decide (p ≤ 12) && decide (n % p = 0)) (fun z => hp ((key p).mp z))]
  rw [cons 2] at h
  split at h
  · rename_i c
    injection h with h1 _
    subst h1
    exact fin 2 (by omega) c.2 (by omega) (by simp)
  rename_i c2
  rw [cons 3] at h
  split at h
  · rename_i c
    injection h with h1 _
    subst h1
    exact fin 3 (by omega) c.2 (by omega) (by simp; omega)
  rename_i c3
  rw [cons 5] at h
  split at h
  · rename_i c
    injection h with h1 _
    subst h1
    exact fin 5 (by omega) c.2 (by omega) (by simp; omega)
  rename_i c5
  rw [cons 7] at h
  split at h
  · rename_i c
    injection h with h1 _
    subst h1
    exact fin 7 (by omega) c.2 (by omega) (by simp; omega)
  rename_i c7
  rw [cons 11] at h
  split at h
  · rename_i c
    injection h with h1 _
    subst h1
    exact fin 11 (by omega) c.2 (by omega) (by simp; omega)
  · cases h
end My
namespace My
theorem pow_lt2 {b a : Nat} (h : b < 2 ^ a) (i : Nat) : b ^ i < 2 ^ (a * i + 1) := by
  have h1 : b ^ i ≤ (2 ^ a) ^ i := Nat.pow_le_pow_left (by omega) i
  rw [← Nat.pow_mul] at h1
  rw [Nat.pow_succ]
  have : 0 < 2 ^ (a * i) := Nat.pow_pos (by omega)
  omega
theorem natAbs_if (r : Int) : (if r < 0 then -r else r) = (r.natAbs : Int) := by
  split <;> omega
theorem gcd_mod {g m k : Nat} {r : Int} (h : g ∣ m) (hk : r % (m : Int) = k) : Nat.gcd g k = Nat.gcd g r.natAbs := by
  have e : (k : Int) = r - m * (r / m) := by rw [← hk, Int.emod_def]
  have h1 : (g : Int) ∣ (m : Int) * (r / m) := Int.dvd_mul_of_dvd_left (Int.natCast_dvd_natCast.mpr h)
  refine Nat.dvd_antisymm ?_ ?_
  · refine Nat.dvd_gcd (Nat.gcd_dvd_left g k) ?_
    have a1 : ((Nat.gcd g k : Nat) : Int) ∣ (k : Int) := Int.natCast_dvd_natCast.mpr (Nat.gcd_dvd_right g k)
    have a2 : ((Nat.gcd g k : Nat) : Int) ∣ (m : Int) * (r / m) := Int.dvd_trans (Int.natCast_dvd_natCast.mpr (Nat.gcd_dvd_left g k)) h1
    have a3 := Int.dvd_add a1 a2
    rw [e, Int.sub_add_cancel] at a3
    have a4 := Int.natAbs_dvd_natAbs.mpr a3
    rwa [Int.natAbs_natCast] at a4
  · refine Nat.dvd_gcd (Nat.gcd_dvd_left g _) ?_
    have a1 : ((Nat.gcd g r.natAbs : Nat) : Int) ∣ r := by
      refine Int.natAbs_dvd_natAbs.mp ?_
      rw [Int.natAbs_natCast]
      exact Nat.gcd_dvd_right g _
    have a2 : ((Nat.gcd g r.natAbs : Nat) : Int) ∣ (m : Int) * (r / m) := Int.dvd_trans (Int.natCast_dvd_natCast.mpr (Nat.gcd_dvd_left g _)) h1
    have a3 := Int.dvd_sub a1 a2
    rw [← e] at a3
    exact Int.natCast_dvd_natCast.mp a3
theorem cop_app {d : Nat} : ∀ {l m : List Nat}, Cop (l ++ d :: m) → Nat.Coprime (prodN l) d
  | [], _, _ => by rw [prodN_nil]; exact Nat.coprime_one_left d
  | x :: l, m, h => by
    rw [prodN_cons]
    exact Nat.Coprime.mul_left (h.1 d (List.mem_append_right _ List.mem_cons_self)) (cop_app h.2)
theorem cop_at {ps : List (Int × Nat)} {i : Nat} {x : Int × Nat} (h : Cop (ps.map (·.2))) (hx : ps[i]? = some x) : Nat.gcd (prodN ((ps.map (·.2)).take i)) x.2 = 1 := by
  obtain ⟨hi, e⟩ := List.getElem?_eq_some_iff.mp hx
  have e2 : ps = ps.take i ++ x :: ps.drop (i + 1) := by
    rw [← e, List.getElem_cons_drop, List.take_append_drop]
  rw [e2, List.map_append, List.map_cons] at h
  rw [← List.map_take]
  exact cop_app h
theorem prod_bd {B : Nat} : ∀ {ps : List (Int × Nat)}, (∀ x ∈ ps, x.2 ≤ B) → prodN (ps.map (·.2)) ≤ B ^ ps.length
  | [], _ => by rw [List.map_nil, prodN_nil, List.length_nil, Nat.pow_zero]; exact Nat.le_refl 1
  | x :: ps, h => by
    rw [List.map_cons, prodN_cons, List.length_cons, Nat.pow_succ, Nat.mul_comm]
    exact Nat.mul_le_mul (prod_bd fun y hy => h y (List.mem_cons_of_mem _ hy)) (h x List.mem_cons_self)
theorem pw_lt {n : Nat} (h : n ≤ 19) : (1000000000000000000000000000000 : Nat) ^ n < 2 ^ 2000 :=
  Nat.lt_of_le_of_lt (Nat.pow_le_pow_left (show 1000000000000000000000000000000 ≤ 2 ^ 100 by decide) n) (by rw [← Nat.pow_mul]; exact Nat.pow_lt_pow_right (by decide) (by omega))
theorem inv_ok {d w : Nat} {s t : Int} (h : ((Nat.gcd d (w % d) : Nat) : Int) = s * d + t * (w % d : Nat)) (hc : Nat.gcd d (w % d) = 1) : (d : Int) ∣ t * w - 1 := by
  rw [hc] at h
  have e : (w : Int) = d * (w / d : Nat) + (w % d : Nat) := by
    have := Nat.div_add_mod w d
    exact_mod_cast this.symm
  refine ⟨t * (w / d : Nat) - s, ?_⟩
  rw [e, Int.mul_add, Int.mul_sub]
  have e2 : t * ((d : Int) * (w / d : Nat)) = d * (t * (w / d : Nat)) := by ac_rfl
  have e3 : s * (d : Int) = d * s := Int.mul_comm _ _
  rw [e2]
  omega
end My

namespace My
open G (InR)
/-- multipliers for some numbers, below m -/
def sumM (ms ns : List Int) : Int := (List.zipWith (· * ·) ms ns).sum
def MulOk (m : Nat) (ns ms : List Int) (g : Nat) : Prop := ms.length = ns.length ∧ InR m ms ∧ (m : Int) ∣ sumM ms ns - g
theorem sumM_app : ∀ {ms ns : List Int} {a b : Int}, ms.length = ns.length → sumM (ms ++ [a]) (ns ++ [b]) = sumM ms ns + a * b
  | [], [], a, b, _ => by simp [sumM]
  | [], _ :: _, _, _, h => by simp at h
  | _ :: _, [], _, _, h => by simp at h
  | x :: ms, y :: ns, a, b, h => by
    have ih := sumM_app (ms := ms) (ns := ns) (a := a) (b := b) (by simpa using h)
    unfold sumM at ih ⊢
    rw [List.cons_append, List.cons_append, List.zipWith_cons_cons, List.zipWith_cons_cons, List.sum_cons, List.sum_cons, ih]
    omega
theorem sumM_mul {m : Nat} {s : Int} : ∀ {ms ns : List Int}, (m : Int) ∣ sumM (ms.map fun x => x * s % m) ns - s * sumM ms ns
  | [], _ => by simp [sumM]
  | _ :: _, [] => by simp [sumM]
  | x :: ms, y :: ns => by
    have ih := sumM_mul (m := m) (s := s) (ms := ms) (ns := ns)
    unfold sumM at ih ⊢
    rw [List.map_cons, List.zipWith_cons_cons, List.zipWith_cons_cons, List.sum_cons, List.sum_cons]
    have e : x * s % (m : Int) = x * s - m * (x * s / m) := Int.emod_def _ _
    have h1 : (m : Int) ∣ (x * s % m) * y - s * (x * y) := by
      refine ⟨-(x * s / m * y), ?_⟩
      rw [e, Int.sub_mul]
      have e1 : x * s * y = s * (x * y) := by ac_rfl
      have e2 : (m : Int) * (x * s / m) * y = m * (x * s / m * y) := by ac_rfl
      rw [e1, e2, Int.mul_neg]
      omega
    have h2 := Int.dvd_add h1 ih
    rw [Int.mul_add]
    refine (show ∀ a b : Int, a = b → (m : Int) ∣ a → (m : Int) ∣ b from fun a b e h => e ▸ h) _ _ ?_ h2
    omega
theorem mulOk_step {m : Nat} {ns ms : List Int} {g k : Nat} {r s t : Int} (hm : 1 ≤ m) (h1 : ms.length = ns.length) (h2 : InR m ms) (h3 : (m : Int) ∣ sumM ms ns - g) (hst : ((Nat.gcd g k : Nat) : Int) = s * g + t * k) (hk : r % (m : Int) = k) :
    MulOk m (ns ++ [r]) (ms.map (fun x => x * s % m) ++ [t % m]) (Nat.gcd g k) := by
  have hm0 : (m : Int) ≠ 0 := by omega
  have hm1 : (0 : Int) < m := by omega
  refine ⟨by rw [List.length_append, List.length_append, List.length_map, h1] <;> rfl, fun x hx => ?_, ?_⟩
  · rcases List.mem_append.mp hx with hx | hx
    · obtain ⟨y, _, rfl⟩ := List.mem_map.mp hx
      exact ⟨Int.emod_nonneg _ hm0, Int.emod_lt_of_pos _ hm1⟩
    · rw [List.mem_singleton.mp hx]
      exact ⟨Int.emod_nonneg _ hm0, Int.emod_lt_of_pos _ hm1⟩
  · rw [sumM_app (by rw [List.length_map]; exact h1)]
    have a1 := sumM_mul (m := m) (s := s) (ms := ms) (ns := ns)
    have a2 : (m : Int) ∣ s * (sumM ms ns - g) := Int.dvd_mul_of_dvd_right h3
    have a3 : (m : Int) ∣ t % m * r - t * k := by
      have e1 : t % (m : Int) = t - m * (t / m) := Int.emod_def _ _
      have e2 : (k : Int) = r - m * (r / m) := by rw [← hk, Int.emod_def]
      refine ⟨t * (r / m) - t / m * r, ?_⟩
      rw [e1, e2, Int.sub_mul, Int.mul_sub, Int.mul_sub]
      have x1 : (m : Int) * (t / m) * r = m * (t / m * r) := by ac_rfl
      have x2 : t * ((m : Int) * (r / m)) = m * (t * (r / m)) := by ac_rfl
      rw [x1, x2]
      omega
    have a4 := Int.dvd_add (Int.dvd_add a1 a2) a3
    refine (show ∀ a b : Int, a = b → (m : Int) ∣ a → (m : Int) ∣ b from fun a b e h => e ▸ h) _ _ ?_ a4
    rw [hst, Int.mul_sub]
    omega
end My

namespace My
theorem emod_sub {d m : Nat} {v : Int} (h : d ∣ m) : (d : Int) ∣ v % (m : Int) - v := by
  rw [Int.emod_def, show v - (m : Int) * (v / m) - v = -((m : Int) * (v / m)) by omega]
  exact Int.dvd_neg.mpr (Int.dvd_mul_of_dvd_left (Int.natCast_dvd_natCast.mpr h))
theorem emod_sub2 {d m : Nat} {v : Int} (h : d ∣ m) : (d : Int) ∣ v % (m : Int) - v % (d : Int) := by
  have h1 := emod_sub (v := v) h
  have h2 := emod_sub (d := d) (m := d) (v := v) (Nat.dvd_refl d)
  have := Int.dvd_sub h1 h2
  rwa [show v % (m : Int) - v - (v % (d : Int) - v) = v % (m : Int) - v % (d : Int) by omega] at this
theorem prod_le {f : Nat → Nat} : ∀ {l : List Nat}, (∀ d ∈ l, f d ≤ d) → prodN (l.map f) ≤ prodN l
  | [], _ => Nat.le_refl _
  | x :: l, h => by
    rw [List.map_cons, prodN_cons, prodN_cons]
    exact Nat.mul_le_mul (h x List.mem_cons_self) (prod_le fun d hd => h d (List.mem_cons_of_mem _ hd))
end My

set_option Elab.async false
set_option linter.all false
set_option maxRecDepth 100000
set_option maxHeartbeats 0
namespace My
open PySem PySem.Spec PyProof.Rows L2 G
def top (i : Nat) : Stmt := PySem.Challenge.pw_restchains_k07_whole_numbers_by_their_pa.main.body.getD i (.Pass ⟨0, 0, 0, 0⟩)
def d_is_integer : He.DefD := ⟨("is_integer", none), "is_integer", "is_integer", defArgs (top 2), defBody (top 2), defScope (top 2), [], []⟩
def d_is_between : He.DefD := ⟨("is_between", none), "is_between", "is_between", defArgs (top 3), defBody (top 3), defScope (top 3), [], []⟩
def d_fits_modulus : He.DefD := ⟨("fits_modulus", none), "fits_modulus", "fits_modulus", defArgs (top 4), defBody (top 4), defScope (top 4), [], []⟩
def d_law_pen : He.DefD := ⟨("_law_pen", none), "_law_pen", "_law_pen", defArgs (top 42), defBody (top 42), defScope (top 42), [], []⟩
def d_law_draw : He.DefD := ⟨("_law_draw", none), "_law_draw", "_law_draw", defArgs (top 43), defBody (top 43), defScope (top 43), [], []⟩
def d_law_pick : He.DefD := ⟨("_law_pick", none), "_law_pick", "_law_pick", defArgs (top 44), defBody (top 44), defScope (top 44), [], []⟩
def d_binomial : He.DefD := ⟨("binomial", none), "binomial", "binomial", defArgs (top 19), defBody (top 19), defScope (top 19), [], []⟩
def d_choose : He.DefD := ⟨("choose", none), "choose", "choose", defArgs (top 20), defBody (top 20), defScope (top 20), [], []⟩
def d_power_of : He.DefD := ⟨("power_of", none), "power_of", "power_of", defArgs (top 21), defBody (top 21), defScope (top 21), [], []⟩
def d_need_modulus : He.DefD := ⟨("need_modulus", none), "need_modulus", "need_modulus", defArgs (top 22), defBody (top 22), defScope (top 22), [], []⟩
def d_times_in : He.DefD := ⟨("times_in", none), "times_in", "times_in", defArgs (top 23), defBody (top 23), defScope (top 23), [], []⟩
def d_small_in : He.DefD := ⟨("small_in", none), "small_in", "small_in", defArgs (top 24), defBody (top 24), defScope (top 24), [], []⟩
def d_great_in : He.DefD := ⟨("great_in", none), "great_in", "great_in", defArgs (top 25), defBody (top 25), defScope (top 25), [], []⟩
def d_great_part : He.DefD := ⟨("great_part", none), "great_part", "great_part", defArgs (top 26), defBody (top 26), defScope (top 26), [], []⟩
def d_small_parts : He.DefD := ⟨("small_parts", none), "small_parts", "small_parts", defArgs (top 27), defBody (top 27), defScope (top 27), [], []⟩
def d_common_divisor : He.DefD := ⟨("common_divisor", none), "common_divisor", "common_divisor", defArgs (top 28), defBody (top 28), defScope (top 28), [], []⟩
def d_combined : He.DefD := ⟨("combined", none), "combined", "combined", defArgs (top 29), defBody (top 29), defScope (top 29), [], []⟩
def d_SharedU_initU : He.DefD := ⟨("Shared", some "__init__"), "__init__", "Shared.__init__", defArgs (inClass (top 30) 0), defBody (inClass (top 30) 0), defScope (inClass (top 30) 0), [], []⟩
def d_shared_in : He.DefD := ⟨("shared_in", none), "shared_in", "shared_in", defArgs (top 31), defBody (top 31), defScope (top 31), [], []⟩
def d_need_numbers : He.DefD := ⟨("need_numbers", none), "need_numbers", "need_numbers", defArgs (top 32), defBody (top 32), defScope (top 32), [], []⟩
def d_shared : He.DefD := ⟨("shared", none), "shared", "shared", defArgs (top 33), defBody (top 33), defScope (top 33), [], []⟩
def d_are_multipliers : He.DefD := ⟨("are_multipliers", none), "are_multipliers", "are_multipliers", defArgs (top 34), defBody (top 34), defScope (top 34), [], []⟩
def d_shows_shared : He.DefD := ⟨("shows_shared", none), "shows_shared", "shows_shared", defArgs (top 35), defBody (top 35), defScope (top 35), [], []⟩
def d_is_part : He.DefD := ⟨("is_part", none), "is_part", "is_part", defArgs (top 36), defBody (top 36), defScope (top 36), [], []⟩
def d_joined : He.DefD := ⟨("joined", none), "joined", "joined", defArgs (top 37), defBody (top 37), defScope (top 37), [], []⟩
def d_together : He.DefD := ⟨("together", none), "together", "together", defArgs (top 38), defBody (top 38), defScope (top 38), [], []⟩
def d_least_prime_in : He.DefD := ⟨("least_prime_in", none), "least_prime_in", "least_prime_in", defArgs (top 39), defBody (top 39), defScope (top 39), [], []⟩
def d_least_prime : He.DefD := ⟨("least_prime", none), "least_prime", "least_prime", defArgs (top 40), defBody (top 40), defScope (top 40), [], []⟩
def d_law_power : He.DefD := ⟨("_law_power", none), "_law_power", "_law_power", defArgs (top 48), defBody (top 48), defScope (top 48), [], []⟩
def d_law_together : He.DefD := ⟨("_law_together", none), "_law_together", "_law_together", defArgs (top 47), defBody (top 47), defScope (top 47), [], []⟩
def d_law_shared : He.DefD := ⟨("_law_shared", none), "_law_shared", "_law_shared", defArgs (top 45), defBody (top 45), defScope (top 45), [], []⟩
def d_law_shows : He.DefD := ⟨("_law_shows", none), "_law_shows", "_law_shows", defArgs (top 46), defBody (top 46), defScope (top 46), [], []⟩
def d_law_modulus : He.DefD := ⟨("_law_modulus", none), "_law_modulus", "_law_modulus", defArgs (top 49), defBody (top 49), defScope (top 49), [], []⟩
def d_law_pieces : He.DefD := ⟨("_law_pieces", none), "_law_pieces", "_law_pieces", defArgs (top 50), defBody (top 50), defScope (top 50), [], []⟩
def d_law_put_right : He.DefD := ⟨("_law_put_right", none), "_law_put_right", "_law_put_right", defArgs (top 51), defBody (top 51), defScope (top 51), [], []⟩
def d_law_shared_right : He.DefD := ⟨("_law_shared_right", none), "_law_shared_right", "_law_shared_right", defArgs (top 52), defBody (top 52), defScope (top 52), [], []⟩
def d_law : He.DefD := ⟨("law", none), "law", "law", defArgs (top 53), defBody (top 53), defScope (top 53), [], []⟩
def fn : List He.DefD := [d_is_integer, d_is_between, d_fits_modulus, d_law_pen, d_law_draw, d_law_pick, d_binomial, d_choose, d_power_of, d_need_modulus, d_times_in, d_small_in, d_great_in, d_great_part, d_small_parts, d_common_divisor, d_combined, d_SharedU_initU, d_shared_in, d_need_numbers, d_shared, d_are_multipliers, d_shows_shared, d_is_part, d_joined, d_together, d_least_prime_in, d_least_prime, d_law_power, d_law_together, d_law_shared, d_law_shows, d_law_modulus, d_law_pieces, d_law_put_right, d_law_shared_right, d_law]
def fa : List He.Fa := [.free "bool", .free "int", .free "isinstance", .glo "is_integer", .glo "is_between", .int "MOST_MODULUS" 1000000000000000000000000000000, .free "list", .free "len", .free "abs", .glo "_law_draw", .free "range", .glo "binomial", .int "MOST_INDEX" 12, .glo "fits_modulus", .glo "times_in", .glo "PRIMES", .glo "small_in", .glo "power_of", .glo "great_in", .glo "need_modulus", .free "tuple", .cls "Shared", .glo "Shared", .noat "Shared" "multipliers", .noat "Shared" "divisor", .glo "combined", .glo "shared_in", .glo "need_numbers", .mkr "Shared", .free "all", .glo "common_divisor", .glo "are_multipliers", .free "sum", .free "zip", .int "MOST_PART" 1000000000000000000000000000000, .glo "joined", .glo "is_part", .free "enumerate", .glo "least_prime_in", .int "MOST_TRIED" 100000000, .glo "together", .glo "shared", .glo "shows_shared", .glo "_law_power", .glo "_law_pick", .glo "small_parts", .glo "great_part", .glo "choose", .glo "_law_pieces", .glo "_law_together", .glo "_law_shared", .glo "_law_shows", .glo "_law_shared_right", .glo "_law_modulus", .glo "_law_pen", .glo "_law_put_right", .glo "least_prime", .glo "law"]
def insB (K : PySem.W.Frag) (C : Addr) : Bool := He.eqO (PySem.W.findIn K (.ref C) "__class__") (some (some (.builtin "object.__class__"))) && (He.eqO (PySem.W.specialIn K (.builtin "object.__class__") "__get__") (some (some (.builtin "getset_descriptor.__get__"))) && (decide (PySem.W.takesIn K (.builtin "object.__class__") = some true) && decide (PySem.W.mroIn K C (.type "object") = some true)))
theorem insB_ok {K : PySem.W.Frag} {C : Addr} (c : Cls K C) (h : insB K C = true) : G.InsTy K C := by
  obtain ⟨h1, h⟩ := He.ba h
  obtain ⟨h2, h⟩ := He.ba h
  obtain ⟨h3, h4⟩ := He.ba h
  exact ⟨c, He.eqO_ok h1, He.eqO_ok h2, of_decide_eq_true h3, of_decide_eq_true h4⟩
def exs (K : PySem.W.Frag) : List Bool := [tupB K (He.ga K "PRIMES") [2, 3, 5, 7, 11], insB K (He.ga K "Shared"), decide (PySem.W.kitOne K (.ref (He.ga K "Shared")) (.ref (He.ga K "Shared")) = some true)]
def ex (K : PySem.W.Frag) : Bool := (exs K).all id
abbrev loose : List Str := [("MOST_MODULUS" : Str), ("is_integer" : Str), ("is_between" : Str), ("fits_modulus" : Str), ("RestError" : Str), ("BadInput" : Str), ("Refused" : Str), ("BadModulus" : Str), ("BadNumber" : Str), ("BadRow" : Str), ("Unlike" : Str), ("TooMany" : Str), ("PRIMES" : Str), ("MOST_INDEX" : Str), ("MOST_PART" : Str), ("MOST_TRIED" : Str), ("binomial" : Str), ("choose" : Str), ("power_of" : Str), ("need_modulus" : Str), ("times_in" : Str), ("small_in" : Str), ("great_in" : Str), ("great_part" : Str), ("small_parts" : Str), ("common_divisor" : Str), ("combined" : Str), ("Shared" : Str), ("shared_in" : Str), ("need_numbers" : Str), ("shared" : Str), ("are_multipliers" : Str), ("shows_shared" : Str), ("is_part" : Str), ("joined" : Str), ("together" : Str), ("least_prime_in" : Str), ("least_prime" : Str), ("_law_pen" : Str), ("_law_draw" : Str), ("_law_pick" : Str), ("_law_shared" : Str), ("_law_shows" : Str), ("_law_together" : Str), ("_law_power" : Str), ("_law_modulus" : Str), ("_law_pieces" : Str), ("_law_put_right" : Str), ("_law_shared_right" : Str)]
abbrev AlX : Type := He.AlD × Bool
def obsX (g : Addr → Option Obj) : AlX := (He.obsDG 5 fa fn g, ex (He.frG g (He.asD g 5)))
def hk : PySem.W.Hook where
  α := AlX
  obs := fun s => obsX s.heap.get?
  val := fun _ => (He.valD fn, true)
  says := fun _ h => ∃ K : PySem.W.Frag, K.In h ∧ He.SaysD fa fn K ∧ ex K = true
  of := fun _ _ e => ⟨_, He.frG_in, congrArg (fun z : AlX => z.1) e, congrArg (fun z : AlX => z.2) e⟩
  keeps := fun _ _ _ ⟨K, hK, c⟩ k => ⟨K, PySem.W.Frag.In.keeps hK k, c⟩
abbrev R : PySem.W.OpenRow := PySem.W.OpenLaw.row PySem.Challenge.rw_restchains_k07_whole_numbers_by_their_pa
def ob (s : PySem.W.SharedT) : AlX := obsX (HandSHeadRun.getT s)
theorem ob_eq (s : PySem.W.SharedT) : ob s = hk.obs s.abs := by
  have e : HandSHeadRun.getT s = s.abs.heap.get? := funext fun a => HandSHeadRun.getT_eq s a
  unfold ob
  rw [e] <;> rfl
theorem run (w : World) : HandSHeadRun.RunEq R (PySem.W.view R.prog [53]) hk ob 6000 loose w := by
  intro os
  kernel_rfl
structure Tx (K : PySem.W.Frag) (mg : Str → Option Value) : Prop where
  n_bool : mg "bool" = none
  n_int : mg "int" = none
  n_isinstance : mg "isinstance" = none
  g_is_integer : mg "is_integer" = some (.ref (He.ga K "is_integer"))
  g_is_between : mg "is_between" = some (.ref (He.ga K "is_between"))
  i_MOST_MODULUS_ : ∃ t, mg "MOST_MODULUS" = some (.int 1000000000000000000000000000000 t)
  n_list : mg "list" = none
  n_len : mg "len" = none
  n_abs : mg "abs" = none
  g__law_draw : mg "_law_draw" = some (.ref (He.ga K "_law_draw"))
  n_range : mg "range" = none
  g_binomial : mg "binomial" = some (.ref (He.ga K "binomial"))
  i_MOST_INDEX_ : ∃ t, mg "MOST_INDEX" = some (.int 12 t)
  g_fits_modulus : mg "fits_modulus" = some (.ref (He.ga K "fits_modulus"))
  g_times_in : mg "times_in" = some (.ref (He.ga K "times_in"))
  g_PRIMES : mg "PRIMES" = some (.ref (He.ga K "PRIMES"))
  g_small_in : mg "small_in" = some (.ref (He.ga K "small_in"))
  g_power_of : mg "power_of" = some (.ref (He.ga K "power_of"))
  g_great_in : mg "great_in" = some (.ref (He.ga K "great_in"))
  g_need_modulus : mg "need_modulus" = some (.ref (He.ga K "need_modulus"))
  n_tuple : mg "tuple" = none
  cl_Shared : Cls K (He.ga K "Shared")
  g_Shared : mg "Shared" = some (.ref (He.ga K "Shared"))
  na_Shared_multipliers : NoAttr K (He.ga K "Shared") "multipliers"
  na_Shared_divisor : NoAttr K (He.ga K "Shared") "divisor"
  g_combined : mg "combined" = some (.ref (He.ga K "combined"))
  g_shared_in : mg "shared_in" = some (.ref (He.ga K "shared_in"))
  g_need_numbers : mg "need_numbers" = some (.ref (He.ga K "need_numbers"))
  mk_Shared : Mk K (He.ga K "Shared") (He.ma K (He.ga K "Shared") "__init__")
  n_all : mg "all" = none
  g_common_divisor : mg "common_divisor" = some (.ref (He.ga K "common_divisor"))
  g_are_multipliers : mg "are_multipliers" = some (.ref (He.ga K "are_multipliers"))
  n_sum : mg "sum" = none
  n_zip : mg "zip" = none
  i_MOST_PART_ : ∃ t, mg "MOST_PART" = some (.int 1000000000000000000000000000000 t)
  g_joined : mg "joined" = some (.ref (He.ga K "joined"))
  g_is_part : mg "is_part" = some (.ref (He.ga K "is_part"))
  n_enumerate : mg "enumerate" = none
  g_least_prime_in : mg "least_prime_in" = some (.ref (He.ga K "least_prime_in"))
  i_MOST_TRIED_ : ∃ t, mg "MOST_TRIED" = some (.int 100000000 t)
  g_together : mg "together" = some (.ref (He.ga K "together"))
  g_shared : mg "shared" = some (.ref (He.ga K "shared"))
  g_shows_shared : mg "shows_shared" = some (.ref (He.ga K "shows_shared"))
  g__law_power : mg "_law_power" = some (.ref (He.ga K "_law_power"))
  g__law_pick : mg "_law_pick" = some (.ref (He.ga K "_law_pick"))
  g_small_parts : mg "small_parts" = some (.ref (He.ga K "small_parts"))
  g_great_part : mg "great_part" = some (.ref (He.ga K "great_part"))
  g_choose : mg "choose" = some (.ref (He.ga K "choose"))
  g__law_pieces : mg "_law_pieces" = some (.ref (He.ga K "_law_pieces"))
  g__law_together : mg "_law_together" = some (.ref (He.ga K "_law_together"))
  g__law_shared : mg "_law_shared" = some (.ref (He.ga K "_law_shared"))
  g__law_shows : mg "_law_shows" = some (.ref (He.ga K "_law_shows"))
  g__law_shared_right : mg "_law_shared_right" = some (.ref (He.ga K "_law_shared_right"))
  g__law_modulus : mg "_law_modulus" = some (.ref (He.ga K "_law_modulus"))
  g__law_pen : mg "_law_pen" = some (.ref (He.ga K "_law_pen"))
  g__law_put_right : mg "_law_put_right" = some (.ref (He.ga K "_law_put_right"))
  g_least_prime : mg "least_prime" = some (.ref (He.ga K "least_prime"))
  g_law : mg "law" = some (.ref (He.ga K "law"))
  ct_PRIMES : TupC K (He.ga K "PRIMES") [2, 3, 5, 7, 11]
  it_Shared : _root_.G.InsTy K (He.ga K "Shared")
  kit_Shared_Shared : PySem.W.kitOne K (.ref (He.ga K "Shared")) (.ref (He.ga K "Shared")) = some true
  d_is_integer : ∃ fd, FunD K "is_integer" "is_integer" (defArgs (top 2)) (defBody (top 2)) (defScope (top 2)) [] [] (He.fAd K ("is_integer", none)) fd
  d_is_between : ∃ fd, FunD K "is_between" "is_between" (defArgs (top 3)) (defBody (top 3)) (defScope (top 3)) [] [] (He.fAd K ("is_between", none)) fd
  d_fits_modulus : ∃ fd, FunD K "fits_modulus" "fits_modulus" (defArgs (top 4)) (defBody (top 4)) (defScope (top 4)) [] [] (He.fAd K ("fits_modulus", none)) fd
  d_law_pen : ∃ fd, FunD K "_law_pen" "_law_pen" (defArgs (top 42)) (defBody (top 42)) (defScope (top 42)) [] [] (He.fAd K ("_law_pen", none)) fd
  d_law_draw : ∃ fd, FunD K "_law_draw" "_law_draw" (defArgs (top 43)) (defBody (top 43)) (defScope (top 43)) [] [] (He.fAd K ("_law_draw", none)) fd
  d_law_pick : ∃ fd, FunD K "_law_pick" "_law_pick" (defArgs (top 44)) (defBody (top 44)) (defScope (top 44)) [] [] (He.fAd K ("_law_pick", none)) fd
  d_binomial : ∃ fd, FunD K "binomial" "binomial" (defArgs (top 19)) (defBody (top 19)) (defScope (top 19)) [] [] (He.fAd K ("binomial", none)) fd
  d_choose : ∃ fd, FunD K "choose" "choose" (defArgs (top 20)) (defBody (top 20)) (defScope (top 20)) [] [] (He.fAd K ("choose", none)) fd
  d_power_of : ∃ fd, FunD K "power_of" "power_of" (defArgs (top 21)) (defBody (top 21)) (defScope (top 21)) [] [] (He.fAd K ("power_of", none)) fd
  d_need_modulus : ∃ fd, FunD K "need_modulus" "need_modulus" (defArgs (top 22)) (defBody (top 22)) (defScope (top 22)) [] [] (He.fAd K ("need_modulus", none)) fd
  d_times_in : ∃ fd, FunD K "times_in" "times_in" (defArgs (top 23)) (defBody (top 23)) (defScope (top 23)) [] [] (He.fAd K ("times_in", none)) fd
  d_small_in : ∃ fd, FunD K "small_in" "small_in" (defArgs (top 24)) (defBody (top 24)) (defScope (top 24)) [] [] (He.fAd K ("small_in", none)) fd
  d_great_in : ∃ fd, FunD K "great_in" "great_in" (defArgs (top 25)) (defBody (top 25)) (defScope (top 25)) [] [] (He.fAd K ("great_in", none)) fd
  d_great_part : ∃ fd, FunD K "great_part" "great_part" (defArgs (top 26)) (defBody (top 26)) (defScope (top 26)) [] [] (He.fAd K ("great_part", none)) fd
  d_small_parts : ∃ fd, FunD K "small_parts" "small_parts" (defArgs (top 27)) (defBody (top 27)) (defScope (top 27)) [] [] (He.fAd K ("small_parts", none)) fd
  d_common_divisor : ∃ fd, FunD K "common_divisor" "common_divisor" (defArgs (top 28)) (defBody (top 28)) (defScope (top 28)) [] [] (He.fAd K ("common_divisor", none)) fd
  d_combined : ∃ fd, FunD K "combined" "combined" (defArgs (top 29)) (defBody (top 29)) (defScope (top 29)) [] [] (He.fAd K ("combined", none)) fd
  d_SharedU_initU : ∃ fd, FunD K "__init__" "Shared.__init__" (defArgs (inClass (top 30) 0)) (defBody (inClass (top 30) 0)) (defScope (inClass (top 30) 0)) [] [] (He.fAd K ("Shared", some "__init__")) fd
  d_shared_in : ∃ fd, FunD K "shared_in" "shared_in" (defArgs (top 31)) (defBody (top 31)) (defScope (top 31)) [] [] (He.fAd K ("shared_in", none)) fd
  d_need_numbers : ∃ fd, FunD K "need_numbers" "need_numbers" (defArgs (top 32)) (defBody (top 32)) (defScope (top 32)) [] [] (He.fAd K ("need_numbers", none)) fd
  d_shared : ∃ fd, FunD K "shared" "shared" (defArgs (top 33)) (defBody (top 33)) (defScope (top 33)) [] [] (He.fAd K ("shared", none)) fd
  d_are_multipliers : ∃ fd, FunD K "are_multipliers" "are_multipliers" (defArgs (top 34)) (defBody (top 34)) (defScope (top 34)) [] [] (He.fAd K ("are_multipliers", none)) fd
  d_shows_shared : ∃ fd, FunD K "shows_shared" "shows_shared" (defArgs (top 35)) (defBody (top 35)) (defScope (top 35)) [] [] (He.fAd K ("shows_shared", none)) fd
  d_is_part : ∃ fd, FunD K "is_part" "is_part" (defArgs (top 36)) (defBody (top 36)) (defScope (top 36)) [] [] (He.fAd K ("is_part", none)) fd
  d_joined : ∃ fd, FunD K "joined" "joined" (defArgs (top 37)) (defBody (top 37)) (defScope (top 37)) [] [] (He.fAd K ("joined", none)) fd
  d_together : ∃ fd, FunD K "together" "together" (defArgs (top 38)) (defBody (top 38)) (defScope (top 38)) [] [] (He.fAd K ("together", none)) fd
  d_least_prime_in : ∃ fd, FunD K "least_prime_in" "least_prime_in" (defArgs (top 39)) (defBody (top 39)) (defScope (top 39)) [] [] (He.fAd K ("least_prime_in", none)) fd
  d_least_prime : ∃ fd, FunD K "least_prime" "least_prime" (defArgs (top 40)) (defBody (top 40)) (defScope (top 40)) [] [] (He.fAd K ("least_prime", none)) fd
  d_law_power : ∃ fd, FunD K "_law_power" "_law_power" (defArgs (top 48)) (defBody (top 48)) (defScope (top 48)) [] [] (He.fAd K ("_law_power", none)) fd
  d_law_together : ∃ fd, FunD K "_law_together" "_law_together" (defArgs (top 47)) (defBody (top 47)) (defScope (top 47)) [] [] (He.fAd K ("_law_together", none)) fd
  d_law_shared : ∃ fd, FunD K "_law_shared" "_law_shared" (defArgs (top 45)) (defBody (top 45)) (defScope (top 45)) [] [] (He.fAd K ("_law_shared", none)) fd
  d_law_shows : ∃ fd, FunD K "_law_shows" "_law_shows" (defArgs (top 46)) (defBody (top 46)) (defScope (top 46)) [] [] (He.fAd K ("_law_shows", none)) fd
  d_law_modulus : ∃ fd, FunD K "_law_modulus" "_law_modulus" (defArgs (top 49)) (defBody (top 49)) (defScope (top 49)) [] [] (He.fAd K ("_law_modulus", none)) fd
  d_law_pieces : ∃ fd, FunD K "_law_pieces" "_law_pieces" (defArgs (top 50)) (defBody (top 50)) (defScope (top 50)) [] [] (He.fAd K ("_law_pieces", none)) fd
  d_law_put_right : ∃ fd, FunD K "_law_put_right" "_law_put_right" (defArgs (top 51)) (defBody (top 51)) (defScope (top 51)) [] [] (He.fAd K ("_law_put_right", none)) fd
  d_law_shared_right : ∃ fd, FunD K "_law_shared_right" "_law_shared_right" (defArgs (top 52)) (defBody (top 52)) (defScope (top 52)) [] [] (He.fAd K ("_law_shared_right", none)) fd
  d_law : ∃ fd, FunD K "law" "law" (defArgs (top 53)) (defBody (top 53)) (defScope (top 53)) [] [] (He.fAd K ("law", none)) fd
theorem tx {K : PySem.W.Frag} {mg : Str → Option Value} {h : Heap} (X : K.In h) (G : h.Ns mainGlobals mg) (c : He.SaysD fa fn K) (e : ex K = true) : Tx K mg := by
  have e2 : ∀ i b, (exs K)[i]? = some b → b = true := fun i b hb => List.all_eq_true.mp e b (List.mem_of_getElem? hb)
  have T_n_bool : mg "bool" = none := He.free_ok X G (c.fact 0 (f := .free "bool") rfl)
  have T_n_int : mg "int" = none := He.free_ok X G (c.fact 1 (f := .free "int") rfl)
  have T_n_isinstance : mg "isinstance" = none := He.free_ok X G (c.fact 2 (f := .free "isinstance") rfl)
  have T_g_is_integer : mg "is_integer" = some (.ref (He.ga K "is_integer")) := He.glo_ok X G (c.fact 3 (f := .glo "is_integer") rfl)
  have T_g_is_between : mg "is_between" = some (.ref (He.ga K "is_between")) := He.glo_ok X G (c.fact 4 (f := .glo "is_between") rfl)
  have T_i_MOST_MODULUS_ : ∃ t, mg "MOST_MODULUS" = some (.int 1000000000000000000000000000000 t) := He.int_ok X G (c.fact 5 (f := .int "MOST_MODULUS" 1000000000000000000000000000000) rfl)
  have T_n_list : mg "list" = none := He.free_ok X G (c.fact 6 (f := .free "list") rfl)
  have T_n_len : mg "len" = none := He.free_ok X G (c.fact 7 (f := .free "len") rfl)
  have T_n_abs : mg "abs" = none := He.free_ok X G (c.fact 8 (f := .free "abs") rfl)
  have T_g__law_draw : mg "_law_draw" = some (.ref (He.ga K "_law_draw")) := He.glo_ok X G (c.fact 9 (f := .glo "_law_draw") rfl)
  have T_n_range : mg "range" = none := He.free_ok X G (c.fact 10 (f := .free "range") rfl)
  have T_g_binomial : mg "binomial" = some (.ref (He.ga K "binomial")) := He.glo_ok X G (c.fact 11 (f := .glo "binomial") rfl)
  have T_i_MOST_INDEX_ : ∃ t, mg "MOST_INDEX" = some (.int 12 t) := He.int_ok X G (c.fact 12 (f := .int "MOST_INDEX" 12) rfl)
  have T_g_fits_modulus : mg "fits_modulus" = some (.ref (He.ga K "fits_modulus")) := He.glo_ok X G (c.fact 13 (f := .glo "fits_modulus") rfl)
  have T_g_times_in : mg "times_in" = some (.ref (He.ga K "times_in")) := He.glo_ok X G (c.fact 14 (f := .glo "times_in") rfl)
  have T_g_PRIMES : mg "PRIMES" = some (.ref (He.ga K "PRIMES")) := He.glo_ok X G (c.fact 15 (f := .glo "PRIMES") rfl)
  have T_g_small_in : mg "small_in" = some (.ref (He.ga K "small_in")) := He.glo_ok X G (c.fact 16 (f := .glo "small_in") rfl)
  have T_g_power_of : mg "power_of" = some (.ref (He.ga K "power_of")) := He.glo_ok X G (c.fact 17 (f := .glo "power_of") rfl)
  have T_g_great_in : mg "great_in" = some (.ref (He.ga K "great_in")) := He.glo_ok X G (c.fact 18 (f := .glo "great_in") rfl)
  have T_g_need_modulus : mg "need_modulus" = some (.ref (He.ga K "need_modulus")) := He.glo_ok X G (c.fact 19 (f := .glo "need_modulus") rfl)
  have T_n_tuple : mg "tuple" = none := He.free_ok X G (c.fact 20 (f := .free "tuple") rfl)
  have T_cl_Shared : Cls K (He.ga K "Shared") := He.cls_ok (c.fact 21 (f := .cls "Shared") rfl)
  have T_g_Shared : mg "Shared" = some (.ref (He.ga K "Shared")) := He.glo_ok X G (c.fact 22 (f := .glo "Shared") rfl)
  have T_na_Shared_multipliers : NoAttr K (He.ga K "Shared") "multipliers" := He.noat_ok (c.fact 23 (f := .noat "Shared" "multipliers") rfl)
  have T_na_Shared_divisor : NoAttr K (He.ga K "Shared") "divisor" := He.noat_ok (c.fact 24 (f := .noat "Shared" "divisor") rfl)
  have T_g_combined : mg "combined" = some (.ref (He.ga K "combined")) := He.glo_ok X G (c.fact 25 (f := .glo "combined") rfl)
  have T_g_shared_in : mg "shared_in" = some (.ref (He.ga K "shared_in")) := He.glo_ok X G (c.fact 26 (f := .glo "shared_in") rfl)
  have T_g_need_numbers : mg "need_numbers" = some (.ref (He.ga K "need_numbers")) := He.glo_ok X G (c.fact 27 (f := .glo "need_numbers") rfl)
  have T_mk_Shared : Mk K (He.ga K "Shared") (He.ma K (He.ga K "Shared") "__init__") := He.mkr_ok (c.fact 28 (f := .mkr "Shared") rfl)
  have T_n_all : mg "all" = none := He.free_ok X G (c.fact 29 (f := .free "all") rfl)
  have T_g_common_divisor : mg "common_divisor" = some (.ref (He.ga K "common_divisor")) := He.glo_ok X G (c.fact 30 (f := .glo "common_divisor") rfl)
  have T_g_are_multipliers : mg "are_multipliers" = some (.ref (He.ga K "are_multipliers")) := He.glo_ok X G (c.fact 31 (f := .glo "are_multipliers") rfl)
  have T_n_sum : mg "sum" = none := He.free_ok X G (c.fact 32 (f := .free "sum") rfl)
  have T_n_zip : mg "zip" = none := He.free_ok X G (c.fact 33 (f := .free "zip") rfl)
  have T_i_MOST_PART_ : ∃ t, mg "MOST_PART" = some (.int 1000000000000000000000000000000 t) := He.int_ok X G (c.fact 34 (f := .int "MOST_PART" 1000000000000000000000000000000) rfl)
  have T_g_joined : mg "joined" = some (.ref (He.ga K "joined")) := He.glo_ok X G (c.fact 35 (f := .glo "joined") rfl)
  have T_g_is_part : mg "is_part" = some (.ref (He.ga K "is_part")) := He.glo_ok X G (c.fact 36 (f := .glo "is_part") rfl)
  have T_n_enumerate : mg "enumerate" = none := He.free_ok X G (c.fact 37 (f := .free "enumerate") rfl)
  have T_g_least_prime_in : mg "least_prime_in" = some (.ref (He.ga K "least_prime_in")) := He.glo_ok X G (c.fact 38 (f := .glo "least_prime_in") rfl)
  have T_i_MOST_TRIED_ : ∃ t, mg "MOST_TRIED" = some (.int 100000000 t) := He.int_ok X G (c.fact 39 (f := .int "MOST_TRIED" 100000000) rfl)
  have T_g_together : mg "together" = some (.ref (He.ga K "together")) := He.glo_ok X G (c.fact 40 (f := .glo "together") rfl)
  have T_g_shared : mg "shared" = some (.ref (He.ga K "shared")) := He.glo_ok X G (c.fact 41 (f := .glo "shared") rfl)
  have T_g_shows_shared : mg "shows_shared" = some (.ref (He.ga K "shows_shared")) := He.glo_ok X G (c.fact 42 (f := .glo "shows_shared") rfl)
  have T_g__law_power : mg "_law_power" = some (.ref (He.ga K "_law_power")) := He.glo_ok X G (c.fact 43 (f := .glo "_law_power") rfl)
  have T_g__law_pick : mg "_law_pick" = some (.ref (He.ga K "_law_pick")) := He.glo_ok X G (c.fact 44 (f := .glo "_law_pick") rfl)
  have T_g_small_parts : mg "small_parts" = some (.ref (He.ga K "small_parts")) := He.glo_ok X G (c.fact 45 (f := .glo "small_parts") rfl)
  have T_g_great_part : mg "great_part" = some (.ref (He.ga K "great_part")) := He.glo_ok X G (c.fact 46 (f := .glo "great_part") rfl)
  have T_g_choose : mg "choose" = some (.ref (He.ga K "choose")) := He.glo_ok X G (c.fact 47 (f := .glo "choose") rfl)
  have T_g__law_pieces : mg "_law_pieces" = some (.ref (He.ga K "_law_pieces")) := He.glo_ok X G (c.fact 48 (f := .glo "_law_pieces") rfl)
  have T_g__law_together : mg "_law_together" = some (.ref (He.ga K "_law_together")) := He.glo_ok X G (c.fact 49 (f := .glo "_law_together") rfl)
  have T_g__law_shared : mg "_law_shared" = some (.ref (He.ga K "_law_shared")) := He.glo_ok X G (c.fact 50 (f := .glo "_law_shared") rfl)
  have T_g__law_shows : mg "_law_shows" = some (.ref (He.ga K "_law_shows")) := He.glo_ok X G (c.fact 51 (f := .glo "_law_shows") rfl)
  have T_g__law_shared_right : mg "_law_shared_right" = some (.ref (He.ga K "_law_shared_right")) := He.glo_ok X G (c.fact 52 (f := .glo "_law_shared_right") rfl)
  have T_g__law_modulus : mg "_law_modulus" = some (.ref (He.ga K "_law_modulus")) := He.glo_ok X G (c.fact 53 (f := .glo "_law_modulus") rfl)
  have T_g__law_pen : mg "_law_pen" = some (.ref (He.ga K "_law_pen")) := He.glo_ok X G (c.fact 54 (f := .glo "_law_pen") rfl)
  have T_g__law_put_right : mg "_law_put_right" = some (.ref (He.ga K "_law_put_right")) := He.glo_ok X G (c.fact 55 (f := .glo "_law_put_right") rfl)
  have T_g_least_prime : mg "least_prime" = some (.ref (He.ga K "least_prime")) := He.glo_ok X G (c.fact 56 (f := .glo "least_prime") rfl)
  have T_g_law : mg "law" = some (.ref (He.ga K "law")) := He.glo_ok X G (c.fact 57 (f := .glo "law") rfl)
  have T_ct_PRIMES : TupC K (He.ga K "PRIMES") [2, 3, 5, 7, 11] := tupB_ok (e2 0 _ rfl)
  have T_it_Shared : _root_.G.InsTy K (He.ga K "Shared") := insB_ok T_cl_Shared (e2 1 _ rfl)
  have T_kit_Shared_Shared : PySem.W.kitOne K (.ref (He.ga K "Shared")) (.ref (He.ga K "Shared")) = some true := of_decide_eq_true (e2 2 _ rfl)
  exact ⟨T_n_bool, T_n_int, T_n_isinstance, T_g_is_integer, T_g_is_between, T_i_MOST_MODULUS_, T_n_list, T_n_len, T_n_abs, T_g__law_draw, T_n_range, T_g_binomial, T_i_MOST_INDEX_, T_g_fits_modulus, T_g_times_in, T_g_PRIMES, T_g_small_in, T_g_power_of, T_g_great_in, T_g_need_modulus, T_n_tuple, T_cl_Shared, T_g_Shared, T_na_Shared_multipliers, T_na_Shared_divisor, T_g_combined, T_g_shared_in, T_g_need_numbers, T_mk_Shared, T_n_all, T_g_common_divisor, T_g_are_multipliers, T_n_sum, T_n_zip, T_i_MOST_PART_, T_g_joined, T_g_is_part, T_n_enumerate, T_g_least_prime_in, T_i_MOST_TRIED_, T_g_together, T_g_shared, T_g_shows_shared, T_g__law_power, T_g__law_pick, T_g_small_parts, T_g_great_part, T_g_choose, T_g__law_pieces, T_g__law_together, T_g__law_shared, T_g__law_shows, T_g__law_shared_right, T_g__law_modulus, T_g__law_pen, T_g__law_put_right, T_g_least_prime, T_g_law, T_ct_PRIMES, T_it_Shared, T_kit_Shared_Shared, (c.def_ 0 (d := d_is_integer) rfl), (c.def_ 1 (d := d_is_between) rfl), (c.def_ 2 (d := d_fits_modulus) rfl), (c.def_ 3 (d := d_law_pen) rfl), (c.def_ 4 (d := d_law_draw) rfl), (c.def_ 5 (d := d_law_pick) rfl), (c.def_ 6 (d := d_binomial) rfl), (c.def_ 7 (d := d_choose) rfl), (c.def_ 8 (d := d_power_of) rfl), (c.def_ 9 (d := d_need_modulus) rfl), (c.def_ 10 (d := d_times_in) rfl), (c.def_ 11 (d := d_small_in) rfl), (c.def_ 12 (d := d_great_in) rfl), (c.def_ 13 (d := d_great_part) rfl), (c.def_ 14 (d := d_small_parts) rfl), (c.def_ 15 (d := d_common_divisor) rfl), (c.def_ 16 (d := d_combined) rfl), (c.def_ 17 (d := d_SharedU_initU) rfl), (c.def_ 18 (d := d_shared_in) rfl), (c.def_ 19 (d := d_need_numbers) rfl), (c.def_ 20 (d := d_shared) rfl), (c.def_ 21 (d := d_are_multipliers) rfl), (c.def_ 22 (d := d_shows_shared) rfl), (c.def_ 23 (d := d_is_part) rfl), (c.def_ 24 (d := d_joined) rfl), (c.def_ 25 (d := d_together) rfl), (c.def_ 26 (d := d_least_prime_in) rfl), (c.def_ 27 (d := d_least_prime) rfl), (c.def_ 28 (d := d_law_power) rfl), (c.def_ 29 (d := d_law_together) rfl), (c.def_ 30 (d := d_law_shared) rfl), (c.def_ 31 (d := d_law_shows) rfl), (c.def_ 32 (d := d_law_modulus) rfl), (c.def_ 33 (d := d_law_pieces) rfl), (c.def_ 34 (d := d_law_put_right) rfl), (c.def_ 35 (d := d_law_shared_right) rfl), (c.def_ 36 (d := d_law) rfl)⟩
end My

set_option Elab.async false
set_option linter.all false
set_option maxRecDepth 100000
set_option maxHeartbeats 0
namespace My
open PySem PySem.Spec PyProof.Rows L2 G

local macro_rules | `(tactic| walk_at "ws") => `(tactic| first
  | with_reducible refine s_set ?_
  | with_reducible refine s_if ?_
  | with_reducible refine s_ret ?_
  | with_reducible refine s_retN ?_
  | with_reducible refine s_drop ?_
  | with_reducible refine s_next ?_
  | with_reducible refine s_par ?_
  | with_reducible refine s_par3 ?_
  | refine s_fldN (by assumption) (by assumption) ?_
  | with_reducible refine s_asg ?_)
local macro_rules | `(tactic| walk_at "we") => `(tactic| first
  | ((with_reducible refine w_v (d := ?k2) ?k1 ?_); (case k1 => exact rfl))
  | ((with_reducible refine w_o (j := ?k2) ?k1 ?_); (case k1 => exact rfl))
  | ((guard_target = G.WE _ _ (tFld _ _ _) _ _ _ _); (refine w_fldN (by assumption) (by assumption) ?_))
  | ((guard_target = G.WE _ _ (tC (.ref _)) _ _ _ _); (refine w_ctup (by assumption) ?_))
  | with_reducible refine w_ci ?_
  | with_reducible refine w_op ?_
  | with_reducible refine w_call ?_
  | with_reducible refine w_cty ?_
  | with_reducible refine w_cb ?_
  | with_reducible refine w_cn ?_
  | with_reducible refine w_cs ?_
  | with_reducible refine w_cr ?_
  | with_reducible refine w_un ?_
  | with_reducible refine w_andV ?_
  | with_reducible refine w_orV ?_
  | with_reducible refine w_notV ?_
  | with_reducible refine w_ife ?_
  | with_reducible refine w_chain ?_
  | with_reducible refine w_tup ?_
  | with_reducible refine w_revL ?_
  | with_reducible refine w_slL ?_
  | with_reducible refine w_slT ?_
  | (guard_target = G.WE _ _ (tCall (lift _ (sp_draw _)) _ _ _) _ _ _ _; refine w_fn10 0 ?_)
  | (guard_target = G.WE _ _ (tCall (lift _ (sp_pick _)) _ _ _) _ _ _ _; refine w_fn10 0 ?_)
  | (guard_target = G.WE _ _ (tCall (lift _ (sp_l_modulus _)) _ _ _) _ _ _ _; refine w_fn10 0 ?_)
  | (guard_target = G.WE _ _ (tCall (lift _ (sp_l_put _)) _ _ _) _ _ _ _; refine w_fn10 0 ?_)
  | (guard_target = G.WE _ _ (tCall (lift _ (sp_l_share _)) _ _ _) _ _ _ _; refine w_fn10 0 ?_)
  | with_reducible refine w_fn0 ?_
  | with_reducible refine w_fnS0 ?_
  | with_reducible refine w_meth0 ?_
  | with_reducible refine w_make0 ?_
  | with_reducible refine w_bmL ?_
  | with_reducible refine w_bmL0 ?_
  | with_reducible refine w_lst ?_)
local macro_rules | `(tactic| walk_at "wt") => `(tactic| first
  | with_reducible refine w_test ?_
  | with_reducible refine w_B ?_
  | with_reducible refine w_and ?_
  | with_reducible refine w_or ?_
  | with_reducible refine w_not ?_)
local macro_rules | `(tactic| walk_at "wa") => `(tactic| first
  | with_reducible refine w_cons ?_
  | with_reducible refine w_nil ?_
  | with_reducible refine w_star ?_)
local macro_rules | `(tactic| walk_at "wr") => `(tactic| first
  | with_reducible refine w_add ?_
  | with_reducible refine w_sub ?_
  | with_reducible refine w_lt ?_
  | with_reducible refine w_le ?_
  | with_reducible refine w_gt ?_
  | with_reducible refine w_ge ?_
  | with_reducible refine w_eqI ?_
  | with_reducible refine w_neI ?_
  | with_reducible refine w_isN ?_
  | with_reducible refine w_notN ?_
  | ((with_reducible refine w_mod ?k1 ?_); (case k1 => first | decide | omega))
  | ((with_reducible refine w_mul ?k1 ?_); (case k1 => first | exact Or.inl ⟨by decide, by decide⟩ | exact Or.inr ⟨by decide, by decide⟩ | exact Or.inl ⟨by omega, by omega⟩ | exact Or.inr ⟨by omega, by omega⟩))
  | ((with_reducible refine w_pow ?k1 ?_); (case k1 => first | exact ⟨by decide, by decide, by decide⟩ | exact ⟨by omega, by omega, by omega⟩))
  | ((with_reducible refine w_fdivW ?k1 ?_); (case k1 => exact divW_ok (by first | decide | omega) (by first | decide | omega)))
  | ((with_reducible refine w_mulW ?k1 ?_); (case k1 => exact mulW_ok ⟨by omega, by omega⟩ ⟨by omega, by omega⟩))
  | ((guard_target = G.WR _ (rIxT _) _ _ _ _); (refine w_ixT (by first | exact atI_0 | exact atI_1 | exact atI_2 | exact atI_3 | exact atI_4 | exact atI_5 | exact atI_6 | assumption) ?_))
  | ((guard_target = G.WR _ (rIxL _) _ _ _ _); (refine w_ixL (by first | exact lstD_v | exact lstD_o rfl) (by first | exact atI_0 | exact atI_1 | exact atI_2 | exact atI_3 | exact atI_4 | exact atI_5 | exact atI_6 | assumption) ?_)))
local macro_rules | `(tactic| walk_at "wc") => `(tactic| first
  | with_reducible refine c_int ?_
  | with_reducible refine c_intB ?_
  | with_reducible refine c_abs ?_
  | ((guard_target = G.WC _ (G.rLen _) _ _ _); (refine c_lenL (by first | exact lstD_v | exact lstD_o rfl) ?_))
  | with_reducible refine c_lenT ?_
  | ((guard_target = G.WC _ (G.rListOf _) _ _ _); (refine c_listL (by first | exact lstD_v | exact lstD_o rfl) ?_))
  | with_reducible refine c_listT ?_
  | ((guard_target = G.WC _ (G.rTupOf _) _ _ _); (refine c_tupL (by first | exact lstD_v | exact lstD_o rfl) ?_))
  | with_reducible refine c_tupT ?_)
local macro_rules | `(tactic| walk_at "e") => `(tactic| first
  | (guard_target = G.WE _ _ _ _ _ _ _; walk_at "we")
  | (guard_target = G.WS _ _ _ _ _ _; walk_at "ws")
  | (guard_target = G.WA _ _ _ _ _ _ _; walk_at "wa")
  | (guard_target = G.WR _ _ _ _ _ _; walk_at "wr")
  | (guard_target = G.WT _ _ _ _ _ _ _; walk_at "wt")
  | (guard_target = G.WC _ _ _ _ _; walk_at "wc")
  | (guard_target = G.WU _ _ _ _ _; with_reducible refine w_neg ?_)
  | (guard_target = G.WG _ _ _ _ _ _ _; first | with_reducible refine g_name ?_ | with_reducible refine g_setL ?_ | refine g_pair rfl ?_ | refine g_trip rfl ?_ | refine g_quad rfl ?_)
  | (guard_target = G.WO _ _ _ _ _ _ _; first | with_reducible refine o_none ?_ | with_reducible refine o_some ?_)
  | with_reducible refine tt_ ?_
  | with_reducible refine ff_ ?_
  | with_reducible refine ntt_ ?_
  | with_reducible refine nff_ ?_
  | ((guard_target = ((!G.isNon _) = true → _) ∧ _); (first | refine bnF rfl ?_ | refine bnT rfl ?_))
  | ((guard_target = (G.isNon _ = true → _) ∧ _); (first | refine bF rfl ?_ | refine bT rfl ?_))
  | (guard_target = Exists _; first
    | refine ⟨_, rfl, Nat.le_of_ble_eq_true rfl, Nat.le_of_ble_eq_true rfl, ?_⟩
    | refine ⟨_, _, _, _, _, rfl, rfl, rfl, rfl, rfl, ?_⟩
    | refine ⟨_, _, _, rfl, rfl, rfl, Nat.le_of_ble_eq_true rfl, ?_⟩
    | refine ⟨_, _, rfl, rfl, rfl, ?_⟩
    | refine ⟨_, _, _, rfl, ?_⟩
    | refine ⟨_, _, (by first | exact insD_v | exact insD_o rfl), rfl, ?_⟩
    | refine ⟨_, _, rfl, ?_⟩
    | refine ⟨_, rfl, rfl, ?_⟩
    | refine ⟨_, rfl, Nat.le_of_ble_eq_true rfl, ?_⟩
    | refine ⟨_, (by first | exact lstD_v | exact lstD_o rfl), ?_⟩
    | refine ⟨_, rfl, ?_⟩))
local macro_rules | `(tactic| walk_at "o") => `(tactic| first | with_reducible refine w_lstO ?_ | walk_at "e")
local macro_rules | `(tactic| walk_at "g") => `(tactic| first | walk_at "e" | with_reducible refine s_seq ?_)
local macro_rules | `(tactic| walk_at "n") => `(tactic| (with_reducible refine s_seq ?_); (repeat walk_at "e"))

def sp_is_integer (K : PySem.W.Frag) : SpD := fun ts O P _ => ∃ d b, ts = [.v d] ∧ O = [] ∧ IntQ K d b ∧ P (.v (.bl b)) []
theorem sp_is_integer_len {K : PySem.W.Frag} {ts O P X} (h : sp_is_integer K ts O P X) : ts.length = 1 := by
  obtain ⟨d, b, rfl, _⟩ := h
  rfl
theorem u_is_integer {K : PySem.W.Frag} {P : PT'} {X : XX} {d : D} {b : Bool} (h : IntQ K d b) (k : P (.v (.bl b)) []) : sp_is_integer K [.v d] [] P X := ⟨d, b, rfl, rfl, h, k⟩
/-- whether a value is an integer between two bounds -/
def BtwQ (K : PySem.W.Frag) (d : D) (lo hi : Int) (b : Bool) : Prop := (∃ n, d = .int n ∧ b = (decide (lo ≤ n) && decide (n ≤ hi))) ∨ (IntQ K d false ∧ b = false)
theorem btw_int {K : PySem.W.Frag} {n lo hi : Int} (h1 : lo ≤ n) (h2 : n ≤ hi) : BtwQ K (.int n) lo hi true := .inl ⟨n, rfl, by rw [decide_eq_true h1, decide_eq_true h2] <;> rfl⟩
def sp_is_between (K : PySem.W.Frag) : SpD := fun ts O P _ => ∃ d lo hi b, ts = [.v d, .v (.int lo), .v (.int hi)] ∧ O = [] ∧ BtwQ K d lo hi b ∧ P (.v (.bl b)) []
theorem sp_is_between_len {K : PySem.W.Frag} {ts O P X} (h : sp_is_between K ts O P X) : ts.length = 3 := by
  obtain ⟨d, lo, hi, b, rfl, _⟩ := h
  rfl
theorem u_is_between {K : PySem.W.Frag} {P : PT'} {X : XX} {d : D} {lo hi : Int} {b : Bool} (h : BtwQ K d lo hi b) (k : P (.v (.bl b)) []) : sp_is_between K [.v d, .v (.int lo), .v (.int hi)] [] P X := ⟨d, lo, hi, b, rfl, rfl, h, k⟩
theorem u_between {K : PySem.W.Frag} {P : PT'} {X : XX} {n lo hi : Int} (h1 : lo ≤ n) (h2 : n ≤ hi) (k : P (.v (.bl true)) []) : sp_is_between K [.v (.int n), .v (.int lo), .v (.int hi)] [] P X := u_is_between (btw_int h1 h2) k
def sp_fits_modulus (K : PySem.W.Frag) : SpD := fun ts O P _ => ∃ d b, ts = [.v d] ∧ O = [] ∧ BtwQ K d 2 1000000000000000000000000000000 b ∧ P (.v (.bl b)) []
theorem sp_fits_modulus_len {K : PySem.W.Frag} {ts O P X} (h : sp_fits_modulus K ts O P X) : ts.length = 1 := by
  obtain ⟨d, b, rfl, _⟩ := h
  rfl
theorem u_fits_modulus {K : PySem.W.Frag} {P : PT'} {X : XX} {d : D} {b : Bool} (h : BtwQ K d 2 1000000000000000000000000000000 b) (k : P (.v (.bl b)) []) : sp_fits_modulus K [.v d] [] P X := ⟨d, b, rfl, rfl, h, k⟩
/-- whether a value is a list or a tuple -/
def RowQ (K : PySem.W.Frag) (d : D) (b : Bool) : Prop := ∃ t, TyD K d t ∧ PySem.W.kitAny K t [.type "list", .type "tuple"] = some b
theorem rowQ_lst {K : PySem.W.Frag} {ds : List D} : RowQ K (.lst ds) true := ⟨_, .lst ds, kitAny_cons (kit_ty (b := "list") (r := true) (by decide +kernel)) (fun z => by cases z) fun _ => rfl⟩
theorem rowQ_tup {K : PySem.W.Frag} {ds : List D} : RowQ K (.tup ds) true := ⟨_, .tup ds, kitAny_cons (kit_ty (b := "list") (r := false) (by decide +kernel)) (fun _ => kitAny_cons (kit_ty (b := "tuple") (r := true) (by decide +kernel)) (fun z => by cases z) fun _ => rfl) fun z => by cases z⟩
def sp_is_row (K : PySem.W.Frag) : SpD := fun ts O P _ => ∃ d b, ts = [.v d] ∧ O = [] ∧ RowQ K d b ∧ P (.v (.bl b)) []
theorem sp_is_row_len {K : PySem.W.Frag} {ts O P X} (h : sp_is_row K ts O P X) : ts.length = 1 := by
  obtain ⟨d, b, rfl, _⟩ := h
  rfl
theorem u_is_row {K : PySem.W.Frag} {P : PT'} {X : XX} {d : D} {b : Bool} (h : RowQ K d b) (k : P (.v (.bl b)) []) : sp_is_row K [.v d] [] P X := ⟨d, b, rfl, rfl, h, k⟩
/-- the first place that is no integer between the bounds, in a tuple of integers that are -/
def sp_first_odd (K : PySem.W.Frag) : SpD := fun ts O P _ => ∃ ns lo hi, ts = [.v (.tup (nums ns)), .v (.int lo), .v (.int hi)] ∧ O = [] ∧ (∀ n ∈ ns, lo ≤ n ∧ n ≤ hi) ∧ P (.v .non) []
theorem sp_first_odd_len {K : PySem.W.Frag} {ts O P X} (h : sp_first_odd K ts O P X) : ts.length = 3 := by
  obtain ⟨ns, lo, hi, rfl, _⟩ := h
  rfl
theorem sc_is_integer : FnScope ["value"] ["value"] (defScope (top 2)) := ⟨rfl, rfl, rfl, by decide +kernel, rfl, by decide +kernel, by decide +kernel⟩
theorem ok_is_integer {P : Program} {w : World} {K : PySem.W.Frag} {mg : Str → Option Value} {base : Heap} (T : Tx K mg)  : Fn P w K mg base 1 (He.fAd K ("is_integer", none)) ["value"] (sp_is_integer K) := by
  obtain ⟨fd, F⟩ := T.d_is_integer
  refine ⟨fd, F.ok sc_is_integer (lift_len ?_) (fun cdv A outer s H vs Q E hr h => ?_), F.bindsN fun _ _ _ _ _ _ us hl => (match us, hl with | [_], _ => rfl), F.kp, lk_of F⟩
  · intro ts O P X h
    exact sp_is_integer_len h
  · have hu := hr.units
    refine ⟨_, (PSs.nox (pss_one (ps_ret (pe_and (pe_callB (call_isiK K) (by rfl) T.n_isinstance boot_isinstance (pa_cons (pv 0) (pa_cons (pe_bltn (v := .ty "int") (by rfl) T.n_int boot_int rfl) pa_nil))) (pe_one (pe_not (pe_callB (call_isiK K) (by rfl) T.n_isinstance boot_isinstance (pa_cons (pv 0) (pa_cons (pe_bltn (v := .ty "bool") (by rfl) T.n_bool boot_bool rfl) pa_nil))))))))), enter h fun ts O P X h _ => ?_⟩
    try dsimp only [cxOf, Cx.nox, Cx.wish]
    
    obtain ⟨d, b, rfl, rfl, ⟨t, b1, b2, ht, h1, h2, rfl⟩, p⟩ := h
    show WS _ _ _ _ [.v d] _
    repeat walk_at "g"
    refine c_isi ht (.ty _) h1 ?_
    refine ⟨_, rfl, fun e => ?_, fun e => ?_⟩
    · subst e
      repeat walk_at "g"
      refine c_isi ht (.ty _) h2 ?_
      refine ⟨_, rfl, ?_⟩
      exact ⟨rfl, p⟩
    · subst e
      exact ⟨rfl, p⟩
theorem sc_is_between : FnScope ["value", "low", "high"] ["value", "low", "high"] (defScope (top 3)) := ⟨rfl, rfl, rfl, by decide +kernel, rfl, by decide +kernel, by decide +kernel⟩
theorem ok_is_between {P : Program} {w : World} {K : PySem.W.Frag} {mg : Str → Option Value} {base : Heap} (T : Tx K mg) (h_is_integer : Fn P w K mg base 1 (He.fAd K ("is_integer", none)) ["value"] (sp_is_integer K)) : Fn P w K mg base 2 (He.fAd K ("is_between", none)) ["value", "low", "high"] (sp_is_between K) := by
  obtain ⟨_, F_is_integer, b_is_integer, kp_is_integer, _⟩ := h_is_integer
  obtain ⟨fd, F⟩ := T.d_is_between
  refine ⟨fd, F.ok sc_is_between (lift_len ?_) (fun cdv A outer s H vs Q E hr h => ?_), F.bindsN fun _ _ _ _ _ _ us hl => (match us, hl with | [_, _, _], _ => rfl), F.kp, lk_of F⟩
  · intro ts O P X h
    exact sp_is_between_len h
  · have hu := hr.units
    refine ⟨_, (PSs.nox (pss_one (ps_ret (pe_and (pe_call F_is_integer (hr.mono (by decide)) (by rfl) T.g_is_integer kp_is_integer b_is_integer .nil passL (pa_cons (pv 0) pa_nil)) (pe_one (pe_chain op_le op_le (pv 1) (pv 0) (pv 2))))))), enter h fun ts O P X h _ => ?_⟩
    try dsimp only [cxOf, Cx.nox, Cx.wish]
    
    obtain ⟨d, lo, hi, b, rfl, rfl, hb, p⟩ := h
    show WS _ _ _ _ [.v d, .v (.int lo), .v (.int hi)] _
    repeat walk_at "g"
    rcases hb with ⟨n, rfl, rfl⟩ | ⟨hd, rfl⟩
    · refine u_is_integer intQ_int ⟨⟨_, rfl⟩, ?_⟩
      refine ⟨_, rfl, tt_ ?_⟩
      repeat walk_at "g"
      refine br (fun h1 => ?_) (fun h1 => ?_)
      · repeat walk_at "g"
        rw [decide_eq_true h1, Bool.true_and] at p
        exact ⟨rfl, p⟩
      · rw [decide_eq_false h1, Bool.false_and] at p
        exact ⟨rfl, p⟩
    · refine u_is_integer hd ⟨⟨_, rfl⟩, ?_⟩
      refine ⟨_, rfl, ff_ ?_⟩
      exact ⟨rfl, p⟩
theorem sc_fits_modulus : FnScope ["value"] ["value"] (defScope (top 4)) := ⟨rfl, rfl, rfl, by decide +kernel, rfl, by decide +kernel, by decide +kernel⟩
theorem ok_fits_modulus {P : Program} {w : World} {K : PySem.W.Frag} {mg : Str → Option Value} {base : Heap} (T : Tx K mg) (h_is_between : Fn P w K mg base 2 (He.fAd K ("is_between", none)) ["value", "low", "high"] (sp_is_between K)) : Fn P w K mg base 3 (He.fAd K ("fits_modulus", none)) ["value"] (sp_fits_modulus K) := by
  obtain ⟨_, F_is_between, b_is_between, kp_is_between, _⟩ := h_is_between
  obtain ⟨fd, F⟩ := T.d_fits_modulus
  obtain ⟨_, T_i_MOST_MODULUS⟩ := T.i_MOST_MODULUS_
  refine ⟨fd, F.ok sc_fits_modulus (lift_len ?_) (fun cdv A outer s H vs Q E hr h => ?_), F.bindsN fun _ _ _ _ _ _ us hl => (match us, hl with | [_], _ => rfl), F.kp, lk_of F⟩
  · intro ts O P X h
    exact sp_fits_modulus_len h
  · have hu := hr.units
    refine ⟨_, (PSs.nox (pss_one (ps_ret (pe_call F_is_between (hr.mono (by decide)) (by rfl) T.g_is_between kp_is_between b_is_between .nil passL (pa_cons (pv 0) (pa_cons pe_int (pa_cons (pe_glob (v := .int 1000000000000000000000000000000) (by rfl) T_i_MOST_MODULUS ⟨_, rfl⟩) pa_nil))))))), enter h fun ts O P X h _ => ?_⟩
    try dsimp only [cxOf, Cx.nox, Cx.wish]
    
    obtain ⟨d, b, rfl, rfl, hb, p⟩ := h
    show WS _ _ _ _ [.v d] _
    repeat walk_at "g"
    refine u_is_between hb ⟨⟨_, rfl⟩, ?_⟩
    exact ⟨rfl, p⟩
theorem sc_law_pen : FnScope ["_law_script"] ["_law_script"] (defScope (top 42)) := ⟨rfl, rfl, rfl, by decide +kernel, rfl, by decide +kernel, by decide +kernel⟩
theorem ok_law_pen {P : Program} {w : World} {K : PySem.W.Frag} {mg : Str → Option Value} {base : Heap} (T : Tx K mg)  : FnRaw P w K mg base 1 (He.fAd K ("_law_pen", none)) ["_law_script"] (penSp K 63) := by
  obtain ⟨fd, F⟩ := T.d_law_pen
  refine ⟨fd, F.ok sc_law_pen ?_ (fun cdv A outer s H vs Q E hr h => ?_), F.bindsN fun _ _ _ _ _ _ us hl => (match us, hl with | [_], _ => rfl), F.kp, lk_of F⟩
  · intro vs H Q E h
    exact penSp_len h
  · have hu := hr.units
    refine ⟨_, (PSs.nox (pss_one (ps_ret (pe_lst (pa_cons (pe_callTy (cr_listK K) (by rfl) T.n_list boot_list (pa_cons (pe_slice (sl_listK K) (pv 0) po_none (po_some pe_int)) pa_nil)) (pa_cons pe_int (pa_cons pe_int pa_nil))))))), ?_⟩
    try dsimp only [cxOf, Cx.nox, Cx.wish]
    
    obtain ⟨a, cs, rfl, hs, q⟩ := h
    refine ⟨.ref a, rfl, 63, rfl, a, _, rfl, hs, fun s0 e0 => ⟨s0, _, rfl, .inl (SqL.of upd_same), fun l e1 => ⟨Nat.le_of_ble_eq_true rfl, fun p e2 => q s0 l p e0 e1 e2⟩⟩⟩
theorem sc_law_draw : FnScope ["_law_pen_here", "_law_many", "_law_digit", "_law_at", "_law_cell", "_law_great", "_law_mixed"] ["_law_pen_here", "_law_many"] (defScope (top 43)) := ⟨rfl, rfl, rfl, by decide +kernel, rfl, by decide +kernel, by decide +kernel⟩
theorem ok_law_draw {P : Program} {w : World} {K : PySem.W.Frag} {mg : Str → Option Value} {base : Heap} (T : Tx K mg)  : Fn P w K mg base 1 (He.fAd K ("_law_draw", none)) ["_law_pen_here", "_law_many"] (sp_draw K) := by
  obtain ⟨fd, F⟩ := T.d_law_draw
  refine ⟨fd, F.ok sc_law_draw (lift_len ?_) (fun cdv A outer s H vs Q E hr h => ?_), F.bindsN fun _ _ _ _ _ _ us hl => (match us, hl with | [_, _], _ => rfl), F.kp, lk_of F⟩
  · intro ts O P X h
    exact sp_draw_len h
  · have hu := hr.units
    refine ⟨_, (PSs.nox (pss_cons (ps_if (pt_cmpR op_gt (pe_ix (ix_listK K) (pv 0) pe_int (fun _ _ => rfl)) pe_int (nomark _))
    (pss_cons (ps_set (i := 2) sc_law_draw.nd rfl (.inl rfl) (pe_op op_mod (pe_callTy call_int1 (by rfl) T.n_int boot_int (pa_cons (pe_ix (ix_listK K) (pv 0) pe_int (fun _ _ => rfl)) pa_nil)) (pv 1)))
    (pss_cons (ps_asg (pe_op op_fdivW (pe_callTy call_int1 (by rfl) T.n_int boot_int (pa_cons (pe_ix (ix_listK K) (pv 0) pe_int (fun _ _ => rfl)) pa_nil)) (pv 1)) (pg_sub (pv 0) pe_int set_list))
    (pss_one (ps_ret (pv 2)))))
    pss_nil)
    (pss_cons (ps_set (i := 3) sc_law_draw.nd rfl (.inl rfl) (pe_ix (ix_listK K) (pv 0) pe_int (fun _ _ => rfl)))
    (pss_cons (ps_asg (pe_op op_add (pv 3) pe_int) (pg_sub (pv 0) pe_int set_list))
    (pss_cons (ps_set (i := 4) sc_law_draw.nd rfl (.inl rfl) (pe_op op_add (pe_op op_mul pe_int (pv 3)) pe_int))
    (pss_cons (ps_if (pt_cmpR (op_neDK K hu) (pe_ix (ix_listK K) (pv 0) pe_int (fun _ _ => rfl)) (pe_lst pa_nil) (nomark _))
    (pss_one (ps_set (i := 4) sc_law_draw.nd rfl (.inl rfl) (pe_ix (ix_listK K) (pe_ix (ix_listK K) (pv 0) pe_int (fun _ _ => rfl)) (pe_op op_mod (pe_callTy call_int1 (by rfl) T.n_int boot_int (pa_cons (pv 3) pa_nil)) (pe_callB (cr_lenK K) (by rfl) T.n_len boot_len (pa_cons (pe_ix (ix_listK K) (pv 0) pe_int (fun _ _ => rfl)) pa_nil))) (fun _ _ => rfl))))
    pss_nil)
    (pss_cons (ps_if (PW.pt (pw_and (pt_cmpR op_lt (pv 3) (pe_callB (cr_lenK K) (by rfl) T.n_len boot_len (pa_cons (pe_ix (ix_listK K) (pv 0) pe_int (fun _ _ => rfl)) pa_nil)) (nomark _)) (pw_and1 (pt_cmpR op_ge (pe_callB call_abs (by rfl) T.n_abs boot_abs (pa_cons (pv 4) pa_nil)) (pe_op op_pow pe_int pe_int) (nomark _)))))
    (pss_cons (ps_set (i := 5) sc_law_draw.nd rfl (.inl rfl) (pe_op op_add (pe_op op_mul pe_int (pe_op op_sub (pe_callB call_abs (by rfl) T.n_abs boot_abs (pa_cons (pv 4) pa_nil)) (pe_op op_pow pe_int pe_int))) (pe_callTy call_int1 (by rfl) T.n_int boot_int (pa_cons (pe_cmpR op_lt (pv 4) pe_int (nomark _)) pa_nil))))
    (pss_cons (ps_asg (pe_op op_fdivW (pe_callTy call_int1 (by rfl) T.n_int boot_int (pa_cons (pv 5) pa_nil)) (pv 1)) (pg_sub (pv 0) pe_int set_list))
    (pss_one (ps_ret (pe_op op_mod (pe_callTy call_int1 (by rfl) T.n_int boot_int (pa_cons (pv 5) pa_nil)) (pv 1))))))
    pss_nil)
    (pss_cons (ps_set (i := 6) sc_law_draw.nd rfl (.inl rfl) (pe_op op_mod (pe_callTy call_int1 (by rfl) T.n_int boot_int (pa_cons (pe_op op_pow (pe_op op_add (pe_op op_add (pe_op op_mod (pe_callTy call_int1 (by rfl) T.n_int boot_int (pa_cons (pv 4) pa_nil)) pe_int) (pe_op op_mul pe_int (pv 3))) pe_int) pe_int) pa_nil)) pe_int))
    (pss_cons (ps_set (i := 6) sc_law_draw.nd rfl (.inl rfl) (pe_op op_mod (pe_callTy call_int1 (by rfl) T.n_int boot_int (pa_cons (pe_op op_pow (pe_op op_add (pe_op op_add (pe_op op_mulW (pv 6) (pe_op op_add (pe_op op_mul pe_int (pv 3)) pe_int)) (pe_op op_mulW (pe_op op_mul pe_int (pv 3)) (pv 3))) pe_int) pe_int) pa_nil)) pe_int))
    (pss_one (ps_ret (pe_op op_mod (pe_callTy call_int1 (by rfl) T.n_int boot_int (pa_cons (pe_op op_fdivW (pv 6) pe_int) pa_nil)) (pv 1))))))))))))), enter h fun ts O P X h _ => ?_⟩
    try dsimp only [cxOf, Cx.nox, Cx.wish]
    
    obtain ⟨n, p, m, rfl, rfl, hp, hn, h1, h2, k⟩ := h
    obtain ⟨cs, at_, g, rfl, ha, han, hg⟩ := hp
    show WS _ _ _ _ [.own 0, .v (.int m), .no, .no, .no, .no, .no] _
    repeat walk_at "g"
    refine br (fun hgt => ?_) (fun hgt => ?_)
    · repeat walk_at "g"
      exact ⟨rfl, k _ _ ⟨cs, at_, g / m, rfl, ha, by omega, Int.ediv_nonneg hg (by omega)⟩ (Int.emod_nonneg _ (by omega)) (Int.emod_lt_of_pos _ (by omega))⟩
    · repeat walk_at "e"
      walk_at "n"
      walk_at "n"
      walk_at "n"
      refine s_cut (fun ts' O' => ∃ c, ts' = [.own 0, .v (.int m), .no, .v (.int at_), .v (.int c), .no, .no] ∧ O' = [.lst [.lst (nums cs), .int (at_ + 1), .int g]]) ?_ ?_
      · repeat walk_at "g"
        refine w_neD valD_v valD_v pl_numsL pl_nilL ?_
        rw [eqD_nilL]
        refine ⟨_, rfl, nbr (fun hc => ?_) (fun hc => ?_)⟩
        · repeat walk_at "g"
          have hl : (0 : Int) < (nums cs).length := by
            rw [nums_len]
            have := List.length_pos_iff.mpr hc
            omega
          repeat walk_at "g"
          obtain ⟨x, hx, _⟩ := atI_nums (ns := cs) (i := at_ % ((nums cs).length : Int)) (Int.emod_nonneg _ (by omega)) (by rw [← nums_len]; exact Int.emod_lt_of_pos _ hl)
          refine w_ixL lstD_v hx ?_
          exact ⟨_, rfl, rfl⟩
        · repeat walk_at "g"
          exact rfl
      · rintro _ _ ⟨c, rfl, rfl⟩
        refine s_cut (fun ts' O' => ts' = [.own 0, .v (.int m), .no, .v (.int at_), .v (.int c), .no, .no] ∧ O' = [.lst [.lst (nums cs), .int (at_ + 1), .int g]]) ?_ ?_
        · repeat walk_at "e"
          refine br (fun _ => ?_) (fun _ => ff_ ?_)
          · repeat walk_at "e"
            refine br (fun hc => ?_) (fun _ => ?_)
            · repeat walk_at "g"
              have hgr : 0 ≤ 2 * ((if c < 0 then -c else c) - 10 ^ Int.toNat 18) + (if decide (c < 0) = true then 1 else 0) := by
                have e18 : (10 : Int) ^ Int.toNat 18 = 1000000000000000000 := by decide
                rw [e18] at hc ⊢
                split <;> split <;> omega
              exact ⟨rfl, k _ _ ⟨cs, at_ + 1, _, rfl, by omega, by omega, Int.ediv_nonneg hgr (by omega)⟩ (Int.emod_nonneg _ (by omega)) (Int.emod_lt_of_pos _ (by omega))⟩
            · repeat walk_at "e"
              exact ⟨rfl, rfl⟩
          · repeat walk_at "e"
            exact ⟨rfl, rfl⟩
        · rintro _ _ ⟨rfl, rfl⟩
          refine s_cut (fun ts' O' => ∃ x, 0 ≤ x ∧ x < 2147483647 ∧ ts' = [.own 0, .v (.int m), .no, .v (.int at_), .v (.int c), .no, .v (.int x)] ∧ O' = [.lst [.lst (nums cs), .int (at_ + 1), .int g]]) ?_ ?_
          · repeat walk_at "e"
            exact ⟨_, Int.emod_nonneg _ (by decide), Int.emod_lt_of_pos _ (by decide), rfl, rfl⟩
          · rintro _ _ ⟨x, hx0, hx1, rfl, rfl⟩
            have b1 := mulB (x := x) (y := 2 * at_ + 307) hx0 (Int.le_of_lt hx1) (by omega) (show 2 * at_ + 307 ≤ 2000000 + 307 by omega)
            have b2 := mulB (x := 59021 * at_) (y := at_) (by omega) (show 59021 * at_ ≤ 59021 * 1000000 by omega) ha (show at_ ≤ 1000000 by omega)
            refine s_cut (fun ts' O' => ∃ x, 0 ≤ x ∧ x < 2147483587 ∧ ts' = [.own 0, .v (.int m), .no, .v (.int at_), .v (.int c), .no, .v (.int x)] ∧ O' = [.lst [.lst (nums cs), .int (at_ + 1), .int g]]) ?_ ?_
            · repeat walk_at "e"
              exact ⟨_, Int.emod_nonneg _ (by decide), Int.emod_lt_of_pos _ (by decide), rfl, rfl⟩
            · rintro _ _ ⟨y, hy0, hy1, rfl, rfl⟩
              repeat walk_at "e"
              exact ⟨rfl, k _ _ ⟨cs, at_ + 1, g, rfl, by omega, by omega, hg⟩ (Int.emod_nonneg _ (by omega)) (Int.emod_lt_of_pos _ (by omega))⟩
theorem sc_law_pick : FnScope ["_law_pen_here", "_law_some"] ["_law_pen_here", "_law_some"] (defScope (top 44)) := ⟨rfl, rfl, rfl, by decide +kernel, rfl, by decide +kernel, by decide +kernel⟩
theorem ok_law_pick {P : Program} {w : World} {K : PySem.W.Frag} {mg : Str → Option Value} {base : Heap} (T : Tx K mg) (h_law_draw : Fn P w K mg base 1 (He.fAd K ("_law_draw", none)) ["_law_pen_here", "_law_many"] (sp_draw K)) : Fn P w K mg base 2 (He.fAd K ("_law_pick", none)) ["_law_pen_here", "_law_some"] (sp_pick K) := by
  obtain ⟨_, F_law_draw, b_law_draw, kp_law_draw, _⟩ := h_law_draw
  obtain ⟨fd, F⟩ := T.d_law_pick
  refine ⟨fd, F.ok sc_law_pick (lift_len ?_) (fun cdv A outer s H vs Q E hr h => ?_), F.bindsN fun _ _ _ _ _ _ us hl => (match us, hl with | [_, _], _ => rfl), F.kp, lk_of F⟩
  · intro ts O P X h
    exact sp_pick_len h
  · have hu := hr.units
    refine ⟨_, (PSs.nox (pss_one (ps_ret (pe_ix (ix_listK K) (pv 1) (pe_call F_law_draw (hr.mono (by decide)) (by rfl) T.g__law_draw kp_law_draw b_law_draw .nil passL (pa_cons (pv 0) (pa_cons (pe_callB (cr_lenK K) (by rfl) T.n_len boot_len (pa_cons (pv 1) pa_nil)) pa_nil))) (fun _ _ => rfl))))), enter h fun ts O P X h _ => ?_⟩
    try dsimp only [cxOf, Cx.nox, Cx.wish]
    
    obtain ⟨n, p, ds, rfl, rfl, hp, hn, h1, h2, k⟩ := h
    show WS _ _ _ _ [.own 0, .v (.lst ds)] _
    repeat walk_at "g"
    refine u_draw hp hn ?_ ?_ fun p' r hp' h3 h4 => ⟨_, rfl, nno, ?_⟩
    · omega
    · omega
    obtain ⟨d, e1, e2⟩ := atI_pos h3 h4
    refine w_ixL lstD_v e1 ?_
    exact ⟨rfl, k _ _ _ hp' e2⟩
end My

set_option Elab.async false
set_option linter.all false
set_option maxRecDepth 100000
set_option maxHeartbeats 0
namespace My
open PySem PySem.Spec PyProof.Rows L2 G

local macro_rules | `(tactic| walk_at "ws") => `(tactic| first
  | with_reducible refine s_set ?_
  | with_reducible refine s_if ?_
  | with_reducible refine s_ret ?_
  | with_reducible refine s_retN ?_
  | with_reducible refine s_drop ?_
  | with_reducible refine s_next ?_
  | with_reducible refine s_par ?_
  | with_reducible refine s_par3 ?_
  | refine s_fldN (by assumption) (by assumption) ?_
  | with_reducible refine s_asg ?_)
local macro_rules | `(tactic| walk_at "we") => `(tactic| first
  | ((with_reducible refine w_v (d := ?k2) ?k1 ?_); (case k1 => exact rfl))
  | ((with_reducible refine w_o (j := ?k2) ?k1 ?_); (case k1 => exact rfl))
  | ((guard_target = G.WE _ _ (tFld _ _ _) _ _ _ _); (refine w_fldN (by assumption) (by assumption) ?_))
  | ((guard_target = G.WE _ _ (tC (.ref _)) _ _ _ _); (refine w_ctup (by assumption) ?_))
  | with_reducible refine w_ci ?_
  | with_reducible refine w_op ?_
  | with_reducible refine w_call ?_
  | with_reducible refine w_cty ?_
  | with_reducible refine w_cb ?_
  | with_reducible refine w_cn ?_
  | with_reducible refine w_cs ?_
  | with_reducible refine w_cr ?_
  | with_reducible refine w_un ?_
  | with_reducible refine w_andV ?_
  | with_reducible refine w_orV ?_
  | with_reducible refine w_notV ?_
  | with_reducible refine w_ife ?_
  | with_reducible refine w_chain ?_
  | with_reducible refine w_tup ?_
  | with_reducible refine w_revL ?_
  | with_reducible refine w_slL ?_
  | with_reducible refine w_slT ?_
  | (guard_target = G.WE _ _ (tCall (lift _ (sp_draw _)) _ _ _) _ _ _ _; refine w_fn10 0 ?_)
  | (guard_target = G.WE _ _ (tCall (lift _ (sp_pick _)) _ _ _) _ _ _ _; refine w_fn10 0 ?_)
  | (guard_target = G.WE _ _ (tCall (lift _ (sp_l_modulus _)) _ _ _) _ _ _ _; refine w_fn10 0 ?_)
  | (guard_target = G.WE _ _ (tCall (lift _ (sp_l_put _)) _ _ _) _ _ _ _; refine w_fn10 0 ?_)
  | (guard_target = G.WE _ _ (tCall (lift _ (sp_l_share _)) _ _ _) _ _ _ _; refine w_fn10 0 ?_)
  | with_reducible refine w_fn0 ?_
  | with_reducible refine w_fnS0 ?_
  | with_reducible refine w_meth0 ?_
  | with_reducible refine w_make0 ?_
  | with_reducible refine w_bmL ?_
  | with_reducible refine w_bmL0 ?_
  | with_reducible refine w_lst ?_)
local macro_rules | `(tactic| walk_at "wt") => `(tactic| first
  | with_reducible refine w_test ?_
  | with_reducible refine w_B ?_
  | with_reducible refine w_and ?_
  | with_reducible refine w_or ?_
  | with_reducible refine w_not ?_)
local macro_rules | `(tactic| walk_at "wa") => `(tactic| first
  | with_reducible refine w_cons ?_
  | with_reducible refine w_nil ?_
  | with_reducible refine w_star ?_)
local macro_rules | `(tactic| walk_at "wr") => `(tactic| first
  | with_reducible refine w_add ?_
  | with_reducible refine w_sub ?_
  | with_reducible refine w_lt ?_
  | with_reducible refine w_le ?_
  | with_reducible refine w_gt ?_
  | with_reducible refine w_ge ?_
  | with_reducible refine w_eqI ?_
  | with_reducible refine w_neI ?_
  | with_reducible refine w_isN ?_
  | with_reducible refine w_notN ?_
  | ((with_reducible refine w_mod ?k1 ?_); (case k1 => first | decide | omega))
  | ((with_reducible refine w_mul ?k1 ?_); (case k1 => first | exact Or.inl ⟨by decide, by decide⟩ | exact Or.inr ⟨by decide, by decide⟩ | exact Or.inl ⟨by omega, by omega⟩ | exact Or.inr ⟨by omega, by omega⟩))
  | ((with_reducible refine w_pow ?k1 ?_); (case k1 => first | exact ⟨by decide, by decide, by decide⟩ | exact ⟨by omega, by omega, by omega⟩))
  | ((with_reducible refine w_fdivW ?k1 ?_); (case k1 => exact divW_ok (by first | decide | omega) (by first | decide | omega)))
  | ((with_reducible refine w_mulW ?k1 ?_); (case k1 => exact mulW_ok ⟨by omega, by omega⟩ ⟨by omega, by omega⟩))
  | ((guard_target = G.WR _ (rIxT _) _ _ _ _); (refine w_ixT (by first | exact atI_0 | exact atI_1 | exact atI_2 | exact atI_3 | exact atI_4 | exact atI_5 | exact atI_6 | assumption) ?_))
  | ((guard_target = G.WR _ (rIxL _) _ _ _ _); (refine w_ixL (by first | exact lstD_v | exact lstD_o rfl) (by first | exact atI_0 | exact atI_1 | exact atI_2 | exact atI_3 | exact atI_4 | exact atI_5 | exact atI_6 | assumption) ?_)))
local macro_rules | `(tactic| walk_at "wc") => `(tactic| first
  | with_reducible refine c_int ?_
  | with_reducible refine c_intB ?_
  | with_reducible refine c_abs ?_
  | ((guard_target = G.WC _ (G.rLen _) _ _ _); (refine c_lenL (by first | exact lstD_v | exact lstD_o rfl) ?_))
  | with_reducible refine c_lenT ?_
  | ((guard_target = G.WC _ (G.rListOf _) _ _ _); (refine c_listL (by first | exact lstD_v | exact lstD_o rfl) ?_))
  | with_reducible refine c_listT ?_
  | ((guard_target = G.WC _ (G.rTupOf _) _ _ _); (refine c_tupL (by first | exact lstD_v | exact lstD_o rfl) ?_))
  | with_reducible refine c_tupT ?_)
local macro_rules | `(tactic| walk_at "e") => `(tactic| first
  | (guard_target = G.WE _ _ _ _ _ _ _; walk_at "we")
  | (guard_target = G.WS _ _ _ _ _ _; walk_at "ws")
  | (guard_target = G.WA _ _ _ _ _ _ _; walk_at "wa")
  | (guard_target = G.WR _ _ _ _ _ _; walk_at "wr")
  | (guard_target = G.WT _ _ _ _ _ _ _; walk_at "wt")
  | (guard_target = G.WC _ _ _ _ _; walk_at "wc")
  | (guard_target = G.WU _ _ _ _ _; with_reducible refine w_neg ?_)
  | (guard_target = G.WG _ _ _ _ _ _ _; first | with_reducible refine g_name ?_ | with_reducible refine g_setL ?_ | refine g_pair rfl ?_ | refine g_trip rfl ?_ | refine g_quad rfl ?_)
  | (guard_target = G.WO _ _ _ _ _ _ _; first | with_reducible refine o_none ?_ | with_reducible refine o_some ?_)
  | with_reducible refine tt_ ?_
  | with_reducible refine ff_ ?_
  | with_reducible refine ntt_ ?_
  | with_reducible refine nff_ ?_
  | ((guard_target = ((!G.isNon _) = true → _) ∧ _); (first | refine bnF rfl ?_ | refine bnT rfl ?_))
  | ((guard_target = (G.isNon _ = true → _) ∧ _); (first | refine bF rfl ?_ | refine bT rfl ?_))
  | (guard_target = Exists _; first
    | refine ⟨_, rfl, Nat.le_of_ble_eq_true rfl, Nat.le_of_ble_eq_true rfl, ?_⟩
    | refine ⟨_, _, _, _, _, rfl, rfl, rfl, rfl, rfl, ?_⟩
    | refine ⟨_, _, _, rfl, rfl, rfl, Nat.le_of_ble_eq_true rfl, ?_⟩
    | refine ⟨_, _, rfl, rfl, rfl, ?_⟩
    | refine ⟨_, _, _, rfl, ?_⟩
    | refine ⟨_, _, (by first | exact insD_v | exact insD_o rfl), rfl, ?_⟩
    | refine ⟨_, _, rfl, ?_⟩
    | refine ⟨_, rfl, rfl, ?_⟩
    | refine ⟨_, rfl, Nat.le_of_ble_eq_true rfl, ?_⟩
    | refine ⟨_, (by first | exact lstD_v | exact lstD_o rfl), ?_⟩
    | refine ⟨_, rfl, ?_⟩))
local macro_rules | `(tactic| walk_at "o") => `(tactic| first | with_reducible refine w_lstO ?_ | walk_at "e")
local macro_rules | `(tactic| walk_at "g") => `(tactic| first | walk_at "e" | with_reducible refine s_seq ?_)
local macro_rules | `(tactic| walk_at "n") => `(tactic| (with_reducible refine s_seq ?_); (repeat walk_at "e"))
def sp_binomial (K : PySem.W.Frag) : SpD := fun ts O P _ => ∃ (n : Int) (j : Nat), ts = [.v (.int n), .v (.int j)] ∧ O = [] ∧ j ≤ 12 ∧ n.natAbs + 12 < 2 ^ 230 ∧ P (.v (.int (bin n j))) []
theorem sp_binomial_len {K : PySem.W.Frag} {ts O P X} (h : sp_binomial K ts O P X) : ts.length = 2 := by
  obtain ⟨n, j, rfl, _⟩ := h
  rfl
def sp_choose (K : PySem.W.Frag) : SpD := fun ts O P _ => ∃ (n : Int) (j : Nat), ts = [.v (.int n), .v (.int j)] ∧ O = [] ∧ j ≤ 12 ∧ n.natAbs + 12 < 2 ^ 230 ∧ P (.v (.int (bin n j))) []
theorem sp_choose_len {K : PySem.W.Frag} {ts O P X} (h : sp_choose K ts O P X) : ts.length = 2 := by
  obtain ⟨n, j, rfl, _⟩ := h
  rfl
def sp_power_of (K : PySem.W.Frag) : SpD := fun ts O P _ => ∃ (b t : Nat), ts = [.v (.int b), .v (.int t)] ∧ O = [] ∧ b < 2 ^ 64 ∧ t ≤ 1000 ∧ P (.v (.int (b ^ t : Nat))) []
theorem sp_power_of_len {K : PySem.W.Frag} {ts O P X} (h : sp_power_of K ts O P X) : ts.length = 2 := by
  obtain ⟨b, t, rfl, _⟩ := h
  rfl
def sp_need_modulus (K : PySem.W.Frag) : SpD := fun ts O P _ => ∃ m : Int, ts = [.v (.int m)] ∧ O = [] ∧ 2 ≤ m ∧ m ≤ 1000000000000000000000000000000 ∧ P (.v .non) []
theorem sp_need_modulus_len {K : PySem.W.Frag} {ts O P X} (h : sp_need_modulus K ts O P X) : ts.length = 1 := by
  obtain ⟨m, rfl, _⟩ := h
  rfl
def sp_times_in (K : PySem.W.Frag) : SpD := fun ts O P _ => ∃ (n p : Nat), ts = [.v (.int n), .v (.int p)] ∧ O = [] ∧ 1 ≤ n ∧ 2 ≤ p ∧ p < 2 ^ 64 ∧ P (.v (.int (vl p n))) []
theorem sp_times_in_len {K : PySem.W.Frag} {ts O P X} (h : sp_times_in K ts O P X) : ts.length = 2 := by
  obtain ⟨n, p, rfl, _⟩ := h
  rfl
def smD (x : Nat × Nat) : D := .tup [.int x.1, .int x.2]
def sp_small_in (K : PySem.W.Frag) : SpD := fun ts O P _ => ∃ (n m : Nat), ts = [.v (.int n), .v (.int m)] ∧ O = [] ∧ 1 ≤ n ∧ n < 2 ^ 200 ∧ P (.v (.lst ((small n m).map smD))) []
theorem sp_small_in_len {K : PySem.W.Frag} {ts O P X} (h : sp_small_in K ts O P X) : ts.length = 2 := by
  obtain ⟨n, m, rfl, _⟩ := h
  rfl
def sp_great_in (K : PySem.W.Frag) : SpD := fun ts O P _ => ∃ (n m : Nat), ts = [.v (.int n), .v (.int m)] ∧ O = [] ∧ 1 ≤ n ∧ n < 2 ^ 200 ∧ P (.v (.int (great n m))) []
theorem sp_great_in_len {K : PySem.W.Frag} {ts O P X} (h : sp_great_in K ts O P X) : ts.length = 2 := by
  obtain ⟨n, m, rfl, _⟩ := h
  rfl
def sp_great_part (K : PySem.W.Frag) : SpD := fun ts O P _ => ∃ (n m : Nat), ts = [.v (.int n), .v (.int m)] ∧ O = [] ∧ 2 ≤ n ∧ n ≤ 1000000000000000000000000000000 ∧ m ≤ 12 ∧ P (.v (.int (great n m))) []
theorem sp_great_part_len {K : PySem.W.Frag} {ts O P X} (h : sp_great_part K ts O P X) : ts.length = 2 := by
  obtain ⟨n, m, rfl, _⟩ := h
  rfl
def sp_small_parts (K : PySem.W.Frag) : SpD := fun ts O P _ => ∃ (n m : Nat), ts = [.v (.int n), .v (.int m)] ∧ O = [] ∧ 2 ≤ n ∧ n ≤ 1000000000000000000000000000000 ∧ m ≤ 12 ∧ P (.v (.tup ((small n m).map smD))) []
theorem sp_small_parts_len {K : PySem.W.Frag} {ts O P X} (h : sp_small_parts K ts O P X) : ts.length = 2 := by
  obtain ⟨n, m, rfl, _⟩ := h
  rfl
def sp_common_divisor (K : PySem.W.Frag) : SpD := fun ts O P _ => ∃ (a b : Nat), ts = [.v (.int a), .v (.int b)] ∧ O = [] ∧ P (.v (.int (Nat.gcd a b))) []
theorem sp_common_divisor_len {K : PySem.W.Frag} {ts O P X} (h : sp_common_divisor K ts O P X) : ts.length = 2 := by
  obtain ⟨a, b, rfl, _⟩ := h
  rfl
def sp_combined (K : PySem.W.Frag) : SpD := fun ts O P _ => ∃ (a b : Nat), ts = [.v (.int a), .v (.int b)] ∧ O = [] ∧ a < 2 ^ 200 ∧ b < 2 ^ 200 ∧ ∀ s t : Int, (Nat.gcd a b : Int) = s * a + t * b → s.natAbs ≤ b + 1 → t.natAbs ≤ a + 1 → P (.v (.tup [.int (Nat.gcd a b), .int s, .int t])) []
theorem sp_combined_len {K : PySem.W.Frag} {ts O P X} (h : sp_combined K ts O P X) : ts.length = 2 := by
  obtain ⟨a, b, rfl, _⟩ := h
  rfl
def sp_sh_init (K : PySem.W.Frag) : SpD := fun ts O P _ => ∃ (d e : D), ts = [.own 0, .v d, .v e] ∧ O = [.ins (He.ga K "Shared") []] ∧ P (.v .non) [.ins (He.ga K "Shared") [("divisor", d), ("multipliers", e)]]
theorem sp_sh_init_len {K : PySem.W.Frag} {ts O P X} (h : sp_sh_init K ts O P X) : ts.length = 3 := by
  obtain ⟨d, e, rfl, _⟩ := h
  rfl

def sharD (K : PySem.W.Frag) (g : Nat) (ms : List Int) : D := .ins (He.ga K "Shared") [("divisor", .int g), ("multipliers", .tup (nums ms))]
def sp_shared_in (K : PySem.W.Frag) : SpD := fun ts O P _ => ∃ (m : Nat) (ns : List Int), ts = [.v (.int m), .v (.tup (nums ns))] ∧ O = [] ∧ 1 ≤ m ∧ m ≤ 1000000000000000000000000000000 ∧ ns.length ≤ 100 ∧ ∀ ms, MulOk m ns ms (gcdL m ns) → P (.v (.tup [.int (gcdL m ns), .tup (nums ms)])) []
theorem sp_shared_in_len {K : PySem.W.Frag} {ts O P X} (h : sp_shared_in K ts O P X) : ts.length = 2 := by
  obtain ⟨m, ns, rfl, _⟩ := h
  rfl
def sp_need_numbers (K : PySem.W.Frag) : SpD := fun ts O P _ => ∃ ns : List Int, ts = [.v (.tup (nums ns))] ∧ O = [] ∧ P (.v .non) []
theorem sp_need_numbers_len {K : PySem.W.Frag} {ts O P X} (h : sp_need_numbers K ts O P X) : ts.length = 1 := by
  obtain ⟨ns, rfl, _⟩ := h
  rfl
def sp_shared (K : PySem.W.Frag) : SpD := fun ts O P _ => ∃ (m : Nat) (ns : List Int), ts = [.v (.int m), .v (.tup (nums ns))] ∧ O = [] ∧ 2 ≤ m ∧ m ≤ 1000000000000000000000000000000 ∧ ns.length ≤ 100 ∧ ∀ ms, MulOk m ns ms (gcdL m ns) → P (.v (sharD K (gcdL m ns) ms)) []
theorem sp_shared_len {K : PySem.W.Frag} {ts O P X} (h : sp_shared K ts O P X) : ts.length = 2 := by
  obtain ⟨m, ns, rfl, _⟩ := h
  rfl
def sp_are_multipliers (K : PySem.W.Frag) : SpD := fun ts O P _ => ∃ (ms : List Int) (n m : Int), ts = [.v (.tup (nums ms)), .v (.int n), .v (.int m)] ∧ O = [] ∧ n = ms.length ∧ ms.length ≤ 1000 ∧ 1 ≤ m ∧ InR m ms ∧ P (.v (.bl true)) []
theorem sp_are_multipliers_len {K : PySem.W.Frag} {ts O P X} (h : sp_are_multipliers K ts O P X) : ts.length = 3 := by
  obtain ⟨ms, n, m, rfl, _⟩ := h
  rfl
def sp_shows_shared (K : PySem.W.Frag) : SpD := fun ts O P _ => ∃ (g : Nat) (ms : List Int) (m : Nat) (ns : List Int), ts = [.v (sharD K g ms), .v (.int m), .v (.tup (nums ns))] ∧ O = [] ∧ 2 ≤ m ∧ m ≤ 1000000000000000000000000000000 ∧ ns.length ≤ 100 ∧ (∀ n ∈ ns, n.natAbs < 2 ^ 240) ∧ g = gcdL m ns ∧ MulOk m ns ms g ∧ P (.v (.bl true)) []
theorem sp_shows_shared_len {K : PySem.W.Frag} {ts O P X} (h : sp_shows_shared K ts O P X) : ts.length = 3 := by
  obtain ⟨g, ms, m, ns, rfl, _⟩ := h
  rfl
def paD (x : Int × Nat) : D := .tup [.int x.1, .int x.2]
def sp_is_part (K : PySem.W.Frag) : SpD := fun ts O P _ => ∃ (x : Int × Nat), ts = [.v (paD x)] ∧ O = [] ∧ 1 ≤ x.2 ∧ x.2 ≤ 1000000000000000000000000000000 ∧ P (.v (.bl true)) []
theorem sp_is_part_len {K : PySem.W.Frag} {ts O P X} (h : sp_is_part K ts O P X) : ts.length = 1 := by
  obtain ⟨x, rfl, _⟩ := h
  rfl
def sp_joined (K : PySem.W.Frag) : SpD := fun ts O P _ => ∃ ps : List (Int × Nat), ts = [.v (.tup (ps.map paD))] ∧ O = [] ∧ (∀ x ∈ ps, 1 ≤ x.2 ∧ x.2 ≤ 1000000000000000000000000000000 ∧ x.1.natAbs < 2 ^ 4000) ∧ Cop (ps.map (·.2)) ∧ ps.length ≤ 20 ∧ ∀ f : Int, Lvs f ps → 0 ≤ f → f < (prodN (ps.map (·.2)) : Nat) → P (.v (.int f)) []
theorem sp_joined_len {K : PySem.W.Frag} {ts O P X} (h : sp_joined K ts O P X) : ts.length = 1 := by
  obtain ⟨ps, rfl, _⟩ := h
  rfl
def sp_together (K : PySem.W.Frag) : SpD := fun ts O P _ => ∃ ps : List (Int × Nat), ts = [.v (.tup (ps.map paD))] ∧ O = [] ∧ (∀ x ∈ ps, 1 ≤ x.2 ∧ x.2 ≤ 1000000000000000000000000000000 ∧ x.1.natAbs < 2 ^ 4000) ∧ Cop (ps.map (·.2)) ∧ ps.length ≤ 20 ∧ ∀ f : Int, Lvs f ps → 0 ≤ f → f < (prodN (ps.map (·.2)) : Nat) → P (.v (.int f)) []
theorem sp_together_len {K : PySem.W.Frag} {ts O P X} (h : sp_together K ts O P X) : ts.length = 1 := by
  obtain ⟨ps, rfl, _⟩ := h
  rfl
def sp_least_prime_in (K : PySem.W.Frag) : SpD := fun ts O P _ => ∃ n : Nat, ts = [.v (.int n)] ∧ O = [] ∧ 2 ≤ n ∧ n < 2 ^ 100 ∧ ∀ p : Nat, IsLeast n p → P (.v (.int p)) []
theorem sp_least_prime_in_len {K : PySem.W.Frag} {ts O P X} (h : sp_least_prime_in K ts O P X) : ts.length = 1 := by
  obtain ⟨n, rfl, _⟩ := h
  rfl
def sp_least_prime (K : PySem.W.Frag) : SpD := fun ts O P _ => ∃ n : Nat, ts = [.v (.int n)] ∧ O = [] ∧ 2 ≤ n ∧ n ≤ 100000000 ∧ ∀ p : Nat, IsLeast n p → P (.v (.int p)) []
theorem sp_least_prime_len {K : PySem.W.Frag} {ts O P X} (h : sp_least_prime K ts O P X) : ts.length = 1 := by
  obtain ⟨n, rfl, _⟩ := h
  rfl
theorem sc_binomial : FnScope ["n", "j", "found", "k"] ["n", "j"] (defScope (top 19)) := ⟨rfl, rfl, rfl, by decide +kernel, rfl, by decide +kernel, by decide +kernel⟩
theorem ok_binomial {P : Program} {w : World} {K : PySem.W.Frag} {mg : Str → Option Value} {base : Heap} (T : Tx K mg)  : Fn P w K mg base 1 (He.fAd K ("binomial", none)) ["n", "j"] (sp_binomial K) := by
  obtain ⟨fd, F⟩ := T.d_binomial
  refine ⟨fd, F.ok sc_binomial (lift_len ?_) (fun cdv A outer s H vs Q E hr h => ?_), F.bindsN fun _ _ _ _ _ _ us hl => (match us, hl with | [_, _], _ => rfl), F.kp, lk_of F⟩
  · intro ts O P X h
    exact sp_binomial_len h
  · have hu := hr.units
    refine ⟨_, (PSs.nox (pss_cons (ps_set (i := 2) sc_binomial.nd rfl (.inl rfl) pe_int)
    (pss_cons (ps_for PassesOwn.never rfl (pi_range1 (by rfl) T.n_range (pa_cons (pv 1) pa_nil)) (pg_name (i := 3) sc_binomial.nd rfl (.inl rfl))
    (pss_one (ps_set (i := 2) sc_binomial.nd rfl (.inl rfl) (pe_op op_fdivW (pe_op op_mulW (pv 2) (pe_op op_sub (pv 0) (pv 3))) (pe_op op_add (pv 3) pe_int)))))
    (pss_one (ps_ret (pv 2)))))), enter h fun ts O P X h _ => ?_⟩
    try dsimp only [cxOf, Cx.nox, Cx.wish]
    
    obtain ⟨n, j, rfl, rfl, hj, hn, p⟩ := h
    show WS _ _ _ _ [.v (.int n), .v (.int j), .no, .no] _
    walk_at "n"
    refine s_seq ?_
    refine s_forE ?_
    refine i_rng1 ?_
    repeat walk_at "e"
    refine ⟨by omega, ?_⟩
    rw [Int.toNat_natCast]
    refine for_R1 (fun i ts' O' => ∃ a : G.T, O' = [] ∧ ts' = [.v (.int n), .v (.int j), .v (.int (bin n i)), a]) ⟨_, rfl, rfl⟩ ?_ ?_
    · rintro i _ _ hi ⟨a, rfl, rfl⟩
      refine g_name ?_
      have hb := bin_bd hn i (by omega)
      repeat walk_at "e"
      refine w_mulW (mul_okP hb (b := 231) (by omega) (by omega)) ?_
      repeat walk_at "e"
      exact ⟨_, rfl, rfl⟩
    · rintro _ _ ⟨a, rfl, rfl⟩
      repeat walk_at "e"
      exact ⟨rfl, p⟩
theorem sc_choose : FnScope ["n", "j"] ["n", "j"] (defScope (top 20)) := ⟨rfl, rfl, rfl, by decide +kernel, rfl, by decide +kernel, by decide +kernel⟩
theorem ok_choose {P : Program} {w : World} {K : PySem.W.Frag} {mg : Str → Option Value} {base : Heap} (T : Tx K mg) (h_is_integer : Fn P w K mg base 1 (He.fAd K ("is_integer", none)) ["value"] (sp_is_integer K)) (h_is_between : Fn P w K mg base 2 (He.fAd K ("is_between", none)) ["value", "low", "high"] (sp_is_between K)) (h_binomial : Fn P w K mg base 1 (He.fAd K ("binomial", none)) ["n", "j"] (sp_binomial K)) : Fn P w K mg base 3 (He.fAd K ("choose", none)) ["n", "j"] (sp_choose K) := by
  obtain ⟨_, F_is_integer, b_is_integer, kp_is_integer, _⟩ := h_is_integer
  obtain ⟨_, F_is_between, b_is_between, kp_is_between, _⟩ := h_is_between
  obtain ⟨_, F_binomial, b_binomial, kp_binomial, _⟩ := h_binomial
  obtain ⟨fd, F⟩ := T.d_choose
  obtain ⟨_, T_i_MOST_INDEX⟩ := T.i_MOST_INDEX_
  refine ⟨fd, F.ok sc_choose (lift_len ?_) (fun cdv A outer s H vs Q E hr h => ?_), F.bindsN fun _ _ _ _ _ _ us hl => (match us, hl with | [_, _], _ => rfl), F.kp, lk_of F⟩
  · intro ts O P X h
    exact sp_choose_len h
  · have hu := hr.units
    refine ⟨_, (PSs.nox (pss_cons (ps_if (pt_not (pt_val (pe_call F_is_integer (hr.mono (by decide)) (by rfl) T.g_is_integer kp_is_integer b_is_integer .nil passL (pa_cons (pv 0) pa_nil))))
    (pss_one ps_never)
    pss_nil)
    (pss_cons (ps_if (pt_not (pt_val (pe_call F_is_between (hr.mono (by decide)) (by rfl) T.g_is_between kp_is_between b_is_between .nil passL (pa_cons (pv 1) (pa_cons pe_int (pa_cons (pe_glob (v := .int 12) (by rfl) T_i_MOST_INDEX ⟨_, rfl⟩) pa_nil))))))
    (pss_one ps_never)
    pss_nil)
    (pss_one (ps_ret (pe_call F_binomial (hr.mono (by decide)) (by rfl) T.g_binomial kp_binomial b_binomial .nil passL (pa_cons (pv 0) (pa_cons (pv 1) pa_nil)))))))), enter h fun ts O P X h _ => ?_⟩
    try dsimp only [cxOf, Cx.nox, Cx.wish]
    
    obtain ⟨n, j, rfl, rfl, hj, hn, p⟩ := h
    show WS _ _ _ _ [.v (.int n), .v (.int j)] _
    walk_at "n"
    refine u_is_integer intQ_int ⟨⟨_, rfl⟩, ?_⟩
    repeat walk_at "e"
    walk_at "n"
    refine u_between (by omega) (by omega) ⟨⟨_, rfl⟩, ?_⟩
    repeat walk_at "e"
    exact ⟨n, j, rfl, rfl, hj, hn, ⟨⟨_, rfl⟩, rfl, p⟩⟩
theorem sc_power_of : FnScope ["number", "times", "found", "turn"] ["number", "times"] (defScope (top 21)) := ⟨rfl, rfl, rfl, by decide +kernel, rfl, by decide +kernel, by decide +kernel⟩
theorem ok_power_of {P : Program} {w : World} {K : PySem.W.Frag} {mg : Str → Option Value} {base : Heap} (T : Tx K mg)  : Fn P w K mg base 1 (He.fAd K ("power_of", none)) ["number", "times"] (sp_power_of K) := by
  obtain ⟨fd, F⟩ := T.d_power_of
  refine ⟨fd, F.ok sc_power_of (lift_len ?_) (fun cdv A outer s H vs Q E hr h => ?_), F.bindsN fun _ _ _ _ _ _ us hl => (match us, hl with | [_, _], _ => rfl), F.kp, lk_of F⟩
  · intro ts O P X h
    exact sp_power_of_len h
  · have hu := hr.units
    refine ⟨_, (PSs.nox (pss_cons (ps_set (i := 2) sc_power_of.nd rfl (.inl rfl) pe_int)
    (pss_cons (ps_for PassesOwn.never rfl (pi_range1 (by rfl) T.n_range (pa_cons (pv 1) pa_nil)) (pg_name (i := 3) sc_power_of.nd rfl (.inl rfl))
    (pss_one (ps_set (i := 2) sc_power_of.nd rfl (.inl rfl) (pe_op op_mulW (pv 2) (pv 0)))))
    (pss_one (ps_ret (pv 2)))))), enter h fun ts O P X h _ => ?_⟩
    try dsimp only [cxOf, Cx.nox, Cx.wish]
    
    obtain ⟨b, t, rfl, rfl, hb, ht, p⟩ := h
    show WS _ _ _ _ [.v (.int b), .v (.int t), .no, .no] _
    walk_at "n"
    refine s_seq ?_
    refine s_forE ?_
    refine i_rng1 ?_
    repeat walk_at "e"
    refine ⟨by omega, ?_⟩
    rw [Int.toNat_natCast]
    refine for_R1 (fun i ts' O' => ∃ a : G.T, O' = [] ∧ ts' = [.v (.int b), .v (.int t), .v (.int (b ^ i : Nat)), a]) ⟨_, rfl, rfl⟩ ?_ ?_
    · rintro i _ _ hi ⟨a, rfl, rfl⟩
      refine g_name ?_
      repeat walk_at "e"
      refine w_mulW (mul_okP (a := 64 * i + 1) (b := 64) (by rw [Int.natAbs_natCast]; exact pow_lt2 hb i) (by omega) (by omega)) ?_
      rw [← Int.natCast_mul, ← Nat.pow_succ]
      exact ⟨_, rfl, rfl⟩
    · rintro _ _ ⟨a, rfl, rfl⟩
      repeat walk_at "e"
      exact ⟨rfl, p⟩
theorem sc_need_modulus : FnScope ["modulus"] ["modulus"] (defScope (top 22)) := ⟨rfl, rfl, rfl, by decide +kernel, rfl, by decide +kernel, by decide +kernel⟩
theorem ok_need_modulus {P : Program} {w : World} {K : PySem.W.Frag} {mg : Str → Option Value} {base : Heap} (T : Tx K mg) (h_fits_modulus : Fn P w K mg base 3 (He.fAd K ("fits_modulus", none)) ["value"] (sp_fits_modulus K)) : Fn P w K mg base 4 (He.fAd K ("need_modulus", none)) ["modulus"] (sp_need_modulus K) := by
  obtain ⟨_, F_fits_modulus, b_fits_modulus, kp_fits_modulus, _⟩ := h_fits_modulus
  obtain ⟨fd, F⟩ := T.d_need_modulus
  refine ⟨fd, F.ok sc_need_modulus (lift_len ?_) (fun cdv A outer s H vs Q E hr h => ?_), F.bindsN fun _ _ _ _ _ _ us hl => (match us, hl with | [_], _ => rfl), F.kp, lk_of F⟩
  · intro ts O P X h
    exact sp_need_modulus_len h
  · have hu := hr.units
    refine ⟨_, (PSs.nox (pss_one (ps_if (pt_not (pt_val (pe_call F_fits_modulus (hr.mono (by decide)) (by rfl) T.g_fits_modulus kp_fits_modulus b_fits_modulus .nil passL (pa_cons (pv 0) pa_nil))))
    (pss_one ps_never)
    pss_nil))), enter h fun ts O P X h _ => ?_⟩
    try dsimp only [cxOf, Cx.nox, Cx.wish]
    
    obtain ⟨m, rfl, rfl, h1, h2, p⟩ := h
    show WS _ _ _ _ [.v (.int m)] _
    repeat walk_at "g"
    refine u_fits_modulus (btw_int h1 h2) ⟨⟨_, rfl⟩, ?_⟩
    repeat walk_at "e"
    exact ⟨rfl, p⟩
theorem sc_times_in : FnScope ["number", "prime", "found"] ["number", "prime"] (defScope (top 23)) := ⟨rfl, rfl, rfl, by decide +kernel, rfl, by decide +kernel, by decide +kernel⟩
theorem ok_times_in {P : Program} {w : World} {K : PySem.W.Frag} {mg : Str → Option Value} {base : Heap} (T : Tx K mg)  : Fn P w K mg base 1 (He.fAd K ("times_in", none)) ["number", "prime"] (sp_times_in K) := by
  obtain ⟨fd, F⟩ := T.d_times_in
  refine ⟨fd, F.ok sc_times_in (lift_len ?_) (fun cdv A outer s H vs Q E hr h => ?_), F.bindsN fun _ _ _ _ _ _ us hl => (match us, hl with | [_, _], _ => rfl), F.kp, lk_of F⟩
  · intro ts O P X h
    exact sp_times_in_len h
  · have hu := hr.units
    refine ⟨_, (PSs.nox (pss_cons (ps_set (i := 2) sc_times_in.nd rfl (.inl rfl) pe_int)
    (pss_cons (ps_while PassesOwn.never (pt_cmpR op_eq (pe_op op_mod (pv 0) (pv 1)) pe_int (nomark _))
    (pss_one (ps_par (i := 0) (j := 2) rfl sc_times_in.nd rfl rfl (by decide) rfl rfl (pa_cons (pe_op op_fdivW (pv 0) (pv 1)) (pa_cons (pe_op op_add (pv 2) pe_int) pa_nil)) rfl)))
    (pss_one (ps_ret (pv 2)))))), enter h fun ts O P X h _ => ?_⟩
    try dsimp only [cxOf, Cx.nox, Cx.wish]
    
    obtain ⟨n, p', rfl, rfl, hn, hp, hp2, p⟩ := h
    show WS _ _ _ _ [.v (.int n), .v (.int p'), .no] _
    walk_at "n"
    refine s_seq ?_
    refine s_while (fun m ts' O' => ∃ t : Nat, O' = [] ∧ ts' = [.v (.int m), .v (.int p'), .v (.int t)] ∧ n = p' ^ t * m ∧ 1 ≤ m) n ⟨0, rfl, rfl, by simp, hn⟩ ?_
    rintro m _ _ ⟨t, rfl, rfl, he, hm⟩
    repeat walk_at "e"
    refine br (fun h0 => ?_) (fun h0 => ?_)
    · obtain ⟨k, rfl⟩ : p' ∣ m := by
        have := Int.dvd_of_emod_eq_zero h0
        exact Int.natCast_dvd_natCast.mp this
      repeat walk_at "e"
      have hk : 1 ≤ k := by
        rcases Nat.eq_zero_or_pos k with rfl | hk
        · rw [Nat.mul_zero] at hm; omega
        · exact hk
      refine ⟨k, ?_, t + 1, rfl, ?_, ?_, hk⟩
      · have := Nat.mul_le_mul_right k hp
        omega
      · rw [Int.natCast_mul, Int.mul_ediv_cancel_left _ (show (p' : Int) ≠ 0 by omega)]
        exact rfl
      · rw [he, Nat.pow_succ, Nat.mul_assoc]
    · repeat walk_at "e"
      have e := vl_eq hp hn he (fun z => h0 (by rw [← Int.natCast_emod, z]; exact rfl))
      rw [e] at p
      exact ⟨rfl, p⟩
theorem sc_small_in : FnScope ["number", "most", ".0", "prime"] ["number", "most"] (defScope (top 24)) := ⟨rfl, rfl, rfl, by decide +kernel, rfl, by decide +kernel, by decide +kernel⟩
theorem ok_small_in {P : Program} {w : World} {K : PySem.W.Frag} {mg : Str → Option Value} {base : Heap} (T : Tx K mg) (h_times_in : Fn P w K mg base 1 (He.fAd K ("times_in", none)) ["number", "prime"] (sp_times_in K)) : Fn P w K mg base 2 (He.fAd K ("small_in", none)) ["number", "most"] (sp_small_in K) := by
  obtain ⟨_, F_times_in, b_times_in, kp_times_in, _⟩ := h_times_in
  obtain ⟨fd, F⟩ := T.d_small_in
  have ct_PRIMES := T.ct_PRIMES
  refine ⟨fd, F.ok sc_small_in (lift_len ?_) (fun cdv A outer s H vs Q E hr h => ?_), F.bindsN fun _ _ _ _ _ _ us hl => (match us, hl with | [_, _], _ => rfl), F.kp, lk_of F⟩
  · intro ts O P X h
    exact sp_small_in_len h
  · have hu := hr.units
    refine ⟨_, (PSs.nox (pss_one (ps_ret (pe_lc (own := [(".0", 2), ("prime", 3)]) rfl sc_small_in.nd (pi_tupK K (pe_glob (v := .ref (He.ga K "PRIMES")) (by rfl) T.g_PRIMES rfl)) (blkOk_by (own := [(".0", 2), ("prime", 3)]) (N := ["number", "most", ".0", "prime"]) (sc := defScope (top 24)) (by decide +kernel)) (fun _ _ _ _ _ => (pg_name (i := 3) sc_small_in.nd rfl (.inl rfl))) (fun _ _ _ _ _ => (pts_one (PW.pt (pw_and (pt_cmpR op_le (pv 3) (pv 1) (nomark _)) (pw_and1 (pt_cmpR op_eq (pe_op op_mod (pv 0) (pv 3)) pe_int (nomark _))))))) (fun _ _ _ _ _ => (pe_tup (pa_cons (pv 3) (pa_cons (pe_call F_times_in (hr.mono (by decide)) (by rfl) T.g_times_in kp_times_in b_times_in .nil passL (pa_cons (pv 0) (pa_cons (pv 3) pa_nil))) pa_nil)))))))), enter h fun ts O P X h _ => ?_⟩
    try dsimp only [cxOf, Cx.nox, Cx.wish]
    
    obtain ⟨n, m, rfl, rfl, hn, hn2, p⟩ := h
    show WS _ _ _ _ [.v (.int n), .v (.int m), .no, .no] _
    repeat walk_at "e"
    refine w_lcF1 ?_ (by decide)
    refine i_tup ?_
    repeat walk_at "e"
    refine lcF_A PR (fun p => .int (p : Nat)) (fun p => decide (p ≤ m) && decide (n % p = 0)) (fun p => smD (p, vl p n)) (by decide) (fun q acc hq => ?_) ?_
    · obtain ⟨q1, q2⟩ := pr_two hq
      refine g_name ?_
      have e1 : decide ((n : Int) % (q : Nat) = 0) = decide (n % q = 0) := by
        rw [← Int.natCast_emod]
        by_cases h : n % q = 0
        · rw [decide_eq_true h, h]
          exact rfl
        · rw [decide_eq_false h]
          exact decide_eq_false (by omega)
      have e2 : decide ((q : Int) ≤ (m : Nat)) = decide (q ≤ m) := by
        by_cases h : q ≤ m
        · rw [decide_eq_true h]
          exact decide_eq_true (by omega)
        · rw [decide_eq_false h]
          exact decide_eq_false (by omega)
      repeat walk_at "e"
      rw [e2]
      by_cases hqm : q ≤ m
      · rw [decide_eq_true hqm]
        repeat walk_at "e"
        rw [e1]
        refine ⟨(Bool.true_and _).symm, rfl, fun _ => ?_⟩
        repeat walk_at "e"
        refine ⟨n, q, rfl, rfl, hn, q1, by omega, ⟨⟨_, rfl⟩, ?_⟩⟩
        repeat walk_at "e"
        exact ⟨rfl, rfl⟩
      · rw [decide_eq_false hqm]
        repeat walk_at "e"
        exact ⟨(Bool.false_and _).symm, rfl, fun z => (by rw [Bool.false_and] at z; cases z)⟩
    · have e : ((PR.filter fun p => decide (p ≤ m) && decide (n % p = 0)).map fun p => smD (p, vl p n)) = (small n m).map smD := by
        unfold small
        rw [List.map_map]
        exact rfl
      rw [e]
      exact ⟨rfl, p⟩
theorem sc_great_in : FnScope ["number", "most", "prime", "times"] ["number", "most"] (defScope (top 25)) := ⟨rfl, rfl, rfl, by decide +kernel, rfl, by decide +kernel, by decide +kernel⟩
theorem ok_great_in {P : Program} {w : World} {K : PySem.W.Frag} {mg : Str → Option Value} {base : Heap} (T : Tx K mg) (h_small_in : Fn P w K mg base 2 (He.fAd K ("small_in", none)) ["number", "most"] (sp_small_in K)) (h_power_of : Fn P w K mg base 1 (He.fAd K ("power_of", none)) ["number", "times"] (sp_power_of K)) : Fn P w K mg base 3 (He.fAd K ("great_in", none)) ["number", "most"] (sp_great_in K) := by
  obtain ⟨_, F_small_in, b_small_in, kp_small_in, _⟩ := h_small_in
  obtain ⟨_, F_power_of, b_power_of, kp_power_of, _⟩ := h_power_of
  obtain ⟨fd, F⟩ := T.d_great_in
  refine ⟨fd, F.ok sc_great_in (lift_len ?_) (fun cdv A outer s H vs Q E hr h => ?_), F.bindsN fun _ _ _ _ _ _ us hl => (match us, hl with | [_, _], _ => rfl), F.kp, lk_of F⟩
  · intro ts O P X h
    exact sp_great_in_len h
  · have hu := hr.units
    refine ⟨_, (PSs.nox (pss_cons (ps_for PassesOwn.never rfl (pi_listK K (pe_call F_small_in (hr.mono (by decide)) (by rfl) T.g_small_in kp_small_in b_small_in .nil passL (pa_cons (pv 0) (pa_cons (pv 1) pa_nil)))) (pg_tupK K (n := 2) rfl (pgs_cons (pg_name (i := 2) sc_great_in.nd rfl (.inl rfl)) (pgs_cons (pg_name (i := 3) sc_great_in.nd rfl (.inl rfl)) pgs_nil)))
    (pss_one (ps_set (i := 0) sc_great_in.nd rfl (.inl rfl) (pe_op op_fdivW (pv 0) (pe_call F_power_of (hr.mono (by decide)) (by rfl) T.g_power_of kp_power_of b_power_of .nil passL (pa_cons (pv 2) (pa_cons (pv 3) pa_nil)))))))
    (pss_one (ps_ret (pv 0))))), enter h fun ts O P X h _ => ?_⟩
    try dsimp only [cxOf, Cx.nox, Cx.wish]
    
    obtain ⟨n, m, rfl, rfl, hn, hn2, p⟩ := h
    show WS _ _ _ _ [.v (.int n), .v (.int m), .no, .no] _
    refine s_seq ?_
    refine s_forE ?_
    refine i_list ?_
    repeat walk_at "e"
    refine ⟨n, m, rfl, rfl, hn, hn2, ⟨⟨_, rfl⟩, ?_⟩⟩
    repeat walk_at "e"
    refine for_A (fun i ts' O' => ∃ (a b : G.T), O' = [] ∧ ts' = [.v (.int (((small n m).take i).foldl cutP n : Nat)), .v (.int m), a, b]) ⟨_, _, rfl, rfl⟩ ?_ ?_
    · rintro i x _ _ hi hx ⟨a, b, rfl, rfl⟩
      have hm := List.mem_of_getElem? hx
      obtain ⟨d1, d2⟩ := small_dvd hn hm
      obtain ⟨k1, _, _, k4⟩ := small_mem hm
      have k2 := pr_two k1
      have hle := Nat.le_of_dvd hn d2
      have ht : x.2 ≤ 1000 := by
        have : x.2 < 2 ^ x.2 := Nat.lt_two_pow_self
        have h2 : 2 ^ x.2 ≤ x.1 ^ x.2 := Nat.pow_le_pow_left k2.1 _
        have h3 : 2 ^ x.2 < 2 ^ 200 := by omega
        have := (Nat.pow_lt_pow_iff_right (show 1 < 2 by decide)).mp h3
        omega
      refine g_pair rfl ?_
      repeat walk_at "e"
      refine ⟨x.1, x.2, rfl, rfl, by omega, ht, ⟨⟨_, rfl⟩, ?_⟩⟩
      repeat walk_at "e"
      rw [← Int.natCast_ediv, List.take_succ, hx, Option.toList_some, List.foldl_append]
      exact ⟨_, _, rfl, rfl⟩
    · rintro _ _ ⟨a, b, rfl, rfl⟩
      rw [List.take_length]
      repeat walk_at "e"
      exact ⟨rfl, p⟩
theorem sc_great_part : FnScope ["modulus", "most"] ["modulus", "most"] (defScope (top 26)) := ⟨rfl, rfl, rfl, by decide +kernel, rfl, by decide +kernel, by decide +kernel⟩
theorem ok_great_part {P : Program} {w : World} {K : PySem.W.Frag} {mg : Str → Option Value} {base : Heap} (T : Tx K mg) (h_need_modulus : Fn P w K mg base 4 (He.fAd K ("need_modulus", none)) ["modulus"] (sp_need_modulus K)) (h_is_between : Fn P w K mg base 2 (He.fAd K ("is_between", none)) ["value", "low", "high"] (sp_is_between K)) (h_great_in : Fn P w K mg base 3 (He.fAd K ("great_in", none)) ["number", "most"] (sp_great_in K)) : Fn P w K mg base 5 (He.fAd K ("great_part", none)) ["modulus", "most"] (sp_great_part K) := by
  obtain ⟨_, F_need_modulus, b_need_modulus, kp_need_modulus, _⟩ := h_need_modulus
  obtain ⟨_, F_is_between, b_is_between, kp_is_between, _⟩ := h_is_between
  obtain ⟨_, F_great_in, b_great_in, kp_great_in, _⟩ := h_great_in
  obtain ⟨fd, F⟩ := T.d_great_part
  obtain ⟨_, T_i_MOST_INDEX⟩ := T.i_MOST_INDEX_
  refine ⟨fd, F.ok sc_great_part (lift_len ?_) (fun cdv A outer s H vs Q E hr h => ?_), F.bindsN fun _ _ _ _ _ _ us hl => (match us, hl with | [_, _], _ => rfl), F.kp, lk_of F⟩
  · intro ts O P X h
    exact sp_great_part_len h
  · have hu := hr.units
    refine ⟨_, (PSs.nox (pss_cons (ps_expr (pe_call F_need_modulus (hr.mono (by decide)) (by rfl) T.g_need_modulus kp_need_modulus b_need_modulus .nil passL (pa_cons (pv 0) pa_nil)))
    (pss_cons (ps_if (pt_not (pt_val (pe_call F_is_between (hr.mono (by decide)) (by rfl) T.g_is_between kp_is_between b_is_between .nil passL (pa_cons (pv 1) (pa_cons pe_int (pa_cons (pe_glob (v := .int 12) (by rfl) T_i_MOST_INDEX ⟨_, rfl⟩) pa_nil))))))
    (pss_one ps_never)
    pss_nil)
    (pss_one (ps_ret (pe_call F_great_in (hr.mono (by decide)) (by rfl) T.g_great_in kp_great_in b_great_in .nil passL (pa_cons (pv 0) (pa_cons (pv 1) pa_nil)))))))), enter h fun ts O P X h _ => ?_⟩
    try dsimp only [cxOf, Cx.nox, Cx.wish]
    
    obtain ⟨n, m, rfl, rfl, hn, hn2, hm, p⟩ := h
    show WS _ _ _ _ [.v (.int n), .v (.int m)] _
    walk_at "n"
    refine ⟨n, rfl, rfl, by omega, by omega, ⟨⟨_, rfl⟩, ?_⟩⟩
    walk_at "n"
    refine u_between (by omega) (by omega) ⟨⟨_, rfl⟩, ?_⟩
    repeat walk_at "e"
    exact ⟨n, m, rfl, rfl, by omega, by omega, ⟨⟨_, rfl⟩, rfl, p⟩⟩
theorem sc_small_parts : FnScope ["modulus", "most"] ["modulus", "most"] (defScope (top 27)) := ⟨rfl, rfl, rfl, by decide +kernel, rfl, by decide +kernel, by decide +kernel⟩
theorem ok_small_parts {P : Program} {w : World} {K : PySem.W.Frag} {mg : Str → Option Value} {base : Heap} (T : Tx K mg) (h_need_modulus : Fn P w K mg base 4 (He.fAd K ("need_modulus", none)) ["modulus"] (sp_need_modulus K)) (h_is_between : Fn P w K mg base 2 (He.fAd K ("is_between", none)) ["value", "low", "high"] (sp_is_between K)) (h_small_in : Fn P w K mg base 2 (He.fAd K ("small_in", none)) ["number", "most"] (sp_small_in K)) : Fn P w K mg base 5 (He.fAd K ("small_parts", none)) ["modulus", "most"] (sp_small_parts K) := by
  obtain ⟨_, F_need_modulus, b_need_modulus, kp_need_modulus, _⟩ := h_need_modulus
  obtain ⟨_, F_is_between, b_is_between, kp_is_between, _⟩ := h_is_between
  obtain ⟨_, F_small_in, b_small_in, kp_small_in, _⟩ := h_small_in
  obtain ⟨fd, F⟩ := T.d_small_parts
  obtain ⟨_, T_i_MOST_INDEX⟩ := T.i_MOST_INDEX_
  refine ⟨fd, F.ok sc_small_parts (lift_len ?_) (fun cdv A outer s H vs Q E hr h => ?_), F.bindsN fun _ _ _ _ _ _ us hl => (match us, hl with | [_, _], _ => rfl), F.kp, lk_of F⟩
  · intro ts O P X h
    exact sp_small_parts_len h
  · have hu := hr.units
    refine ⟨_, (PSs.nox (pss_cons (ps_expr (pe_call F_need_modulus (hr.mono (by decide)) (by rfl) T.g_need_modulus kp_need_modulus b_need_modulus .nil passL (pa_cons (pv 0) pa_nil)))
    (pss_cons (ps_if (pt_not (pt_val (pe_call F_is_between (hr.mono (by decide)) (by rfl) T.g_is_between kp_is_between b_is_between .nil passL (pa_cons (pv 1) (pa_cons pe_int (pa_cons (pe_glob (v := .int 12) (by rfl) T_i_MOST_INDEX ⟨_, rfl⟩) pa_nil))))))
    (pss_one ps_never)
    pss_nil)
    (pss_one (ps_ret (pe_callTy (cr_tupK K) (by rfl) T.n_tuple boot_tuple (pa_cons (pe_call F_small_in (hr.mono (by decide)) (by rfl) T.g_small_in kp_small_in b_small_in .nil passL (pa_cons (pv 0) (pa_cons (pv 1) pa_nil))) pa_nil))))))), enter h fun ts O P X h _ => ?_⟩
    try dsimp only [cxOf, Cx.nox, Cx.wish]
    
    obtain ⟨n, m, rfl, rfl, hn, hn2, hm, p⟩ := h
    show WS _ _ _ _ [.v (.int n), .v (.int m)] _
    walk_at "n"
    refine ⟨n, rfl, rfl, by omega, by omega, ⟨⟨_, rfl⟩, ?_⟩⟩
    walk_at "n"
    refine u_between (by omega) (by omega) ⟨⟨_, rfl⟩, ?_⟩
    repeat walk_at "e"
    refine ⟨n, m, rfl, rfl, by omega, by omega, ⟨⟨_, rfl⟩, ?_⟩⟩
    repeat walk_at "e"
    exact ⟨rfl, p⟩
theorem sc_common_divisor : FnScope ["one", "other"] ["one", "other"] (defScope (top 28)) := ⟨rfl, rfl, rfl, by decide +kernel, rfl, by decide +kernel, by decide +kernel⟩
theorem ok_common_divisor {P : Program} {w : World} {K : PySem.W.Frag} {mg : Str → Option Value} {base : Heap} (T : Tx K mg)  : Fn P w K mg base 1 (He.fAd K ("common_divisor", none)) ["one", "other"] (sp_common_divisor K) := by
  obtain ⟨fd, F⟩ := T.d_common_divisor
  refine ⟨fd, F.ok sc_common_divisor (lift_len ?_) (fun cdv A outer s H vs Q E hr h => ?_), F.bindsN fun _ _ _ _ _ _ us hl => (match us, hl with | [_, _], _ => rfl), F.kp, lk_of F⟩
  · intro ts O P X h
    exact sp_common_divisor_len h
  · have hu := hr.units
    refine ⟨_, (PSs.nox (pss_cons (ps_while PassesOwn.never (pt_cmpR op_gt (pv 1) pe_int (nomark _))
    (pss_one (ps_par (i := 0) (j := 1) rfl sc_common_divisor.nd rfl rfl (by decide) rfl rfl (pa_cons (pv 1) (pa_cons (pe_op op_mod (pv 0) (pv 1)) pa_nil)) rfl)))
    (pss_one (ps_ret (pv 0))))), enter h fun ts O P X h _ => ?_⟩
    try dsimp only [cxOf, Cx.nox, Cx.wish]
    
    obtain ⟨a, b, rfl, rfl, p⟩ := h
    show WS _ _ _ _ [.v (.int a), .v (.int b)] _
    refine s_seq ?_
    refine s_while (fun m ts' O' => ∃ x : Nat, O' = [] ∧ ts' = [.v (.int x), .v (.int m)] ∧ Nat.gcd x m = Nat.gcd a b) b ⟨a, rfl, rfl, rfl⟩ ?_
    rintro m _ _ ⟨x, rfl, rfl, hg⟩
    repeat walk_at "e"
    refine br (fun h0 => ?_) (fun h0 => ?_)
    · repeat walk_at "e"
      refine ⟨x % m, Nat.mod_lt _ (by omega), m, rfl, ?_, ?_⟩
      · rw [Int.natCast_emod]
        exact rfl
      · rw [← hg, Nat.gcd_comm m, ← Nat.gcd_rec, Nat.gcd_comm]
    · repeat walk_at "e"
      obtain rfl : m = 0 := by omega
      rw [Nat.gcd_zero_right] at hg
      rw [hg]
      exact ⟨rfl, p⟩
theorem sc_combined : FnScope ["one", "other", "first", "second", "mine", "its", "times"] ["one", "other"] (defScope (top 29)) := ⟨rfl, rfl, rfl, by decide +kernel, rfl, by decide +kernel, by decide +kernel⟩
theorem ok_combined {P : Program} {w : World} {K : PySem.W.Frag} {mg : Str → Option Value} {base : Heap} (T : Tx K mg)  : Fn P w K mg base 1 (He.fAd K ("combined", none)) ["one", "other"] (sp_combined K) := by
  obtain ⟨fd, F⟩ := T.d_combined
  refine ⟨fd, F.ok sc_combined (lift_len ?_) (fun cdv A outer s H vs Q E hr h => ?_), F.bindsN fun _ _ _ _ _ _ us hl => (match us, hl with | [_, _], _ => rfl), F.kp, lk_of F⟩
  · intro ts O P X h
    exact sp_combined_len h
  · have hu := hr.units
    refine ⟨_, (PSs.nox (pss_cons (ps_asg (pe_tup (pa_cons pe_int (pa_cons pe_int (pa_cons pe_int (pa_cons pe_int pa_nil))))) (pg_tupK K (n := 4) rfl (pgs_cons (pg_name (i := 2) sc_combined.nd rfl (.inl rfl)) (pgs_cons (pg_name (i := 3) sc_combined.nd rfl (.inl rfl)) (pgs_cons (pg_name (i := 4) sc_combined.nd rfl (.inl rfl)) (pgs_cons (pg_name (i := 5) sc_combined.nd rfl (.inl rfl)) pgs_nil))))))
    (pss_cons (ps_while PassesOwn.never (pt_cmpR op_gt (pv 1) pe_int (nomark _))
    (pss_cons (ps_set (i := 6) sc_combined.nd rfl (.inl rfl) (pe_op op_fdivW (pv 0) (pv 1)))
    (pss_cons (ps_par (i := 0) (j := 1) rfl sc_combined.nd rfl rfl (by decide) rfl rfl (pa_cons (pv 1) (pa_cons (pe_op op_sub (pv 0) (pe_op op_mulW (pv 6) (pv 1))) pa_nil)) rfl)
    (pss_cons (ps_par (i := 2) (j := 4) rfl sc_combined.nd rfl rfl (by decide) rfl rfl (pa_cons (pv 4) (pa_cons (pe_op op_sub (pv 2) (pe_op op_mulW (pv 6) (pv 4))) pa_nil)) rfl)
    (pss_one (ps_par (i := 3) (j := 5) rfl sc_combined.nd rfl rfl (by decide) rfl rfl (pa_cons (pv 5) (pa_cons (pe_op op_sub (pv 3) (pe_op op_mulW (pv 6) (pv 5))) pa_nil)) rfl))))))
    (pss_one (ps_ret (pe_tup (pa_cons (pv 0) (pa_cons (pv 2) (pa_cons (pv 3) pa_nil))))))))), enter h fun ts O P X h _ => ?_⟩
    try dsimp only [cxOf, Cx.nox, Cx.wish]
    
    obtain ⟨a, b, rfl, rfl, ha, hb, p⟩ := h
    show WS _ _ _ _ [.v (.int a), .v (.int b), .no, .no, .no, .no, .no] _
    walk_at "n"
    refine s_seq ?_
    refine s_while (fun m ts' O' => ∃ (x : Nat) (s t u v : Int) (c : G.T), O' = [] ∧ ts' = [.v (.int x), .v (.int m), .v (.int s), .v (.int t), .v (.int u), .v (.int v), c] ∧ Bz a b x m s t u v ∧ x < 2 ^ 200 ∧ m < 2 ^ 200) b ⟨a, 1, 0, 0, 1, _, rfl, rfl, Bz.start a b, ha, hb⟩ ?_
    rintro m _ _ ⟨x, s', t', u, v, c, rfl, rfl, hz, hx, hm⟩
    repeat walk_at "e"
    refine br (fun h0 => ?_) (fun h0 => ?_)
    · have hq : x / m ≤ x := Nat.div_le_self x m
      have hq2 : x % m < m := Nat.mod_lt _ (by omega)
      have hb1 := hz.m1.2.2
      have e1 : (x : Int) / (m : Nat) = ((x / m : Nat) : Int) := (Int.natCast_ediv x m).symm
      have e2 : (x : Int) - ((x / m : Nat) : Int) * (m : Nat) = ((x % m : Nat) : Int) := by
        have := Nat.div_add_mod x m
        rw [Nat.mul_comm] at this
        have h2 : ((x / m * m + x % m : Nat) : Int) = (x : Int) := by rw [this]
        rw [Int.natCast_add, Int.natCast_mul] at h2
        omega
      walk_at "n"
      rw [e1]
      generalize hqd : ((x / m : Nat) : Int) = q
      have hq0 : 0 ≤ q ∧ q < 2 ^ 200 := by
        rw [← hqd]
        exact ⟨Int.natCast_nonneg _, by have : x / m < 2 ^ 200 := by omega
                                        exact_mod_cast this⟩
      walk_at "n"
      walk_at "n"
      repeat walk_at "e"
      rw [← hqd, e2]
      exact ⟨x % m, hq2, m, _, _, _, _, _, rfl, rfl, hz.step (by omega), hm, by omega⟩
    · repeat walk_at "e"
      obtain rfl : m = 0 := by omega
      have e := hz.end_ rfl
      have e1 := hz.e1
      have m1 := hz.m1
      rw [e] at e1 ⊢
      exact ⟨rfl, p s' t' e1 m1.1 m1.2.1⟩
theorem sc_SharedU_initU : FnScope ["self", "divisor", "multipliers"] ["self", "divisor", "multipliers"] (defScope (inClass (top 30) 0)) := ⟨rfl, rfl, rfl, by decide +kernel, rfl, by decide +kernel, by decide +kernel⟩
theorem ok_SharedU_initU {P : Program} {w : World} {K : PySem.W.Frag} {mg : Str → Option Value} {base : Heap} (T : Tx K mg)  : Fn P w K mg base 1 (He.fAd K ("Shared", some "__init__")) ["self", "divisor", "multipliers"] (sp_sh_init K) := by
  obtain ⟨fd, F⟩ := T.d_SharedU_initU
  have hc_Shared := T.cl_Shared
  have hn_Shared_divisor := T.na_Shared_divisor
  have hc_Shared := T.cl_Shared
  have hn_Shared_multipliers := T.na_Shared_multipliers
  refine ⟨fd, F.ok sc_SharedU_initU (lift_len ?_) (fun cdv A outer s H vs Q E hr h => ?_), F.bindsN fun _ _ _ _ _ _ us hl => (match us, hl with | [_, _, _], _ => rfl), F.kp, lk_of F⟩
  · intro ts O P X h
    exact sp_sh_init_len h
  · have hu := hr.units
    refine ⟨_, (PSs.nox (pss_cons (ps_fld (pv 0) (pv 1) rfl)
    (pss_one (ps_fld (pv 0) (pv 2) rfl)))), enter h fun ts O P X h _ => ?_⟩
    try dsimp only [cxOf, Cx.nox, Cx.wish]
    
    obtain ⟨d, e, rfl, rfl, p⟩ := h
    show WS _ _ _ _ [.own 0, .v d, .v e] _
    repeat walk_at "g"
    exact ⟨rfl, p⟩
end My

set_option Elab.async false
set_option linter.all false
set_option maxRecDepth 100000
set_option maxHeartbeats 0
namespace My
open PySem PySem.Spec PyProof.Rows L2 G

local macro_rules | `(tactic| walk_at "ws") => `(tactic| first
  | with_reducible refine s_set ?_
  | with_reducible refine s_if ?_
  | with_reducible refine s_ret ?_
  | with_reducible refine s_retN ?_
  | with_reducible refine s_drop ?_
  | with_reducible refine s_next ?_
  | with_reducible refine s_par ?_
  | with_reducible refine s_par3 ?_
  | refine s_fldN (by assumption) (by assumption) ?_
  | with_reducible refine s_asg ?_)
local macro_rules | `(tactic| walk_at "we") => `(tactic| first
  | ((with_reducible refine w_v (d := ?k2) ?k1 ?_); (case k1 => exact rfl))
  | ((with_reducible refine w_o (j := ?k2) ?k1 ?_); (case k1 => exact rfl))
  | ((guard_target = G.WE _ _ (tFld _ _ _) _ _ _ _); (refine w_fldN (by assumption) (by assumption) ?_))
  | ((guard_target = G.WE _ _ (tC (.ref _)) _ _ _ _); (refine w_ctup (by assumption) ?_))
  | with_reducible refine w_ci ?_
  | with_reducible refine w_op ?_
  | with_reducible refine w_call ?_
  | with_reducible refine w_cty ?_
  | with_reducible refine w_cb ?_
  | with_reducible refine w_cn ?_
  | with_reducible refine w_cs ?_
  | with_reducible refine w_cr ?_
  | with_reducible refine w_un ?_
  | with_reducible refine w_andV ?_
  | with_reducible refine w_orV ?_
  | with_reducible refine w_notV ?_
  | with_reducible refine w_ife ?_
  | with_reducible refine w_chain ?_
  | with_reducible refine w_tup ?_
  | with_reducible refine w_revL ?_
  | with_reducible refine w_slL ?_
  | with_reducible refine w_slT ?_
  | (guard_target = G.WE _ _ (tCall (lift _ (sp_draw _)) _ _ _) _ _ _ _; refine w_fn10 0 ?_)
  | (guard_target = G.WE _ _ (tCall (lift _ (sp_pick _)) _ _ _) _ _ _ _; refine w_fn10 0 ?_)
  | (guard_target = G.WE _ _ (tCall (lift _ (sp_l_modulus _)) _ _ _) _ _ _ _; refine w_fn10 0 ?_)
  | (guard_target = G.WE _ _ (tCall (lift _ (sp_l_put _)) _ _ _) _ _ _ _; refine w_fn10 0 ?_)
  | (guard_target = G.WE _ _ (tCall (lift _ (sp_l_share _)) _ _ _) _ _ _ _; refine w_fn10 0 ?_)
  | with_reducible refine w_fn0 ?_
  | with_reducible refine w_fnS0 ?_
  | with_reducible refine w_meth0 ?_
  | with_reducible refine w_make0 ?_
  | with_reducible refine w_bmL ?_
  | with_reducible refine w_bmL0 ?_
  | with_reducible refine w_lst ?_)
local macro_rules | `(tactic| walk_at "wt") => `(tactic| first
  | with_reducible refine w_test ?_
  | with_reducible refine w_B ?_
  | with_reducible refine w_and ?_
  | with_reducible refine w_or ?_
  | with_reducible refine w_not ?_)
local macro_rules | `(tactic| walk_at "wa") => `(tactic| first
  | with_reducible refine w_cons ?_
  | with_reducible refine w_nil ?_
  | with_reducible refine w_star ?_)
local macro_rules | `(tactic| walk_at "wr") => `(tactic| first
  | with_reducible refine w_add ?_
  | with_reducible refine w_sub ?_
  | with_reducible refine w_lt ?_
  | with_reducible refine w_le ?_
  | with_reducible refine w_gt ?_
  | with_reducible refine w_ge ?_
  | with_reducible refine w_eqI ?_
  | with_reducible refine w_neI ?_
  | with_reducible refine w_isN ?_
  | with_reducible refine w_notN ?_
  | ((with_reducible refine w_mod ?k1 ?_); (case k1 => first | decide | omega))
  | ((with_reducible refine w_mul ?k1 ?_); (case k1 => first | exact Or.inl ⟨by decide, by decide⟩ | exact Or.inr ⟨by decide, by decide⟩ | exact Or.inl ⟨by omega, by omega⟩ | exact Or.inr ⟨by omega, by omega⟩))
  | ((with_reducible refine w_pow ?k1 ?_); (case k1 => first | exact ⟨by decide, by decide, by decide⟩ | exact ⟨by omega, by omega, by omega⟩))
  | ((with_reducible refine w_fdivW ?k1 ?_); (case k1 => exact divW_ok (by first | decide | omega) (by first | decide | omega)))
  | ((with_reducible refine w_mulW ?k1 ?_); (case k1 => exact mulW_ok ⟨by omega, by omega⟩ ⟨by omega, by omega⟩))
  | ((guard_target = G.WR _ (rIxT _) _ _ _ _); (refine w_ixT (by first | exact atI_0 | exact atI_1 | exact atI_2 | exact atI_3 | exact atI_4 | exact atI_5 | exact atI_6 | assumption) ?_))
  | ((guard_target = G.WR _ (rIxL _) _ _ _ _); (refine w_ixL (by first | exact lstD_v | exact lstD_o rfl) (by first | exact atI_0 | exact atI_1 | exact atI_2 | exact atI_3 | exact atI_4 | exact atI_5 | exact atI_6 | assumption) ?_)))
local macro_rules | `(tactic| walk_at "wc") => `(tactic| first
  | with_reducible refine c_int ?_
  | with_reducible refine c_intB ?_
  | with_reducible refine c_abs ?_
  | ((guard_target = G.WC _ (G.rLen _) _ _ _); (refine c_lenL (by first | exact lstD_v | exact lstD_o rfl) ?_))
  | with_reducible refine c_lenT ?_
  | ((guard_target = G.WC _ (G.rListOf _) _ _ _); (refine c_listL (by first | exact lstD_v | exact lstD_o rfl) ?_))
  | with_reducible refine c_listT ?_
  | ((guard_target = G.WC _ (G.rTupOf _) _ _ _); (refine c_tupL (by first | exact lstD_v | exact lstD_o rfl) ?_))
  | with_reducible refine c_tupT ?_)
local macro_rules | `(tactic| walk_at "e") => `(tactic| first
  | (guard_target = G.WE _ _ _ _ _ _ _; walk_at "we")
  | (guard_target = G.WS _ _ _ _ _ _; walk_at "ws")
  | (guard_target = G.WA _ _ _ _ _ _ _; walk_at "wa")
  | (guard_target = G.WR _ _ _ _ _ _; walk_at "wr")
  | (guard_target = G.WT _ _ _ _ _ _ _; walk_at "wt")
  | (guard_target = G.WC _ _ _ _ _; walk_at "wc")
  | (guard_target = G.WU _ _ _ _ _; with_reducible refine w_neg ?_)
  | (guard_target = G.WG _ _ _ _ _ _ _; first | with_reducible refine g_name ?_ | with_reducible refine g_setL ?_ | refine g_pair rfl ?_ | refine g_trip rfl ?_ | refine g_quad rfl ?_)
  | (guard_target = G.WO _ _ _ _ _ _ _; first | with_reducible refine o_none ?_ | with_reducible refine o_some ?_)
  | with_reducible refine tt_ ?_
  | with_reducible refine ff_ ?_
  | with_reducible refine ntt_ ?_
  | with_reducible refine nff_ ?_
  | ((guard_target = ((!G.isNon _) = true → _) ∧ _); (first | refine bnF rfl ?_ | refine bnT rfl ?_))
  | ((guard_target = (G.isNon _ = true → _) ∧ _); (first | refine bF rfl ?_ | refine bT rfl ?_))
  | (guard_target = Exists _; first
    | refine ⟨_, rfl, Nat.le_of_ble_eq_true rfl, Nat.le_of_ble_eq_true rfl, ?_⟩
    | refine ⟨_, _, _, _, _, rfl, rfl, rfl, rfl, rfl, ?_⟩
    | refine ⟨_, _, _, rfl, rfl, rfl, Nat.le_of_ble_eq_true rfl, ?_⟩
    | refine ⟨_, _, rfl, rfl, rfl, ?_⟩
    | refine ⟨_, _, _, rfl, ?_⟩
    | refine ⟨_, _, (by first | exact insD_v | exact insD_o rfl), rfl, ?_⟩
    | refine ⟨_, _, rfl, ?_⟩
    | refine ⟨_, rfl, rfl, ?_⟩
    | refine ⟨_, rfl, Nat.le_of_ble_eq_true rfl, ?_⟩
    | refine ⟨_, (by first | exact lstD_v | exact lstD_o rfl), ?_⟩
    | refine ⟨_, rfl, ?_⟩))
local macro_rules | `(tactic| walk_at "o") => `(tactic| first | with_reducible refine w_lstO ?_ | walk_at "e")
local macro_rules | `(tactic| walk_at "g") => `(tactic| first | walk_at "e" | with_reducible refine s_seq ?_)
local macro_rules | `(tactic| walk_at "n") => `(tactic| (with_reducible refine s_seq ?_); (repeat walk_at "e"))
theorem sc_shared_in : FnScope ["modulus", "numbers", "divisor", "found", "number", "old", "new", ".0", "many"] ["modulus", "numbers"] (defScope (top 31)) := ⟨rfl, rfl, rfl, by decide +kernel, rfl, by decide +kernel, by decide +kernel⟩
theorem ok_shared_in {P : Program} {w : World} {K : PySem.W.Frag} {mg : Str → Option Value} {base : Heap} (T : Tx K mg) (h_combined : Fn P w K mg base 1 (He.fAd K ("combined", none)) ["one", "other"] (sp_combined K)) : Fn P w K mg base 2 (He.fAd K ("shared_in", none)) ["modulus", "numbers"] (sp_shared_in K) := by
  obtain ⟨_, F_combined, b_combined, kp_combined, _⟩ := h_combined
  obtain ⟨fd, F⟩ := T.d_shared_in
  refine ⟨fd, F.ok sc_shared_in (lift_len ?_) (fun cdv A outer s H vs Q E hr h => ?_), F.bindsN fun _ _ _ _ _ _ us hl => (match us, hl with | [_, _], _ => rfl), F.kp, lk_of F⟩
  · intro ts O P X h
    exact sp_shared_in_len h
  · have hu := hr.units
    refine ⟨_, (PSs.nox (pss_cons (ps_par (i := 2) (j := 3) rfl sc_shared_in.nd rfl rfl (by decide) rfl rfl (pa_cons (pv 0) (pa_cons (pe_lst pa_nil) pa_nil)) rfl)
    (pss_cons (ps_for PassesOwn.never rfl (pi_tupK K (pv 1)) (pg_name (i := 4) sc_shared_in.nd rfl (.inl rfl))
    (pss_cons (ps_asg (pe_call F_combined (hr.mono (by decide)) (by rfl) T.g_combined kp_combined b_combined .nil passL (pa_cons (pv 2) (pa_cons (pe_op op_mod (pv 4) (pv 0)) pa_nil))) (pg_tupK K (n := 3) rfl (pgs_cons (pg_name (i := 2) sc_shared_in.nd rfl (.inl rfl)) (pgs_cons (pg_name (i := 5) sc_shared_in.nd rfl (.inr rfl)) (pgs_cons (pg_name (i := 6) sc_shared_in.nd rfl (.inl rfl)) pgs_nil)))))
    (pss_one (ps_set (i := 3) sc_shared_in.nd rfl (.inl rfl) (pe_op op_cat (pe_lc (own := [(".0", 7), ("many", 8)]) rfl sc_shared_in.nd (pi_listK K (pv 3)) (blkOk_by (own := [(".0", 7), ("many", 8)]) (N := ["modulus", "numbers", "divisor", "found", "number", "old", "new", ".0", "many"]) (sc := defScope (top 31)) (by decide +kernel)) (fun _ _ _ _ _ => (pg_name (i := 8) sc_shared_in.nd rfl (.inl rfl))) (fun _ _ _ _ _ => pts_nil) (fun _ _ _ _ _ => (pe_op op_mod (pe_op op_mulW (pv 8) (pv 5)) (pv 0)))) (pe_lst (pa_cons (pe_op op_mod (pv 6) (pv 0)) pa_nil)))))))
    (pss_one (ps_ret (pe_tup (pa_cons (pv 2) (pa_cons (pe_callTy (cr_tupK K) (by rfl) T.n_tuple boot_tuple (pa_cons (pv 3) pa_nil)) pa_nil)))))))), enter h fun ts O P X h _ => ?_⟩
    try dsimp only [cxOf, Cx.nox, Cx.wish]
    
    obtain ⟨m, ns, rfl, rfl, hm, hm2, hl, p⟩ := h
    show WS _ _ _ _ [.v (.int m), .v (.tup (nums ns)), .no, .no, .no, .no, .no, .no, .no] _
    walk_at "n"
    refine s_seq ?_
    refine s_forE ?_
    refine i_tup ?_
    repeat walk_at "e"
    refine for_N (fun i ts' O' => ∃ (g : Nat) (ms : List Int) (a b c d e : G.T), O' = [] ∧ ts' = [.v (.int m), .v (.tup (nums ns)), .v (.int g), .v (.lst (nums ms)), a, b, c, d, e] ∧ g = gcdL m (ns.take i) ∧ MulOk m (ns.take i) ms g) ⟨m, [], _, _, _, _, _, rfl, rfl, rfl, rfl, fun x hx => (by cases hx), ⟨-1, by show (0 : Int) - m = m * -1; omega⟩⟩ ?_ ?_
    · rintro i r _ _ hi er ⟨g, ms, a, b, c, d, e, rfl, rfl, hg, h1, h2, h3⟩
      have et : ns.take (i + 1) = ns.take i ++ [r] := by rw [List.take_succ, er] <;> rfl
      have hgd : g ∣ m := by rw [hg]; exact gcdL_dvd _ m
      have hgm : g ≤ m := Nat.le_of_dvd hm hgd
      have hr0 := Int.emod_nonneg r (show (m : Int) ≠ 0 by omega)
      have hr1 := Int.emod_lt_of_pos r (show (0 : Int) < m by omega)
      obtain ⟨k, hk⟩ : ∃ k : Nat, r % (m : Int) = k := ⟨(r % (m : Int)).toNat, by omega⟩
      refine g_name ?_
      walk_at "n"
      rw [hk]
      refine ⟨g, k, rfl, rfl, by omega, by omega, fun s' t' hst hs ht => ⟨⟨_, rfl⟩, ?_⟩⟩
      refine g_trip rfl ?_
      repeat walk_at "e"
      refine w_lc1 ?_ (by decide)
      refine i_list ?_
      repeat walk_at "e"
      have hml : ms.length ≤ 100 := by rw [h1, List.length_take]; omega
      refine lc_A ms D.int (fun x => .int (x * s' % m)) (by omega) (fun x acc hx => ?_) ?_
      · obtain ⟨x1, x2⟩ := h2 x hx
        refine g_name ?_
        repeat walk_at "e"
        exact ⟨rfl, rfl⟩
      repeat walk_at "e"
      refine w_catL lstD_v lstD_v (by rw [List.length_map, List.length_singleton]; omega) ?_
      have hg2 : Nat.gcd g k = gcdL m (ns.take (i + 1)) := by
        rw [et, gcdL_app, ← hg, gcdL_cons, gcdL_nil]
        exact gcd_mod hgd hk
      rw [show ms.map (fun x => D.int (x * s' % m)) ++ [D.int (t' % m)] = nums (ms.map (fun x => x * s' % m) ++ [t' % m]) by unfold nums; rw [List.map_append, List.map_map] <;> rfl]
      exact ⟨Nat.gcd g k, _, _, _, _, _, _, rfl, rfl, hg2, by rw [et]; exact mulOk_step hm h1 h2 h3 hst hk⟩
    · rintro _ _ ⟨g, ms, a, b, c, d, e, rfl, rfl, hg, hok⟩
      rw [List.take_length] at hg hok
      subst hg
      repeat walk_at "e"
      exact ⟨rfl, p _ hok⟩
theorem sc_need_numbers : FnScope ["numbers", "number"] ["numbers"] (defScope (top 32)) := ⟨rfl, rfl, rfl, by decide +kernel, rfl, by decide +kernel, by decide +kernel⟩
theorem ok_need_numbers {P : Program} {w : World} {K : PySem.W.Frag} {mg : Str → Option Value} {base : Heap} (T : Tx K mg) (h_is_integer : Fn P w K mg base 1 (He.fAd K ("is_integer", none)) ["value"] (sp_is_integer K)) : Fn P w K mg base 2 (He.fAd K ("need_numbers", none)) ["numbers"] (sp_need_numbers K) := by
  obtain ⟨_, F_is_integer, b_is_integer, kp_is_integer, _⟩ := h_is_integer
  obtain ⟨fd, F⟩ := T.d_need_numbers
  refine ⟨fd, F.ok sc_need_numbers (lift_len ?_) (fun cdv A outer s H vs Q E hr h => ?_), F.bindsN fun _ _ _ _ _ _ us hl => (match us, hl with | [_], _ => rfl), F.kp, lk_of F⟩
  · intro ts O P X h
    exact sp_need_numbers_len h
  · have hu := hr.units
    refine ⟨_, (PSs.nox (pss_one (ps_for PassesOwn.never rfl (pi_tupK K (pv 0)) (pg_name (i := 1) sc_need_numbers.nd rfl (.inl rfl))
    (pss_one (ps_if (pt_not (pt_val (pe_call F_is_integer (hr.mono (by decide)) (by rfl) T.g_is_integer kp_is_integer b_is_integer .nil passL (pa_cons (pv 1) pa_nil))))
    (pss_one ps_never)
    pss_nil))))), enter h fun ts O P X h _ => ?_⟩
    try dsimp only [cxOf, Cx.nox, Cx.wish]
    
    obtain ⟨ns, rfl, rfl, p⟩ := h
    show WS _ _ _ _ [.v (.tup (nums ns)), .no] _
    refine s_forE ?_
    refine i_tup ?_
    repeat walk_at "e"
    refine for_N (fun i ts' O' => ∃ a : G.T, O' = [] ∧ ts' = [.v (.tup (nums ns)), a]) ⟨_, rfl, rfl⟩ ?_ ?_
    · rintro i r _ _ hi er ⟨a, rfl, rfl⟩
      refine g_name ?_
      repeat walk_at "e"
      refine u_is_integer intQ_int ⟨⟨_, rfl⟩, ?_⟩
      repeat walk_at "e"
      exact ⟨_, rfl, rfl⟩
    · rintro _ _ ⟨a, rfl, rfl⟩
      exact ⟨rfl, p⟩
theorem sc_shared : FnScope ["modulus", "numbers", "divisor", "multipliers"] ["modulus", "numbers"] (defScope (top 33)) := ⟨rfl, rfl, rfl, by decide +kernel, rfl, by decide +kernel, by decide +kernel⟩
theorem ok_shared {P : Program} {w : World} {K : PySem.W.Frag} {mg : Str → Option Value} {base : Heap} (T : Tx K mg) (h_need_modulus : Fn P w K mg base 4 (He.fAd K ("need_modulus", none)) ["modulus"] (sp_need_modulus K)) (h_need_numbers : Fn P w K mg base 2 (He.fAd K ("need_numbers", none)) ["numbers"] (sp_need_numbers K)) (h_shared_in : Fn P w K mg base 2 (He.fAd K ("shared_in", none)) ["modulus", "numbers"] (sp_shared_in K)) (h_SharedU_initU : Fn P w K mg base 1 (He.fAd K ("Shared", some "__init__")) ["self", "divisor", "multipliers"] (sp_sh_init K)) : FnS P w K mg base 5 (He.fAd K ("shared", none)) 1 (sp_shared K) := by
  obtain ⟨_, F_need_modulus, b_need_modulus, kp_need_modulus, _⟩ := h_need_modulus
  obtain ⟨_, F_need_numbers, b_need_numbers, kp_need_numbers, _⟩ := h_need_numbers
  obtain ⟨_, F_shared_in, b_shared_in, kp_shared_in, _⟩ := h_shared_in
  obtain ⟨_, F_SharedU_initU, b_SharedU_initU, kp_SharedU_initU, _⟩ := h_SharedU_initU
  obtain ⟨fd, F⟩ := T.d_shared
  refine fnS (ps := ["modulus"]) F sc_shared (fun _ _ _ _ _ _ us rest hl => match us, rest, hl with | [a0], [], _ => rfl | [a0], _ :: _, _ => rfl) (fun cdv A outer s H vs Q E hr h => ?_)
  have hu := hr.units
  refine ⟨_, (PSs.nox (pss_cons (ps_expr (pe_call F_need_modulus (hr.mono (by decide)) (by rfl) T.g_need_modulus kp_need_modulus b_need_modulus .nil passL (pa_cons (pv 0) pa_nil)))
    (pss_cons (ps_expr (pe_call F_need_numbers (hr.mono (by decide)) (by rfl) T.g_need_numbers kp_need_numbers b_need_numbers .nil passL (pa_cons (pv 1) pa_nil)))
    (pss_cons (ps_asg (pe_call F_shared_in (hr.mono (by decide)) (by rfl) T.g_shared_in kp_shared_in b_shared_in .nil passL (pa_cons (pv 0) (pa_cons (pv 1) pa_nil))) (pg_tupK K (n := 2) rfl (pgs_cons (pg_name (i := 2) sc_shared.nd rfl (.inl rfl)) (pgs_cons (pg_name (i := 3) sc_shared.nd rfl (.inl rfl)) pgs_nil))))
    (pss_one (ps_ret (pe_make T.mk_Shared F_SharedU_initU (hr.mono (by decide)) (by rfl) T.g_Shared b_SharedU_initU .nil passL (pa_cons (pv 2) (pa_cons (pv 3) pa_nil))))))))), enter h fun ts O P X h _ => ?_⟩
  try dsimp only [cxOf, Cx.nox, Cx.wish]
  
  obtain ⟨m, ns, rfl, rfl, hm, hm2, hl, p⟩ := h
  show WS _ _ _ _ [.v (.int m), .v (.tup (nums ns)), .no, .no] _
  walk_at "n"
  refine ⟨m, rfl, rfl, by omega, by omega, ⟨⟨_, rfl⟩, ?_⟩⟩
  walk_at "n"
  refine ⟨ns, rfl, rfl, ⟨⟨_, rfl⟩, ?_⟩⟩
  walk_at "n"
  refine ⟨m, ns, rfl, rfl, by omega, by omega, hl, fun ms hok => ⟨⟨_, rfl⟩, ?_⟩⟩
  refine g_pair rfl ?_
  repeat walk_at "e"
  exact ⟨_, _, rfl, rfl, rfl, _, rfl, rfl, p ms hok⟩
theorem sc_are_multipliers : FnScope ["value", "many", "modulus", ".0", "one"] ["value", "many", "modulus"] (defScope (top 34)) := ⟨rfl, rfl, rfl, by decide +kernel, rfl, by decide +kernel, by decide +kernel⟩
theorem ok_are_multipliers {P : Program} {w : World} {K : PySem.W.Frag} {mg : Str → Option Value} {base : Heap} (T : Tx K mg) (h_is_between : Fn P w K mg base 2 (He.fAd K ("is_between", none)) ["value", "low", "high"] (sp_is_between K)) : Fn P w K mg base 3 (He.fAd K ("are_multipliers", none)) ["value", "many", "modulus"] (sp_are_multipliers K) := by
  obtain ⟨_, F_is_between, b_is_between, kp_is_between, _⟩ := h_is_between
  obtain ⟨fd, F⟩ := T.d_are_multipliers
  refine ⟨fd, F.ok sc_are_multipliers (lift_len ?_) (fun cdv A outer s H vs Q E hr h => ?_), F.bindsN fun _ _ _ _ _ _ us hl => (match us, hl with | [_, _, _], _ => rfl), F.kp, lk_of F⟩
  · intro ts O P X h
    exact sp_are_multipliers_len h
  · have hu := hr.units
    refine ⟨_, (PSs.nox (pss_one (ps_ret (pe_and (pe_callB (call_isiK K) (by rfl) T.n_isinstance boot_isinstance (pa_cons (pv 0) (pa_cons (pe_bltn (v := .ty "tuple") (by rfl) T.n_tuple boot_tuple rfl) pa_nil))) (pe_and (pe_cmpR op_eq (pe_callB (cr_lenK K) (by rfl) T.n_len boot_len (pa_cons (pv 0) pa_nil)) (pv 1) (nomark _)) (pe_one (pe_callB (cr_allK K rfl) (by rfl) T.n_all boot_all (pa_cons (pe_lc (own := [(".0", 3), ("one", 4)]) rfl sc_are_multipliers.nd (pi_tupK K (pv 0)) (blkOk_by (own := [(".0", 3), ("one", 4)]) (N := ["value", "many", "modulus", ".0", "one"]) (sc := defScope (top 34)) (by decide +kernel)) (fun _ _ _ _ _ => (pg_name (i := 4) sc_are_multipliers.nd rfl (.inl rfl))) (fun _ _ _ _ _ => pts_nil) (fun _ _ _ _ _ => (pe_call F_is_between (hr.mono (by decide)) (by rfl) T.g_is_between kp_is_between b_is_between .nil passL (pa_cons (pv 4) (pa_cons pe_int (pa_cons (pe_op op_sub (pv 2) pe_int) pa_nil)))))) pa_nil)))))))), enter h fun ts O P X h _ => ?_⟩
    try dsimp only [cxOf, Cx.nox, Cx.wish]
    
    obtain ⟨ms, n, m, rfl, rfl, hn, hl, hm, hr, p⟩ := h
    show WS _ _ _ _ [.v (.tup (nums ms)), .v (.int n), .v (.int m), .no, .no] _
    repeat walk_at "e"
    refine c_isi (.tup _) (.ty _) (kit_ty (r := true) (by decide +kernel)) ?_
    repeat walk_at "e"
    rw [nums_len]
    refine brT hn.symm ?_
    repeat walk_at "e"
    refine w_lc1 ?_ (by decide)
    refine i_tup ?_
    repeat walk_at "e"
    refine lc_A ms D.int (fun x => .bl true) (by omega) (fun x acc hx => ?_) ?_
    · obtain ⟨x1, x2⟩ := hr x hx
      refine g_name ?_
      repeat walk_at "e"
      exact u_between (by omega) (by omega) ⟨⟨_, rfl⟩, rfl, rfl⟩
    have e : (ms.map fun _ => D.bl true) = (ms.map fun _ => true).map D.bl := by rw [List.map_map] <;> rfl
    rw [e]
    repeat walk_at "e"
    refine c_all lstD_v ?_
    have e2 : (ms.map fun _ => true).all id = true := by
      rw [List.all_eq_true]
      intro x hx
      obtain ⟨_, _, rfl⟩ := List.mem_map.mp hx
      rfl
    rw [e2]
    exact ⟨rfl, p⟩
theorem sc_shows_shared : FnScope ["value", "modulus", "numbers", "divisor", "number", "total", ".0", "many"] ["value", "modulus", "numbers"] (defScope (top 35)) := ⟨rfl, rfl, rfl, by decide +kernel, rfl, by decide +kernel, by decide +kernel⟩
theorem ok_shows_shared {P : Program} {w : World} {K : PySem.W.Frag} {mg : Str → Option Value} {base : Heap} (T : Tx K mg) (h_need_modulus : Fn P w K mg base 4 (He.fAd K ("need_modulus", none)) ["modulus"] (sp_need_modulus K)) (h_need_numbers : Fn P w K mg base 2 (He.fAd K ("need_numbers", none)) ["numbers"] (sp_need_numbers K)) (h_is_integer : Fn P w K mg base 1 (He.fAd K ("is_integer", none)) ["value"] (sp_is_integer K)) (h_are_multipliers : Fn P w K mg base 3 (He.fAd K ("are_multipliers", none)) ["value", "many", "modulus"] (sp_are_multipliers K)) (h_common_divisor : Fn P w K mg base 1 (He.fAd K ("common_divisor", none)) ["one", "other"] (sp_common_divisor K)) : FnS P w K mg base 5 (He.fAd K ("shows_shared", none)) 2 (sp_shows_shared K) := by
  obtain ⟨_, F_need_modulus, b_need_modulus, kp_need_modulus, _⟩ := h_need_modulus
  obtain ⟨_, F_need_numbers, b_need_numbers, kp_need_numbers, _⟩ := h_need_numbers
  obtain ⟨_, F_is_integer, b_is_integer, kp_is_integer, _⟩ := h_is_integer
  obtain ⟨_, F_are_multipliers, b_are_multipliers, kp_are_multipliers, _⟩ := h_are_multipliers
  obtain ⟨_, F_common_divisor, b_common_divisor, kp_common_divisor, _⟩ := h_common_divisor
  obtain ⟨fd, F⟩ := T.d_shows_shared
  have hc_Shared := T.cl_Shared
  have hn_Shared_divisor := T.na_Shared_divisor
  have hc_Shared := T.cl_Shared
  have hn_Shared_multipliers := T.na_Shared_multipliers
  refine fnS (ps := ["value", "modulus"]) F sc_shows_shared (fun _ _ _ _ _ _ us rest hl => match us, rest, hl with | [a0, a1], [], _ => rfl | [a0, a1], _ :: _, _ => rfl) (fun cdv A outer s H vs Q E hr h => ?_)
  have hu := hr.units
  refine ⟨_, (PSs.nox (pss_cons (ps_expr (pe_call F_need_modulus (hr.mono (by decide)) (by rfl) T.g_need_modulus kp_need_modulus b_need_modulus .nil passL (pa_cons (pv 1) pa_nil)))
    (pss_cons (ps_expr (pe_call F_need_numbers (hr.mono (by decide)) (by rfl) T.g_need_numbers kp_need_numbers b_need_numbers .nil passL (pa_cons (pv 2) pa_nil)))
    (pss_cons (ps_if (PW.pt (pw_or (pt_not (pt_val (pe_callB (call_isiK K) (by rfl) T.n_isinstance boot_isinstance (pa_cons (pv 0) (pa_cons (pe_glob (v := .ref (He.ga K "Shared")) (by rfl) T.g_Shared rfl) pa_nil))))) (pw_or1 (pt_not (pt_val (pe_call F_is_integer (hr.mono (by decide)) (by rfl) T.g_is_integer kp_is_integer b_is_integer .nil passL (pa_cons (pe_fldK K (pv 0)) pa_nil)))))))
    (pss_one (ps_ret pe_bl))
    pss_nil)
    (pss_cons (ps_if (pt_not (pt_val (pe_call F_are_multipliers (hr.mono (by decide)) (by rfl) T.g_are_multipliers kp_are_multipliers b_are_multipliers .nil passL (pa_cons (pe_fldK K (pv 0)) (pa_cons (pe_callB (cr_lenK K) (by rfl) T.n_len boot_len (pa_cons (pv 2) pa_nil)) (pa_cons (pv 1) pa_nil))))))
    (pss_one (ps_ret pe_bl))
    pss_nil)
    (pss_cons (ps_set (i := 3) sc_shows_shared.nd rfl (.inl rfl) (pv 1))
    (pss_cons (ps_for PassesOwn.never rfl (pi_tupK K (pv 2)) (pg_name (i := 4) sc_shows_shared.nd rfl (.inl rfl))
    (pss_one (ps_set (i := 3) sc_shows_shared.nd rfl (.inl rfl) (pe_call F_common_divisor (hr.mono (by decide)) (by rfl) T.g_common_divisor kp_common_divisor b_common_divisor .nil passL (pa_cons (pv 3) (pa_cons (pe_callB call_abs (by rfl) T.n_abs boot_abs (pa_cons (pv 4) pa_nil)) pa_nil))))))
    (pss_cons (ps_set (i := 5) sc_shows_shared.nd rfl (.inl rfl) (pe_callB (cr_sumK K rfl) (by rfl) T.n_sum boot_sum (pa_cons (pe_lc (own := [(".0", 6), ("many", 7), ("number", 4)]) rfl sc_shows_shared.nd (RZ.pi_zipA (by rfl) T.n_zip (pa_cons (pe_fldK K (pv 0)) (pa_cons (pv 2) pa_nil))) (blkOk_by (own := [(".0", 6), ("many", 7), ("number", 4)]) (N := ["value", "modulus", "numbers", "divisor", "number", "total", ".0", "many"]) (sc := defScope (top 35)) (by decide +kernel)) (fun _ _ _ _ _ => (pg_tupK K (n := 2) rfl (pgs_cons (pg_name (i := 7) sc_shows_shared.nd rfl (.inl rfl)) (pgs_cons (pg_name (i := 4) sc_shows_shared.nd rfl (.inl rfl)) pgs_nil)))) (fun _ _ _ _ _ => pts_nil) (fun _ _ _ _ _ => (pe_op op_mulW (pv 7) (pv 4)))) pa_nil)))
    (pss_one (ps_ret (pe_and (pe_cmpR op_eq (pe_fldK K (pv 0)) (pv 3) (nomark _)) (pe_one (pe_cmpR op_eq (pe_op op_mod (pe_op op_sub (pv 5) (pv 3)) (pv 1)) pe_int (nomark _)))))))))))))), enter h fun ts O P X h _ => ?_⟩
  try dsimp only [cxOf, Cx.nox, Cx.wish]
  
  obtain ⟨g, ms, m, ns, rfl, rfl, hm, hm2, hl, hns, hg, hok, p⟩ := h
  obtain ⟨h1, h2, h3⟩ := hok
  show WS _ _ _ _ [.v (sharD K g ms), .v (.int m), .v (.tup (nums ns)), .no, .no, .no, .no, .no] _
  walk_at "n"
  refine ⟨m, rfl, rfl, by omega, by omega, ⟨⟨_, rfl⟩, ?_⟩⟩
  walk_at "n"
  refine ⟨ns, rfl, rfl, ⟨⟨_, rfl⟩, ?_⟩⟩
  walk_at "n"
  refine c_isi (.ins _ _ T.it_Shared) (.own _) T.kit_Shared_Shared ?_
  repeat walk_at "e"
  refine u_is_integer intQ_int ⟨⟨_, rfl⟩, ?_⟩
  repeat walk_at "e"
  walk_at "n"
  refine ⟨ms, _, m, rfl, rfl, by rw [nums_len, h1], by omega, by omega, h2, ⟨⟨_, rfl⟩, ?_⟩⟩
  repeat walk_at "e"
  walk_at "n"
  refine s_seq ?_
  refine s_forE ?_
  refine i_tup ?_
  repeat walk_at "e"
  refine for_N (fun i ts' O' => ∃ (a b c d : G.T), O' = [] ∧ ts' = [.v (sharD K g ms), .v (.int m), .v (.tup (nums ns)), .v (.int (gcdL m (ns.take i))), a, b, c, d]) ⟨_, _, _, _, rfl, rfl⟩ ?_ ?_
  · rintro i r _ _ hi er ⟨a, b, c, d, rfl, rfl⟩
    have et : ns.take (i + 1) = ns.take i ++ [r] := by rw [List.take_succ, er] <;> rfl
    refine g_name ?_
    repeat walk_at "e"
    rw [natAbs_if, et, gcdL_app, gcdL_cons, gcdL_nil]
    exact ⟨_, _, rfl, rfl, ⟨⟨_, rfl⟩, _, _, _, _, rfl, rfl⟩⟩
  · rintro _ _ ⟨a, b, c, d, rfl, rfl⟩
    rw [List.take_length, ← hg]
    walk_at "n"
    refine w_lcT ?_ (tgt_pair (by decide) (by decide))
    refine i_zipT ?_
    repeat walk_at "e"
    refine lc_Z ms ns D.int D.int (fun x y => .int (x * y)) h1 (by omega) (fun x y acc hx hy => ?_) ?_
    · obtain ⟨x1, x2⟩ := h2 x hx
      have y1 := hns y hy
      refine g_pair rfl ?_
      repeat walk_at "e"
      exact ⟨rfl, rfl⟩
    have e : List.zipWith (fun x y => D.int (x * y)) ms ns = (List.zipWith (· * ·) ms ns).map D.int := by rw [List.map_zipWith]
    rw [e]
    repeat walk_at "e"
    refine c_sum lstD_v ?_
    repeat walk_at "e"
    rw [decide_eq_true rfl]
    repeat walk_at "e"
    have h0 : ((List.zipWith (· * ·) ms ns).sum - (g : Int)) % m = 0 := Int.emod_eq_zero_of_dvd h3
    rw [h0]
    exact ⟨rfl, p⟩
theorem sc_is_part : FnScope ["value"] ["value"] (defScope (top 36)) := ⟨rfl, rfl, rfl, by decide +kernel, rfl, by decide +kernel, by decide +kernel⟩
theorem ok_is_part {P : Program} {w : World} {K : PySem.W.Frag} {mg : Str → Option Value} {base : Heap} (T : Tx K mg) (h_is_integer : Fn P w K mg base 1 (He.fAd K ("is_integer", none)) ["value"] (sp_is_integer K)) (h_is_between : Fn P w K mg base 2 (He.fAd K ("is_between", none)) ["value", "low", "high"] (sp_is_between K)) : Fn P w K mg base 3 (He.fAd K ("is_part", none)) ["value"] (sp_is_part K) := by
  obtain ⟨_, F_is_integer, b_is_integer, kp_is_integer, _⟩ := h_is_integer
  obtain ⟨_, F_is_between, b_is_between, kp_is_between, _⟩ := h_is_between
  obtain ⟨fd, F⟩ := T.d_is_part
  obtain ⟨_, T_i_MOST_PART⟩ := T.i_MOST_PART_
  refine ⟨fd, F.ok sc_is_part (lift_len ?_) (fun cdv A outer s H vs Q E hr h => ?_), F.bindsN fun _ _ _ _ _ _ us hl => (match us, hl with | [_], _ => rfl), F.kp, lk_of F⟩
  · intro ts O P X h
    exact sp_is_part_len h
  · have hu := hr.units
    refine ⟨_, (PSs.nox (pss_cons (ps_if (PW.pt (pw_or (pt_not (pt_val (pe_callB (call_isiK K) (by rfl) T.n_isinstance boot_isinstance (pa_cons (pv 0) (pa_cons (pe_bltn (v := .ty "tuple") (by rfl) T.n_tuple boot_tuple rfl) pa_nil))))) (pw_or1 (pt_cmpR op_ne (pe_callB (cr_lenK K) (by rfl) T.n_len boot_len (pa_cons (pv 0) pa_nil)) pe_int (nomark _)))))
    (pss_one (ps_ret pe_bl))
    pss_nil)
    (pss_one (ps_ret (pe_and (pe_call F_is_integer (hr.mono (by decide)) (by rfl) T.g_is_integer kp_is_integer b_is_integer .nil passL (pa_cons (pe_ix (ix_tupK K) (pv 0) pe_int (fun _ _ => rfl)) pa_nil)) (pe_one (pe_call F_is_between (hr.mono (by decide)) (by rfl) T.g_is_between kp_is_between b_is_between .nil passL (pa_cons (pe_ix (ix_tupK K) (pv 0) pe_int (fun _ _ => rfl)) (pa_cons pe_int (pa_cons (pe_glob (v := .int 1000000000000000000000000000000) (by rfl) T_i_MOST_PART ⟨_, rfl⟩) pa_nil)))))))))), enter h fun ts O P X h _ => ?_⟩
    try dsimp only [cxOf, Cx.nox, Cx.wish]
    
    obtain ⟨x, rfl, rfl, h1, h2, p⟩ := h
    show WS _ _ _ _ [.v (.tup [.int x.1, .int x.2])] _
    walk_at "n"
    refine c_isi (.tup _) (.ty _) (kit_ty (r := true) (by decide +kernel)) ?_
    repeat walk_at "e"
    refine nbF rfl ?_
    repeat walk_at "e"
    refine u_is_integer intQ_int ⟨⟨_, rfl⟩, ?_⟩
    repeat walk_at "e"
    exact u_between (by omega) (by omega) ⟨⟨_, rfl⟩, rfl, p⟩
theorem sc_joined : FnScope ["parts", "found", "whole", "rest", "divisor", "inverse"] ["parts"] (defScope (top 37)) := ⟨rfl, rfl, rfl, by decide +kernel, rfl, by decide +kernel, by decide +kernel⟩
theorem ok_joined {P : Program} {w : World} {K : PySem.W.Frag} {mg : Str → Option Value} {base : Heap} (T : Tx K mg) (h_combined : Fn P w K mg base 1 (He.fAd K ("combined", none)) ["one", "other"] (sp_combined K)) : Fn P w K mg base 2 (He.fAd K ("joined", none)) ["parts"] (sp_joined K) := by
  obtain ⟨_, F_combined, b_combined, kp_combined, _⟩ := h_combined
  obtain ⟨fd, F⟩ := T.d_joined
  refine ⟨fd, F.ok sc_joined (lift_len ?_) (fun cdv A outer s H vs Q E hr h => ?_), F.bindsN fun _ _ _ _ _ _ us hl => (match us, hl with | [_], _ => rfl), F.kp, lk_of F⟩
  · intro ts O P X h
    exact sp_joined_len h
  · have hu := hr.units
    refine ⟨_, (PSs.nox (pss_cons (ps_asg (pe_tup (pa_cons pe_int (pa_cons pe_int pa_nil))) (pg_tupK K (n := 2) rfl (pgs_cons (pg_name (i := 1) sc_joined.nd rfl (.inl rfl)) (pgs_cons (pg_name (i := 2) sc_joined.nd rfl (.inl rfl)) pgs_nil))))
    (pss_cons (ps_for PassesOwn.never rfl (pi_tupK K (pv 0)) (pg_tupK K (n := 2) rfl (pgs_cons (pg_name (i := 3) sc_joined.nd rfl (.inl rfl)) (pgs_cons (pg_name (i := 4) sc_joined.nd rfl (.inl rfl)) pgs_nil)))
    (pss_cons (ps_set (i := 5) sc_joined.nd rfl (.inl rfl) (pe_ix (ix_tupK K) (pe_call F_combined (hr.mono (by decide)) (by rfl) T.g_combined kp_combined b_combined .nil passL (pa_cons (pv 4) (pa_cons (pe_op op_mod (pv 2) (pv 4)) pa_nil))) pe_int (fun _ _ => rfl)))
    (pss_cons (ps_set (i := 1) sc_joined.nd rfl (.inl rfl) (pe_op op_add (pv 1) (pe_op op_mulW (pv 2) (pe_op op_mod (pe_op op_mulW (pe_op op_sub (pv 3) (pv 1)) (pv 5)) (pv 4)))))
    (pss_one (ps_set (i := 2) sc_joined.nd rfl (.inl rfl) (pe_op op_mulW (pv 2) (pv 4)))))))
    (pss_one (ps_ret (pv 1)))))), enter h fun ts O P X h _ => ?_⟩
    try dsimp only [cxOf, Cx.nox, Cx.wish]
    
    obtain ⟨ps, rfl, rfl, hp, hc, hl, p⟩ := h
    show WS _ _ _ _ [.v (.tup (ps.map paD)), .no, .no, .no, .no, .no] _
    walk_at "n"
    refine s_seq ?_
    refine s_forE ?_
    refine i_tup ?_
    repeat walk_at "e"
    refine for_A (fun i ts' O' => ∃ (f : Int) (a b c : G.T), O' = [] ∧ ts' = [.v (.tup (ps.map paD)), .v (.int f), .v (.int (prodN ((ps.take i).map (·.2)))), a, b, c] ∧ Lvs f (ps.take i) ∧ 0 ≤ f ∧ f < (prodN ((ps.take i).map (·.2)) : Nat)) ⟨0, _, _, _, rfl, rfl, fun x hx => (by cases hx), by omega, (by show (0 : Int) < ((1 : Nat) : Int); decide)⟩ ?_ ?_
    · rintro i x _ _ hi hx ⟨f, a, b, c, rfl, rfl, f1, f2, f3⟩
      obtain ⟨r, d⟩ := x
      have et : ps.take (i + 1) = ps.take i ++ [(r, d)] := by rw [List.take_succ, hx] <;> rfl
      obtain ⟨d1, d2, r1⟩ := hp _ (List.mem_of_getElem? hx)
      have d1 : 1 ≤ d := d1
      have d2 : d ≤ 1000000000000000000000000000000 := d2
      have r1 : r.natAbs < 2 ^ 4000 := r1
      have hw := prod_bd (ps := ps.take i) (fun x hx => (hp x (List.mem_of_mem_take hx)).2.1)
      generalize hW : prodN ((ps.take i).map (·.2)) = w at *
      have hwb : w < 2 ^ 2000 := Nat.lt_of_lt_of_le (Nat.lt_of_le_of_lt hw (pw_lt (by rw [List.length_take]; omega))) (Nat.le_refl _)
      have hcop : Nat.gcd d (w % d) = 1 := by
        have := cop_at hc hx
        rw [← List.map_take, hW] at this
        rw [Nat.gcd_comm d, ← Nat.gcd_rec, Nat.gcd_comm]
        exact this
      refine g_pair (a := .int r) (b := .int d) rfl ?_
      walk_at "n"
      rw [← Int.natCast_emod]
      have hmd : w % d < d := Nat.mod_lt _ d1
      refine ⟨d, w % d, rfl, rfl, by omega, by omega, fun s' t' hst hs ht => ⟨⟨_, rfl⟩, ?_⟩⟩
      repeat walk_at "e"
      have hfb : f.natAbs < 2 ^ 2000 := Nat.lt_trans (show f.natAbs < w by omega) hwb
      have hrf : (r - f).natAbs < 2 ^ 4001 := by
        have : (2 : Nat) ^ 4001 = 2 ^ 4000 + 2 ^ 4000 := by rw [Nat.pow_succ]; omega
        have : (2 : Nat) ^ 2000 < 2 ^ 4000 := Nat.pow_lt_pow_right (by decide) (by decide)
        generalize (2 : Nat) ^ 4001 = A at *
        generalize (2 : Nat) ^ 4000 = B at *
        generalize (2 : Nat) ^ 2000 = C at *
        omega
      walk_at "n"
      refine w_mulW (mul_okP hrf (b := 200) (by omega) (by omega)) ?_
      repeat walk_at "e"
      have m0 := Int.emod_nonneg ((r - f) * t') (show (d : Int) ≠ 0 by omega)
      have m1 := Int.emod_lt_of_pos ((r - f) * t') (show (0 : Int) < d by omega)
      refine w_mulW (mul_okP (a := 2000) (b := 200) (by rw [Int.natAbs_natCast]; exact hwb) (by omega) (by omega)) ?_
      repeat walk_at "e"
      refine w_mulW (mul_okP (a := 2000) (b := 200) (by rw [Int.natAbs_natCast]; exact hwb) (by omega) (by omega)) ?_
      have hinv : (d : Int) ∣ t' * w - 1 := inv_ok hst hcop
      obtain ⟨g1, g2, g3⟩ := put_step (ps := ps.take i) (x := f) (w := w) (r := r) (d := d) (i := t') hW.symm f1 f2 f3 d1 hinv
      have ep : prodN ((ps.take i ++ [(r, d)]).map (·.2)) = w * d := by
        rw [List.map_append, prodN_app, hW]
        show w * prodN [d] = w * d
        rw [prodN_cons, prodN_nil, Nat.mul_one]
      rw [et, ep, ← Int.natCast_mul w d]
      exact ⟨_, _, _, _, rfl, rfl, g1, g2, g3⟩
    · rintro _ _ ⟨f, a, b, c, rfl, rfl, f1, f2, f3⟩
      rw [List.take_length] at f1 f3
      repeat walk_at "e"
      exact ⟨rfl, p f f1 f2 f3⟩
theorem sc_together : FnScope ["parts", "at", "part", "whole", "rest", "divisor"] ["parts"] (defScope (top 38)) := ⟨rfl, rfl, rfl, by decide +kernel, rfl, by decide +kernel, by decide +kernel⟩
theorem ok_together {P : Program} {w : World} {K : PySem.W.Frag} {mg : Str → Option Value} {base : Heap} (T : Tx K mg) (h_is_part : Fn P w K mg base 3 (He.fAd K ("is_part", none)) ["value"] (sp_is_part K)) (h_common_divisor : Fn P w K mg base 1 (He.fAd K ("common_divisor", none)) ["one", "other"] (sp_common_divisor K)) (h_joined : Fn P w K mg base 2 (He.fAd K ("joined", none)) ["parts"] (sp_joined K)) : FnS P w K mg base 4 (He.fAd K ("together", none)) 0 (sp_together K) := by
  obtain ⟨_, F_is_part, b_is_part, kp_is_part, _⟩ := h_is_part
  obtain ⟨_, F_common_divisor, b_common_divisor, kp_common_divisor, _⟩ := h_common_divisor
  obtain ⟨_, F_joined, b_joined, kp_joined, _⟩ := h_joined
  obtain ⟨fd, F⟩ := T.d_together
  refine fnS (ps := []) F sc_together (fun _ _ _ _ _ _ us rest hl => match us, rest, hl with | [], [], _ => rfl | [], _ :: _, _ => rfl) (fun cdv A outer s H vs Q E hr h => ?_)
  have hu := hr.units
  refine ⟨_, (PSs.nox (pss_cons (ps_for PassesOwn.never rfl (pi_enumT (by rfl) T.n_enumerate (pa_cons (pv 0) pa_nil)) (pg_tupK K (n := 2) rfl (pgs_cons (pg_name (i := 1) sc_together.nd rfl (.inl rfl)) (pgs_cons (pg_name (i := 2) sc_together.nd rfl (.inl rfl)) pgs_nil)))
    (pss_one (ps_if (pt_not (pt_val (pe_call F_is_part (hr.mono (by decide)) (by rfl) T.g_is_part kp_is_part b_is_part .nil passL (pa_cons (pv 2) pa_nil))))
    (pss_one ps_never)
    pss_nil)))
    (pss_cons (ps_set (i := 3) sc_together.nd rfl (.inl rfl) pe_int)
    (pss_cons (ps_for PassesOwn.never rfl (pi_tupK K (pv 0)) (pg_tupK K (n := 2) rfl (pgs_cons (pg_name (i := 4) sc_together.nd rfl (.inl rfl)) (pgs_cons (pg_name (i := 5) sc_together.nd rfl (.inl rfl)) pgs_nil)))
    (pss_cons (ps_if (pt_cmpR op_gt (pe_call F_common_divisor (hr.mono (by decide)) (by rfl) T.g_common_divisor kp_common_divisor b_common_divisor .nil passL (pa_cons (pv 3) (pa_cons (pv 5) pa_nil))) pe_int (nomark _))
    (pss_one ps_never)
    pss_nil)
    (pss_one (ps_set (i := 3) sc_together.nd rfl (.inl rfl) (pe_op op_mulW (pv 3) (pv 5))))))
    (pss_one (ps_ret (pe_call F_joined (hr.mono (by decide)) (by rfl) T.g_joined kp_joined b_joined .nil passL (pa_cons (pv 0) pa_nil)))))))), enter h fun ts O P X h _ => ?_⟩
  try dsimp only [cxOf, Cx.nox, Cx.wish]
  
  obtain ⟨ps, rfl, rfl, hp, hc, hl, p⟩ := h
  show WS _ _ _ _ [.v (.tup (ps.map paD)), .no, .no, .no, .no, .no] _
  refine s_seq ?_
  refine s_forE ?_
  refine i_enumT ?_
  repeat walk_at "e"
  refine for_AE (fun i ts' O' => ∃ (a b : G.T), O' = [] ∧ ts' = [.v (.tup (ps.map paD)), a, b, .no, .no, .no]) ⟨_, _, rfl, rfl⟩ ?_ ?_
  · rintro i x _ _ hi hx ⟨a, b, rfl, rfl⟩
    obtain ⟨d1, d2, r1⟩ := hp _ (List.mem_of_getElem? hx)
    refine g_pair rfl ?_
    repeat walk_at "e"
    refine ⟨x, rfl, rfl, d1, d2, ⟨⟨_, rfl⟩, ?_⟩⟩
    repeat walk_at "e"
    exact ⟨_, _, rfl, rfl⟩
  rintro _ _ ⟨a, b, rfl, rfl⟩
  walk_at "n"
  refine s_seq ?_
  refine s_forE ?_
  refine i_tup ?_
  repeat walk_at "e"
  refine for_A (fun i ts' O' => ∃ (c d : G.T), O' = [] ∧ ts' = [.v (.tup (ps.map paD)), a, b, .v (.int (prodN ((ps.take i).map (·.2)))), c, d]) ⟨_, _, rfl, rfl⟩ ?_ ?_
  · rintro i x _ _ hi hx ⟨c, d, rfl, rfl⟩
    have et : ps.take (i + 1) = ps.take i ++ [x] := by rw [List.take_succ, hx] <;> rfl
    obtain ⟨d1, d2, r1⟩ := hp _ (List.mem_of_getElem? hx)
    have hcop := cop_at hc hx
    rw [← List.map_take] at hcop
    have hw := prod_bd (ps := ps.take i) (fun x hx => (hp x (List.mem_of_mem_take hx)).2.1)
    refine g_pair rfl ?_
    walk_at "n"
    refine ⟨_, x.2, rfl, rfl, ⟨⟨_, rfl⟩, ?_⟩⟩
    repeat walk_at "e"
    rw [hcop]
    refine brF (by decide) ?_
    repeat walk_at "e"
    refine w_mulW (mul_okP (a := 2000) (b := 200) (by rw [Int.natAbs_natCast]; exact Nat.lt_of_le_of_lt hw (pw_lt (by rw [List.length_take]; omega))) (by omega) (by omega)) ?_
    rw [et, List.map_append, prodN_app, List.map_cons, prodN_cons, List.map_nil, prodN_nil, Nat.mul_one, Int.natCast_mul]
    exact ⟨_, _, rfl, rfl⟩
  · rintro _ _ ⟨c, d, rfl, rfl⟩
    repeat walk_at "e"
    exact ⟨ps, rfl, rfl, hp, hc, hl, fun f f1 f2 f3 => ⟨⟨_, rfl⟩, rfl, p f f1 f2 f3⟩⟩
theorem sc_least_prime_in : FnScope ["number", "by"] ["number"] (defScope (top 39)) := ⟨rfl, rfl, rfl, by decide +kernel, rfl, by decide +kernel, by decide +kernel⟩
theorem ok_least_prime_in {P : Program} {w : World} {K : PySem.W.Frag} {mg : Str → Option Value} {base : Heap} (T : Tx K mg)  : Fn P w K mg base 1 (He.fAd K ("least_prime_in", none)) ["number"] (sp_least_prime_in K) := by
  obtain ⟨fd, F⟩ := T.d_least_prime_in
  refine ⟨fd, F.ok sc_least_prime_in (lift_len ?_) (fun cdv A outer s H vs Q E hr h => ?_), F.bindsN fun _ _ _ _ _ _ us hl => (match us, hl with | [_], _ => rfl), F.kp, lk_of F⟩
  · intro ts O P X h
    exact sp_least_prime_in_len h
  · have hu := hr.units
    refine ⟨_, (PSs.nox (pss_cons (ps_set (i := 1) sc_least_prime_in.nd rfl (.inl rfl) pe_int)
    (pss_cons (ps_while PassesOwn.never (pt_cmpR op_le (pe_op op_mulW (pv 1) (pv 1)) (pv 0) (nomark _))
    (pss_cons (ps_if (pt_cmpR op_eq (pe_op op_mod (pv 0) (pv 1)) pe_int (nomark _))
    (pss_one (ps_ret (pv 1)))
    pss_nil)
    (pss_one (ps_aug (i := 1) sc_least_prime_in.nd rfl (.inl rfl) (pe_ifExp (pt_cmpR op_eq (pv 1) pe_int (nomark _)) pe_int pe_int) ip_add))))
    (pss_one (ps_ret (pv 0)))))), enter h fun ts O P X h _ => ?_⟩
    try dsimp only [cxOf, Cx.nox, Cx.wish]
    
    obtain ⟨n, rfl, rfl, hn, hn2, p⟩ := h
    show WS _ _ _ _ [.v (.int n), .no] _
    walk_at "n"
    refine s_seq ?_
    refine s_while (fun m ts' O' => ∃ b : Nat, O' = [] ∧ ts' = [.v (.int n), .v (.int b)] ∧ m + b = n + 10 ∧ 2 ≤ b ∧ b ≤ n + 2 ∧ (b = 2 ∨ b % 2 = 1) ∧ ∀ d, 2 ≤ d → d < b → ¬ d ∣ n) (n + 8) ⟨2, rfl, rfl, by omega, by omega, by omega, .inl rfl, fun d _ _ => by omega⟩ ?_
    rintro m _ _ ⟨b, rfl, rfl, hm, hb, hbn, hodd, hd⟩
    repeat walk_at "e"
    rw [← Int.natCast_mul]
    refine br (fun h0 => ?_) (fun h0 => ?_)
    · repeat walk_at "e"
      refine s_cut (fun ts' O' => O' = [] ∧ ts' = [.v (.int n), .v (.int b)] ∧ ¬ b ∣ n) ?_ ?_
      · repeat walk_at "e"
        rw [← Int.natCast_emod]
        refine br (fun h1 => ?_) (fun h1 => ?_)
        · repeat walk_at "e"
          exact ⟨rfl, p b ⟨hb, Nat.dvd_of_mod_eq_zero (by omega), hd⟩⟩
        · repeat walk_at "e"
          exact ⟨rfl, rfl, fun z => h1 (by rw [Nat.mod_eq_zero_of_dvd z]; exact rfl)⟩
      · rintro _ _ ⟨rfl, rfl, hnd⟩
        have hbb : b * b ≤ n := by exact_mod_cast h0
        have hle : b ≤ b * b := Nat.le_mul_of_pos_left b (by omega)
        refine s_aug rfl ?_
        repeat walk_at "e"
        refine br (fun h2 => ?_) (fun h2 => ?_)
        · repeat walk_at "e"
          refine ⟨m - 1, by omega, b + 1, rfl, rfl, by omega, by omega, by omega, .inr (by omega), fun d d1 d2 => ?_⟩
          rcases Nat.lt_or_ge d b with h | h
          · exact hd d d1 h
          · obtain rfl : d = b := by omega
            exact hnd
        · repeat walk_at "e"
          refine ⟨m - 2, by omega, b + 2, rfl, rfl, by omega, by omega, by omega, .inr (by omega), fun d d1 d2 => ?_⟩
          rcases Nat.lt_or_ge d b with h | h
          · exact hd d d1 h
          · rcases Nat.eq_or_lt_of_le h with rfl | h
            · exact hnd
            · obtain rfl : d = b + 1 := by omega
              exact fun z => hd 2 (by omega) (by omega) (Nat.dvd_trans (Nat.dvd_of_mod_eq_zero (by omega)) z)
    · repeat walk_at "e"
      have hbb : n < b * b := by
        have : ¬ b * b ≤ n := fun z => h0 (by exact_mod_cast z)
        omega
      exact ⟨rfl, p n (least_self hn hbb hd)⟩
theorem sc_least_prime : FnScope ["modulus"] ["modulus"] (defScope (top 40)) := ⟨rfl, rfl, rfl, by decide +kernel, rfl, by decide +kernel, by decide +kernel⟩
theorem ok_least_prime {P : Program} {w : World} {K : PySem.W.Frag} {mg : Str → Option Value} {base : Heap} (T : Tx K mg) (h_need_modulus : Fn P w K mg base 4 (He.fAd K ("need_modulus", none)) ["modulus"] (sp_need_modulus K)) (h_least_prime_in : Fn P w K mg base 1 (He.fAd K ("least_prime_in", none)) ["number"] (sp_least_prime_in K)) : Fn P w K mg base 5 (He.fAd K ("least_prime", none)) ["modulus"] (sp_least_prime K) := by
  obtain ⟨_, F_need_modulus, b_need_modulus, kp_need_modulus, _⟩ := h_need_modulus
  obtain ⟨_, F_least_prime_in, b_least_prime_in, kp_least_prime_in, _⟩ := h_least_prime_in
  obtain ⟨fd, F⟩ := T.d_least_prime
  obtain ⟨_, T_i_MOST_TRIED⟩ := T.i_MOST_TRIED_
  refine ⟨fd, F.ok sc_least_prime (lift_len ?_) (fun cdv A outer s H vs Q E hr h => ?_), F.bindsN fun _ _ _ _ _ _ us hl => (match us, hl with | [_], _ => rfl), F.kp, lk_of F⟩
  · intro ts O P X h
    exact sp_least_prime_len h
  · have hu := hr.units
    refine ⟨_, (PSs.nox (pss_cons (ps_expr (pe_call F_need_modulus (hr.mono (by decide)) (by rfl) T.g_need_modulus kp_need_modulus b_need_modulus .nil passL (pa_cons (pv 0) pa_nil)))
    (pss_cons (ps_if (pt_cmpR op_gt (pv 0) (pe_glob (v := .int 100000000) (by rfl) T_i_MOST_TRIED ⟨_, rfl⟩) (nomark _))
    (pss_one ps_never)
    pss_nil)
    (pss_one (ps_ret (pe_call F_least_prime_in (hr.mono (by decide)) (by rfl) T.g_least_prime_in kp_least_prime_in b_least_prime_in .nil passL (pa_cons (pv 0) pa_nil))))))), enter h fun ts O P X h _ => ?_⟩
    try dsimp only [cxOf, Cx.nox, Cx.wish]
    
    obtain ⟨n, rfl, rfl, hn, hn2, p⟩ := h
    show WS _ _ _ _ [.v (.int n)] _
    walk_at "n"
    refine ⟨n, rfl, rfl, by omega, by omega, ⟨⟨_, rfl⟩, ?_⟩⟩
    walk_at "n"
    refine brF (by omega) ?_
    repeat walk_at "e"
    exact ⟨n, rfl, rfl, hn, by omega, fun q hq => ⟨⟨_, rfl⟩, rfl, p q hq⟩⟩
end My

set_option Elab.async false
set_option linter.all false
set_option maxRecDepth 100000
set_option maxHeartbeats 0
namespace My
open PySem PySem.Spec PyProof.Rows L2 G

local macro_rules | `(tactic| walk_at "ws") => `(tactic| first
  | with_reducible refine s_set ?_
  | with_reducible refine s_if ?_
  | with_reducible refine s_ret ?_
  | with_reducible refine s_retN ?_
  | with_reducible refine s_drop ?_
  | with_reducible refine s_next ?_
  | with_reducible refine s_par ?_
  | with_reducible refine s_par3 ?_
  | refine s_fldN (by assumption) (by assumption) ?_
  | with_reducible refine s_asg ?_)
local macro_rules | `(tactic| walk_at "we") => `(tactic| first
  | ((with_reducible refine w_v (d := ?k2) ?k1 ?_); (case k1 => exact rfl))
  | ((with_reducible refine w_o (j := ?k2) ?k1 ?_); (case k1 => exact rfl))
  | ((guard_target = G.WE _ _ (tFld _ _ _) _ _ _ _); (refine w_fldN (by assumption) (by assumption) ?_))
  | ((guard_target = G.WE _ _ (tC (.ref _)) _ _ _ _); (refine w_ctup (by assumption) ?_))
  | with_reducible refine w_ci ?_
  | with_reducible refine w_op ?_
  | with_reducible refine w_call ?_
  | with_reducible refine w_cty ?_
  | with_reducible refine w_cb ?_
  | with_reducible refine w_cn ?_
  | with_reducible refine w_cs ?_
  | with_reducible refine w_cr ?_
  | with_reducible refine w_un ?_
  | with_reducible refine w_andV ?_
  | with_reducible refine w_orV ?_
  | with_reducible refine w_notV ?_
  | with_reducible refine w_ife ?_
  | with_reducible refine w_chain ?_
  | with_reducible refine w_tup ?_
  | with_reducible refine w_revL ?_
  | with_reducible refine w_slL ?_
  | with_reducible refine w_slT ?_
  | (guard_target = G.WE _ _ (tCall (lift _ (sp_draw _)) _ _ _) _ _ _ _; refine w_fn10 0 ?_)
  | (guard_target = G.WE _ _ (tCall (lift _ (sp_pick _)) _ _ _) _ _ _ _; refine w_fn10 0 ?_)
  | (guard_target = G.WE _ _ (tCall (lift _ (sp_l_modulus _)) _ _ _) _ _ _ _; refine w_fn10 0 ?_)
  | (guard_target = G.WE _ _ (tCall (lift _ (sp_l_put _)) _ _ _) _ _ _ _; refine w_fn10 0 ?_)
  | (guard_target = G.WE _ _ (tCall (lift _ (sp_l_share _)) _ _ _) _ _ _ _; refine w_fn10 0 ?_)
  | with_reducible refine w_fn0 ?_
  | with_reducible refine w_fnS0 ?_
  | with_reducible refine w_meth0 ?_
  | with_reducible refine w_make0 ?_
  | with_reducible refine w_bmL ?_
  | with_reducible refine w_bmL0 ?_
  | with_reducible refine w_lst ?_)
local macro_rules | `(tactic| walk_at "wt") => `(tactic| first
  | with_reducible refine w_test ?_
  | with_reducible refine w_B ?_
  | with_reducible refine w_and ?_
  | with_reducible refine w_or ?_
  | with_reducible refine w_not ?_)
local macro_rules | `(tactic| walk_at "wa") => `(tactic| first
  | with_reducible refine w_cons ?_
  | with_reducible refine w_nil ?_
  | with_reducible refine w_star ?_)
local macro_rules | `(tactic| walk_at "wr") => `(tactic| first
  | with_reducible refine w_add ?_
  | with_reducible refine w_sub ?_
  | with_reducible refine w_lt ?_
  | with_reducible refine w_le ?_
  | with_reducible refine w_gt ?_
  | with_reducible refine w_ge ?_
  | with_reducible refine w_eqI ?_
  | with_reducible refine w_neI ?_
  | with_reducible refine w_isN ?_
  | with_reducible refine w_notN ?_
  | ((with_reducible refine w_mod ?k1 ?_); (case k1 => first | decide | omega))
  | ((with_reducible refine w_mul ?k1 ?_); (case k1 => first | exact Or.inl ⟨by decide, by decide⟩ | exact Or.inr ⟨by decide, by decide⟩ | exact Or.inl ⟨by omega, by omega⟩ | exact Or.inr ⟨by omega, by omega⟩))
  | ((with_reducible refine w_pow ?k1 ?_); (case k1 => first | exact ⟨by decide, by decide, by decide⟩ | exact ⟨by omega, by omega, by omega⟩))
  | ((with_reducible refine w_fdivW ?k1 ?_); (case k1 => exact divW_ok (by first | decide | omega) (by first | decide | omega)))
  | ((with_reducible refine w_mulW ?k1 ?_); (case k1 => exact mulW_ok ⟨by omega, by omega⟩ ⟨by omega, by omega⟩))
  | ((guard_target = G.WR _ (rIxT _) _ _ _ _); (refine w_ixT (by first | exact atI_0 | exact atI_1 | exact atI_2 | exact atI_3 | exact atI_4 | exact atI_5 | exact atI_6 | assumption) ?_))
  | ((guard_target = G.WR _ (rIxL _) _ _ _ _); (refine w_ixL (by first | exact lstD_v | exact lstD_o rfl) (by first | exact atI_0 | exact atI_1 | exact atI_2 | exact atI_3 | exact atI_4 | exact atI_5 | exact atI_6 | assumption) ?_)))
local macro_rules | `(tactic| walk_at "wc") => `(tactic| first
  | with_reducible refine c_int ?_
  | with_reducible refine c_intB ?_
  | with_reducible refine c_abs ?_
  | ((guard_target = G.WC _ (G.rLen _) _ _ _); (refine c_lenL (by first | exact lstD_v | exact lstD_o rfl) ?_))
  | with_reducible refine c_lenT ?_
  | ((guard_target = G.WC _ (G.rListOf _) _ _ _); (refine c_listL (by first | exact lstD_v | exact lstD_o rfl) ?_))
  | with_reducible refine c_listT ?_
  | ((guard_target = G.WC _ (G.rTupOf _) _ _ _); (refine c_tupL (by first | exact lstD_v | exact lstD_o rfl) ?_))
  | with_reducible refine c_tupT ?_)
local macro_rules | `(tactic| walk_at "e") => `(tactic| first
  | (guard_target = G.WE _ _ _ _ _ _ _; walk_at "we")
  | (guard_target = G.WS _ _ _ _ _ _; walk_at "ws")
  | (guard_target = G.WA _ _ _ _ _ _ _; walk_at "wa")
  | (guard_target = G.WR _ _ _ _ _ _; walk_at "wr")
  | (guard_target = G.WT _ _ _ _ _ _ _; walk_at "wt")
  | (guard_target = G.WC _ _ _ _ _; walk_at "wc")
  | (guard_target = G.WU _ _ _ _ _; with_reducible refine w_neg ?_)
  | (guard_target = G.WG _ _ _ _ _ _ _; first | with_reducible refine g_name ?_ | with_reducible refine g_setL ?_ | refine g_pair rfl ?_ | refine g_trip rfl ?_ | refine g_quad rfl ?_)
  | (guard_target = G.WO _ _ _ _ _ _ _; first | with_reducible refine o_none ?_ | with_reducible refine o_some ?_)
  | with_reducible refine tt_ ?_
  | with_reducible refine ff_ ?_
  | with_reducible refine ntt_ ?_
  | with_reducible refine nff_ ?_
  | ((guard_target = ((!G.isNon _) = true → _) ∧ _); (first | refine bnF rfl ?_ | refine bnT rfl ?_))
  | ((guard_target = (G.isNon _ = true → _) ∧ _); (first | refine bF rfl ?_ | refine bT rfl ?_))
  | (guard_target = Exists _; first
    | refine ⟨_, rfl, Nat.le_of_ble_eq_true rfl, Nat.le_of_ble_eq_true rfl, ?_⟩
    | refine ⟨_, _, _, _, _, rfl, rfl, rfl, rfl, rfl, ?_⟩
    | refine ⟨_, _, _, rfl, rfl, rfl, Nat.le_of_ble_eq_true rfl, ?_⟩
    | refine ⟨_, _, rfl, rfl, rfl, ?_⟩
    | refine ⟨_, _, _, rfl, ?_⟩
    | refine ⟨_, _, (by first | exact insD_v | exact insD_o rfl), rfl, ?_⟩
    | refine ⟨_, _, rfl, ?_⟩
    | refine ⟨_, rfl, rfl, ?_⟩
    | refine ⟨_, rfl, Nat.le_of_ble_eq_true rfl, ?_⟩
    | refine ⟨_, (by first | exact lstD_v | exact lstD_o rfl), ?_⟩
    | refine ⟨_, rfl, ?_⟩))
local macro_rules | `(tactic| walk_at "o") => `(tactic| first | with_reducible refine w_lstO ?_ | walk_at "e")
local macro_rules | `(tactic| walk_at "g") => `(tactic| first | walk_at "e" | with_reducible refine s_seq ?_)
local macro_rules | `(tactic| walk_at "n") => `(tactic| (with_reducible refine s_seq ?_); (repeat walk_at "e"))
def sp_l_together (K : PySem.W.Frag) : SpD := fun ts O P _ => ∃ ps : List (Int × Nat), ts = [.v (.lst (ps.map paD))] ∧ O = [] ∧ (∀ x ∈ ps, 1 ≤ x.2 ∧ x.2 ≤ 1000000000000000000000000000000 ∧ x.1.natAbs < 2 ^ 4000) ∧ Cop (ps.map (·.2)) ∧ ps.length ≤ 6 ∧ ∀ f : Int, Lvs f ps → 0 ≤ f → f < (prodN (ps.map (·.2)) : Nat) → P (.v (.int f)) []
theorem sp_l_together_len {K : PySem.W.Frag} {ts O P X} (h : sp_l_together K ts O P X) : ts.length = 1 := by
  obtain ⟨ps, rfl, _⟩ := h
  rfl
def sp_l_shared (K : PySem.W.Frag) : SpD := fun ts O P _ => ∃ (m : Nat) (ns : List Int), ts = [.v (.int m), .v (.lst (nums ns))] ∧ O = [] ∧ 2 ≤ m ∧ m ≤ 1000000000000000000000000000000 ∧ ns.length ≤ 4 ∧ ∀ ms, MulOk m ns ms (gcdL m ns) → P (.v (sharD K (gcdL m ns) ms)) []
theorem sp_l_shared_len {K : PySem.W.Frag} {ts O P X} (h : sp_l_shared K ts O P X) : ts.length = 2 := by
  obtain ⟨m, ns, rfl, _⟩ := h
  rfl
def sp_l_shows (K : PySem.W.Frag) : SpD := fun ts O P _ => ∃ (g : Nat) (ms : List Int) (m : Nat) (ns : List Int), ts = [.v (sharD K g ms), .v (.int m), .v (.lst (nums ns))] ∧ O = [] ∧ 2 ≤ m ∧ m ≤ 1000000000000000000000000000000 ∧ ns.length ≤ 4 ∧ (∀ n ∈ ns, n.natAbs < 2 ^ 240) ∧ g = gcdL m ns ∧ MulOk m ns ms g ∧ P (.v (.bl true)) []
theorem sp_l_shows_len {K : PySem.W.Frag} {ts O P X} (h : sp_l_shows K ts O P X) : ts.length = 3 := by
  obtain ⟨g, ms, m, ns, rfl, _⟩ := h
  rfl
def sp_l_modulus (K : PySem.W.Frag) : SpD := fun ts O P _ => ∃ (n : Nat) (p : List D), ts = [.own 0] ∧ O = [.lst p] ∧ Pen n p ∧ n < 900000 ∧ ∀ p' (m : Nat), Pen (n + 6) p' → 2 ≤ m → m ≤ 10000000000000000000000000 → P (.v (.int m)) [.lst p']
theorem sp_l_modulus_len {K : PySem.W.Frag} {ts O P X} (h : sp_l_modulus K ts O P X) : ts.length = 1 := by
  obtain ⟨n, p, rfl, _⟩ := h
  rfl
def sp_l_pieces (K : PySem.W.Frag) : SpD := fun ts O P _ => ∃ (n m : Nat), ts = [.v (.int n), .v (.int m)] ∧ O = [] ∧ 2 ≤ n ∧ n ≤ 1000000000000000000000000000000 ∧ m ≤ 12 ∧ P (.v (.lst ((pieces n m).map fun d => .int (d : Nat)))) []
theorem sp_l_pieces_len {K : PySem.W.Frag} {ts O P X} (h : sp_l_pieces K ts O P X) : ts.length = 2 := by
  obtain ⟨n, m, rfl, _⟩ := h
  rfl
def sp_l_put (K : PySem.W.Frag) : SpD := fun ts O P _ => ∃ (n : Nat) (p : List D) (m t : Nat), ts = [.own 0, .v (.int m), .v (.int t)] ∧ O = [.lst p] ∧ Pen n p ∧ n < 900000 ∧ 2 ≤ m ∧ m ≤ 10000000000000000000000000 ∧ t ≤ 12 ∧ ∀ p', Pen (n + 4) p' → P (.v (.bl true)) [.lst p']
theorem sp_l_put_len {K : PySem.W.Frag} {ts O P X} (h : sp_l_put K ts O P X) : ts.length = 3 := by
  obtain ⟨n, p, m, t, rfl, _⟩ := h
  rfl
def sp_l_share (K : PySem.W.Frag) : SpD := fun ts O P _ => ∃ (n : Nat) (p : List D) (m t : Nat), ts = [.own 0, .v (.int m), .v (.int t)] ∧ O = [.lst p] ∧ Pen n p ∧ n < 900000 ∧ 2 ≤ m ∧ m ≤ 10000000000000000000000000 ∧ t ≤ 12 ∧ ∀ p', Pen (n + 20) p' → P (.v (.bl true)) [.lst p']
theorem sp_l_share_len {K : PySem.W.Frag} {ts O P X} (h : sp_l_share K ts O P X) : ts.length = 3 := by
  obtain ⟨n, p, m, t, rfl, _⟩ := h
  rfl
theorem sc_law_power : FnScope ["_law_number", "_law_times", "_law_found", "_law_turn"] ["_law_number", "_law_times"] (defScope (top 48)) := ⟨rfl, rfl, rfl, by decide +kernel, rfl, by decide +kernel, by decide +kernel⟩
theorem ok_law_power {P : Program} {w : World} {K : PySem.W.Frag} {mg : Str → Option Value} {base : Heap} (T : Tx K mg)  : Fn P w K mg base 1 (He.fAd K ("_law_power", none)) ["_law_number", "_law_times"] (sp_power_of K) := by
  obtain ⟨fd, F⟩ := T.d_law_power
  refine ⟨fd, F.ok sc_law_power (lift_len ?_) (fun cdv A outer s H vs Q E hr h => ?_), F.bindsN fun _ _ _ _ _ _ us hl => (match us, hl with | [_, _], _ => rfl), F.kp, lk_of F⟩
  · intro ts O P X h
    exact sp_power_of_len h
  · have hu := hr.units
    refine ⟨_, (PSs.nox (pss_cons (ps_set (i := 2) sc_law_power.nd rfl (.inl rfl) pe_int)
    (pss_cons (ps_for PassesOwn.never rfl (pi_range1 (by rfl) T.n_range (pa_cons (pv 1) pa_nil)) (pg_name (i := 3) sc_law_power.nd rfl (.inl rfl))
    (pss_one (ps_set (i := 2) sc_law_power.nd rfl (.inl rfl) (pe_op op_mulW (pv 2) (pv 0)))))
    (pss_one (ps_ret (pv 2)))))), enter h fun ts O P X h _ => ?_⟩
    try dsimp only [cxOf, Cx.nox, Cx.wish]
    
    obtain ⟨b, t, rfl, rfl, hb, ht, p⟩ := h
    show WS _ _ _ _ [.v (.int b), .v (.int t), .no, .no] _
    walk_at "n"
    refine s_seq ?_
    refine s_forE ?_
    refine i_rng1 ?_
    repeat walk_at "e"
    refine ⟨by omega, ?_⟩
    rw [Int.toNat_natCast]
    refine for_R1 (fun i ts' O' => ∃ a : G.T, O' = [] ∧ ts' = [.v (.int b), .v (.int t), .v (.int (b ^ i : Nat)), a]) ⟨_, rfl, rfl⟩ ?_ ?_
    · rintro i _ _ hi ⟨a, rfl, rfl⟩
      refine g_name ?_
      repeat walk_at "e"
      refine w_mulW (mul_okP (a := 64 * i + 1) (b := 64) (by rw [Int.natAbs_natCast]; exact pow_lt2 hb i) (by omega) (by omega)) ?_
      rw [← Int.natCast_mul, ← Nat.pow_succ]
      exact ⟨_, rfl, rfl⟩
    · rintro _ _ ⟨a, rfl, rfl⟩
      repeat walk_at "e"
      exact ⟨rfl, p⟩
theorem sc_law_together : FnScope ["_law_parts"] ["_law_parts"] (defScope (top 47)) := ⟨rfl, rfl, rfl, by decide +kernel, rfl, by decide +kernel, by decide +kernel⟩
theorem ok_law_together {P : Program} {w : World} {K : PySem.W.Frag} {mg : Str → Option Value} {base : Heap} (T : Tx K mg) (h_together : FnS P w K mg base 4 (He.fAd K ("together", none)) 0 (sp_together K)) : Fn P w K mg base 5 (He.fAd K ("_law_together", none)) ["_law_parts"] (sp_l_together K) := by
  obtain ⟨F_together, kp_together⟩ := h_together
  obtain ⟨fd, F⟩ := T.d_law_together
  refine ⟨fd, F.ok sc_law_together (lift_len ?_) (fun cdv A outer s H vs Q E hr h => ?_), F.bindsN fun _ _ _ _ _ _ us hl => (match us, hl with | [_], _ => rfl), F.kp, lk_of F⟩
  · intro ts O P X h
    exact sp_l_together_len h
  · have hu := hr.units
    refine ⟨_, (PSs.nox (pss_cons (ps_if (pt_cmpR op_lt (pe_callB (cr_lenK K) (by rfl) T.n_len boot_len (pa_cons (pv 0) pa_nil)) pe_int (nomark _))
    (pss_one (ps_ret (pe_ifExp (pt_cmpR (op_eqDK K hu) (pv 0) (pe_lst pa_nil) (nomark _)) (pe_callR0 F_together (hr.mono (by decide)) (by rfl) T.g_together kp_together passL) (pe_callR F_together (hr.mono (by decide)) (by rfl) T.g_together kp_together passL (pa_cons (pe_ix (ix_listK K) (pv 0) pe_int (fun _ _ => rfl)) pa_nil)))))
    pss_nil)
    (pss_cons (ps_if (pt_cmpR op_eq (pe_callB (cr_lenK K) (by rfl) T.n_len boot_len (pa_cons (pv 0) pa_nil)) pe_int (nomark _))
    (pss_one (ps_ret (pe_callR F_together (hr.mono (by decide)) (by rfl) T.g_together kp_together passL (pa_cons (pe_ix (ix_listK K) (pv 0) pe_int (fun _ _ => rfl)) (pa_cons (pe_ix (ix_listK K) (pv 0) pe_int (fun _ _ => rfl)) pa_nil)))))
    pss_nil)
    (pss_cons (ps_if (pt_cmpR op_eq (pe_callB (cr_lenK K) (by rfl) T.n_len boot_len (pa_cons (pv 0) pa_nil)) pe_int (nomark _))
    (pss_one (ps_ret (pe_callR F_together (hr.mono (by decide)) (by rfl) T.g_together kp_together passL (pa_cons (pe_ix (ix_listK K) (pv 0) pe_int (fun _ _ => rfl)) (pa_cons (pe_ix (ix_listK K) (pv 0) pe_int (fun _ _ => rfl)) (pa_cons (pe_ix (ix_listK K) (pv 0) pe_int (fun _ _ => rfl)) pa_nil))))))
    pss_nil)
    (pss_cons (ps_if (pt_cmpR op_eq (pe_callB (cr_lenK K) (by rfl) T.n_len boot_len (pa_cons (pv 0) pa_nil)) pe_int (nomark _))
    (pss_one (ps_ret (pe_callR F_together (hr.mono (by decide)) (by rfl) T.g_together kp_together passL (pa_cons (pe_ix (ix_listK K) (pv 0) pe_int (fun _ _ => rfl)) (pa_cons (pe_ix (ix_listK K) (pv 0) pe_int (fun _ _ => rfl)) (pa_cons (pe_ix (ix_listK K) (pv 0) pe_int (fun _ _ => rfl)) (pa_cons (pe_ix (ix_listK K) (pv 0) pe_int (fun _ _ => rfl)) pa_nil)))))))
    pss_nil)
    (pss_cons (ps_if (pt_cmpR op_eq (pe_callB (cr_lenK K) (by rfl) T.n_len boot_len (pa_cons (pv 0) pa_nil)) pe_int (nomark _))
    (pss_one (ps_ret (pe_callR F_together (hr.mono (by decide)) (by rfl) T.g_together kp_together passL (pa_cons (pe_ix (ix_listK K) (pv 0) pe_int (fun _ _ => rfl)) (pa_cons (pe_ix (ix_listK K) (pv 0) pe_int (fun _ _ => rfl)) (pa_cons (pe_ix (ix_listK K) (pv 0) pe_int (fun _ _ => rfl)) (pa_cons (pe_ix (ix_listK K) (pv 0) pe_int (fun _ _ => rfl)) (pa_cons (pe_ix (ix_listK K) (pv 0) pe_int (fun _ _ => rfl)) pa_nil))))))))
    pss_nil)
    (pss_cons (ps_if (pt_cmpR op_eq (pe_callB (cr_lenK K) (by rfl) T.n_len boot_len (pa_cons (pv 0) pa_nil)) pe_int (nomark _))
    (pss_one (ps_ret (pe_callR F_together (hr.mono (by decide)) (by rfl) T.g_together kp_together passL (pa_cons (pe_ix (ix_listK K) (pv 0) pe_int (fun _ _ => rfl)) (pa_cons (pe_ix (ix_listK K) (pv 0) pe_int (fun _ _ => rfl)) (pa_cons (pe_ix (ix_listK K) (pv 0) pe_int (fun _ _ => rfl)) (pa_cons (pe_ix (ix_listK K) (pv 0) pe_int (fun _ _ => rfl)) (pa_cons (pe_ix (ix_listK K) (pv 0) pe_int (fun _ _ => rfl)) (pa_cons (pe_ix (ix_listK K) (pv 0) pe_int (fun _ _ => rfl)) pa_nil)))))))))
    pss_nil)
    (pss_one (ps_ret (pe_callR F_together (hr.mono (by decide)) (by rfl) T.g_together kp_together passL (pa_cons (pe_ix (ix_listK K) (pv 0) pe_int (fun _ _ => rfl)) (pa_cons (pe_ix (ix_listK K) (pv 0) pe_int (fun _ _ => rfl)) (pa_cons (pe_ix (ix_listK K) (pv 0) pe_int (fun _ _ => rfl)) (pa_cons (pe_ix (ix_listK K) (pv 0) pe_int (fun _ _ => rfl)) (pa_cons (pe_ix (ix_listK K) (pv 0) pe_int (fun _ _ => rfl)) (pa_cons (pe_ix (ix_listK K) (pv 0) pe_int (fun _ _ => rfl)) (pa_cons (pe_ix (ix_listK K) (pv 0) pe_int (fun _ _ => rfl)) pa_nil))))))))))))))))), enter h fun ts O P X h _ => ?_⟩
    try dsimp only [cxOf, Cx.nox, Cx.wish]
    
    obtain ⟨ps, rfl, rfl, hp, hc, hl, p⟩ := h
    show WS _ _ _ _ [.v (.lst (ps.map paD))] _
    
    rcases ps with _ | ⟨a, _ | ⟨b, _ | ⟨c, _ | ⟨d, _ | ⟨e, _ | ⟨f, _ | ⟨g, t⟩⟩⟩⟩⟩⟩⟩
    · refine s_seq ?_
      repeat walk_at "e"
      refine brT (show (0 : Int) < 2 by decide) ?_
      repeat walk_at "e"
      refine w_eqD valD_v valD_v rfl rfl ?_
      refine ⟨true, rfl, tt_ ?_⟩
      repeat walk_at "e"
      exact ⟨[], rfl, rfl, hp, hc, Nat.le_of_ble_eq_true rfl, fun f f1 f2 f3 => ⟨⟨_, rfl⟩, rfl, p f f1 f2 f3⟩⟩
    · refine s_seq ?_
      repeat walk_at "e"
      refine brT (show (1 : Int) < 2 by decide) ?_
      repeat walk_at "e"
      refine w_eqD valD_v valD_v rfl rfl ?_
      refine ⟨false, rfl, ff_ ?_⟩
      repeat walk_at "e"
      exact ⟨[a], rfl, rfl, hp, hc, Nat.le_of_ble_eq_true rfl, fun f f1 f2 f3 => ⟨⟨_, rfl⟩, rfl, p f f1 f2 f3⟩⟩
    · refine s_seq ?_
      repeat walk_at "e"
      refine brF (show ¬ (2 : Int) < 2 by decide) ?_
      repeat walk_at "e"
      refine s_seq ?_
      repeat walk_at "e"
      refine brT (show (2 : Int) = 2 by decide) ?_
      repeat walk_at "e"
      exact ⟨[a, b], rfl, rfl, hp, hc, Nat.le_of_ble_eq_true rfl, fun f f1 f2 f3 => ⟨⟨_, rfl⟩, rfl, p f f1 f2 f3⟩⟩
    · refine s_seq ?_
      repeat walk_at "e"
      refine brF (show ¬ (3 : Int) < 2 by decide) ?_
      repeat walk_at "e"
      refine s_seq ?_
      repeat walk_at "e"
      refine brF (show ¬ (3 : Int) = 2 by decide) ?_
      repeat walk_at "e"
      refine s_seq ?_
      repeat walk_at "e"
      refine brT (show (3 : Int) = 3 by decide) ?_
      repeat walk_at "e"
      exact ⟨[a, b, c], rfl, rfl, hp, hc, Nat.le_of_ble_eq_true rfl, fun f f1 f2 f3 => ⟨⟨_, rfl⟩, rfl, p f f1 f2 f3⟩⟩
    · refine s_seq ?_
      repeat walk_at "e"
      refine brF (show ¬ (4 : Int) < 2 by decide) ?_
      repeat walk_at "e"
      refine s_seq ?_
      repeat walk_at "e"
      refine brF (show ¬ (4 : Int) = 2 by decide) ?_
      repeat walk_at "e"
      refine s_seq ?_
      repeat walk_at "e"
      refine brF (show ¬ (4 : Int) = 3 by decide) ?_
      repeat walk_at "e"
      refine s_seq ?_
      repeat walk_at "e"
      refine brT (show (4 : Int) = 4 by decide) ?_
      repeat walk_at "e"
      exact ⟨[a, b, c, d], rfl, rfl, hp, hc, Nat.le_of_ble_eq_true rfl, fun f f1 f2 f3 => ⟨⟨_, rfl⟩, rfl, p f f1 f2 f3⟩⟩
    · refine s_seq ?_
      repeat walk_at "e"
      refine brF (show ¬ (5 : Int) < 2 by decide) ?_
      repeat walk_at "e"
      refine s_seq ?_
      repeat walk_at "e"
      refine brF (show ¬ (5 : Int) = 2 by decide) ?_
      repeat walk_at "e"
      refine s_seq ?_
      repeat walk_at "e"
      refine brF (show ¬ (5 : Int) = 3 by decide) ?_
      repeat walk_at "e"
      refine s_seq ?_
      repeat walk_at "e"
      refine brF (show ¬ (5 : Int) = 4 by decide) ?_
      repeat walk_at "e"
      refine s_seq ?_
      repeat walk_at "e"
      refine brT (show (5 : Int) = 5 by decide) ?_
      repeat walk_at "e"
      exact ⟨[a, b, c, d, e], rfl, rfl, hp, hc, Nat.le_of_ble_eq_true rfl, fun f f1 f2 f3 => ⟨⟨_, rfl⟩, rfl, p f f1 f2 f3⟩⟩
    · refine s_seq ?_
      repeat walk_at "e"
      refine brF (show ¬ (6 : Int) < 2 by decide) ?_
      repeat walk_at "e"
      refine s_seq ?_
      repeat walk_at "e"
      refine brF (show ¬ (6 : Int) = 2 by decide) ?_
      repeat walk_at "e"
      refine s_seq ?_
      repeat walk_at "e"
      refine brF (show ¬ (6 : Int) = 3 by decide) ?_
      repeat walk_at "e"
      refine s_seq ?_
      repeat walk_at "e"
      refine brF (show ¬ (6 : Int) = 4 by decide) ?_
      repeat walk_at "e"
      refine s_seq ?_
      repeat walk_at "e"
      refine brF (show ¬ (6 : Int) = 5 by decide) ?_
      repeat walk_at "e"
      refine s_seq ?_
      repeat walk_at "e"
      refine brT (show (6 : Int) = 6 by decide) ?_
      repeat walk_at "e"
      exact ⟨[a, b, c, d, e, f], rfl, rfl, hp, hc, Nat.le_of_ble_eq_true rfl, fun f f1 f2 f3 => ⟨⟨_, rfl⟩, rfl, p f f1 f2 f3⟩⟩
    · simp only [List.length_cons] at hl
      omega
theorem sc_law_shared : FnScope ["_law_modulus_here", "_law_numbers"] ["_law_modulus_here", "_law_numbers"] (defScope (top 45)) := ⟨rfl, rfl, rfl, by decide +kernel, rfl, by decide +kernel, by decide +kernel⟩
theorem ok_law_shared {P : Program} {w : World} {K : PySem.W.Frag} {mg : Str → Option Value} {base : Heap} (T : Tx K mg) (h_shared : FnS P w K mg base 5 (He.fAd K ("shared", none)) 1 (sp_shared K)) : Fn P w K mg base 6 (He.fAd K ("_law_shared", none)) ["_law_modulus_here", "_law_numbers"] (sp_l_shared K) := by
  obtain ⟨F_shared, kp_shared⟩ := h_shared
  obtain ⟨fd, F⟩ := T.d_law_shared
  refine ⟨fd, F.ok sc_law_shared (lift_len ?_) (fun cdv A outer s H vs Q E hr h => ?_), F.bindsN fun _ _ _ _ _ _ us hl => (match us, hl with | [_, _], _ => rfl), F.kp, lk_of F⟩
  · intro ts O P X h
    exact sp_l_shared_len h
  · have hu := hr.units
    refine ⟨_, (PSs.nox (pss_cons (ps_if (pt_cmpR op_lt (pe_callB (cr_lenK K) (by rfl) T.n_len boot_len (pa_cons (pv 1) pa_nil)) pe_int (nomark _))
    (pss_one (ps_ret (pe_ifExp (pt_cmpR (op_eqDK K hu) (pv 1) (pe_lst pa_nil) (nomark _)) (pe_callR F_shared (hr.mono (by decide)) (by rfl) T.g_shared kp_shared passL (pa_cons (pv 0) pa_nil)) (pe_callR F_shared (hr.mono (by decide)) (by rfl) T.g_shared kp_shared passL (pa_cons (pv 0) (pa_cons (pe_ix (ix_listK K) (pv 1) pe_int (fun _ _ => rfl)) pa_nil))))))
    pss_nil)
    (pss_cons (ps_if (pt_cmpR op_eq (pe_callB (cr_lenK K) (by rfl) T.n_len boot_len (pa_cons (pv 1) pa_nil)) pe_int (nomark _))
    (pss_one (ps_ret (pe_callR F_shared (hr.mono (by decide)) (by rfl) T.g_shared kp_shared passL (pa_cons (pv 0) (pa_cons (pe_ix (ix_listK K) (pv 1) pe_int (fun _ _ => rfl)) (pa_cons (pe_ix (ix_listK K) (pv 1) pe_int (fun _ _ => rfl)) pa_nil))))))
    pss_nil)
    (pss_cons (ps_if (pt_cmpR op_eq (pe_callB (cr_lenK K) (by rfl) T.n_len boot_len (pa_cons (pv 1) pa_nil)) pe_int (nomark _))
    (pss_one (ps_ret (pe_callR F_shared (hr.mono (by decide)) (by rfl) T.g_shared kp_shared passL (pa_cons (pv 0) (pa_cons (pe_ix (ix_listK K) (pv 1) pe_int (fun _ _ => rfl)) (pa_cons (pe_ix (ix_listK K) (pv 1) pe_int (fun _ _ => rfl)) (pa_cons (pe_ix (ix_listK K) (pv 1) pe_int (fun _ _ => rfl)) pa_nil)))))))
    pss_nil)
    (pss_one (ps_ret (pe_callR F_shared (hr.mono (by decide)) (by rfl) T.g_shared kp_shared passL (pa_cons (pv 0) (pa_cons (pe_ix (ix_listK K) (pv 1) pe_int (fun _ _ => rfl)) (pa_cons (pe_ix (ix_listK K) (pv 1) pe_int (fun _ _ => rfl)) (pa_cons (pe_ix (ix_listK K) (pv 1) pe_int (fun _ _ => rfl)) (pa_cons (pe_ix (ix_listK K) (pv 1) pe_int (fun _ _ => rfl)) pa_nil)))))))))))), enter h fun ts O P X h _ => ?_⟩
    try dsimp only [cxOf, Cx.nox, Cx.wish]
    
    obtain ⟨m, ns, rfl, rfl, hm, hm2, hl, p⟩ := h
    show WS _ _ _ _ [.v (.int m), .v (.lst (nums ns))] _
    
    rcases ns with _ | ⟨a, _ | ⟨b, _ | ⟨c, _ | ⟨d, _ | ⟨e, t⟩⟩⟩⟩⟩
    · refine s_seq ?_
      repeat walk_at "e"
      refine brT (show (0 : Int) < 2 by decide) ?_
      repeat walk_at "e"
      refine w_eqD valD_v valD_v rfl rfl ?_
      refine ⟨true, rfl, tt_ ?_⟩
      repeat walk_at "e"
      exact ⟨m, [], rfl, rfl, hm, hm2, Nat.le_of_ble_eq_true rfl, fun ms hok => ⟨⟨_, rfl⟩, rfl, p ms hok⟩⟩
    · refine s_seq ?_
      repeat walk_at "e"
      refine brT (show (1 : Int) < 2 by decide) ?_
      repeat walk_at "e"
      refine w_eqD valD_v valD_v rfl rfl ?_
      refine ⟨false, rfl, ff_ ?_⟩
      repeat walk_at "e"
      exact ⟨m, [a], rfl, rfl, hm, hm2, Nat.le_of_ble_eq_true rfl, fun ms hok => ⟨⟨_, rfl⟩, rfl, p ms hok⟩⟩
    · refine s_seq ?_
      repeat walk_at "e"
      refine brF (show ¬ (2 : Int) < 2 by decide) ?_
      repeat walk_at "e"
      refine s_seq ?_
      repeat walk_at "e"
      refine brT (show (2 : Int) = 2 by decide) ?_
      repeat walk_at "e"
      exact ⟨m, [a, b], rfl, rfl, hm, hm2, Nat.le_of_ble_eq_true rfl, fun ms hok => ⟨⟨_, rfl⟩, rfl, p ms hok⟩⟩
    · refine s_seq ?_
      repeat walk_at "e"
      refine brF (show ¬ (3 : Int) < 2 by decide) ?_
      repeat walk_at "e"
      refine s_seq ?_
      repeat walk_at "e"
      refine brF (show ¬ (3 : Int) = 2 by decide) ?_
      repeat walk_at "e"
      refine s_seq ?_
      repeat walk_at "e"
      refine brT (show (3 : Int) = 3 by decide) ?_
      repeat walk_at "e"
      exact ⟨m, [a, b, c], rfl, rfl, hm, hm2, Nat.le_of_ble_eq_true rfl, fun ms hok => ⟨⟨_, rfl⟩, rfl, p ms hok⟩⟩
    · refine s_seq ?_
      repeat walk_at "e"
      refine brF (show ¬ (4 : Int) < 2 by decide) ?_
      repeat walk_at "e"
      refine s_seq ?_
      repeat walk_at "e"
      refine brF (show ¬ (4 : Int) = 2 by decide) ?_
      repeat walk_at "e"
      refine s_seq ?_
      repeat walk_at "e"
      refine brF (show ¬ (4 : Int) = 3 by decide) ?_
      repeat walk_at "e"
      exact ⟨m, [a, b, c, d], rfl, rfl, hm, hm2, Nat.le_of_ble_eq_true rfl, fun ms hok => ⟨⟨_, rfl⟩, rfl, p ms hok⟩⟩
    · simp only [List.length_cons] at hl
      omega
theorem sc_law_shows : FnScope ["_law_value", "_law_modulus_here", "_law_numbers"] ["_law_value", "_law_modulus_here", "_law_numbers"] (defScope (top 46)) := ⟨rfl, rfl, rfl, by decide +kernel, rfl, by decide +kernel, by decide +kernel⟩
theorem ok_law_shows {P : Program} {w : World} {K : PySem.W.Frag} {mg : Str → Option Value} {base : Heap} (T : Tx K mg) (h_shows_shared : FnS P w K mg base 5 (He.fAd K ("shows_shared", none)) 2 (sp_shows_shared K)) : Fn P w K mg base 6 (He.fAd K ("_law_shows", none)) ["_law_value", "_law_modulus_here", "_law_numbers"] (sp_l_shows K) := by
  obtain ⟨F_shows_shared, kp_shows_shared⟩ := h_shows_shared
  obtain ⟨fd, F⟩ := T.d_law_shows
  refine ⟨fd, F.ok sc_law_shows (lift_len ?_) (fun cdv A outer s H vs Q E hr h => ?_), F.bindsN fun _ _ _ _ _ _ us hl => (match us, hl with | [_, _, _], _ => rfl), F.kp, lk_of F⟩
  · intro ts O P X h
    exact sp_l_shows_len h
  · have hu := hr.units
    refine ⟨_, (PSs.nox (pss_cons (ps_if (pt_cmpR op_lt (pe_callB (cr_lenK K) (by rfl) T.n_len boot_len (pa_cons (pv 2) pa_nil)) pe_int (nomark _))
    (pss_one (ps_ret (pe_ifExp (pt_cmpR (op_eqDK K hu) (pv 2) (pe_lst pa_nil) (nomark _)) (pe_callR F_shows_shared (hr.mono (by decide)) (by rfl) T.g_shows_shared kp_shows_shared passL (pa_cons (pv 0) (pa_cons (pv 1) pa_nil))) (pe_callR F_shows_shared (hr.mono (by decide)) (by rfl) T.g_shows_shared kp_shows_shared passL (pa_cons (pv 0) (pa_cons (pv 1) (pa_cons (pe_ix (ix_listK K) (pv 2) pe_int (fun _ _ => rfl)) pa_nil)))))))
    pss_nil)
    (pss_cons (ps_if (pt_cmpR op_eq (pe_callB (cr_lenK K) (by rfl) T.n_len boot_len (pa_cons (pv 2) pa_nil)) pe_int (nomark _))
    (pss_one (ps_ret (pe_callR F_shows_shared (hr.mono (by decide)) (by rfl) T.g_shows_shared kp_shows_shared passL (pa_cons (pv 0) (pa_cons (pv 1) (pa_cons (pe_ix (ix_listK K) (pv 2) pe_int (fun _ _ => rfl)) (pa_cons (pe_ix (ix_listK K) (pv 2) pe_int (fun _ _ => rfl)) pa_nil)))))))
    pss_nil)
    (pss_cons (ps_if (pt_cmpR op_eq (pe_callB (cr_lenK K) (by rfl) T.n_len boot_len (pa_cons (pv 2) pa_nil)) pe_int (nomark _))
    (pss_one (ps_ret (pe_callR F_shows_shared (hr.mono (by decide)) (by rfl) T.g_shows_shared kp_shows_shared passL (pa_cons (pv 0) (pa_cons (pv 1) (pa_cons (pe_ix (ix_listK K) (pv 2) pe_int (fun _ _ => rfl)) (pa_cons (pe_ix (ix_listK K) (pv 2) pe_int (fun _ _ => rfl)) (pa_cons (pe_ix (ix_listK K) (pv 2) pe_int (fun _ _ => rfl)) pa_nil))))))))
    pss_nil)
    (pss_one (ps_ret (pe_callR F_shows_shared (hr.mono (by decide)) (by rfl) T.g_shows_shared kp_shows_shared passL (pa_cons (pv 0) (pa_cons (pv 1) (pa_cons (pe_ix (ix_listK K) (pv 2) pe_int (fun _ _ => rfl)) (pa_cons (pe_ix (ix_listK K) (pv 2) pe_int (fun _ _ => rfl)) (pa_cons (pe_ix (ix_listK K) (pv 2) pe_int (fun _ _ => rfl)) (pa_cons (pe_ix (ix_listK K) (pv 2) pe_int (fun _ _ => rfl)) pa_nil))))))))))))), enter h fun ts O P X h _ => ?_⟩
    try dsimp only [cxOf, Cx.nox, Cx.wish]
    
    obtain ⟨g, ms, m, ns, rfl, rfl, hm, hm2, hl, hns, hg, hok, p⟩ := h
    show WS _ _ _ _ [.v (sharD K g ms), .v (.int m), .v (.lst (nums ns))] _
    
    rcases ns with _ | ⟨a, _ | ⟨b, _ | ⟨c, _ | ⟨d, _ | ⟨e, t⟩⟩⟩⟩⟩
    · refine s_seq ?_
      repeat walk_at "e"
      refine brT (show (0 : Int) < 2 by decide) ?_
      repeat walk_at "e"
      refine w_eqD valD_v valD_v rfl rfl ?_
      refine ⟨true, rfl, tt_ ?_⟩
      repeat walk_at "e"
      exact ⟨g, ms, m, [], rfl, rfl, hm, hm2, Nat.le_of_ble_eq_true rfl, hns, hg, hok, ⟨⟨_, rfl⟩, rfl, p⟩⟩
    · refine s_seq ?_
      repeat walk_at "e"
      refine brT (show (1 : Int) < 2 by decide) ?_
      repeat walk_at "e"
      refine w_eqD valD_v valD_v rfl rfl ?_
      refine ⟨false, rfl, ff_ ?_⟩
      repeat walk_at "e"
      exact ⟨g, ms, m, [a], rfl, rfl, hm, hm2, Nat.le_of_ble_eq_true rfl, hns, hg, hok, ⟨⟨_, rfl⟩, rfl, p⟩⟩
    · refine s_seq ?_
      repeat walk_at "e"
      refine brF (show ¬ (2 : Int) < 2 by decide) ?_
      repeat walk_at "e"
      refine s_seq ?_
      repeat walk_at "e"
      refine brT (show (2 : Int) = 2 by decide) ?_
      repeat walk_at "e"
      exact ⟨g, ms, m, [a, b], rfl, rfl, hm, hm2, Nat.le_of_ble_eq_true rfl, hns, hg, hok, ⟨⟨_, rfl⟩, rfl, p⟩⟩
    · refine s_seq ?_
      repeat walk_at "e"
      refine brF (show ¬ (3 : Int) < 2 by decide) ?_
      repeat walk_at "e"
      refine s_seq ?_
      repeat walk_at "e"
      refine brF (show ¬ (3 : Int) = 2 by decide) ?_
      repeat walk_at "e"
      refine s_seq ?_
      repeat walk_at "e"
      refine brT (show (3 : Int) = 3 by decide) ?_
      repeat walk_at "e"
      exact ⟨g, ms, m, [a, b, c], rfl, rfl, hm, hm2, Nat.le_of_ble_eq_true rfl, hns, hg, hok, ⟨⟨_, rfl⟩, rfl, p⟩⟩
    · refine s_seq ?_
      repeat walk_at "e"
      refine brF (show ¬ (4 : Int) < 2 by decide) ?_
      repeat walk_at "e"
      refine s_seq ?_
      repeat walk_at "e"
      refine brF (show ¬ (4 : Int) = 2 by decide) ?_
      repeat walk_at "e"
      refine s_seq ?_
      repeat walk_at "e"
      refine brF (show ¬ (4 : Int) = 3 by decide) ?_
      repeat walk_at "e"
      exact ⟨g, ms, m, [a, b, c, d], rfl, rfl, hm, hm2, Nat.le_of_ble_eq_true rfl, hns, hg, hok, ⟨⟨_, rfl⟩, rfl, p⟩⟩
    · simp only [List.length_cons] at hl
      omega
theorem sc_law_modulus : FnScope ["_law_pen_here", "_law_found", "_law_prime"] ["_law_pen_here"] (defScope (top 49)) := ⟨rfl, rfl, rfl, by decide +kernel, rfl, by decide +kernel, by decide +kernel⟩
theorem ok_law_modulus {P : Program} {w : World} {K : PySem.W.Frag} {mg : Str → Option Value} {base : Heap} (T : Tx K mg) (h_law_pick : Fn P w K mg base 2 (He.fAd K ("_law_pick", none)) ["_law_pen_here", "_law_some"] (sp_pick K)) (h_law_power : Fn P w K mg base 1 (He.fAd K ("_law_power", none)) ["_law_number", "_law_times"] (sp_power_of K)) : Fn P w K mg base 3 (He.fAd K ("_law_modulus", none)) ["_law_pen_here"] (sp_l_modulus K) := by
  obtain ⟨_, F_law_pick, b_law_pick, kp_law_pick, _⟩ := h_law_pick
  obtain ⟨_, F_law_power, b_law_power, kp_law_power, _⟩ := h_law_power
  obtain ⟨fd, F⟩ := T.d_law_modulus
  refine ⟨fd, F.ok sc_law_modulus (lift_len ?_) (fun cdv A outer s H vs Q E hr h => ?_), F.bindsN fun _ _ _ _ _ _ us hl => (match us, hl with | [_], _ => rfl), F.kp, lk_of F⟩
  · intro ts O P X h
    exact sp_l_modulus_len h
  · have hu := hr.units
    refine ⟨_, (PSs.nox (pss_cons (ps_set (i := 1) sc_law_modulus.nd rfl (.inl rfl) (pe_call F_law_pick (hr.mono (by decide)) (by rfl) T.g__law_pick kp_law_pick b_law_pick .nil passL (pa_cons (pv 0) (pa_cons (pe_lst (pa_cons pe_int (pa_cons pe_int (pa_cons (pe_op op_mul pe_int pe_int) (pa_cons (pe_op op_pow pe_int pe_int) (pa_cons (pe_op op_add (pe_op op_pow pe_int pe_int) pe_int) pa_nil)))))) pa_nil))))
    (pss_cons (ps_for PassesOwn.never rfl (pi_listK K (pe_lst (pa_cons pe_int (pa_cons pe_int (pa_cons pe_int (pa_cons pe_int (pa_cons pe_int pa_nil))))))) (pg_name (i := 2) sc_law_modulus.nd rfl (.inl rfl))
    (pss_one (ps_set (i := 1) sc_law_modulus.nd rfl (.inl rfl) (pe_op op_mulW (pv 1) (pe_call F_law_power (hr.mono (by decide)) (by rfl) T.g__law_power kp_law_power b_law_power .nil passL (pa_cons (pv 2) (pa_cons (pe_call F_law_pick (hr.mono (by decide)) (by rfl) T.g__law_pick kp_law_pick b_law_pick .nil passL (pa_cons (pv 0) (pa_cons (pe_lst (pa_cons pe_int (pa_cons pe_int (pa_cons pe_int (pa_cons pe_int pa_nil))))) pa_nil))) pa_nil)))))))
    (pss_one (ps_ret (pe_ifExp (pt_cmpR op_gt (pv 1) pe_int (nomark _)) (pv 1) pe_int)))))), enter h fun ts O P X h _ => ?_⟩
    try dsimp only [cxOf, Cx.nox, Cx.wish]
    
    obtain ⟨n, p, rfl, rfl, hp, hn, k⟩ := h
    show WS _ _ _ _ [.own 0, .no, .no] _
    walk_at "n"
    refine u_pick hp (by omega) (Nat.le_of_ble_eq_true rfl) (Nat.le_of_ble_eq_true rfl) fun p1 j d hp1 hd => ⟨_, rfl, nno, ?_⟩
    obtain ⟨v, rfl, hv1, hv2⟩ : ∃ v : Nat, d = .int v ∧ 1 ≤ v ∧ v ≤ 1000000007 := by
      have hm := List.mem_of_getElem? hd
      simp only [List.mem_cons, List.not_mem_nil, or_false] at hm
      rcases hm with rfl | rfl | rfl | rfl | rfl
      · exact ⟨1, rfl, by decide, by decide⟩
      · exact ⟨13, rfl, by decide, by decide⟩
      · exact ⟨323, rfl, by decide, by decide⟩
      · exact ⟨1030301, rfl, by decide, by decide⟩
      · exact ⟨1000000007, rfl, by decide, by decide⟩
    refine s_seq ?_
    refine s_forE ?_
    refine i_list ?_
    repeat walk_at "e"
    refine for_N (ns := [2, 3, 5, 7, 11]) (fun i ts' O' => ∃ (f : Nat) (p' : List D) (a : G.T), O' = [.lst p'] ∧ ts' = [.own 0, .v (.int f), a] ∧ Pen (n + 1 + i) p' ∧ 1 ≤ f ∧ f ≤ 1000000007 * 1331 ^ i) ⟨v, p1, _, rfl, rfl, hp1, hv1, by omega⟩ ?_ ?_
    · rintro i r _ _ hi er ⟨f, p', a, rfl, rfl, hp', f1, f2⟩
      have hi : i < 5 := hi
      obtain ⟨b, rfl, b1, b2⟩ : ∃ b : Nat, r = b ∧ 2 ≤ b ∧ b ≤ 11 := by
        have hm := List.mem_of_getElem? er
        simp only [List.mem_cons, List.not_mem_nil, or_false] at hm
        exact ⟨r.toNat, by omega, by omega, by omega⟩
      refine g_name ?_
      repeat walk_at "e"
      refine u_pick hp' (by omega) (Nat.le_of_ble_eq_true rfl) (Nat.le_of_ble_eq_true rfl) fun p2 j d hp2 hd => ⟨_, rfl, nno, ?_⟩
      obtain ⟨t, rfl, ht⟩ : ∃ t : Nat, d = .int t ∧ t ≤ 3 := by
        have hm := List.mem_of_getElem? hd
        simp only [List.mem_cons, List.not_mem_nil, or_false] at hm
        rcases hm with rfl | rfl | rfl | rfl
        · exact ⟨0, rfl, by decide⟩
        · exact ⟨1, rfl, by decide⟩
        · exact ⟨2, rfl, by decide⟩
        · exact ⟨3, rfl, by decide⟩
      repeat walk_at "e"
      refine ⟨b, t, rfl, rfl, by omega, by omega, ⟨⟨_, rfl⟩, ?_⟩⟩
      have hbt : b ^ t ≤ 1331 := Nat.le_trans (Nat.pow_le_pow_left b2 t) (Nat.le_trans (Nat.pow_le_pow_right (by decide) ht) (by decide))
      have hbp : 1 ≤ b ^ t := Nat.pow_pos (by omega)
      have hq : 1331 ^ i ≤ 1331 ^ 4 := Nat.pow_le_pow_right (by decide) (by omega)
      have hmul := Nat.mul_le_mul f2 hbt
      rw [Nat.mul_assoc, ← Nat.pow_succ] at hmul
      repeat walk_at "e"
      generalize b ^ t = w' at *
      have hq2 : f ≤ 1000000007 * 1331 ^ 4 := Nat.le_trans f2 (Nat.mul_le_mul_left _ hq)
      rw [← Int.natCast_mul]
      exact ⟨f * w', p2, _, rfl, rfl, hp2, Nat.mul_pos f1 hbp, hmul⟩
    · rintro _ _ ⟨f, p', a, rfl, rfl, hp', f1, f2⟩
      have f2 : f ≤ 1000000007 * 1331 ^ 5 := f2
      repeat walk_at "e"
      refine br (fun h0 => ?_) (fun h0 => ?_)
      · repeat walk_at "e"
        exact ⟨rfl, k _ f hp' (by omega) (by omega)⟩
      · repeat walk_at "e"
        exact ⟨rfl, k _ 4 hp' (by omega) (by omega)⟩
theorem sc_law_pieces : FnScope ["_law_modulus_here", "_law_most", "_law_found", "_law_prime", "_law_times"] ["_law_modulus_here", "_law_most"] (defScope (top 50)) := ⟨rfl, rfl, rfl, by decide +kernel, rfl, by decide +kernel, by decide +kernel⟩
theorem ok_law_pieces {P : Program} {w : World} {K : PySem.W.Frag} {mg : Str → Option Value} {base : Heap} (T : Tx K mg) (h_great_part : Fn P w K mg base 5 (He.fAd K ("great_part", none)) ["modulus", "most"] (sp_great_part K)) (h_small_parts : Fn P w K mg base 5 (He.fAd K ("small_parts", none)) ["modulus", "most"] (sp_small_parts K)) (h_law_power : Fn P w K mg base 1 (He.fAd K ("_law_power", none)) ["_law_number", "_law_times"] (sp_power_of K)) : Fn P w K mg base 6 (He.fAd K ("_law_pieces", none)) ["_law_modulus_here", "_law_most"] (sp_l_pieces K) := by
  obtain ⟨_, F_great_part, b_great_part, kp_great_part, _⟩ := h_great_part
  obtain ⟨_, F_small_parts, b_small_parts, kp_small_parts, _⟩ := h_small_parts
  obtain ⟨_, F_law_power, b_law_power, kp_law_power, _⟩ := h_law_power
  obtain ⟨fd, F⟩ := T.d_law_pieces
  refine ⟨fd, F.ok sc_law_pieces (lift_len ?_) (fun cdv A outer s H vs Q E hr h => ?_), F.bindsN fun _ _ _ _ _ _ us hl => (match us, hl with | [_, _], _ => rfl), F.kp, lk_of F⟩
  · intro ts O P X h
    exact sp_l_pieces_len h
  · have hu := hr.units
    refine ⟨_, (PSs.nox (pss_cons (ps_set (i := 2) sc_law_pieces.nd rfl (.inl rfl) (pe_lst (pa_cons (pe_call F_great_part (hr.mono (by decide)) (by rfl) T.g_great_part kp_great_part b_great_part .nil passL (pa_cons (pv 0) (pa_cons (pv 1) pa_nil))) pa_nil)))
    (pss_cons (ps_for PassesOwn.never rfl (pi_tupK K (pe_call F_small_parts (hr.mono (by decide)) (by rfl) T.g_small_parts kp_small_parts b_small_parts .nil passL (pa_cons (pv 0) (pa_cons (pv 1) pa_nil)))) (pg_tupK K (n := 2) rfl (pgs_cons (pg_name (i := 3) sc_law_pieces.nd rfl (.inl rfl)) (pgs_cons (pg_name (i := 4) sc_law_pieces.nd rfl (.inl rfl)) pgs_nil)))
    (pss_one (ps_expr (pe_bm PySem.F.plainAttrs_list PySem.F.slot_list_append PySem.F.type_list_append mt_append (pv 2) (pa_cons (pe_call F_law_power (hr.mono (by decide)) (by rfl) T.g__law_power kp_law_power b_law_power .nil passL (pa_cons (pv 3) (pa_cons (pv 4) pa_nil))) pa_nil)))))
    (pss_one (ps_ret (pv 2)))))), enter h fun ts O P X h _ => ?_⟩
    try dsimp only [cxOf, Cx.nox, Cx.wish]
    
    obtain ⟨n, m, rfl, rfl, hn, hn2, hm, p⟩ := h
    show WS _ _ _ _ [.v (.int n), .v (.int m), .no, .no, .no] _
    refine s_seq ?_
    repeat walk_at "o"
    refine ⟨n, m, rfl, rfl, hn, hn2, hm, ⟨⟨_, rfl⟩, ?_⟩⟩
    repeat walk_at "e"
    refine s_seq ?_
    refine s_forE ?_
    refine i_tup ?_
    repeat walk_at "e"
    refine ⟨n, m, rfl, rfl, hn, hn2, hm, ⟨⟨_, rfl⟩, ?_⟩⟩
    repeat walk_at "e"
    refine for_A (fun i ts' O' => ∃ (a b : G.T), O' = [.lst ((great n m :: ((small n m).take i).map fun x => x.1 ^ x.2).map fun d => .int (d : Nat))] ∧ ts' = [.v (.int n), .v (.int m), .own 0, a, b]) ⟨_, _, rfl, rfl⟩ ?_ ?_
    · rintro i x _ _ hi hx ⟨a, b, rfl, rfl⟩
      have hmem := List.mem_of_getElem? hx
      obtain ⟨d1, d2⟩ := small_dvd (by omega) hmem
      obtain ⟨k1, _, _, k4⟩ := small_mem hmem
      have k2 := pr_two k1
      have hle := Nat.le_of_dvd (by omega) d2
      have ht : x.2 ≤ 1000 := by
        have : x.2 < 2 ^ x.2 := Nat.lt_two_pow_self
        have h2 : 2 ^ x.2 ≤ x.1 ^ x.2 := Nat.pow_le_pow_left k2.1 _
        have h3 : 2 ^ x.2 < 2 ^ 200 := by omega
        have := (Nat.pow_lt_pow_iff_right (show 1 < 2 by decide)).mp h3
        omega
      have hsl := small_len n m
      refine g_pair rfl ?_
      repeat walk_at "e"
      refine ⟨x.1, x.2, rfl, rfl, by omega, ht, ⟨⟨_, rfl⟩, ?_⟩⟩
      repeat walk_at "e"
      refine m_append (by exact rfl) (lt_szD (by rw [List.length_map, List.length_cons, List.length_map, List.length_take]; omega)) ?_
      refine ⟨_, _, ?_, rfl⟩
      rw [List.take_succ, hx, Option.toList_some, List.map_append, ← List.cons_append, List.map_append]
      exact rfl
    · rintro _ _ ⟨a, b, rfl, rfl⟩
      rw [List.take_length]
      repeat walk_at "e"
      exact ⟨rfl, p⟩
end My

set_option Elab.async false
set_option linter.all false
set_option maxRecDepth 100000
set_option maxHeartbeats 0
namespace My
open PySem PySem.Spec PyProof.Rows L2 G

local macro_rules | `(tactic| walk_at "ws") => `(tactic| first
  | with_reducible refine s_set ?_
  | with_reducible refine s_if ?_
  | with_reducible refine s_ret ?_
  | with_reducible refine s_retN ?_
  | with_reducible refine s_drop ?_
  | with_reducible refine s_next ?_
  | with_reducible refine s_par ?_
  | with_reducible refine s_par3 ?_
  | refine s_fldN (by assumption) (by assumption) ?_
  | with_reducible refine s_asg ?_)
local macro_rules | `(tactic| walk_at "we") => `(tactic| first
  | ((with_reducible refine w_v (d := ?k2) ?k1 ?_); (case k1 => exact rfl))
  | ((with_reducible refine w_o (j := ?k2) ?k1 ?_); (case k1 => exact rfl))
  | ((guard_target = G.WE _ _ (tFld _ _ _) _ _ _ _); (refine w_fldN (by assumption) (by assumption) ?_))
  | ((guard_target = G.WE _ _ (tC (.ref _)) _ _ _ _); (refine w_ctup (by assumption) ?_))
  | with_reducible refine w_ci ?_
  | with_reducible refine w_op ?_
  | with_reducible refine w_call ?_
  | with_reducible refine w_cty ?_
  | with_reducible refine w_cb ?_
  | with_reducible refine w_cn ?_
  | with_reducible refine w_cs ?_
  | with_reducible refine w_cr ?_
  | with_reducible refine w_un ?_
  | with_reducible refine w_andV ?_
  | with_reducible refine w_orV ?_
  | with_reducible refine w_notV ?_
  | with_reducible refine w_ife ?_
  | with_reducible refine w_chain ?_
  | with_reducible refine w_tup ?_
  | with_reducible refine w_revL ?_
  | with_reducible refine w_slL ?_
  | with_reducible refine w_slT ?_
  | (guard_target = G.WE _ _ (tCall (lift _ (sp_draw _)) _ _ _) _ _ _ _; refine w_fn10 0 ?_)
  | (guard_target = G.WE _ _ (tCall (lift _ (sp_pick _)) _ _ _) _ _ _ _; refine w_fn10 0 ?_)
  | (guard_target = G.WE _ _ (tCall (lift _ (sp_l_modulus _)) _ _ _) _ _ _ _; refine w_fn10 0 ?_)
  | (guard_target = G.WE _ _ (tCall (lift _ (sp_l_put _)) _ _ _) _ _ _ _; refine w_fn10 0 ?_)
  | (guard_target = G.WE _ _ (tCall (lift _ (sp_l_share _)) _ _ _) _ _ _ _; refine w_fn10 0 ?_)
  | with_reducible refine w_fn0 ?_
  | with_reducible refine w_fnS0 ?_
  | with_reducible refine w_meth0 ?_
  | with_reducible refine w_make0 ?_
  | with_reducible refine w_bmL ?_
  | with_reducible refine w_bmL0 ?_
  | with_reducible refine w_lst ?_)
local macro_rules | `(tactic| walk_at "wt") => `(tactic| first
  | with_reducible refine w_test ?_
  | with_reducible refine w_B ?_
  | with_reducible refine w_and ?_
  | with_reducible refine w_or ?_
  | with_reducible refine w_not ?_)
local macro_rules | `(tactic| walk_at "wa") => `(tactic| first
  | with_reducible refine w_cons ?_
  | with_reducible refine w_nil ?_
  | with_reducible refine w_star ?_)
local macro_rules | `(tactic| walk_at "wr") => `(tactic| first
  | with_reducible refine w_add ?_
  | with_reducible refine w_sub ?_
  | with_reducible refine w_lt ?_
  | with_reducible refine w_le ?_
  | with_reducible refine w_gt ?_
  | with_reducible refine w_ge ?_
  | with_reducible refine w_eqI ?_
  | with_reducible refine w_neI ?_
  | with_reducible refine w_isN ?_
  | with_reducible refine w_notN ?_
  | ((with_reducible refine w_mod ?k1 ?_); (case k1 => first | decide | omega))
  | ((with_reducible refine w_mul ?k1 ?_); (case k1 => first | exact Or.inl ⟨by decide, by decide⟩ | exact Or.inr ⟨by decide, by decide⟩ | exact Or.inl ⟨by omega, by omega⟩ | exact Or.inr ⟨by omega, by omega⟩))
  | ((with_reducible refine w_pow ?k1 ?_); (case k1 => first | exact ⟨by decide, by decide, by decide⟩ | exact ⟨by omega, by omega, by omega⟩))
  | ((with_reducible refine w_fdivW ?k1 ?_); (case k1 => exact divW_ok (by first | decide | omega) (by first | decide | omega)))
  | ((with_reducible refine w_mulW ?k1 ?_); (case k1 => exact mulW_ok ⟨by omega, by omega⟩ ⟨by omega, by omega⟩))
  | ((guard_target = G.WR _ (rIxT _) _ _ _ _); (refine w_ixT (by first | exact atI_0 | exact atI_1 | exact atI_2 | exact atI_3 | exact atI_4 | exact atI_5 | exact atI_6 | assumption) ?_))
  | ((guard_target = G.WR _ (rIxL _) _ _ _ _); (refine w_ixL (by first | exact lstD_v | exact lstD_o rfl) (by first | exact atI_0 | exact atI_1 | exact atI_2 | exact atI_3 | exact atI_4 | exact atI_5 | exact atI_6 | assumption) ?_)))
local macro_rules | `(tactic| walk_at "wc") => `(tactic| first
  | with_reducible refine c_int ?_
  | with_reducible refine c_intB ?_
  | with_reducible refine c_abs ?_
  | ((guard_target = G.WC _ (G.rLen _) _ _ _); (refine c_lenL (by first | exact lstD_v | exact lstD_o rfl) ?_))
  | with_reducible refine c_lenT ?_
  | ((guard_target = G.WC _ (G.rListOf _) _ _ _); (refine c_listL (by first | exact lstD_v | exact lstD_o rfl) ?_))
  | with_reducible refine c_listT ?_
  | ((guard_target = G.WC _ (G.rTupOf _) _ _ _); (refine c_tupL (by first | exact lstD_v | exact lstD_o rfl) ?_))
  | with_reducible refine c_tupT ?_)
local macro_rules | `(tactic| walk_at "e") => `(tactic| first
  | (guard_target = G.WE _ _ _ _ _ _ _; walk_at "we")
  | (guard_target = G.WS _ _ _ _ _ _; walk_at "ws")
  | (guard_target = G.WA _ _ _ _ _ _ _; walk_at "wa")
  | (guard_target = G.WR _ _ _ _ _ _; walk_at "wr")
  | (guard_target = G.WT _ _ _ _ _ _ _; walk_at "wt")
  | (guard_target = G.WC _ _ _ _ _; walk_at "wc")
  | (guard_target = G.WU _ _ _ _ _; with_reducible refine w_neg ?_)
  | (guard_target = G.WG _ _ _ _ _ _ _; first | with_reducible refine g_name ?_ | with_reducible refine g_setL ?_ | refine g_pair rfl ?_ | refine g_trip rfl ?_ | refine g_quad rfl ?_)
  | (guard_target = G.WO _ _ _ _ _ _ _; first | with_reducible refine o_none ?_ | with_reducible refine o_some ?_)
  | with_reducible refine tt_ ?_
  | with_reducible refine ff_ ?_
  | with_reducible refine ntt_ ?_
  | with_reducible refine nff_ ?_
  | ((guard_target = ((!G.isNon _) = true → _) ∧ _); (first | refine bnF rfl ?_ | refine bnT rfl ?_))
  | ((guard_target = (G.isNon _ = true → _) ∧ _); (first | refine bF rfl ?_ | refine bT rfl ?_))
  | (guard_target = Exists _; first
    | refine ⟨_, rfl, Nat.le_of_ble_eq_true rfl, Nat.le_of_ble_eq_true rfl, ?_⟩
    | refine ⟨_, _, _, _, _, rfl, rfl, rfl, rfl, rfl, ?_⟩
    | refine ⟨_, _, _, rfl, rfl, rfl, Nat.le_of_ble_eq_true rfl, ?_⟩
    | refine ⟨_, _, rfl, rfl, rfl, ?_⟩
    | refine ⟨_, _, _, rfl, ?_⟩
    | refine ⟨_, _, (by first | exact insD_v | exact insD_o rfl), rfl, ?_⟩
    | refine ⟨_, _, rfl, ?_⟩
    | refine ⟨_, rfl, rfl, ?_⟩
    | refine ⟨_, rfl, Nat.le_of_ble_eq_true rfl, ?_⟩
    | refine ⟨_, (by first | exact lstD_v | exact lstD_o rfl), ?_⟩
    | refine ⟨_, rfl, ?_⟩))
local macro_rules | `(tactic| walk_at "o") => `(tactic| first | with_reducible refine w_lstO ?_ | walk_at "e")
local macro_rules | `(tactic| walk_at "g") => `(tactic| first | walk_at "e" | with_reducible refine s_seq ?_)
local macro_rules | `(tactic| walk_at "n") => `(tactic| (with_reducible refine s_seq ?_); (repeat walk_at "e"))
theorem sc_law_put_right : FnScope ["_law_pen_here", "_law_modulus_here", "_law_most", "_law_pieces_here", "_law_number", "_law_row", ".0", "_law_piece"] ["_law_pen_here", "_law_modulus_here", "_law_most"] (defScope (top 51)) := ⟨rfl, rfl, rfl, by decide +kernel, rfl, by decide +kernel, by decide +kernel⟩
theorem ok_law_put_right {P : Program} {w : World} {K : PySem.W.Frag} {mg : Str → Option Value} {base : Heap} (T : Tx K mg) (h_law_pieces : Fn P w K mg base 6 (He.fAd K ("_law_pieces", none)) ["_law_modulus_here", "_law_most"] (sp_l_pieces K)) (h_law_draw : Fn P w K mg base 1 (He.fAd K ("_law_draw", none)) ["_law_pen_here", "_law_many"] (sp_draw K)) (h_law_together : Fn P w K mg base 5 (He.fAd K ("_law_together", none)) ["_law_parts"] (sp_l_together K)) (h_choose : Fn P w K mg base 3 (He.fAd K ("choose", none)) ["n", "j"] (sp_choose K)) : Fn P w K mg base 7 (He.fAd K ("_law_put_right", none)) ["_law_pen_here", "_law_modulus_here", "_law_most"] (sp_l_put K) := by
  obtain ⟨_, F_law_pieces, b_law_pieces, kp_law_pieces, _⟩ := h_law_pieces
  obtain ⟨_, F_law_draw, b_law_draw, kp_law_draw, _⟩ := h_law_draw
  obtain ⟨_, F_law_together, b_law_together, kp_law_together, _⟩ := h_law_together
  obtain ⟨_, F_choose, b_choose, kp_choose, _⟩ := h_choose
  obtain ⟨fd, F⟩ := T.d_law_put_right
  refine ⟨fd, F.ok sc_law_put_right (lift_len ?_) (fun cdv A outer s H vs Q E hr h => ?_), F.bindsN fun _ _ _ _ _ _ us hl => (match us, hl with | [_, _, _], _ => rfl), F.kp, lk_of F⟩
  · intro ts O P X h
    exact sp_l_put_len h
  · have hu := hr.units
    refine ⟨_, (PSs.nox (pss_cons (ps_set (i := 3) sc_law_put_right.nd rfl (.inl rfl) (pe_call F_law_pieces (hr.mono (by decide)) (by rfl) T.g__law_pieces kp_law_pieces b_law_pieces .nil passL (pa_cons (pv 1) (pa_cons (pv 2) pa_nil))))
    (pss_cons (ps_set (i := 4) sc_law_put_right.nd rfl (.inr rfl) (pe_op op_sub (pe_op op_mulW (pe_call F_law_draw (hr.mono (by decide)) (by rfl) T.g__law_draw kp_law_draw b_law_draw .nil passL (pa_cons (pv 0) (pa_cons (pe_op op_pow pe_int pe_int) pa_nil))) (pe_op op_pow pe_int pe_int)) (pe_call F_law_draw (hr.mono (by decide)) (by rfl) T.g__law_draw kp_law_draw b_law_draw .nil passL (pa_cons (pv 0) (pa_cons (pe_op op_pow pe_int pe_int) pa_nil)))))
    (pss_cons (ps_if (pt_cmpR op_ne (pe_call F_law_together (hr.mono (by decide)) (by rfl) T.g__law_together kp_law_together b_law_together .nil passL (pa_cons (pe_lc (own := [(".0", 6), ("_law_piece", 7)]) rfl sc_law_put_right.nd (pi_listK K (pv 3)) (blkOk_by (own := [(".0", 6), ("_law_piece", 7)]) (N := ["_law_pen_here", "_law_modulus_here", "_law_most", "_law_pieces_here", "_law_number", "_law_row", ".0", "_law_piece"]) (sc := defScope (top 51)) (by decide +kernel)) (fun _ _ _ _ _ => (pg_name (i := 7) sc_law_put_right.nd rfl (.inl rfl))) (fun _ _ _ _ _ => pts_nil) (fun _ _ _ _ _ => (pe_tup (pa_cons (pv 4) (pa_cons (pv 7) pa_nil))))) pa_nil)) (pe_op op_mod (pe_callTy call_int1 (by rfl) T.n_int boot_int (pa_cons (pv 4) pa_nil)) (pv 1)) (nomark _))
    (pss_one (ps_ret pe_bl))
    pss_nil)
    (pss_cons (ps_set (i := 5) sc_law_put_right.nd rfl (.inr rfl) (pe_call F_choose (hr.mono (by decide)) (by rfl) T.g_choose kp_choose b_choose .nil passL (pa_cons (pv 4) (pa_cons (pe_call F_law_draw (hr.mono (by decide)) (by rfl) T.g__law_draw kp_law_draw b_law_draw .nil passL (pa_cons (pv 0) (pa_cons pe_int pa_nil))) pa_nil))))
    (pss_one (ps_ret (pe_cmpR op_eq (pe_call F_law_together (hr.mono (by decide)) (by rfl) T.g__law_together kp_law_together b_law_together .nil passL (pa_cons (pe_lc (own := [(".0", 6), ("_law_piece", 7)]) rfl sc_law_put_right.nd (pi_listK K (pv 3)) (blkOk_by (own := [(".0", 6), ("_law_piece", 7)]) (N := ["_law_pen_here", "_law_modulus_here", "_law_most", "_law_pieces_here", "_law_number", "_law_row", ".0", "_law_piece"]) (sc := defScope (top 51)) (by decide +kernel)) (fun _ _ _ _ _ => (pg_name (i := 7) sc_law_put_right.nd rfl (.inl rfl))) (fun _ _ _ _ _ => pts_nil) (fun _ _ _ _ _ => (pe_tup (pa_cons (pe_op op_mod (pe_callTy call_int1 (by rfl) T.n_int boot_int (pa_cons (pv 5) pa_nil)) (pv 7)) (pa_cons (pv 7) pa_nil))))) pa_nil)) (pe_op op_mod (pe_callTy call_int1 (by rfl) T.n_int boot_int (pa_cons (pv 5) pa_nil)) (pv 1)) (nomark _))))))))), enter h fun ts O P X h _ => ?_⟩
    try dsimp only [cxOf, Cx.nox, Cx.wish]
    
    obtain ⟨n, p, m, t, rfl, rfl, hp, hn, hm, hm2, ht, k⟩ := h
    show WS _ _ _ _ [.own 0, .v (.int m), .v (.int t), .no, .no, .no, .no, .no] _
    have hcop := pieces_cop (n := m) t (by omega)
    have hprod := pieces_prod (n := m) t (by omega)
    have hpos : ∀ d ∈ pieces m t, 1 ≤ d ∧ d ≤ m := fun d hd => pieces_pos (by omega) hd
    have hlen : (pieces m t).length ≤ 6 := by
      unfold pieces
      rw [List.length_cons, List.length_map]
      have := small_len m t
      omega
    walk_at "n"
    refine ⟨m, t, rfl, rfl, hm, by omega, ht, ⟨⟨_, rfl⟩, ?_⟩⟩
    walk_at "n"
    have e9 : (10 : Int) ^ Int.toNat 9 = 1000000000 := by decide
    have e18 : (10 : Int) ^ Int.toNat 18 = 1000000000000000000 := by decide
    refine u_draw hp (by omega) (by decide) (by decide) fun p1 r1 hp1 a1 b1 => ⟨_, rfl, nno, ?_⟩
    rw [e9] at b1
    repeat walk_at "e"
    rw [e9]
    repeat walk_at "e"
    refine u_draw hp1 (by omega) (by decide) (by decide) fun p2 r2 hp2 a2 b2 => ⟨_, rfl, nno, ?_⟩
    rw [e18] at b2
    repeat walk_at "e"
    generalize hv : r1 * 1000000000 - r2 = v
    have hvb : v.natAbs < 2 ^ 100 := by omega
    walk_at "n"
    refine w_lc1 ?_ (by decide)
    refine i_list ?_
    repeat walk_at "e"
    refine lc_A (pieces m t) (fun d => .int (d : Nat)) (fun d => paD (v, d)) (by omega) (fun x acc hx => ?_) ?_
    · refine g_name ?_
      repeat walk_at "e"
      exact ⟨rfl, rfl⟩
    have eps : (pieces m t).map (fun d => paD (v, d)) = ((pieces m t).map (fun d => (v, d))).map paD := by rw [List.map_map] <;> rfl
    have eds : ((pieces m t).map (fun d => (v, d))).map (·.2) = pieces m t := by rw [List.map_map]; exact List.map_id _
    rw [eps]
    repeat walk_at "e"
    refine ⟨_, rfl, rfl, fun x hx => ?_, by rw [eds]; exact hcop, by rw [List.length_map]; exact hlen, fun f f1 f2 f3 => ⟨⟨_, rfl⟩, ?_⟩⟩
    · obtain ⟨d, hd, rfl⟩ := List.mem_map.mp hx
      obtain ⟨x1, x2⟩ := hpos d hd
      refine ⟨x1, by omega, ?_⟩
      show v.natAbs < 2 ^ 4000
      exact Nat.lt_of_lt_of_le hvb (Nat.pow_le_pow_right (by decide) (by decide))
    have ef : f = v % m := by
      refine lvs_uniq (by rw [eds]; exact hcop) f1 (fun x hx => ?_) f2 f3 (Int.emod_nonneg _ (by omega)) (by rw [eds, hprod]; exact Int.emod_lt_of_pos _ (by omega))
      obtain ⟨d, hd, rfl⟩ := List.mem_map.mp hx
      exact emod_sub (by rw [← hprod]; exact prod_dvd hd)
    subst ef
    repeat walk_at "e"
    refine nbF rfl ?_
    repeat walk_at "e"
    walk_at "n"
    refine u_draw hp2 (by omega) (by decide) (by decide) fun p3 r3 hp3 a3 b3 => ⟨_, rfl, nno, ?_⟩
    obtain ⟨j, rfl⟩ : ∃ j : Nat, r3 = j := ⟨r3.toNat, by omega⟩
    repeat walk_at "e"
    refine ⟨v, j, rfl, rfl, by omega, by omega, ⟨⟨_, rfl⟩, ?_⟩⟩
    generalize bin v j = w'
    repeat walk_at "e"
    refine w_lc1 ?_ (by decide)
    refine i_list ?_
    repeat walk_at "e"
    refine lc_A (pieces m t) (fun d => .int (d : Nat)) (fun d => paD (w' % (d : Nat), d)) (by omega) (fun x acc hx => ?_) ?_
    · obtain ⟨x1, x2⟩ := hpos x hx
      refine g_name ?_
      repeat walk_at "e"
      exact ⟨rfl, rfl⟩
    have eps2 : (pieces m t).map (fun d => paD (w' % (d : Nat), d)) = ((pieces m t).map (fun d => (w' % ((d : Nat) : Int), d))).map paD := by rw [List.map_map] <;> rfl
    have eds2 : ((pieces m t).map (fun d => (w' % ((d : Nat) : Int), d))).map (·.2) = pieces m t := by rw [List.map_map]; exact List.map_id _
    rw [eps2]
    repeat walk_at "e"
    refine ⟨_, rfl, rfl, fun x hx => ?_, by rw [eds2]; exact hcop, by rw [List.length_map]; exact hlen, fun f f1 f2 f3 => ⟨⟨_, rfl⟩, ?_⟩⟩
    · obtain ⟨d, hd, rfl⟩ := List.mem_map.mp hx
      obtain ⟨x1, x2⟩ := hpos d hd
      refine ⟨x1, by omega, ?_⟩
      show (w' % (d : Int)).natAbs < 2 ^ 4000
      have q0 := Int.emod_nonneg w' (show (d : Int) ≠ 0 by omega)
      have q1 := Int.emod_lt_of_pos w' (show (0 : Int) < d by omega)
      exact Nat.lt_of_lt_of_le (show (w' % (d : Int)).natAbs < 2 ^ 100 by omega) (Nat.pow_le_pow_right (by decide) (by decide))
    have ef : f = w' % m := by
      refine lvs_uniq (by rw [eds2]; exact hcop) f1 (fun x hx => ?_) f2 f3 (Int.emod_nonneg _ (by omega)) (by rw [eds2, hprod]; exact Int.emod_lt_of_pos _ (by omega))
      obtain ⟨d, hd, rfl⟩ := List.mem_map.mp hx
      exact emod_sub2 (by rw [← hprod]; exact prod_dvd hd)
    subst ef
    repeat walk_at "e"
    rw [decide_eq_true rfl]
    exact ⟨rfl, k _ (hp3.mono (by omega))⟩
theorem sc_law_shared_right : FnScope ["_law_pen_here", "_law_modulus_here", "_law_most", "_law_numbers", "_law_whole", "_law_piece", "_law_paper", "_law_again", ".0", "_law_turn"] ["_law_pen_here", "_law_modulus_here", "_law_most"] (defScope (top 52)) := ⟨rfl, rfl, rfl, by decide +kernel, rfl, by decide +kernel, by decide +kernel⟩
theorem ok_law_shared_right {P : Program} {w : World} {K : PySem.W.Frag} {mg : Str → Option Value} {base : Heap} (T : Tx K mg) (h_law_draw : Fn P w K mg base 1 (He.fAd K ("_law_draw", none)) ["_law_pen_here", "_law_many"] (sp_draw K)) (h_law_pick : Fn P w K mg base 2 (He.fAd K ("_law_pick", none)) ["_law_pen_here", "_law_some"] (sp_pick K)) (h_law_pieces : Fn P w K mg base 6 (He.fAd K ("_law_pieces", none)) ["_law_modulus_here", "_law_most"] (sp_l_pieces K)) (h_law_shared : Fn P w K mg base 6 (He.fAd K ("_law_shared", none)) ["_law_modulus_here", "_law_numbers"] (sp_l_shared K)) (h_law_shows : Fn P w K mg base 6 (He.fAd K ("_law_shows", none)) ["_law_value", "_law_modulus_here", "_law_numbers"] (sp_l_shows K)) (h_shared : FnS P w K mg base 5 (He.fAd K ("shared", none)) 1 (sp_shared K)) : Fn P w K mg base 7 (He.fAd K ("_law_shared_right", none)) ["_law_pen_here", "_law_modulus_here", "_law_most"] (sp_l_share K) := by
  obtain ⟨_, F_law_draw, b_law_draw, kp_law_draw, _⟩ := h_law_draw
  obtain ⟨_, F_law_pick, b_law_pick, kp_law_pick, _⟩ := h_law_pick
  obtain ⟨_, F_law_pieces, b_law_pieces, kp_law_pieces, _⟩ := h_law_pieces
  obtain ⟨_, F_law_shared, b_law_shared, kp_law_shared, _⟩ := h_law_shared
  obtain ⟨_, F_law_shows, b_law_shows, kp_law_shows, _⟩ := h_law_shows
  obtain ⟨F_shared, kp_shared⟩ := h_shared
  obtain ⟨fd, F⟩ := T.d_law_shared_right
  have hc_Shared := T.cl_Shared
  have hn_Shared_divisor := T.na_Shared_divisor
  refine ⟨fd, F.ok sc_law_shared_right (lift_len ?_) (fun cdv A outer s H vs Q E hr h => ?_), F.bindsN fun _ _ _ _ _ _ us hl => (match us, hl with | [_, _, _], _ => rfl), F.kp, lk_of F⟩
  · intro ts O P X h
    exact sp_l_share_len h
  · have hu := hr.units
    refine ⟨_, (PSs.nox (pss_cons (ps_setLc (i := 3) (own := [(".0", 8), ("_law_turn", 9)]) rfl sc_law_shared_right.nd rfl rfl (sw_true rfl rfl rfl (by decide +kernel)) (pi_range1 (by rfl) T.n_range (pa_cons (pe_op op_add pe_int (pe_call F_law_draw (hr.mono (by decide)) (by rfl) T.g__law_draw kp_law_draw b_law_draw .nil passL (pa_cons (pv 0) (pa_cons pe_int pa_nil)))) pa_nil)) (blkOk_by (own := [(".0", 8), ("_law_turn", 9)]) (N := ["_law_pen_here", "_law_modulus_here", "_law_most", "_law_numbers", "_law_whole", "_law_piece", "_law_paper", "_law_again", ".0", "_law_turn"]) (sc := defScope (top 52)) (by decide +kernel)) (fun _ _ _ _ _ => (pg_name (i := 9) sc_law_shared_right.nd rfl (.inl rfl))) (fun _ _ _ _ _ => pts_nil) (fun _ _ _ _ _ => (pe_op op_mulW (pe_call F_law_pick (hr.mono (by decide)) (by rfl) T.g__law_pick kp_law_pick b_law_pick .nil passL (pa_cons (pv 0) (pa_cons (pe_lst (pa_cons pe_int (pa_cons pe_int (pa_cons pe_int (pa_cons pe_int (pa_cons pe_int (pa_cons (pe_op op_add (pe_op op_pow pe_int pe_int) pe_int) pa_nil))))))) pa_nil))) (pe_call F_law_draw (hr.mono (by decide)) (by rfl) T.g__law_draw kp_law_draw b_law_draw .nil passL (pa_cons (pv 0) (pa_cons pe_int pa_nil))))))
    (pss_cons (ps_set (i := 4) sc_law_shared_right.nd rfl (.inl rfl) pe_int)
    (pss_cons (ps_for PassesOwn.never rfl (pi_listK K (pe_call F_law_pieces (hr.mono (by decide)) (by rfl) T.g__law_pieces kp_law_pieces b_law_pieces .nil passL (pa_cons (pv 1) (pa_cons (pv 2) pa_nil)))) (pg_name (i := 5) sc_law_shared_right.nd rfl (.inl rfl))
    (pss_one (ps_set (i := 4) sc_law_shared_right.nd rfl (.inl rfl) (pe_op op_mulW (pv 4) (pe_ifExp (pt_cmpR op_gt (pv 5) pe_int (nomark _)) (pe_fldK K (pe_call F_law_shared (hr.mono (by decide)) (by rfl) T.g__law_shared kp_law_shared b_law_shared .nil passL (pa_cons (pv 5) (pa_cons (pv 3) pa_nil)))) pe_int)))))
    (pss_cons (ps_set (i := 6) sc_law_shared_right.nd rfl (.inl rfl) (pe_call F_law_shared (hr.mono (by decide)) (by rfl) T.g__law_shared kp_law_shared b_law_shared .nil passL (pa_cons (pv 1) (pa_cons (pv 3) pa_nil))))
    (pss_cons (ps_if (PW.pt (pw_or (pt_cmpR op_ne (pe_fldK K (pv 6)) (pv 4) (nomark _)) (pw_or1 (pt_not (pt_val (pe_call F_law_shows (hr.mono (by decide)) (by rfl) T.g__law_shows kp_law_shows b_law_shows .nil passL (pa_cons (pv 6) (pa_cons (pv 1) (pa_cons (pv 3) pa_nil)))))))))
    (pss_one (ps_ret pe_bl))
    pss_nil)
    (pss_cons (ps_set (i := 7) sc_law_shared_right.nd rfl (.inl rfl) (pe_call F_law_shared (hr.mono (by decide)) (by rfl) T.g__law_shared kp_law_shared b_law_shared .nil passL (pa_cons (pv 1) (pa_cons (pe_op op_cat (pv 3) (pe_lst (pa_cons (pe_fldK K (pv 6)) pa_nil))) pa_nil))))
    (pss_cons (ps_if (PW.pt (pw_or (pt_cmpR op_ne (pe_fldK K (pv 7)) (pe_fldK K (pv 6)) (nomark _)) (pw_or1 (pt_cmpR op_ne (pe_fldK K (pe_callR F_shared (hr.mono (by decide)) (by rfl) T.g_shared kp_shared passL (pa_cons (pv 1) (pa_cons (pe_fldK K (pv 6)) pa_nil)))) (pe_fldK K (pv 6)) (nomark _)))))
    (pss_one (ps_ret pe_bl))
    pss_nil)
    (pss_one (ps_ret (pe_cmpR op_eq (pe_fldK K (pe_call F_law_shared (hr.mono (by decide)) (by rfl) T.g__law_shared kp_law_shared b_law_shared .nil passL (pa_cons (pv 1) (pa_cons (pe_revL (pv 3)) pa_nil)))) (pe_fldK K (pv 6)) (nomark _)))))))))))), enter h fun ts O P X h _ => ?_⟩
    try dsimp only [cxOf, Cx.nox, Cx.wish]
    
    obtain ⟨n, p, m, t, rfl, rfl, hp, hn, hm, hm2, ht, k⟩ := h
    show WS _ _ _ _ [.own 0, .v (.int m), .v (.int t), .no, .no, .no, .no, .no, .no, .no] _
    have hcop := pieces_cop (n := m) t (by omega)
    have hprod := pieces_prod (n := m) t (by omega)
    have hpos : ∀ d ∈ pieces m t, 1 ≤ d ∧ d ≤ m := fun d hd => pieces_pos (by omega) hd
    have hlen : (pieces m t).length ≤ 6 := by
      unfold pieces
      rw [List.length_cons, List.length_map]
      have := small_len m t
      omega
    refine s_cut (fun ts' O' => ∃ (ns : List Int) (p' : List D), ts' = [.own 0, .v (.int m), .v (.int t), .v (.lst (nums ns)), .no, .no, .no, .no, .no, .no] ∧ O' = [.lst p'] ∧ Pen (n + 10) p' ∧ ns.length ≤ 3 ∧ ∀ x ∈ ns, 0 ≤ x ∧ x < 2 ^ 100) ?_ ?_
    · repeat walk_at "e"
      refine w_lc1 ?_ (by decide)
      refine i_rng1 ?_
      repeat walk_at "e"
      refine u_draw hp (by omega) (by decide) (by decide) fun p1 r1 hp1 a1 b1 => ⟨_, rfl, nno, ?_⟩
      repeat walk_at "e"
      refine ⟨by omega, ?_⟩
      obtain ⟨s, hs⟩ : ∃ s : Nat, (1 + r1).toNat = s := ⟨_, rfl⟩
      rw [hs]
      refine lc_RI (by omega) (fun i acc O' => ∃ (xs : List Int) (p' : List D), acc = nums xs ∧ xs.length = i ∧ (∀ x ∈ xs, 0 ≤ x ∧ x < 2 ^ 100) ∧ Pen (n + 1 + 2 * i) p' ∧ O' = [.lst p']) ⟨[], _, rfl, rfl, fun x hx => (by cases hx), hp1, rfl⟩ ?_ ?_ ?_
      · rintro i _ _ ⟨xs, p', rfl, rfl, _, _, rfl⟩
        exact ⟨rfl, nums_len⟩
      · rintro i _ _ hi ⟨xs, p', rfl, hxl, hx, hp', rfl⟩
        refine g_name ?_
        repeat walk_at "e"
        refine u_pick hp' (by omega) (Nat.le_of_ble_eq_true rfl) (Nat.le_of_ble_eq_true rfl) fun p2 j d hp2 hd => ⟨_, rfl, nno, ?_⟩
        obtain ⟨v, rfl, hv1, hv2⟩ : ∃ v, d = .int v ∧ 0 ≤ v ∧ v ≤ 1000000007 := by
          have hmm := List.mem_of_getElem? hd
          simp only [List.mem_cons, List.not_mem_nil, or_false] at hmm
          rcases hmm with rfl | rfl | rfl | rfl | rfl | rfl <;> exact ⟨_, rfl, by decide, by decide⟩
        repeat walk_at "e"
        refine u_draw hp2 (by omega) (by decide) (by decide) fun p3 r hp3 a0 b0 => ⟨_, rfl, nno, ?_⟩
        repeat walk_at "e"
        have hb := mulB hv1 hv2 a0 (show r ≤ 1000 by omega)
        exact ⟨_, _, rfl, rfl, xs ++ [v * r], p3, nums_app, by rw [List.length_append, hxl] <;> rfl, fun x hx' => by
          rcases List.mem_append.mp hx' with h | h
          · exact hx x h
          · rw [List.mem_singleton.mp h]
            omega, hp3.mono (by omega), rfl⟩
      · rintro _ _ ⟨xs, p', rfl, hxl, hx, hp', rfl⟩
        repeat walk_at "e"
        exact ⟨xs, _, rfl, rfl, hp'.mono (by omega), by omega, hx⟩
    rintro _ _ ⟨ns, p1, rfl, rfl, hp1, hnl, hns⟩
    have hn2 : ∀ x ∈ ns, x.natAbs < 2 ^ 240 := fun x hx => by
      have := hns x hx
      omega
    walk_at "n"
    refine s_seq ?_
    refine s_forE ?_
    refine i_list ?_
    repeat walk_at "e"
    refine ⟨m, t, rfl, rfl, hm, by omega, ht, ⟨⟨_, rfl⟩, ?_⟩⟩
    repeat walk_at "e"
    refine for_A (fun i ts' O' => ∃ a : G.T, O' = [.lst p1] ∧ ts' = [.own 0, .v (.int m), .v (.int t), .v (.lst (nums ns)), .v (.int (prodN (((pieces m t).take i).map fun d => gcdL d ns))), a, .no, .no, .no, .no]) ⟨_, rfl, rfl⟩ ?_ ?_
    · rintro i x _ _ hi hx ⟨a, rfl, rfl⟩
      obtain ⟨x1, x2⟩ := hpos x (List.mem_of_getElem? hx)
      have et : (pieces m t).take (i + 1) = (pieces m t).take i ++ [x] := by rw [List.take_succ, hx] <;> rfl
      have hbd : prodN (((pieces m t).take i).map fun d => gcdL d ns) ≤ m := by
        refine Nat.le_trans (prod_le (l := (pieces m t).take i) fun d hd => gcdL_le (hpos d (List.mem_of_mem_take hd)).1 ns) ?_
        refine Nat.le_of_dvd (by omega) ?_
        have : prodN (pieces m t) = prodN ((pieces m t).take i) * prodN ((pieces m t).drop i) := by rw [← prodN_app, List.take_append_drop]
        rw [hprod] at this
        exact ⟨_, this⟩
      have fin : (prodN (((pieces m t).take (i + 1)).map fun d => gcdL d ns) : Nat) = prodN (((pieces m t).take i).map fun d => gcdL d ns) * gcdL x ns := by
        rw [et, List.map_append, prodN_app, List.map_cons, List.map_nil, prodN_cons, prodN_nil, Nat.mul_one]
      have gx := gcdL_le x1 ns
      rw [fin]
      generalize prodN (((pieces m t).take i).map fun d => gcdL d ns) = w' at *
      refine g_name ?_
      repeat walk_at "e"
      refine br (fun h0 => ?_) (fun h0 => ?_)
      · repeat walk_at "e"
        refine ⟨x, ns, rfl, rfl, by omega, by omega, by omega, fun ms hok => ⟨⟨_, rfl⟩, ?_⟩⟩
        repeat walk_at "e"
        rw [← Int.natCast_mul]
        exact ⟨_, rfl, rfl⟩
      · repeat walk_at "e"
        obtain rfl : x = 1 := by omega
        have g1 : gcdL 1 ns = 1 := Nat.dvd_one.mp (gcdL_dvd ns 1)
        rw [g1, Nat.mul_one]
        rw [Int.mul_one]
        exact ⟨_, rfl, rfl⟩
    rintro _ _ ⟨a, rfl, rfl⟩
    rw [List.take_length, ← gcdL_prod hcop, hprod]
    walk_at "n"
    refine ⟨m, ns, rfl, rfl, hm, by omega, by omega, fun ms hok => ⟨⟨_, rfl⟩, ?_⟩⟩
    walk_at "n"
    refine nbF rfl ?_
    repeat walk_at "e"
    refine ⟨_, ms, m, ns, rfl, rfl, hm, by omega, by omega, hn2, rfl, hok, ⟨⟨_, rfl⟩, ?_⟩⟩
    repeat walk_at "e"
    walk_at "n"
    refine w_catL lstD_v lstD_v (by rw [nums_len, List.length_singleton]; omega) ?_
    rw [nums_app]
    repeat walk_at "e"
    refine ⟨m, _, rfl, rfl, hm, by omega, by rw [List.length_append, List.length_singleton]; omega, fun ms2 hok2 => ⟨⟨_, rfl⟩, ?_⟩⟩
    rw [gcdL_again]
    walk_at "n"
    refine nbF rfl ?_
    repeat walk_at "e"
    refine ⟨m, [((gcdL m ns : Nat) : Int)], rfl, rfl, hm, by omega, Nat.le_of_ble_eq_true rfl, fun ms3 hok3 => ⟨⟨_, rfl⟩, ?_⟩⟩
    rw [gcdL_one]
    repeat walk_at "e"
    refine nbF rfl ?_
    repeat walk_at "e"
    have er : (nums ns).reverse = nums ns.reverse := by
      unfold nums
      rw [List.map_reverse]
    rw [er]
    refine ⟨m, _, rfl, rfl, hm, by omega, by rw [List.length_reverse]; omega, fun ms4 hok4 => ⟨⟨_, rfl⟩, ?_⟩⟩
    rw [gcdL_rev]
    repeat walk_at "e"
    rw [decide_eq_true rfl]
    exact ⟨rfl, k _ (hp1.mono (by omega))⟩
theorem sc_law : FnScope ["_law_script", "_law_pen_here", "_law_turn", "_law_modulus_here", "_law_most", "_law_small"] ["_law_script"] (defScope (top 53)) := ⟨rfl, rfl, rfl, by decide +kernel, rfl, by decide +kernel, by decide +kernel⟩
theorem ok_law {P : Program} {w : World} {K : PySem.W.Frag} {mg : Str → Option Value} {base : Heap} (T : Tx K mg) (h_law_pen : FnRaw P w K mg base 1 (He.fAd K ("_law_pen", none)) ["_law_script"] (penSp K 63)) (h_law_draw : Fn P w K mg base 1 (He.fAd K ("_law_draw", none)) ["_law_pen_here", "_law_many"] (sp_draw K)) (h_law_modulus : Fn P w K mg base 3 (He.fAd K ("_law_modulus", none)) ["_law_pen_here"] (sp_l_modulus K)) (h_law_put_right : Fn P w K mg base 7 (He.fAd K ("_law_put_right", none)) ["_law_pen_here", "_law_modulus_here", "_law_most"] (sp_l_put K)) (h_law_shared_right : Fn P w K mg base 7 (He.fAd K ("_law_shared_right", none)) ["_law_pen_here", "_law_modulus_here", "_law_most"] (sp_l_share K)) (h_small_parts : Fn P w K mg base 5 (He.fAd K ("small_parts", none)) ["modulus", "most"] (sp_small_parts K)) (h_least_prime : Fn P w K mg base 5 (He.fAd K ("least_prime", none)) ["modulus"] (sp_least_prime K)) : Fn P w K mg base 8 (He.fAd K ("law", none)) ["_law_script"] (sp_law K) := by
  obtain ⟨_, F_law_pen, b_law_pen, kp_law_pen, _⟩ := h_law_pen
  obtain ⟨_, F_law_draw, b_law_draw, kp_law_draw, _⟩ := h_law_draw
  obtain ⟨_, F_law_modulus, b_law_modulus, kp_law_modulus, _⟩ := h_law_modulus
  obtain ⟨_, F_law_put_right, b_law_put_right, kp_law_put_right, _⟩ := h_law_put_right
  obtain ⟨_, F_law_shared_right, b_law_shared_right, kp_law_shared_right, _⟩ := h_law_shared_right
  obtain ⟨_, F_small_parts, b_small_parts, kp_small_parts, _⟩ := h_small_parts
  obtain ⟨_, F_least_prime, b_least_prime, kp_least_prime, _⟩ := h_least_prime
  obtain ⟨fd, F⟩ := T.d_law
  refine ⟨fd, F.ok sc_law (lift_len ?_) (fun cdv A outer s H vs Q E hr h => ?_), F.bindsN fun _ _ _ _ _ _ us hl => (match us, hl with | [_], _ => rfl), F.kp, lk_of F⟩
  · intro ts O P X h
    exact sp_law_len h
  · have hu := hr.units
    refine ⟨_, (PSs.nox (pss_cons (ps_set (i := 1) sc_law.nd rfl (.inl rfl) (pe_call F_law_pen (hr.mono (by decide)) (by rfl) T.g__law_pen kp_law_pen b_law_pen .nil passL (pa_cons (pv 0) pa_nil)))
    (pss_cons (ps_for PassesOwn.never rfl (pi_range1 (by rfl) T.n_range (pa_cons pe_int pa_nil)) (pg_name (i := 2) sc_law.nd rfl (.inl rfl))
    (pss_cons (ps_par (i := 3) (j := 4) rfl sc_law.nd rfl rfl (by decide) rfl rfl (pa_cons (pe_call F_law_modulus (hr.mono (by decide)) (by rfl) T.g__law_modulus kp_law_modulus b_law_modulus .nil passL (pa_cons (pv 1) pa_nil)) (pa_cons (pe_call F_law_draw (hr.mono (by decide)) (by rfl) T.g__law_draw kp_law_draw b_law_draw .nil passL (pa_cons (pv 1) (pa_cons pe_int pa_nil))) pa_nil)) rfl)
    (pss_cons (ps_if (PW.pt (pw_or (pt_not (pt_val (pe_call F_law_put_right (hr.mono (by decide)) (by rfl) T.g__law_put_right kp_law_put_right b_law_put_right .nil passL (pa_cons (pv 1) (pa_cons (pv 3) (pa_cons (pv 4) pa_nil)))))) (pw_or1 (pt_not (pt_val (pe_call F_law_shared_right (hr.mono (by decide)) (by rfl) T.g__law_shared_right kp_law_shared_right b_law_shared_right .nil passL (pa_cons (pv 1) (pa_cons (pv 3) (pa_cons (pv 4) pa_nil)))))))))
    (pss_one (ps_ret pe_bl))
    pss_nil)
    (pss_cons (ps_set (i := 5) sc_law.nd rfl (.inl rfl) (pe_call F_small_parts (hr.mono (by decide)) (by rfl) T.g_small_parts kp_small_parts b_small_parts .nil passL (pa_cons (pv 3) (pa_cons pe_int pa_nil))))
    (pss_one (ps_if (PW.pt (pw_and (pt_cmpR (op_neDK K hu) (pv 5) (pe_tup pa_nil) (nomark _)) (pw_and (pt_cmpR op_le (pv 3) (pe_op op_pow pe_int pe_int) (nomark _)) (pw_and1 (pt_cmpR op_ne (pe_call F_least_prime (hr.mono (by decide)) (by rfl) T.g_least_prime kp_least_prime b_least_prime .nil passL (pa_cons (pv 3) pa_nil)) (pe_ix (ix_tupK K) (pe_ix (ix_tupK K) (pv 5) pe_int (fun _ _ => rfl)) pe_int (fun _ _ => rfl)) (nomark _))))))
    (pss_one (ps_ret pe_bl))
    pss_nil))))))
    (pss_one (ps_ret pe_bl))))), enter h fun ts O P X h _ => ?_⟩
    try dsimp only [cxOf, Cx.nox, Cx.wish]
    
    obtain ⟨cs, rfl, rfl, hcs, p⟩ := h
    show WS _ _ _ _ [.v (.scr cs), .no, .no, .no, .no, .no] _
    refine s_seq ?_
    refine s_set ?_
    refine w_pen ?_
    repeat walk_at "e"
    intro p0 hp0
    refine s_seq ?_
    refine s_forE ?_
    refine i_rng1 ?_
    repeat walk_at "e"
    refine ⟨by decide, ?_⟩
    refine for_R1 (n := 8) (fun i ts' O' => ∃ (q : List D) (x y z u : G.T), Pen (1000 * i) q ∧ O' = [.lst q] ∧ ts' = [.v (.scr cs), .own 0, x, y, z, u]) ⟨_, _, _, _, _, hp0, rfl, rfl⟩ ?_ ?_
    · rintro i _ _ hi ⟨q, x, y, z, u, hq, rfl, rfl⟩
      refine g_name ?_
      walk_at "n"
      refine ⟨_, _, rfl, rfl, hq, by omega, fun p1 m hp1 hm hm2 => ⟨_, rfl, nno, ?_⟩⟩
      repeat walk_at "e"
      refine u_draw hp1 (by omega) (by decide) (by decide) fun p2 r hp2 a2 b2 => ⟨_, rfl, nno, ?_⟩
      obtain ⟨t, rfl⟩ : ∃ j : Nat, r = j := ⟨r.toNat, by omega⟩
      repeat walk_at "e"
      walk_at "n"
      refine ⟨_, _, m, t, rfl, rfl, hp2, by omega, hm, hm2, by omega, fun p3 hp3 => ⟨_, rfl, nno, ?_⟩⟩
      repeat walk_at "e"
      refine ⟨_, _, m, t, rfl, rfl, hp3, by omega, hm, hm2, by omega, fun p4 hp4 => ⟨_, rfl, nno, ?_⟩⟩
      repeat walk_at "e"
      walk_at "n"
      refine ⟨m, 12, rfl, rfl, hm, by omega, by decide, ⟨⟨_, rfl⟩, ?_⟩⟩
      repeat walk_at "e"
      cases hs : small m 12 with
      | nil =>
        refine w_neD valD_v valD_v rfl rfl ?_
        rw [show (!eqD (.tup (List.map smD [])) (.tup [])) = false from rfl]
        repeat walk_at "e"
        exact ⟨_, _, _, _, _, hp4.mono (by omega), rfl, rfl⟩
      | cons x l =>
        have hl := small_first hs
        have hpl : pl 60 (.tup (List.map smD (x :: l))) = true := pls_map (fun _ => rfl) _
        refine w_neD valD_v valD_v hpl rfl ?_
        rw [show (!eqD (.tup (List.map smD (x :: l))) (.tup [])) = true from rfl]
        repeat walk_at "e"
        refine br (fun h8 => ?_) (fun h8 => ?_)
        · have e8 : (10 : Int) ^ Int.toNat 8 = 100000000 := by decide
          rw [e8] at h8
          repeat walk_at "e"
          refine ⟨m, rfl, rfl, hm, by omega, fun q hq => ⟨⟨_, rfl⟩, ?_⟩⟩
          obtain rfl := least_uniq hq hl
          repeat walk_at "e"
          refine nbF rfl ?_
          repeat walk_at "e"
          exact ⟨_, _, _, _, _, hp4.mono (by omega), rfl, rfl⟩
        · repeat walk_at "e"
          exact ⟨_, _, _, _, _, hp4.mono (by omega), rfl, rfl⟩
    · rintro _ _ ⟨q, x, y, z, u, hq, rfl, rfl⟩
      repeat walk_at "e"
      exact ⟨rfl, p⟩
end My

set_option Elab.async false
set_option linter.all false
set_option maxRecDepth 100000
set_option maxHeartbeats 0
namespace My
open PySem PySem.Spec PyProof.Rows L2 G
theorem facts {P : Program} {w : World} {K : PySem.W.Frag} {h : Heap} {mg : Str → Option Value} {f : Addr} (X : K.In h) (G : h.Ns mainGlobals mg) (hfa : mg ("law" : Str) = some (.ref f)) (c : He.SaysD fa fn K) (e : ex K = true) :
    ∃ fd : FuncData, (∀ (s : Shared) (v : Value), BindsTo s fd ⟨[v], []⟩ [("_law_script", v)]) ∧ ∀ base : Heap, K.In base → base.Ns mainGlobals mg → FnOk P w K mg base (CXa P) 8 f fd ["_law_script"] (lift K (_root_.G.sp_law K)) := by
  have T := tx X G c e
  have ef := hfa.symm.trans T.g_law
  cases ef
  obtain ⟨fd, F⟩ := T.d_law
  have b := FunD.bindsA (ps := ["_law_script"]) F fun _ _ _ _ _ _ us hl => match us, hl with | [_], _ => rfl
  refine ⟨fd, fun s v => b s [v] rfl, fun base _ _ => ?_⟩
  have h_is_integer : Fn P w K mg base 1 (He.fAd K ("is_integer", none)) ["value"] (sp_is_integer K) := ok_is_integer T 
  have h_is_between : Fn P w K mg base 2 (He.fAd K ("is_between", none)) ["value", "low", "high"] (sp_is_between K) := ok_is_between T h_is_integer
  have h_fits_modulus : Fn P w K mg base 3 (He.fAd K ("fits_modulus", none)) ["value"] (sp_fits_modulus K) := ok_fits_modulus T h_is_between
  have h_law_pen : FnRaw P w K mg base 1 (He.fAd K ("_law_pen", none)) ["_law_script"] (penSp K 63) := ok_law_pen T 
  have h_law_draw : Fn P w K mg base 1 (He.fAd K ("_law_draw", none)) ["_law_pen_here", "_law_many"] (sp_draw K) := ok_law_draw T 
  have h_law_pick : Fn P w K mg base 2 (He.fAd K ("_law_pick", none)) ["_law_pen_here", "_law_some"] (sp_pick K) := ok_law_pick T h_law_draw
  have h_binomial : Fn P w K mg base 1 (He.fAd K ("binomial", none)) ["n", "j"] (sp_binomial K) := ok_binomial T 
  have h_choose : Fn P w K mg base 3 (He.fAd K ("choose", none)) ["n", "j"] (sp_choose K) := ok_choose T h_is_integer h_is_between h_binomial
  have h_power_of : Fn P w K mg base 1 (He.fAd K ("power_of", none)) ["number", "times"] (sp_power_of K) := ok_power_of T 
  have h_need_modulus : Fn P w K mg base 4 (He.fAd K ("need_modulus", none)) ["modulus"] (sp_need_modulus K) := ok_need_modulus T h_fits_modulus
  have h_times_in : Fn P w K mg base 1 (He.fAd K ("times_in", none)) ["number", "prime"] (sp_times_in K) := ok_times_in T 
  have h_small_in : Fn P w K mg base 2 (He.fAd K ("small_in", none)) ["number", "most"] (sp_small_in K) := ok_small_in T h_times_in
  have h_great_in : Fn P w K mg base 3 (He.fAd K ("great_in", none)) ["number", "most"] (sp_great_in K) := ok_great_in T h_small_in h_power_of
  have h_great_part : Fn P w K mg base 5 (He.fAd K ("great_part", none)) ["modulus", "most"] (sp_great_part K) := ok_great_part T h_need_modulus h_is_between h_great_in
  have h_small_parts : Fn P w K mg base 5 (He.fAd K ("small_parts", none)) ["modulus", "most"] (sp_small_parts K) := ok_small_parts T h_need_modulus h_is_between h_small_in
  have h_common_divisor : Fn P w K mg base 1 (He.fAd K ("common_divisor", none)) ["one", "other"] (sp_common_divisor K) := ok_common_divisor T 
  have h_combined : Fn P w K mg base 1 (He.fAd K ("combined", none)) ["one", "other"] (sp_combined K) := ok_combined T 
  have h_SharedU_initU : Fn P w K mg base 1 (He.fAd K ("Shared", some "__init__")) ["self", "divisor", "multipliers"] (sp_sh_init K) := ok_SharedU_initU T 
  have h_shared_in : Fn P w K mg base 2 (He.fAd K ("shared_in", none)) ["modulus", "numbers"] (sp_shared_in K) := ok_shared_in T h_combined
  have h_need_numbers : Fn P w K mg base 2 (He.fAd K ("need_numbers", none)) ["numbers"] (sp_need_numbers K) := ok_need_numbers T h_is_integer
  have h_shared : FnS P w K mg base 5 (He.fAd K ("shared", none)) 1 (sp_shared K) := ok_shared T h_need_modulus h_need_numbers h_shared_in h_SharedU_initU
  have h_are_multipliers : Fn P w K mg base 3 (He.fAd K ("are_multipliers", none)) ["value", "many", "modulus"] (sp_are_multipliers K) := ok_are_multipliers T h_is_between
  have h_shows_shared : FnS P w K mg base 5 (He.fAd K ("shows_shared", none)) 2 (sp_shows_shared K) := ok_shows_shared T h_need_modulus h_need_numbers h_is_integer h_are_multipliers h_common_divisor
  have h_is_part : Fn P w K mg base 3 (He.fAd K ("is_part", none)) ["value"] (sp_is_part K) := ok_is_part T h_is_integer h_is_between
  have h_joined : Fn P w K mg base 2 (He.fAd K ("joined", none)) ["parts"] (sp_joined K) := ok_joined T h_combined
  have h_together : FnS P w K mg base 4 (He.fAd K ("together", none)) 0 (sp_together K) := ok_together T h_is_part h_common_divisor h_joined
  have h_least_prime_in : Fn P w K mg base 1 (He.fAd K ("least_prime_in", none)) ["number"] (sp_least_prime_in K) := ok_least_prime_in T 
  have h_least_prime : Fn P w K mg base 5 (He.fAd K ("least_prime", none)) ["modulus"] (sp_least_prime K) := ok_least_prime T h_need_modulus h_least_prime_in
  have h_law_power : Fn P w K mg base 1 (He.fAd K ("_law_power", none)) ["_law_number", "_law_times"] (sp_power_of K) := ok_law_power T 
  have h_law_together : Fn P w K mg base 5 (He.fAd K ("_law_together", none)) ["_law_parts"] (sp_l_together K) := ok_law_together T h_together
  have h_law_shared : Fn P w K mg base 6 (He.fAd K ("_law_shared", none)) ["_law_modulus_here", "_law_numbers"] (sp_l_shared K) := ok_law_shared T h_shared
  have h_law_shows : Fn P w K mg base 6 (He.fAd K ("_law_shows", none)) ["_law_value", "_law_modulus_here", "_law_numbers"] (sp_l_shows K) := ok_law_shows T h_shows_shared
  have h_law_modulus : Fn P w K mg base 3 (He.fAd K ("_law_modulus", none)) ["_law_pen_here"] (sp_l_modulus K) := ok_law_modulus T h_law_pick h_law_power
  have h_law_pieces : Fn P w K mg base 6 (He.fAd K ("_law_pieces", none)) ["_law_modulus_here", "_law_most"] (sp_l_pieces K) := ok_law_pieces T h_great_part h_small_parts h_law_power
  have h_law_put_right : Fn P w K mg base 7 (He.fAd K ("_law_put_right", none)) ["_law_pen_here", "_law_modulus_here", "_law_most"] (sp_l_put K) := ok_law_put_right T h_law_pieces h_law_draw h_law_together h_choose
  have h_law_shared_right : Fn P w K mg base 7 (He.fAd K ("_law_shared_right", none)) ["_law_pen_here", "_law_modulus_here", "_law_most"] (sp_l_share K) := ok_law_shared_right T h_law_draw h_law_pick h_law_pieces h_law_shared h_law_shows h_shared
  have h_law : Fn P w K mg base 8 (He.fAd K ("law", none)) ["_law_script"] (sp_law K) := ok_law T h_law_pen h_law_draw h_law_modulus h_law_put_right h_law_shared_right h_small_parts h_least_prime
  exact fn_end h_law (lk_of F) (by decide)
end My
open PySem PySem.W PySem.Calls PyProof.Rows
theorem PySem.Challenge.cw_restchains_k07_whole_numbers_by_their_pa_holds : PySem.Challenge.rw_restchains_k07_whole_numbers_by_their_pa.Holds := by
  w_on; o_law
  refine HandSHeadRun.head_any (r := My.R) (q := view My.R.prog [53]) (H := My.hk) (ob := My.ob) (M := 6000) (loose := My.loose) (d := HandSHeadRun.topDef My.R.prog 53) (kwd := []) My.ob_eq
    (by kernel_rfl) (fun s => by kernel_rfl) My.run (by kernel_rfl) (by kernel_rfl) (by kernel_rfl) (by rfl) (by first | assumption | decide +kernel) (by decide +kernel) ⟨rfl, rfl, rfl, rfl, rfl, by decide +kernel⟩ ?hw ?hc
  case hw => w_witness2
  case hc =>
    refine L2.walk_ofE (l := PySem.Challenge.rw_restchains_k07_whole_numbers_by_their_pa) (n := 63) (k := 8) (x := "_law_script") (CX := G.CXa My.R.prog) rfl (by decide) (by kernel_rfl) ⟨rfl, by decide, by decide⟩ ?F (fun _ _ _ _ z => G.cxa_nil z)
    intro w mg fa h Y G hmg0
    obtain ⟨K, KX, c, e⟩ := Y
    have hmg : mg ("law" : PySem.Str) = some (.ref fa) := by
      have e0 : (HandSHeadRun.topDef My.R.prog 53).name = ("law" : PySem.Str) := by kernel_rfl
      rw [← e0]
      exact hmg0
    obtain ⟨fd, hb, hF⟩ := My.facts (P := My.R.prog) (w := w) KX G hmg c e
    exact ⟨K, fd, _, KX, hb, fun H a ns hl _ hS => _root_.G.law_lift (Nat.le_trans hl (by decide)) hS, hF⟩


