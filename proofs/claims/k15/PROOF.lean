import PyProof.Rows.All
import Wide.All
import OpenK.AllK
import Wide.FinOn
import KE.KStateDown
import HandS.ForMost
import HandS.Defaults
import HandS.Head2
import HandS.HeadEnd
import HandS.HeadHook2
import HandS.Wide
import HandS.IsInst
import HandS.Star
import HandS.Evl
import HandS.TryOnly
import HandS.ExcOwn
import HandS.WordsExc
import HandS.Zip
import HandS.Rev
import HandS.TupAny
import HandS.Style
import HandS.Steps
import KE.GoesEnum
import PySem.Challenge.RW_restchains_k15_sums_written_and_read
import HandS.Lambda
import HandS.More
import HandS.ExcInit
import HandS.ExcSuper
import HandS.ExcIs
import HandS.ExcField
import HandS.Nested
import KE.KExcSuper
import HandS.ExcValue
import KE.KIsAll
import KE.KTryMore
import HandS.EndTab
import PyProof.ReprRoads
import HandS.HeadNt
import HandS.HeadHook4
import HandS.Property
import HandS.SlotsOwn
import HandS.TupMul
import HandS.IterVal
import KE.KOwnIter
import HandS.Conv
import HandS.FStr
import HandS.Text
import KE.KCallOwn
import PyProof.FitsInt
import HandS.ClsMeth
import KE.GoesNew
import HandS.OwnEq
import HandS.MakeKwOnly
import HandS.Small
import HandS.WideBits
import HandS.Flow
import PyProof.StrBlock2
import HandS.HeadWalk
set_option Elab.async false
set_option linter.all false
set_option maxRecDepth 100000
set_option maxHeartbeats 4000000
/-! GA: a layer of data over HandS. A frame's slots, the values of expressions and the lists that a def owns are told as plain data;
the addresses and the heap are hidden in one state. -/
namespace G
open PySem PySem.Spec PyProof.Rows L2

/-! ### data -/
inductive D where
  | non | bl (b : Bool) | int (i : Int) | str (x : Str) | ty (n : String) | ref (a : Addr)
  | lst (xs : List D) | tup (xs : List D) | ins (C : Addr) (fs : List (Str × D)) | dic (kvs : List (Key × D)) | scr (ns : List Int) | exc (C : Addr) (fs : List (Str × D))
/-- a slot, a value: plain data, or the i-th thing that is owned, or unknown -/
inductive T where
  | v (d : D) | own (i : Nat) | no | clo (R : Hp → List Addr → Prop) (f : Addr)
/-- what an owned thing holds -/
inductive OD where
  | lst (xs : List D) | ins (C : Addr) (fs : List (Str × D)) | dic (kvs : List (Key × D)) | gone

/-- at a: an exception that was caught, of the class C, its dict at d -/
def excH (a C : Addr) (d : Option Addr) : HO := .ext fun h => ∃ oe : Obj, h.get? a = some oe ∧ oe.cls = .ref C ∧ oe.dict = d ∧ ∃ vs, oe.data = .fields vs
mutual
def Rep (K : PySem.W.Frag) (H : Hp) : D → V → Prop
  | .non, v => v = .non
  | .bl b, v => v = .bl b
  | .int i, v => v = .int i
  | .str x, v => v = .str x
  | .ty n, v => v = .ty n
  | .ref a, v => v = .ref a
  | .lst ds, v => ∃ a vs, v = .ref a ∧ H a = some (.lst vs) ∧ RepL K H ds vs
  | .scr ns, v => ∃ a, v = .ref a ∧ SqL K H a (ns.map V.int)
  | .exc C fs, v => ∃ a d vs, v = .ref a ∧ H a = some (excH a C (some d)) ∧ H d = some (.xd vs) ∧ RepF K H fs vs
  | .tup ds, v => ∃ a vs, v = .ref a ∧ SqT K H a vs ∧ RepL K H ds vs
  | .ins C fs, v => ∃ a dx vs, v = .ref a ∧ H a = some (.ins C dx vs) ∧ RepF K H fs vs
  | .dic kvs, v => ∃ a ws, v = .ref a ∧ H a = some (.dK ws) ∧ RepK K H kvs ws
def RepL (K : PySem.W.Frag) (H : Hp) : List D → List V → Prop
  | [], vs => vs = []
  | d :: ds, vs => ∃ v r, vs = v :: r ∧ Rep K H d v ∧ RepL K H ds r
def RepF (K : PySem.W.Frag) (H : Hp) : List (Str × D) → List (Str × V) → Prop
  | [], vs => vs = []
  | p :: ds, vs => ∃ v r, vs = (p.1, v) :: r ∧ Rep K H p.2 v ∧ RepF K H ds r
def RepK (K : PySem.W.Frag) (H : Hp) : List (Key × D) → List (Key × V) → Prop
  | [], vs => vs = []
  | p :: ds, vs => ∃ v r, vs = (p.1, v) :: r ∧ Rep K H p.2 v ∧ RepK K H ds r
end

/-- no table of code objects -/
def NT (o : HO) : Prop := ∀ ps, o ≠ .tbl ps
theorem nt_exc {a C : Addr} {d : Option Addr} : NT (excH a C d) := fun _ z => by
  unfold excH at z
  cases z
/-- neither a table nor a code object -/
def OB (o : HO) : Prop := NT o ∧ ∀ c q, o ≠ LamX.CodeO c q
theorem ob_of {o : HO} (n : NT o) (h : ∀ P, o ≠ .ext P) : OB o := ⟨n, fun c q z => by
  unfold LamX.CodeO at z
  exact h _ z⟩
theorem ob_lst {vs : List V} : OB (.lst vs) := ob_of (fun _ z => by cases z) fun _ z => by cases z
theorem ob_ins {C dx : Addr} {vs : List (Str × V)} : OB (.ins C dx vs) := ob_of (fun _ z => by cases z) fun _ z => by cases z
theorem ob_dK {vs : List (Key × V)} : OB (.dK vs) := ob_of (fun _ z => by cases z) fun _ z => by cases z
/-- all but the tables stay -/
def Ex (H H' : Hp) : Prop := ∀ a o, H a = some o → NT o → H' a = some o
theorem Ex.of {H H' : Hp} (e : ∀ a o, H a = some o → H' a = some o) : Ex H H' := fun a o h _ => e a o h
theorem Ex.refl (H : Hp) : Ex H H := fun _ _ h _ => h
theorem Ex.trans {H H1 H2 : Hp} (a : Ex H H1) (b : Ex H1 H2) : Ex H H2 := fun x o h n => b x o (a x o h n) n
theorem Ex.l {K : PySem.W.Frag} {H H' : Hp} {a : Addr} {xs : List V} (e : Ex H H') (h : SqL K H a xs) : SqL K H' a xs := by
  rcases h with (h | ⟨o, h⟩) | h
  · exact .inl (.inl (e _ _ h (by (first | assumption | exact nt_exc | exact fun _ z => (by cases z)))))
  · exact .inl (.inr ⟨o, e _ _ h (by (first | assumption | exact nt_exc | exact fun _ z => (by cases z)))⟩)
  · exact .inr h
theorem Ex.t {K : PySem.W.Frag} {H H' : Hp} {a : Addr} {xs : List V} (e : Ex H H') (h : SqT K H a xs) : SqT K H' a xs := by
  rcases h with (h | ⟨o, h⟩) | h
  · exact .inl (.inl (e _ _ h (by (first | assumption | exact nt_exc | exact fun _ z => (by cases z)))))
  · exact .inl (.inr ⟨o, e _ _ h (by (first | assumption | exact nt_exc | exact fun _ z => (by cases z)))⟩)
  · exact .inr h
/-- the code objects that the written part has, their tables where these are not in it, the names of the code objects that they will tell -/
def csT (K : PySem.W.Frag) : List ((Addr × Addr) × Str) := K.filterMap fun p => match p.2 with
  | ⟨.type c, _, .fields vs, _⟩ => if c = "code" then (match (vs[11]? : Option Value), (vs[1]? : Option Value) with
    | some (.ref P), some (.str n _) => if (K.lookup P).isNone then some ((p.1, P), n ++ (".<locals>." : Str) ++ ("<lambda>" : Str)) else none
    | _, _ => none) else none
  | _ => none
def tabT (K : PySem.W.Frag) : List (Addr × Str) := (csT K).map fun q => (q.1.2, q.2)
/-- every one of them is in order -/
def TabsK (K : PySem.W.Frag) (H : Hp) : Prop := LamX.Tabs (tabT K) H
theorem codeO_nt {c : Addr} {q : Str} : NT (LamX.CodeO c q) := fun ps => LamX.codeO_ne ps
theorem TabsK.ext {K : PySem.W.Frag} {H H' : Hp} (t : TabsK K H) (e : ∀ b o, H b = some o → H' b = some o) : TabsK K H' := LamX.Tabs.ext t e
/-- an object that is neither a table nor a code object changes -/
theorem TabsK.upd {K : PySem.W.Frag} {H : Hp} {a : Addr} {o : HO} (t : TabsK K H) (h : H a = some o) (n : NT o) (nc : ∀ c q, o ≠ LamX.CodeO c q) (w : HO) : TabsK K (upd H a w) := fun p hp => by
  obtain ⟨ps, h1, h2, h3⟩ := t p hp
  refine ⟨ps, ?_, h2, fun pos cv hc => ?_⟩
  · rw [upd_ne (fun z => by rw [z, h] at h1; exact n ps (Option.some.inj h1))]
    exact h1
  · obtain ⟨c, e1, e2⟩ := h3 pos cv hc
    refine ⟨c, e1, ?_⟩
    rw [upd_ne (fun z => by rw [z, h] at e2; exact nc _ _ (Option.some.inj e2))]
    exact e2

mutual
theorem Rep.ex {K : PySem.W.Frag} {H H' : Hp} (e : Ex H H') : ∀ (d : D) {v : V}, Rep K H d v → Rep K H' d v
  | .non, _, h => h
  | .bl _, _, h => h
  | .int _, _, h => h
  | .str _, _, h => h
  | .ty _, _, h => h
  | .ref _, _, h => h
  | .lst ds, _, h => by
    obtain ⟨a, vs, e1, h1, h2⟩ := h
    exact ⟨a, vs, e1, e _ _ h1 (by (first | assumption | exact nt_exc | exact fun _ z => (by cases z))), RepL.ex e ds h2⟩
  | .scr ns, _, h => by
    obtain ⟨a, e1, h1⟩ := h
    exact ⟨a, e1, e.l h1⟩
  | .exc C fs, _, h => by
    obtain ⟨a, d, vs, e1, h1, h2, h3⟩ := h
    exact ⟨a, d, vs, e1, e _ _ h1 (by (first | assumption | exact nt_exc | exact fun _ z => (by cases z))), e _ _ h2 (by (first | assumption | exact nt_exc | exact fun _ z => (by cases z))), RepF.ex e fs h3⟩
  | .tup ds, _, h => by
    obtain ⟨a, vs, e1, h1, h2⟩ := h
    exact ⟨a, vs, e1, e.t h1, RepL.ex e ds h2⟩
  | .ins C fs, _, h => by
    obtain ⟨a, dx, vs, e1, h1, h2⟩ := h
    exact ⟨a, dx, vs, e1, e _ _ h1 (by (first | assumption | exact nt_exc | exact fun _ z => (by cases z))), RepF.ex e fs h2⟩
  | .dic kvs, _, h => by
    obtain ⟨a, ws, e1, h1, h2⟩ := h
    exact ⟨a, ws, e1, e _ _ h1 (by (first | assumption | exact nt_exc | exact fun _ z => (by cases z))), RepK.ex e kvs h2⟩
theorem RepL.ex {K : PySem.W.Frag} {H H' : Hp} (e : Ex H H') : ∀ (ds : List D) {vs : List V}, RepL K H ds vs → RepL K H' ds vs
  | [], _, h => h
  | d :: ds, _, h => by
    obtain ⟨v, r, e1, h1, h2⟩ := h
    exact ⟨v, r, e1, Rep.ex e d h1, RepL.ex e ds h2⟩
theorem RepF.ex {K : PySem.W.Frag} {H H' : Hp} (e : Ex H H') : ∀ (ds : List (Str × D)) {vs : List (Str × V)}, RepF K H ds vs → RepF K H' ds vs
  | [], _, h => h
  | p :: ds, _, h => by
    obtain ⟨v, r, e1, h1, h2⟩ := h
    exact ⟨v, r, e1, Rep.ex e p.2 h1, RepF.ex e ds h2⟩
theorem RepK.ex {K : PySem.W.Frag} {H H' : Hp} (e : Ex H H') : ∀ (ds : List (Key × D)) {vs : List (Key × V)}, RepK K H ds vs → RepK K H' ds vs
  | [], _, h => h
  | p :: ds, _, h => by
    obtain ⟨v, r, e1, h1, h2⟩ := h
    exact ⟨v, r, e1, Rep.ex e p.2 h1, RepK.ex e ds h2⟩
end
theorem RepL.length {K : PySem.W.Frag} {H : Hp} : ∀ {ds : List D} {vs : List V}, RepL K H ds vs → vs.length = ds.length
  | [], _, h => by rw [show _ = [] from h] <;> rfl
  | d :: ds, _, h => by
    obtain ⟨v, r, e1, h1, h2⟩ := h
    rw [e1, List.length_cons, List.length_cons, RepL.length h2]
theorem RepL.get {K : PySem.W.Frag} {H : Hp} : ∀ {ds : List D} {vs : List V} {i : Nat} {d : D}, RepL K H ds vs → ds[i]? = some d → ∃ v, vs[i]? = some v ∧ Rep K H d v
  | [], _, _, _, _, h => by simp at h
  | d :: ds, _, 0, _, h, q => by
    obtain ⟨v, r, e1, h1, h2⟩ := h
    have e : d = _ := Option.some.inj q
    subst e e1
    exact ⟨v, rfl, h1⟩
  | d :: ds, _, i + 1, _, h, q => by
    obtain ⟨v, r, e1, h1, h2⟩ := h
    subst e1
    exact RepL.get (i := i) h2 q
theorem RepL.append {K : PySem.W.Frag} {H : Hp} : ∀ {ds es : List D} {vs ws : List V}, RepL K H ds vs → RepL K H es ws → RepL K H (ds ++ es) (vs ++ ws)
  | [], _, _, _, h, q => by
    rw [show _ = [] from h]
    exact q
  | d :: ds, _, _, _, h, q => by
    obtain ⟨v, r, e1, h1, h2⟩ := h
    subst e1
    exact ⟨v, _, rfl, h1, RepL.append h2 q⟩
theorem RepL.take {K : PySem.W.Frag} {H : Hp} : ∀ {ds : List D} {vs : List V} (n : Nat), RepL K H ds vs → RepL K H (ds.take n) (vs.take n)
  | ds, vs, 0, _ => by
    rw [List.take_zero, List.take_zero]
    exact rfl
  | [], _, n + 1, h => by
    rw [show _ = [] from h]
    exact rfl
  | d :: ds, _, n + 1, h => by
    obtain ⟨v, r, e1, h1, h2⟩ := h
    subst e1
    exact ⟨v, _, rfl, h1, RepL.take n h2⟩
theorem RepL.drop {K : PySem.W.Frag} {H : Hp} : ∀ {ds : List D} {vs : List V} (n : Nat), RepL K H ds vs → RepL K H (ds.drop n) (vs.drop n)
  | ds, vs, 0, h => h
  | [], _, n + 1, h => by
    rw [show _ = [] from h]
    exact rfl
  | d :: ds, _, n + 1, h => by
    obtain ⟨v, r, e1, h1, h2⟩ := h
    subst e1
    exact RepL.drop n h2
theorem RepL.set {K : PySem.W.Frag} {H : Hp} {e : D} {w : V} (q : Rep K H e w) : ∀ {ds : List D} {vs : List V} (n : Nat), RepL K H ds vs → RepL K H (ds.set n e) (vs.set n w)
  | [], _, n, h => by
    rw [show _ = [] from h]
    exact rfl
  | d :: ds, _, 0, h => by
    obtain ⟨v, r, e1, h1, h2⟩ := h
    subst e1
    exact ⟨w, _, rfl, q, h2⟩
  | d :: ds, _, n + 1, h => by
    obtain ⟨v, r, e1, h1, h2⟩ := h
    subst e1
    exact ⟨v, _, rfl, h1, RepL.set q n h2⟩
theorem RepF.look {K : PySem.W.Frag} {H : Hp} {f : Str} : ∀ {ds : List (Str × D)} {vs : List (Str × V)} {d : D}, RepF K H ds vs → ds.lookup f = some d → ∃ v, vs.lookup f = some v ∧ Rep K H d v
  | [], _, _, _, h => by cases h
  | p :: ds, _, d, h, q => by
    obtain ⟨v, r, e1, h1, h2⟩ := h
    subst e1
    rw [List.lookup_cons] at q ⊢
    cases e : (f == p.1) with
    | true =>
      rw [e] at q
      have e2 : p.2 = d := Option.some.inj q
      subst e2
      exact ⟨v, rfl, h1⟩
    | false =>
      rw [e] at q
      exact RepF.look h2 q
theorem RepF.none {K : PySem.W.Frag} {H : Hp} {f : Str} : ∀ {ds : List (Str × D)} {vs : List (Str × V)}, RepF K H ds vs → ds.lookup f = none → vs.lookup f = none
  | [], _, h, _ => by rw [show _ = [] from h] <;> rfl
  | p :: ds, _, h, q => by
    obtain ⟨v, r, e1, h1, h2⟩ := h
    subst e1
    rw [List.lookup_cons] at q ⊢
    cases e : (f == p.1) with
    | true =>
      rw [e] at q
      cases q
    | false =>
      rw [e] at q
      exact RepF.none h2 q
theorem RepF.length {K : PySem.W.Frag} {H : Hp} : ∀ {ds : List (Str × D)} {vs : List (Str × V)}, RepF K H ds vs → vs.length = ds.length
  | [], _, h => by rw [show _ = [] from h] <;> rfl
  | d :: ds, _, h => by
    obtain ⟨v, r, e1, h1, h2⟩ := h
    rw [e1, List.length_cons, List.length_cons, RepF.length h2]

/-! ### the state -/
structure Bs where
  B : Hp
  Z : List Addr
  A0 : List Addr
def live : List Addr → List OD → List Addr
  | _ :: A, .gone :: O => live A O
  | a :: A, _ :: O => a :: live A O
  | _, _ => []
def hid (L : List Addr) (H : Hp) : Hp := fun a => if a ∈ L then none else H a
theorem hid_some {L : List Addr} {H : Hp} {a : Addr} {o : HO} : hid L H a = some o ↔ a ∉ L ∧ H a = some o := by
  unfold hid
  by_cases h : a ∈ L
  · rw [if_pos h]
    exact ⟨fun z => (nomatch z), fun z => absurd h z.1⟩
  · rw [if_neg h]
    exact ⟨fun z => ⟨h, z⟩, fun z => z.2⟩
theorem hid_ex {L : List Addr} {H : Hp} : Ex (hid L H) H := fun _ _ h _ => (hid_some.mp h).2
theorem hid_mono {L M : List Addr} {H H' : Hp} (e : ∀ a o, a ∉ L → H a = some o → H' a = some o) (s : ∀ a o, a ∉ L → H a = some o → a ∉ M) : Ex (hid L H) (hid M H') := fun a o h _ => by
  obtain ⟨h1, h2⟩ := hid_some.mp h
  exact hid_some.mpr ⟨s a o h1 h2, e a o h1 h2⟩

theorem hid_monoW {L M : List Addr} {H H' : Hp} (e : ∀ a o, a ∉ L → H a = some o → NT o → H' a = some o) (s : ∀ a o, a ∉ L → H a = some o → a ∉ M) : Ex (hid L H) (hid M H') := fun a o h n => by
  obtain ⟨h1, h2⟩ := hid_some.mp h
  exact hid_some.mpr ⟨s a o h1 h2, e a o h1 h2 n⟩
def CellOk (K : PySem.W.Frag) (F H : Hp) (a : Addr) : OD → Prop
  | .lst ds => ∃ vs, H a = some (.lst vs) ∧ RepL K F ds vs
  | .ins C fs => ∃ dx vs, H a = some (.ins C dx vs) ∧ RepF K F fs vs
  | .dic kvs => ∃ ws, H a = some (.dK ws) ∧ RepK K F kvs ws
  | .gone => True
theorem CellOk.ex {K : PySem.W.Frag} {F F' H H' : Hp} {a : Addr} {o : OD} (e : Ex F F') (h : ∀ u, H a = some u → H' a = some u) (c : CellOk K F H a o) : CellOk K F' H' a o := by
  cases o with
  | lst ds =>
    obtain ⟨vs, h1, h2⟩ := c
    exact ⟨vs, h _ h1, h2.ex e⟩
  | ins C fs =>
    obtain ⟨dx, vs, h1, h2⟩ := c
    exact ⟨dx, vs, h _ h1, h2.ex e⟩
  | dic kvs =>
    obtain ⟨ws, h1, h2⟩ := c
    exact ⟨ws, h _ h1, h2.ex e⟩
  | gone => trivial
theorem CellOk.exW {K : PySem.W.Frag} {F F' H H' : Hp} {a : Addr} {o : OD} (e : Ex F F') (h : ∀ u, H a = some u → NT u → H' a = some u) (c : CellOk K F H a o) : CellOk K F' H' a o := by
  cases o with
  | lst ds =>
    obtain ⟨vs, h1, h2⟩ := c
    exact ⟨vs, h _ h1 (by (first | assumption | exact nt_exc | exact fun _ z => (by cases z))), h2.ex e⟩
  | ins C fs =>
    obtain ⟨dx, vs, h1, h2⟩ := c
    exact ⟨dx, vs, h _ h1 (by (first | assumption | exact nt_exc | exact fun _ z => (by cases z))), h2.ex e⟩
  | dic kvs =>
    obtain ⟨ws, h1, h2⟩ := c
    exact ⟨ws, h _ h1 (by (first | assumption | exact nt_exc | exact fun _ z => (by cases z))), h2.ex e⟩
  | gone => trivial
/-- what is frozen -/
def Fz (b : Bs) (A : List Addr) (O : List OD) (H : Hp) : Hp := hid (live A O ++ b.Z) H

structure StO (K : PySem.W.Frag) (b : Bs) (A : List Addr) (O : List OD) (H : Hp) : Prop where
  len : A.length = O.length
  pre : ∃ M, A = b.A0 ++ M
  ext : Ex b.B (hid (live A O) H)
  zs : ∀ z ∈ b.Z, ∃ o, b.B z = some o ∧ OB o
  nd : A.Nodup
  inh : ∀ a ∈ A, ∃ o, H a = some o ∧ NT o
  cell : ∀ (i : Nat) (a : Addr) (o : OD), A[i]? = some a → O[i]? = some o → CellOk K (Fz b A O H) H a o
  tb : TabsK K H

theorem live_mem : ∀ {A : List Addr} {O : List OD} {a : Addr}, a ∈ live A O → ∃ (i : Nat) (o : OD), A[i]? = some a ∧ O[i]? = some o ∧ o ≠ OD.gone
  | [], _, _, h => by simp [live] at h
  | _ :: _, [], _, h => by simp [live] at h
  | c :: A, o :: O, a, h => by
    have key : a ∈ live A O → ∃ (i : Nat) (o' : OD), (c :: A)[i]? = some a ∧ (o :: O)[i]? = some o' ∧ o' ≠ OD.gone := fun h => by
      obtain ⟨i, o', h1, h2, h3⟩ := live_mem h
      exact ⟨i + 1, o', h1, h2, h3⟩
    cases o with
    | gone => exact key h
    | lst ds =>
      rcases List.mem_cons.mp h with e | h
      · exact ⟨0, _, by rw [e] <;> rfl, rfl, fun z => by cases z⟩
      · exact key h
    | ins C fs =>
      rcases List.mem_cons.mp h with e | h
      · exact ⟨0, _, by rw [e] <;> rfl, rfl, fun z => by cases z⟩
      · exact key h
    | dic kvs =>
      rcases List.mem_cons.mp h with e | h
      · exact ⟨0, _, by rw [e] <;> rfl, rfl, fun z => by cases z⟩
      · exact key h
theorem live_at : ∀ {A : List Addr} {O : List OD} {i : Nat} {a : Addr} {o : OD}, A[i]? = some a → O[i]? = some o → o ≠ .gone → a ∈ live A O
  | [], _, _, _, _, h, _, _ => by simp at h
  | _ :: _, [], _, _, _, _, h, _ => by simp at h
  | c :: A, u :: O, 0, a, o, h1, h2, h3 => by
    have e1 : c = a := Option.some.inj h1
    have e2 : u = o := Option.some.inj h2
    subst e1 e2
    cases u with
    | gone => exact absurd rfl h3
    | lst ds => exact List.mem_cons_self
    | ins C fs => exact List.mem_cons_self
    | dic kvs => exact List.mem_cons_self
  | c :: A, u :: O, i + 1, a, o, h1, h2, h3 => by
    have ih : a ∈ live A O := live_at (i := i) h1 h2 h3
    cases u with
    | gone => exact ih
    | lst ds => exact List.mem_cons_of_mem _ ih
    | ins C fs => exact List.mem_cons_of_mem _ ih
    | dic kvs => exact List.mem_cons_of_mem _ ih

section
variable {K : PySem.W.Frag} {b : Bs} {A A' A2 : List Addr} {O O' O2 : List OD} {H H' H2 : Hp}
theorem StO.some_at (s : StO K b A O H) {a : Addr} (h : a ∈ live A O) : ∃ o, H a = some o ∧ OB o := by
  obtain ⟨i, o, h1, h2, h3⟩ := live_mem h
  have c := s.cell i a o h1 h2
  cases o with
  | gone => exact absurd rfl h3
  | lst ds =>
    obtain ⟨vs, q, _⟩ := c
    exact ⟨_, q, ob_lst⟩
  | ins C fs =>
    obtain ⟨dx, vs, q, _⟩ := c
    exact ⟨_, q, ob_ins⟩
  | dic kvs =>
    obtain ⟨ws, q, _⟩ := c
    exact ⟨_, q, ob_dK⟩
theorem StO.z_at (s : StO K b A O H) {a : Addr} (h : a ∈ b.Z) : a ∉ live A O ∧ ∃ o, H a = some o ∧ OB o := by
  obtain ⟨o, q, n⟩ := s.zs a h
  obtain ⟨h1, h2⟩ := hid_some.mp (s.ext a o q n.1)
  exact ⟨h1, o, h2, n⟩
theorem StO.fresh (s : StO K b A O H) {p : Addr} (h : H p = none) : p ∉ live A O ++ b.Z := fun hm => by
  rcases List.mem_append.mp hm with hm | hm
  · obtain ⟨o, q, _⟩ := s.some_at hm
    rw [h] at q
    cases q
  · obtain ⟨_, o, q, _⟩ := s.z_at hm
    rw [h] at q
    cases q
/-- the next state sees what this one sees -/
structure Nxt (b : Bs) (A : List Addr) (O : List OD) (H : Hp) (A' : List Addr) (O' : List OD) (H' : Hp) : Prop where
  pre : ∃ M, A' = A ++ M
  ext : Ex (Fz b A O H) (Fz b A' O' H')
theorem Nxt.refl : Nxt b A O H A O H := ⟨⟨[], (List.append_nil A).symm⟩, Ex.refl _⟩
theorem Nxt.trans (x : Nxt b A O H A' O' H') (y : Nxt b A' O' H' A2 O2 H2) : Nxt b A O H A2 O2 H2 := by
  obtain ⟨M, e⟩ := x.pre
  obtain ⟨N, e2⟩ := y.pre
  exact ⟨⟨M ++ N, by rw [e2, e, List.append_assoc]⟩, x.ext.trans y.ext⟩
theorem Nxt.at_ (x : Nxt b A O H A' O' H') {i : Nat} {a : Addr} (h : A[i]? = some a) : A'[i]? = some a := by
  obtain ⟨M, e⟩ := x.pre
  rw [e, List.getElem?_append_left (List.getElem?_eq_some_iff.mp h).1]
  exact h

def RepT (K : PySem.W.Frag) (F : Hp) (A : List Addr) : T → Option V → Prop
  | .v d, o => ∃ v, o = some v ∧ Rep K F d v
  | .own i, o => ∃ a, A[i]? = some a ∧ o = some (.ref a)
  | .no, _ => True
  | .clo R f, o => o = some (.ref f) ∧ ∀ F' A', Ex F F' → (∃ M, A' = A ++ M) → R F' A'
theorem RepT.nxt {t : T} {o : Option V} (x : Nxt b A O H A' O' H') (h : RepT K (Fz b A O H) A t o) : RepT K (Fz b A' O' H') A' t o := by
  cases t with
  | v d =>
    obtain ⟨v, e, r⟩ := h
    exact ⟨v, e, r.ex x.ext⟩
  | own i =>
    obtain ⟨a, e, r⟩ := h
    exact ⟨a, x.at_ e, r⟩
  | no => trivial
  | clo R f => exact ⟨h.1, fun F' A2 e p => h.2 F' A2 (x.ext.trans e) (by
      obtain ⟨M, e1⟩ := x.pre
      obtain ⟨N, e2⟩ := p
      exact ⟨M ++ N, by rw [e2, e1, List.append_assoc]⟩)⟩
/-- under any growth -/
theorem RepT.mono {K : PySem.W.Frag} {F F' : Hp} {A A' : List Addr} {t : T} {o : Option V} (x : Ex F F') (p : ∃ M, A' = A ++ M) (h : RepT K F A t o) : RepT K F' A' t o := by
  cases t with
  | v d =>
    obtain ⟨v, e, r⟩ := h
    exact ⟨v, e, r.ex x⟩
  | own i =>
    obtain ⟨a, e, r⟩ := h
    obtain ⟨M, rfl⟩ := p
    exact ⟨a, by rw [List.getElem?_append_left (List.getElem?_eq_some_iff.mp e).1]; exact e, r⟩
  | no => trivial
  | clo R f => exact ⟨h.1, fun F2 A2 e q => h.2 F2 A2 (x.trans e) (by
      obtain ⟨M, e1⟩ := p
      obtain ⟨N, e2⟩ := q
      exact ⟨M ++ N, by rw [e2, e1, List.append_assoc]⟩)⟩
def RepS (K : PySem.W.Frag) (F : Hp) (A : List Addr) (ts : List T) (σ : L2.St) : Prop := ts.length = σ.length ∧ ∀ (i : Nat) (t : T), ts[i]? = some t → ∃ o, σ[i]? = some o ∧ RepT K F A t o
theorem RepS.nxt {ts : List T} {σ : L2.St} (x : Nxt b A O H A' O' H') (h : RepS K (Fz b A O H) A ts σ) : RepS K (Fz b A' O' H') A' ts σ :=
  ⟨h.1, fun i t e => let ⟨o, e1, r⟩ := h.2 i t e; ⟨o, e1, r.nxt x⟩⟩
theorem RepS.mono {F F' : Hp} {B B' : List Addr} {ts : List T} {σ : L2.St} (x : Ex F F') (p : ∃ M, B' = B ++ M) (h : RepS K F B ts σ) : RepS K F' B' ts σ :=
  ⟨h.1, fun i t e => let ⟨o, e1, r⟩ := h.2 i t e; ⟨o, e1, r.mono x p⟩⟩
theorem RepS.set {F : Hp} {ts : List T} {σ : L2.St} {t : T} {v : V} (h : RepS K F A ts σ) (r : RepT K F A t (some v)) (i : Nat) : RepS K F A (ts.set i t) (σ.set i (some v)) := by
  refine ⟨by rw [List.length_set, List.length_set]; exact h.1, fun j u e => ?_⟩
  rw [List.getElem?_set] at e
  by_cases hij : i = j
  · subst hij
    rw [if_pos rfl] at e
    by_cases hl : i < ts.length
    · rw [if_pos hl] at e
      have e2 : t = u := Option.some.inj e
      subst e2
      refine ⟨some v, ?_, r⟩
      rw [List.getElem?_set_self (by rw [← h.1]; exact hl)]
    · rw [if_neg hl] at e
      cases e
  · rw [if_neg hij] at e
    obtain ⟨o, e1, r1⟩ := h.2 j u e
    refine ⟨o, ?_, r1⟩
    rw [List.getElem?_set_ne hij]
    exact e1
/-- what a list of values stands for -/
def RepTs (K : PySem.W.Frag) (F : Hp) (A : List Addr) : List T → List V → Prop
  | [], vs => vs = []
  | t :: ts, vs => ∃ v r, vs = v :: r ∧ RepT K F A t (some v) ∧ RepTs K F A ts r
theorem RepTs.nxt (x : Nxt b A O H A' O' H') : ∀ {ts : List T} {vs : List V}, RepTs K (Fz b A O H) A ts vs → RepTs K (Fz b A' O' H') A' ts vs
  | [], _, h => h
  | t :: ts, _, h => by
    obtain ⟨v, r, e, h1, h2⟩ := h
    exact ⟨v, r, e, h1.nxt x, RepTs.nxt x h2⟩
theorem RepTs.length {F : Hp} : ∀ {ts : List T} {vs : List V}, RepTs K F A ts vs → vs.length = ts.length
  | [], _, h => by rw [show _ = [] from h] <;> rfl
  | t :: ts, _, h => by
    obtain ⟨v, r, e, h1, h2⟩ := h
    rw [e, List.length_cons, List.length_cons, RepTs.length h2]
theorem RepTs.get {F : Hp} : ∀ {ts : List T} {vs : List V} {i : Nat} {t : T}, RepTs K F A ts vs → ts[i]? = some t → ∃ v, vs[i]? = some v ∧ RepT K F A t (some v)
  | [], _, _, _, _, h => by simp at h
  | t :: ts, _, 0, _, h, q => by
    obtain ⟨v, r, e1, h1, h2⟩ := h
    have e : t = _ := Option.some.inj q
    subst e e1
    exact ⟨v, rfl, h1⟩
  | t :: ts, _, i + 1, _, h, q => by
    obtain ⟨v, r, e1, h1, h2⟩ := h
    subst e1
    exact RepTs.get (i := i) h2 q
/-- plain data only -/
def unv : List T → Option (List D)
  | [] => some []
  | .v d :: r => (unv r).map (d :: ·)
  | _ :: _ => none
theorem RepTs.plain {F : Hp} : ∀ {ts : List T} {vs : List V} {ds : List D}, unv ts = some ds → RepTs K F A ts vs → RepL K F ds vs
  | [], _, ds, e, h => by
    have e2 : [] = ds := Option.some.inj e
    subst e2
    exact h
  | .v d :: ts, _, ds, e, h => by
    obtain ⟨v, r, e1, h1, h2⟩ := h
    have e3 : (unv ts).map (d :: ·) = some ds := e
    cases q : unv ts with
    | none =>
      rw [q] at e3
      cases e3
    | some es =>
      rw [q] at e3
      have e4 : d :: es = ds := Option.some.inj e3
      subst e4
      obtain ⟨w, e5, r5⟩ := h1
      have e6 := Option.some.inj e5
      subst e6
      exact ⟨v, r, e1, r5, RepTs.plain q h2⟩
  | .own _ :: _, _, _, e, _ => by cases e
  | .no :: _, _, _, e, _ => by cases e
  | .clo _ _ :: _, _, _, e, _ => by cases e

/-! ### new frozen objects, owned ones -/
theorem StO.lay (s : StO K b A O H) {p : Addr} (hp : H p = none) (o : HO) : StO K b A O (upd H p o) ∧ Nxt b A O H A O (upd H p o) ∧ Fz b A O (upd H p o) p = some o := by
  have hn := s.fresh hp
  have e1 : ∀ a u, H a = some u → upd H p o a = some u := fun a u h => by
    rw [upd_ne (ne_of_none h hp)]
    exact h
  have e2 : Ex (Fz b A O H) (Fz b A O (upd H p o)) := hid_mono (fun a u _ h => e1 a u h) fun a u h _ => h
  refine ⟨⟨s.len, s.pre, s.ext.trans (hid_mono (fun a u _ h => e1 a u h) fun a u h _ => h), s.zs, s.nd, fun a h => let ⟨u, q, n⟩ := s.inh a h; ⟨u, e1 a u q, n⟩, fun i a u h1 h2 => (s.cell i a u h1 h2).ex e2 (e1 a), s.tb.ext e1⟩, ⟨⟨[], (List.append_nil A).symm⟩, e2⟩, ?_⟩
  exact hid_some.mpr ⟨hn, upd_same⟩
theorem live_append : ∀ {A : List Addr} {O : List OD}, A.length = O.length → ∀ (p : Addr) (o : OD), live (A ++ [p]) (O ++ [o]) = live A O ++ live [p] [o]
  | [], [], _, p, o => rfl
  | [], _ :: _, h, _, _ => by simp at h
  | _ :: _, [], h, _, _ => by simp at h
  | a :: A, u :: O, h, p, o => by
    have ih := live_append (A := A) (O := O) (by simpa using h) p o
    cases u <;> simp only [List.cons_append, live, ih]
theorem live1_sub {p : Addr} {o : OD} : ∀ a ∈ live [p] [o], a = p := fun a h => by
  cases o <;> simp [live] at h <;> exact h
/-- p, new, becomes the next owned thing -/
theorem StO.own (s : StO K b A O H) {p : Addr} (hp : H p = none) {u : HO} {o : OD} (c : CellOk K (Fz b A O H) (upd H p u) p o) (nu : NT u := by (first | assumption | exact nt_exc | exact fun _ z => (by cases z))) : StO K b (A ++ [p]) (O ++ [o]) (upd H p u) ∧ Nxt b A O H (A ++ [p]) (O ++ [o]) (upd H p u) := by
  have hn := s.fresh hp
  have hA : p ∉ A := fun z => by
    obtain ⟨x, q, _⟩ := s.inh p z
    rw [hp] at q
    cases q
  have e1 : ∀ a w, H a = some w → upd H p u a = some w := fun a w h => by
    rw [upd_ne (ne_of_none h hp)]
    exact h
  have hl := live_append s.len p o
  have sub : ∀ a w, a ∉ live A O → H a = some w → a ∉ live (A ++ [p]) (O ++ [o]) := fun a w h1 h2 h3 => by
    rw [hl] at h3
    rcases List.mem_append.mp h3 with h3 | h3
    · exact h1 h3
    · have e := live1_sub a h3
      rw [e, hp] at h2
      cases h2
  have e2 : Ex (Fz b A O H) (Fz b (A ++ [p]) (O ++ [o]) (upd H p u)) := hid_mono (fun a w _ h => e1 a w h) fun a w h1 h2 h3 => by
    rcases List.mem_append.mp h3 with h3 | h3
    · exact sub a w (fun z => h1 (List.mem_append_left _ z)) h2 h3
    · exact h1 (List.mem_append_right _ h3)
  obtain ⟨M, eM⟩ := s.pre
  refine ⟨⟨by rw [List.length_append, List.length_append, s.len] <;> rfl, ⟨M ++ [p], by rw [eM, List.append_assoc]⟩, s.ext.trans (hid_mono (fun a w _ h => e1 a w h) sub), s.zs, ?_, fun a h => ?_, fun i a w h1 h2 => ?_, s.tb.ext e1⟩, ⟨⟨[p], rfl⟩, e2⟩⟩
  · rw [List.nodup_append]
    refine ⟨s.nd, by simp, fun x hx y hy => ?_⟩
    rw [List.mem_singleton.mp hy]
    intro z
    exact hA (z ▸ hx)
  · rcases List.mem_append.mp h with h | h
    · obtain ⟨x, q, n⟩ := s.inh a h
      exact ⟨x, e1 a x q, n⟩
    · rw [List.mem_singleton.mp h]
      exact ⟨u, upd_same, nu⟩
  · by_cases hi : i < A.length
    · rw [List.getElem?_append_left hi] at h1
      rw [List.getElem?_append_left (by rw [← s.len]; exact hi)] at h2
      exact (s.cell i a w h1 h2).ex e2 (e1 a)
    · rw [List.getElem?_append_right (by omega)] at h1
      rw [List.getElem?_append_right (by rw [← s.len]; omega)] at h2
      have hz : i - A.length = 0 := by
        cases q : i - A.length with
        | zero => rfl
        | succ n =>
          rw [q] at h1
          simp at h1
      rw [hz] at h1
      rw [show i - O.length = 0 by rw [← s.len]; exact hz] at h2
      have e3 : p = a := Option.some.inj h1
      have e4 : o = w := Option.some.inj h2
      subst e3 e4
      exact c.ex e2 fun _ h => h
/-- the i-th owned thing changes -/
theorem live_set : ∀ {A : List Addr} {O : List OD} {i : Nat} {o u : OD}, O[i]? = some u → u ≠ .gone → o ≠ .gone → live A (O.set i o) = live A O
  | [], O, _, _, _, _, _, _ => by cases O <;> rfl
  | _ :: _, [], _, _, _, h, _, _ => by simp at h
  | a :: A, w :: O, 0, o, u, h, h1, h2 => by
    have e : w = u := Option.some.inj h
    subst e
    cases w <;> cases o <;> first | rfl | exact absurd rfl h1 | exact absurd rfl h2
  | a :: A, w :: O, i + 1, o, u, h, h1, h2 => by
    have ih := live_set (A := A) (O := O) (i := i) h h1 h2
    cases w <;> simp only [List.set_cons_succ, live, ih]
theorem StO.obj (s : StO K b A O H) {i : Nat} {a : Addr} {u : OD} (hA : A[i]? = some a) (hO : O[i]? = some u) (hu : u ≠ .gone) : ∃ o, H a = some o ∧ NT o ∧ ∀ c q, o ≠ LamX.CodeO c q := by
  have c := s.cell i a u hA hO
  have key : ∀ o : HO, (∀ P, o ≠ .ext P) → ∀ c q, o ≠ LamX.CodeO c q := fun o h c q z => by
    unfold LamX.CodeO at z
    exact h _ z
  cases u with
  | gone => exact absurd rfl hu
  | lst ds =>
    obtain ⟨vs, q, _⟩ := c
    exact ⟨_, q, by (first | assumption | exact nt_exc | exact fun _ z => (by cases z)), key _ fun _ z => by cases z⟩
  | ins C fs =>
    obtain ⟨dx, vs, q, _⟩ := c
    exact ⟨_, q, by (first | assumption | exact nt_exc | exact fun _ z => (by cases z)), key _ fun _ z => by cases z⟩
  | dic kvs =>
    obtain ⟨ws, q, _⟩ := c
    exact ⟨_, q, by (first | assumption | exact nt_exc | exact fun _ z => (by cases z)), key _ fun _ z => by cases z⟩
theorem StO.tb_put (s : StO K b A O H) {i : Nat} {a : Addr} {u : OD} (hA : A[i]? = some a) (hO : O[i]? = some u) (hu : u ≠ .gone) (w : HO) : TabsK K (upd H a w) := by
  obtain ⟨o, h1, h2, h3⟩ := s.obj hA hO hu
  exact s.tb.upd h1 h2 h3 w
theorem StO.put (s : StO K b A O H) {i : Nat} {a : Addr} {u o : OD} {w : HO} (hA : A[i]? = some a) (hO : O[i]? = some u) (hu : u ≠ .gone) (ho : o ≠ .gone) (c : CellOk K (Fz b A O H) (upd H a w) a o) (nw : NT w := by (first | assumption | exact nt_exc | exact fun _ z => (by cases z))) :
    StO K b A (O.set i o) (upd H a w) ∧ Nxt b A O H A (O.set i o) (upd H a w) := by
  have hl : live A (O.set i o) = live A O := live_set hO hu ho
  have hm : a ∈ live A O := live_at hA hO hu
  have e2 : Ex (Fz b A O H) (Fz b A (O.set i o) (upd H a w)) := by
    unfold Fz
    rw [hl]
    refine hid_mono (fun y x h1 h2 => ?_) fun _ _ h _ => h
    have hne : y ≠ a := fun z => h1 (List.mem_append_left _ (by rw [z]; exact hm))
    rw [upd_ne hne]
    exact h2
  refine ⟨⟨by rw [List.length_set]; exact s.len, s.pre, ?_, s.zs, s.nd, fun c h => ?_, fun j y x h1 h2 => ?_, s.tb_put hA hO hu w⟩, ⟨⟨[], (List.append_nil A).symm⟩, e2⟩⟩
  · rw [hl]
    refine s.ext.trans (hid_mono (fun y x h1 h2 => ?_) fun _ _ h _ => h)
    have hne : y ≠ a := fun z => h1 (by rw [z]; exact hm)
    rw [upd_ne hne]
    exact h2
  · by_cases z : c = a
    · exact ⟨w, by rw [z, upd_same], nw⟩
    · obtain ⟨x, q, n⟩ := s.inh c h
      exact ⟨x, by rw [upd_ne z]; exact q, n⟩
  · rw [List.getElem?_set] at h2
    by_cases hij : i = j
    · subst hij
      rw [if_pos rfl] at h2
      rw [hA] at h1
      have e3 : a = y := Option.some.inj h1
      subst e3
      by_cases hlt : i < O.length
      · rw [if_pos hlt] at h2
        have e4 : o = x := Option.some.inj h2
        subst e4
        exact c.ex e2 fun _ h => h
      · rw [if_neg hlt] at h2
        cases h2
    · rw [if_neg hij] at h2
      have hne : y ≠ a := fun z => hij (nd_ix s.nd hA (z ▸ h1))
      refine (s.cell j y x h1 h2).ex e2 fun q hq => ?_
      rw [upd_ne hne]
      exact hq
end
end G

set_option Elab.async false
set_option linter.all false
set_option maxRecDepth 100000
set_option maxHeartbeats 4000000
namespace G
open PySem PySem.Spec PyProof.Rows L2

/-! ### what is wanted -/
abbrev PT' := T → List OD → Prop
abbrev PB := Bool → List OD → Prop
abbrev PL := List T → List OD → Prop
/-- an exception: its class, its own fields (none: no dict of its own) -/
abbrev XX := Value → Option (List (Str × D)) → List OD → Prop
def RepX (K : PySem.W.Frag) (F H : Hp) : Option (List (Str × D)) → Option Addr → Prop
  | none, d => d = none
  | some fs, d => ∃ dx vs, d = some dx ∧ F dx = some (.xd vs) ∧ RepF K F fs vs
/-- what an exception leaves is wanted -/
def KX (K : PySem.W.Frag) (W : WX) (b : Bs) (A : List Addr) (O : List OD) (σ : L2.St) (H : Hp) (X : XX) : Prop :=
  ∀ C fs A' O' H' d, X C fs O' → StO K b A' O' H' → Nxt b A O H A' O' H' → RepX K (Fz b A' O' H') H' fs d → W C d σ H'
def KV' (K : PySem.W.Frag) (b : Bs) (A : List Addr) (O : List OD) (H : Hp) (P : PT') (Q : VK) : Prop :=
  ∀ t v A' O' H', P t O' → StO K b A' O' H' → Nxt b A O H A' O' H' → RepT K (Fz b A' O' H') A' t (some v) → Q v H'
def KB (K : PySem.W.Frag) (b : Bs) (A : List Addr) (O : List OD) (H : Hp) (P : PB) (Q : Bool → Hp → Prop) : Prop :=
  ∀ c A' O' H', P c O' → StO K b A' O' H' → Nxt b A O H A' O' H' → Q c H'
def KL (K : PySem.W.Frag) (b : Bs) (A : List Addr) (O : List OD) (H : Hp) (P : PL) (Q : List V → Hp → Prop) : Prop :=
  ∀ ts vs A' O' H', P ts O' → StO K b A' O' H' → Nxt b A O H A' O' H' → RepTs K (Fz b A' O' H') A' ts vs → Q vs H'
section
variable {K : PySem.W.Frag} {W : WX} {b : Bs} {A A' : List Addr} {O O' : List OD} {H H' : Hp} {σ : L2.St}
theorem KX.nxt {X : XX} (k : KX K W b A O σ H X) (n : Nxt b A O H A' O' H') : KX K W b A' O' σ H' X := fun C fs A2 O2 H2 d x s m r => k C fs A2 O2 H2 d x s (n.trans m) r
theorem KV'.nxt {P : PT'} {Q : VK} (k : KV' K b A O H P Q) (n : Nxt b A O H A' O' H') : KV' K b A' O' H' P Q := fun t v A2 O2 H2 x s m r => k t v A2 O2 H2 x s (n.trans m) r
theorem KB.nxt {P : PB} {Q : Bool → Hp → Prop} (k : KB K b A O H P Q) (n : Nxt b A O H A' O' H') : KB K b A' O' H' P Q := fun c A2 O2 H2 x s m => k c A2 O2 H2 x s (n.trans m)
theorem KL.nxt {P : PL} {Q : List V → Hp → Prop} (k : KL K b A O H P Q) (n : Nxt b A O H A' O' H') : KL K b A' O' H' P Q := fun ts vs A2 O2 H2 x s m r => k ts vs A2 O2 H2 x s (n.trans m) r
end

/-! ### readings over data -/
def WE (K : PySem.W.Frag) (W : WX) (te : TE) (O : List OD) (ts : List T) (P : PT') (X : XX) : Prop :=
  ∀ b A σ H Q, StO K b A O H → RepS K (Fz b A O H) A ts σ → KV' K b A O H P Q → KX K W b A O σ H X → te σ H Q
def WT (K : PySem.W.Frag) (W : WX) (tt : TT) (O : List OD) (ts : List T) (P : PB) (X : XX) : Prop :=
  ∀ b A σ H Q, StO K b A O H → RepS K (Fz b A O H) A ts σ → KB K b A O H P Q → KX K W b A O σ H X → tt σ H Q
def WA (K : PySem.W.Frag) (W : WX) (ta : TA) (O : List OD) (ts : List T) (P : PL) (X : XX) : Prop :=
  ∀ b A σ H Q, StO K b A O H → RepS K (Fz b A O H) A ts σ → KL K b A O H P Q → KX K W b A O σ H X → ta σ H Q
/-- by values -/
def WR (K : PySem.W.Frag) (r : R2) (x y : T) (O : List OD) (P : PT') : Prop :=
  ∀ b A H Q v u, StO K b A O H → RepT K (Fz b A O H) A x (some v) → RepT K (Fz b A O H) A y (some u) → KV' K b A O H P Q → r v u H Q
def WU (K : PySem.W.Frag) (r : V → Hp → VK → Prop) (x : T) (O : List OD) (P : PT') : Prop :=
  ∀ b A H Q v, StO K b A O H → RepT K (Fz b A O H) A x (some v) → KV' K b A O H P Q → r v H Q
def WC (K : PySem.W.Frag) (r : List V → Hp → VK → Prop) (xs : List T) (O : List OD) (P : PT') : Prop :=
  ∀ b A H Q vs, StO K b A O H → RepTs K (Fz b A O H) A xs vs → KV' K b A O H P Q → r vs H Q
def WM (K : PySem.W.Frag) (r : V → List V → Hp → VK → Prop) (x : T) (xs : List T) (O : List OD) (P : PT') : Prop :=
  ∀ b A H Q v vs, StO K b A O H → RepT K (Fz b A O H) A x (some v) → RepTs K (Fz b A O H) A xs vs → KV' K b A O H P Q → r v vs H Q

/-! ### ends of a block -/
structure DE where
  nx : List T → List OD → Prop
  rt : PT'
  bk : List T → List OD → Prop := fun _ _ => False
  ct : List T → List OD → Prop := fun _ _ => False
  xe : Value → Option (List (Str × D)) → List T → List OD → Prop := fun _ _ _ _ => False
def KN (K : PySem.W.Frag) (b : Bs) (A : List Addr) (O : List OD) (H : Hp) (N : List T → List OD → Prop) (Q : L2.St → Hp → Prop) : Prop :=
  ∀ ts σ A' O' H', N ts O' → StO K b A' O' H' → Nxt b A O H A' O' H' → RepS K (Fz b A' O' H') A' ts σ → Q σ H'
structure KS (K : PySem.W.Frag) (W : WX) (b : Bs) (A : List Addr) (O : List OD) (H : Hp) (E : DE) (D : Ends) : Prop where
  nx : KN K b A O H E.nx D.nx
  rt : KV' K b A O H E.rt D.rt
  bk : KN K b A O H E.bk D.bk
  ct : KN K b A O H E.ct D.ct
  xe : ∀ C fs ts σ A' O' H' d, E.xe C fs ts O' → StO K b A' O' H' → Nxt b A O H A' O' H' → RepS K (Fz b A' O' H') A' ts σ → RepX K (Fz b A' O' H') H' fs d → W C d σ H'
def WS (K : PySem.W.Frag) (W : WX) (t : TS) (O : List OD) (ts : List T) (E : DE) : Prop :=
  ∀ b A σ H D, StO K b A O H → RepS K (Fz b A O H) A ts σ → KS K W b A O H E D → t D σ H
section
variable {K : PySem.W.Frag} {W : WX} {b : Bs} {A A' : List Addr} {O O' : List OD} {H H' : Hp} {σ : L2.St}
theorem KN.nxt {N : List T → List OD → Prop} {Q : L2.St → Hp → Prop} (k : KN K b A O H N Q) (n : Nxt b A O H A' O' H') : KN K b A' O' H' N Q := fun ts σ A2 O2 H2 x s m r => k ts σ A2 O2 H2 x s (n.trans m) r
theorem KS.nxt {E : DE} {D : Ends} (k : KS K W b A O H E D) (n : Nxt b A O H A' O' H') : KS K W b A' O' H' E D :=
  ⟨k.nx.nxt n, k.rt.nxt n, k.bk.nxt n, k.ct.nxt n, fun C fs ts σ A2 O2 H2 d x s m r q => k.xe C fs ts σ A2 O2 H2 d x s (n.trans m) r q⟩
theorem KS.kx {E : DE} {D : Ends} {ts : List T} (k : KS K W b A O H E D) (rs : RepS K (Fz b A O H) A ts σ) : KX K W b A O σ H (fun C fs O' => E.xe C fs ts O') :=
  fun C fs A' O' H' d x s m r => k.xe C fs ts σ A' O' H' d x s m (rs.nxt m) r
end

/-! ### expressions -/
section
variable {K : PySem.W.Frag} {W : WX} {O : List OD} {ts : List T} {P : PT'} {PB' : PB} {PL' : PL} {X : XX} {te ta tb tc : TE} {tt uu : TT} {tr : TA} {r r' : R2}
theorem WE.imp {P' : PT'} (h : WE K W te O ts P X) (q : ∀ t O', P t O' → P' t O') : WE K W te O ts P' X := fun b A σ H Q s rs k kx => h b A σ H Q s rs (fun t v A' O' H' p => k t v A' O' H' (q t O' p)) kx
theorem w_var {i : Nat} {t : T} (h : ts[i]? = some t) (hn : t ≠ .no) (k : P t O) : WE K W (tVar i) O ts P X := fun b A σ H Q s rs kv _ => by
  obtain ⟨o, e, rt⟩ := rs.2 i t h
  cases t with
  | v d =>
    obtain ⟨v, e2, rd⟩ := rt
    subst e2
    exact ⟨v, e, kv _ v A O H k s Nxt.refl ⟨v, rfl, rd⟩⟩
  | own j =>
    obtain ⟨a, e1, e2⟩ := rt
    subst e2
    exact ⟨_, e, kv _ _ A O H k s Nxt.refl ⟨a, e1, rfl⟩⟩
  | no => exact absurd rfl hn
  | clo R f =>
    obtain ⟨e1, m⟩ := rt
    subst e1
    exact ⟨_, e, kv _ _ A O H k s Nxt.refl ⟨rfl, m⟩⟩
theorem w_v {i : Nat} {d : D} (h : ts[i]? = some (.v d)) (k : P (.v d) O) : WE K W (tVar i) O ts P X := w_var h (fun z => by cases z) k
theorem w_o {i j : Nat} (h : ts[i]? = some (.own j)) (k : P (.own j) O) : WE K W (tVar i) O ts P X := w_var h (fun z => by cases z) k
theorem w_c {v : V} {d : D} (h : ∀ H, Rep K H d v) (k : P (.v d) O) : WE K W (tC v) O ts P X := fun b A σ H Q s rs kv _ => kv _ v A O H k s Nxt.refl ⟨v, rfl, h _⟩
theorem w_ci {i : Int} (k : P (.v (.int i)) O) : WE K W (tC (.int i)) O ts P X := w_c (d := .int i) (fun _ => rfl) k
theorem w_cb {i : Bool} (k : P (.v (.bl i)) O) : WE K W (tC (.bl i)) O ts P X := w_c (d := .bl i) (fun _ => rfl) k
theorem w_cs {i : Str} (k : P (.v (.str i)) O) : WE K W (tC (.str i)) O ts P X := w_c (d := .str i) (fun _ => rfl) k
theorem w_cn (k : P (.v .non) O) : WE K W (tC .non) O ts P X := w_c (d := .non) (fun _ => rfl) k
theorem w_cr {a : Addr} (k : P (.v (.ref a)) O) : WE K W (tC (.ref a)) O ts P X := w_c (d := .ref a) (fun _ => rfl) k
theorem w_cty {a : String} (k : P (.v (.ty a)) O) : WE K W (tC (.ty a)) O ts P X := w_c (d := .ty a) (fun _ => rfl) k
theorem w_op (h : WE K W ta O ts (fun x O1 => WE K W tb O1 ts (fun y O2 => WR K r x y O2 P) X) X) : WE K W (tOp r ta tb) O ts P X := fun b A σ H Q s rs kv kx => by
  refine h b A σ H _ s rs (fun x v A1 O1 H1 p1 s1 n1 r1 => ?_) kx
  refine p1 b A1 σ H1 _ s1 (rs.nxt n1) (fun y u A2 O2 H2 p2 s2 n2 r2 => ?_) (kx.nxt n1)
  exact p2 b A2 H2 Q v u s2 (r1.nxt n2) r2 (kv.nxt (n1.trans n2))
theorem w_un {r : V → Hp → VK → Prop} (h : WE K W ta O ts (fun x O1 => WU K r x O1 P) X) : WE K W (tUn r ta) O ts P X := fun b A σ H Q s rs kv kx =>
  h b A σ H _ s rs (fun x v A1 O1 H1 p1 s1 n1 r1 => p1 b A1 H1 Q v s1 r1 (kv.nxt n1)) kx
theorem w_I0 {g : Int → Int → V} {i j : Int} {d : D} (hd : ∀ H, Rep K H d (g i j)) (k : P (.v d) O) : WR K (rI0 g) (.v (.int i)) (.v (.int j)) O P := fun b A H Q v u s r1 r2 kv => by
  obtain ⟨_, e1, rfl⟩ := r1
  obtain ⟨_, e2, rfl⟩ := r2
  cases e1
  cases e2
  exact ⟨i, j, rfl, rfl, kv _ _ A O H k s Nxt.refl ⟨_, rfl, hd _⟩⟩
theorem w_I {C : Int → Int → Prop} {g : Int → Int → V} {i j : Int} {d : D} (hc : C i j) (hd : ∀ H, Rep K H d (g i j)) (k : P (.v d) O) : WR K (rI C g) (.v (.int i)) (.v (.int j)) O P := fun b A H Q v u s r1 r2 kv => by
  obtain ⟨_, e1, rfl⟩ := r1
  obtain ⟨_, e2, rfl⟩ := r2
  cases e1
  cases e2
  exact ⟨i, j, rfl, rfl, hc, kv _ _ A O H k s Nxt.refl ⟨_, rfl, hd _⟩⟩
theorem w_Ui {g : Int → V} {i : Int} {d : D} (hd : ∀ H, Rep K H d (g i)) (k : P (.v d) O) : WU K (rU g) (.v (.int i)) O P := fun b A H Q v s r1 kv => by
  obtain ⟨_, e1, rfl⟩ := r1
  cases e1
  exact ⟨i, rfl, kv _ _ A O H k s Nxt.refl ⟨_, rfl, hd _⟩⟩
/-- values that are no objects -/
def scalD : D → Option V
  | .non => some .non
  | .bl b => some (.bl b)
  | .int i => some (.int i)
  | .str x => some (.str x)
  | _ => none
theorem scalD_rep {K : PySem.W.Frag} {H : Hp} {d : D} {v w : V} (h : scalD d = some v) (r : Rep K H d w) : w = v := by
  cases d <;> first | (have e := Option.some.inj h; subst e; exact r) | cases h
theorem w_eq {d e : D} {v u : V} (h1 : scalD d = some v) (h2 : scalD e = some u) (hs : scal v u = true) (k : P (.v (.bl (decide (v = u)))) O) : WR K rEq (.v d) (.v e) O P := fun b A H Q x y s r1 r2 kv => by
  obtain ⟨_, e1, q1⟩ := r1
  obtain ⟨_, e2, q2⟩ := r2
  cases e1
  cases e2
  rw [scalD_rep h1 q1, scalD_rep h2 q2]
  exact ⟨hs, kv _ _ A O H k s Nxt.refl ⟨_, rfl, rfl⟩⟩
theorem w_ne {d e : D} {v u : V} (h1 : scalD d = some v) (h2 : scalD e = some u) (hs : scal v u = true) (k : P (.v (.bl (!decide (v = u)))) O) : WR K rNe (.v d) (.v e) O P := fun b A H Q x y s r1 r2 kv => by
  obtain ⟨_, e1, q1⟩ := r1
  obtain ⟨_, e2, q2⟩ := r2
  cases e1
  cases e2
  rw [scalD_rep h1 q1, scalD_rep h2 q2]
  exact ⟨hs, kv _ _ A O H k s Nxt.refl ⟨_, rfl, rfl⟩⟩
theorem dI (i j : Int) : decide (V.int i = V.int j) = decide (i = j) := by
  by_cases h : i = j
  · subst h
    simp
  · rw [decide_eq_false h, decide_eq_false (fun z => h (V.int.inj z))]
theorem w_eqI {i j : Int} (k : P (.v (.bl (decide (i = j)))) O) : WR K rEq (.v (.int i)) (.v (.int j)) O P := w_eq rfl rfl rfl (by rw [dI]; exact k)
theorem w_neI {i j : Int} (k : P (.v (.bl (!decide (i = j)))) O) : WR K rNe (.v (.int i)) (.v (.int j)) O P := w_ne rfl rfl rfl (by rw [dI]; exact k)
/-! tests -/
theorem w_test (h : WE K W te O ts (fun t O' => ∃ c, t = .v (.bl c) ∧ PB' c O') X) : WT K W (tTest te) O ts PB' X := fun b A σ H Q s rs kb kx =>
  h b A σ H _ s rs (fun t v A1 O1 H1 p1 s1 n1 r1 => by
    obtain ⟨c, rfl, p⟩ := p1
    obtain ⟨_, e, rfl⟩ := r1
    cases e
    exact ⟨c, rfl, kb c A1 O1 H1 p s1 n1⟩) kx
theorem w_B (h : WE K W te O ts (fun t O' => ∃ c, t = .v (.bl c) ∧ PB' c O') X) : WT K W (tB te) O ts PB' X := w_test h
theorem w_and (h : WT K W tt O ts (fun c O' => (c = true → WT K W uu O' ts PB' X) ∧ (c = false → PB' false O')) X) : WT K W (tAnd tt uu) O ts PB' X := fun b A σ H Q s rs kb kx =>
  h b A σ H _ s rs (fun c A1 O1 H1 p1 s1 n1 => by
    cases c with
    | true => exact iteT (p1.1 rfl b A1 σ H1 Q s1 (rs.nxt n1) (kb.nxt n1) (kx.nxt n1))
    | false => exact iteF (kb false A1 O1 H1 (p1.2 rfl) s1 n1)) kx
theorem w_or (h : WT K W tt O ts (fun c O' => (c = true → PB' true O') ∧ (c = false → WT K W uu O' ts PB' X)) X) : WT K W (tOr tt uu) O ts PB' X := fun b A σ H Q s rs kb kx =>
  h b A σ H _ s rs (fun c A1 O1 H1 p1 s1 n1 => by
    cases c with
    | true => exact iteT (kb true A1 O1 H1 (p1.1 rfl) s1 n1)
    | false => exact iteF (p1.2 rfl b A1 σ H1 Q s1 (rs.nxt n1) (kb.nxt n1) (kx.nxt n1))) kx
theorem w_not (h : WT K W tt O ts (fun c O' => PB' (!c) O') X) : WT K W (tNot tt) O ts PB' X := fun b A σ H Q s rs kb kx =>
  h b A σ H _ s rs (fun c A1 O1 H1 p1 s1 n1 => kb (!c) A1 O1 H1 p1 s1 n1) kx
theorem w_andV (h : WE K W ta O ts (fun t O' => ∃ c, t = .v (.bl c) ∧ (c = true → WE K W tb O' ts P X) ∧ (c = false → P (.v (.bl false)) O')) X) : WE K W (tAndV ta tb) O ts P X := fun b A σ H Q s rs kv kx =>
  h b A σ H _ s rs (fun t v A1 O1 H1 p1 s1 n1 r1 => by
    obtain ⟨c, rfl, pt, pf⟩ := p1
    obtain ⟨_, e, rfl⟩ := r1
    cases e
    refine ⟨c, rfl, ?_⟩
    cases c with
    | true => exact iteT (pt rfl b A1 σ H1 Q s1 (rs.nxt n1) (kv.nxt n1) (kx.nxt n1))
    | false => exact iteF (kv _ _ A1 O1 H1 (pf rfl) s1 n1 ⟨_, rfl, rfl⟩)) kx
theorem w_orV (h : WE K W ta O ts (fun t O' => ∃ c, t = .v (.bl c) ∧ (c = true → P (.v (.bl true)) O') ∧ (c = false → WE K W tb O' ts P X)) X) : WE K W (tOrV ta tb) O ts P X := fun b A σ H Q s rs kv kx =>
  h b A σ H _ s rs (fun t v A1 O1 H1 p1 s1 n1 r1 => by
    obtain ⟨c, rfl, pt, pf⟩ := p1
    obtain ⟨_, e, rfl⟩ := r1
    cases e
    refine ⟨c, rfl, ?_⟩
    cases c with
    | true => exact iteT (kv _ _ A1 O1 H1 (pt rfl) s1 n1 ⟨_, rfl, rfl⟩)
    | false => exact iteF (pf rfl b A1 σ H1 Q s1 (rs.nxt n1) (kv.nxt n1) (kx.nxt n1))) kx
theorem w_notV (h : WE K W ta O ts (fun t O' => ∃ c, t = .v (.bl c) ∧ P (.v (.bl (!c))) O') X) : WE K W (tNotV ta) O ts P X := fun b A σ H Q s rs kv kx =>
  h b A σ H _ s rs (fun t v A1 O1 H1 p1 s1 n1 r1 => by
    obtain ⟨c, rfl, p⟩ := p1
    obtain ⟨_, e, rfl⟩ := r1
    cases e
    exact ⟨c, rfl, kv _ _ A1 O1 H1 p s1 n1 ⟨_, rfl, rfl⟩⟩) kx
theorem w_ife (h : WT K W tt O ts (fun c O' => (c = true → WE K W ta O' ts P X) ∧ (c = false → WE K W tb O' ts P X)) X) : WE K W (tIf tt ta tb) O ts P X := fun b A σ H Q s rs kv kx =>
  h b A σ H _ s rs (fun c A1 O1 H1 p1 s1 n1 => by
    cases c with
    | true => exact iteT (p1.1 rfl b A1 σ H1 Q s1 (rs.nxt n1) (kv.nxt n1) (kx.nxt n1))
    | false => exact iteF (p1.2 rfl b A1 σ H1 Q s1 (rs.nxt n1) (kv.nxt n1) (kx.nxt n1))) kx
theorem w_chain {t3 : TE} (h : WE K W ta O ts (fun x O1 => WE K W tb O1 ts (fun y O2 => WR K r x y O2 (fun z O3 => ∃ c, z = .v (.bl c) ∧ (c = true → WE K W t3 O3 ts (fun w' O4 => WR K r' y w' O4 P) X) ∧ (c = false → P (.v (.bl false)) O3))) X) X) :
    WE K W (tChain r r' ta tb t3) O ts P X := fun b A σ H Q s rs kv kx => by
  refine h b A σ H _ s rs (fun x v A1 O1 H1 p1 s1 n1 r1 => ?_) kx
  refine p1 b A1 σ H1 _ s1 (rs.nxt n1) (fun y u A2 O2 H2 p2 s2 n2 r2 => ?_) (kx.nxt n1)
  refine p2 b A2 H2 _ v u s2 (r1.nxt n2) r2 (fun z w' A3 O3 H3 p3 s3 n3 r3 => ?_)
  obtain ⟨c, rfl, pt, pf⟩ := p3
  obtain ⟨_, e, rfl⟩ := r3
  cases e
  refine ⟨c, rfl, ?_⟩
  have n13 := (n1.trans n2).trans n3
  cases c with
  | true => exact iteT (pt rfl b A3 σ H3 _ s3 (rs.nxt n13) (fun y4 u4 A4 O4 H4 p4 s4 n4 r4 => p4 b A4 H4 Q u u4 s4 (r2.nxt (n3.trans n4)) r4 (kv.nxt (n13.trans n4))) (kx.nxt n13))
  | false => exact iteF (kv _ _ A3 O3 H3 (pf rfl) s3 n13 ⟨_, rfl, rfl⟩)
/-! arguments, displays -/
theorem w_nil (k : PL' [] O) : WA K W tNil O ts PL' X := fun b A σ H Q s rs kl _ => kl [] [] A O H k s Nxt.refl rfl
theorem w_cons (h : WE K W te O ts (fun x O1 => WA K W tr O1 ts (fun xs O2 => PL' (x :: xs) O2) X) X) : WA K W (tCons te tr) O ts PL' X := fun b A σ H Q s rs kl kx =>
  h b A σ H _ s rs (fun x v A1 O1 H1 p1 s1 n1 r1 => p1 b A1 σ H1 _ s1 (rs.nxt n1) (fun xs vs A2 O2 H2 p2 s2 n2 r2 => kl _ _ A2 O2 H2 p2 s2 (n1.trans n2) ⟨v, vs, rfl, r1.nxt n2, r2⟩) (kx.nxt n1)) kx
theorem w_tup (h : WA K W tr O ts (fun xs O1 => ∃ ds, unv xs = some ds ∧ xs.length ≤ sizeLine ∧ P (.v (.tup ds)) O1) X) : WE K W (tTup tr) O ts P X := fun b A σ H Q s rs kv kx =>
  h b A σ H _ s rs (fun xs vs A1 O1 H1 p1 s1 n1 r1 => by
    obtain ⟨ds, e, l, p⟩ := p1
    refine ⟨by rw [r1.length]; exact l, fun p' hp => ?_⟩
    obtain ⟨s2, n2, q⟩ := s1.lay hp (.tup vs)
    exact kv _ _ A1 O1 _ p s2 (n1.trans n2) ⟨_, rfl, p', vs, rfl, SqT.of q, (r1.plain e).ex n2.ext⟩) kx
theorem w_lst (h : WA K W tr O ts (fun xs O1 => ∃ ds, unv xs = some ds ∧ xs.length ≤ sizeLine ∧ P (.v (.lst ds)) O1) X) : WE K W (tLst tr) O ts P X := fun b A σ H Q s rs kv kx =>
  h b A σ H _ s rs (fun xs vs A1 O1 H1 p1 s1 n1 r1 => by
    obtain ⟨ds, e, l, p⟩ := p1
    refine ⟨by rw [r1.length]; exact l, fun p' hp => ?_⟩
    obtain ⟨s2, n2, q⟩ := s1.lay hp (.lst vs)
    exact kv _ _ A1 O1 _ p s2 (n1.trans n2) ⟨_, rfl, p', vs, rfl, q, (r1.plain e).ex n2.ext⟩) kx
/-- a list that is owned -/
theorem w_lstO (h : WA K W tr O ts (fun xs O1 => ∃ ds, unv xs = some ds ∧ xs.length ≤ sizeLine ∧ P (.own O1.length) (O1 ++ [.lst ds])) X) : WE K W (tLst tr) O ts P X := fun b A σ H Q s rs kv kx =>
  h b A σ H _ s rs (fun xs vs A1 O1 H1 p1 s1 n1 r1 => by
    obtain ⟨ds, e, l, p⟩ := p1
    refine ⟨by rw [r1.length]; exact l, fun p' hp => ?_⟩
    obtain ⟨s2, n2⟩ := s1.own (o := .lst ds) hp ⟨vs, upd_same, r1.plain e⟩
    refine kv _ _ _ _ _ p s2 (n1.trans n2) ⟨p', ?_, rfl⟩
    rw [← s1.len, List.getElem?_append_right (Nat.le_refl _), Nat.sub_self]
    exact rfl) kx
theorem w_call {rc : List V → Hp → VK → Prop} (h : WA K W tr O ts (fun xs O1 => WC K rc xs O1 P) X) : WE K W (tCB rc tr) O ts P X := fun b A σ H Q s rs kv kx =>
  h b A σ H _ s rs (fun xs vs A1 O1 H1 p1 s1 n1 r1 => p1 b A1 H1 Q vs s1 r1 (kv.nxt n1)) kx
end
end G

set_option Elab.async false
set_option linter.all false
set_option maxRecDepth 100000
set_option maxHeartbeats 4000000
namespace G
open PySem PySem.Spec PyProof.Rows L2

/-! ### statements -/
section
variable {K : PySem.W.Frag} {W : WX} {O : List OD} {ts : List T} {E : DE} {t u : TS} {te : TE} {tt : TT} {ta : TA}
theorem WS.imp {E' : DE} (h : WS K W t O ts E) (hn : ∀ ts O, E.nx ts O → E'.nx ts O) (hr : ∀ t O, E.rt t O → E'.rt t O) (hb : ∀ ts O, E.bk ts O → E'.bk ts O) (hc : ∀ ts O, E.ct ts O → E'.ct ts O) (hx : ∀ C fs ts O, E.xe C fs ts O → E'.xe C fs ts O) : WS K W t O ts E' :=
  fun b A σ H D s rs ks => h b A σ H D s rs ⟨fun ts σ A' O' H' p => ks.nx ts σ A' O' H' (hn _ _ p), fun t v A' O' H' p => ks.rt t v A' O' H' (hr _ _ p), fun ts σ A' O' H' p => ks.bk ts σ A' O' H' (hb _ _ p), fun ts σ A' O' H' p => ks.ct ts σ A' O' H' (hc _ _ p),
    fun C fs ts σ A' O' H' d p => ks.xe C fs ts σ A' O' H' d (hx _ _ _ _ p)⟩
theorem s_next (k : E.nx ts O) : WS K W tNext O ts E := fun b A σ H D s rs ks => ks.nx ts σ A O H k s Nxt.refl rs
theorem s_brk (k : E.bk ts O) : WS K W tBreak O ts E := fun b A σ H D s rs ks => ks.bk ts σ A O H k s Nxt.refl rs
theorem s_cont (k : E.ct ts O) : WS K W tCont O ts E := fun b A σ H D s rs ks => ks.ct ts σ A O H k s Nxt.refl rs
theorem s_seq (h : WS K W t O ts { E with nx := fun ts' O' => WS K W u O' ts' E }) : WS K W (tSeq t u) O ts E := fun b A σ H D s rs ks =>
  h b A σ H { D with nx := u D } s rs ⟨fun ts' σ' A' O' H' p s' n' rs' => p b A' σ' H' D s' rs' (ks.nxt n'), ks.rt, ks.bk, ks.ct, ks.xe⟩
/-- the same, with a word between -/
theorem s_cut (M : List T → List OD → Prop) (h : WS K W t O ts { E with nx := M }) (k : ∀ ts' O', M ts' O' → WS K W u O' ts' E) : WS K W (tSeq t u) O ts E :=
  s_seq (WS.imp h (fun ts O p => k ts O p) (fun _ _ p => p) (fun _ _ p => p) (fun _ _ p => p) (fun _ _ _ _ p => p))
theorem s_drop (h : WE K W te O ts (fun _ O' => E.nx ts O') (fun C fs O' => E.xe C fs ts O')) : WS K W (tDrop te) O ts E := fun b A σ H D s rs ks =>
  h b A σ H _ s rs (fun t v A' O' H' p s' n' r' => ks.nx ts σ A' O' H' p s' n' (rs.nxt n')) (ks.kx rs)
theorem s_ret (h : WE K W te O ts E.rt (fun C fs O' => E.xe C fs ts O')) : WS K W (tRet te) O ts E := fun b A σ H D s rs ks => h b A σ H _ s rs ks.rt (ks.kx rs)
theorem s_retN (k : E.rt (.v .non) O) : WS K W tRetN O ts E := fun b A σ H D s rs ks => ks.rt (.v .non) .non A O H k s Nxt.refl ⟨_, rfl, rfl⟩
theorem s_if (h : WT K W tt O ts (fun c O' => (c = true → WS K W t O' ts E) ∧ (c = false → WS K W u O' ts E)) (fun C fs O' => E.xe C fs ts O')) : WS K W (tIfS tt t u) O ts E := fun b A σ H D s rs ks =>
  h b A σ H _ s rs (fun c A1 O1 H1 p1 s1 n1 => by
    cases c with
    | true => exact iteT (p1.1 rfl b A1 σ H1 D s1 (rs.nxt n1) (ks.nxt n1))
    | false => exact iteF (p1.2 rfl b A1 σ H1 D s1 (rs.nxt n1) (ks.nxt n1))) (ks.kx rs)

/-! targets -/
theorem repT_int {F : Hp} {A : List Addr} (i : Int) : RepT K F A (.v (.int i)) (some (.int i)) := ⟨_, rfl, rfl⟩
def WG (K : PySem.W.Frag) (W : WX) (g : TG) (t : T) (O : List OD) (ts : List T) (N : List T → List OD → Prop) : Prop :=
  ∀ b A σ H Q v, StO K b A O H → RepS K (Fz b A O H) A ts σ → RepT K (Fz b A O H) A t (some v) → KN K b A O H N Q → g v σ H Q
def WGs (K : PySem.W.Frag) (W : WX) (g : TGs) (xs : List T) (O : List OD) (ts : List T) (N : List T → List OD → Prop) : Prop :=
  ∀ b A σ H Q vs, StO K b A O H → RepS K (Fz b A O H) A ts σ → RepTs K (Fz b A O H) A xs vs → KN K b A O H N Q → g vs σ H Q
theorem g_name {i : Nat} {x : T} {N : List T → List OD → Prop} (k : N (ts.set i x) O) : WG K W (gName i) x O ts N := fun b A σ H Q v s rs r kn => kn _ _ A O H k s Nxt.refl (rs.set r i)
theorem g_nil {N : List T → List OD → Prop} (k : N ts O) : WGs K W gNil [] O ts N := fun b A σ H Q vs s rs r kn => ⟨r, kn ts σ A O H k s Nxt.refl rs⟩
theorem g_cons {g : TG} {gs : TGs} {x : T} {xs : List T} {N : List T → List OD → Prop} (h : WG K W g x O ts (fun ts' O' => WGs K W gs xs O' ts' N)) : WGs K W (gCons g gs) (x :: xs) O ts N := fun b A σ H Q vs s rs r kn => by
  obtain ⟨v, r', rfl, r1, r2⟩ := r
  exact ⟨v, r', rfl, h b A σ H _ v s rs r1 fun ts' σ' A' O' H' p s' n' rs' => p b A' σ' H' Q r' s' rs' (r2.nxt n') (kn.nxt n')⟩
theorem repTs_v {F : Hp} {A : List Addr} : ∀ {ds : List D} {vs : List V}, RepL K F ds vs → RepTs K F A (ds.map T.v) vs
  | [], _, h => h
  | d :: ds, _, h => by
    obtain ⟨v, r, e, h1, h2⟩ := h
    exact ⟨v, r, e, ⟨v, rfl, h1⟩, repTs_v h2⟩
/-- a, b = a tuple -/
theorem g_tup {n : Nat} {gs : TGs} {ds : List D} {N : List T → List OD → Prop} (hl : ds.length = n) (h : WGs K W gs (ds.map T.v) O ts N) : WG K W (gTup K n gs) (.v (.tup ds)) O ts N := fun b A σ H Q v s rs r kn => by
  obtain ⟨_, e, a, vs, rfl, h1, h2⟩ := r
  cases e
  exact ⟨a, vs, rfl, (hid_ex : Ex (Fz b A O H) H).t h1, by rw [h2.length]; exact hl, h b A σ H Q vs s rs (repTs_v h2) kn⟩
theorem s_asg {g : TG} (h : WE K W te O ts (fun t O' => WG K W g t O' ts E.nx) (fun C fs O' => E.xe C fs ts O')) : WS K W (tAsg te g) O ts E := fun b A σ H D s rs ks =>
  h b A σ H _ s rs (fun t v A' O' H' p s' n' r' => p b A' σ H' D.nx v s' (rs.nxt n') r' (ks.nx.nxt n')) (ks.kx rs)
theorem s_set {i : Nat} (h : WE K W te O ts (fun t O' => E.nx (ts.set i t) O') (fun C fs O' => E.xe C fs ts O')) : WS K W (tAsg te (gName i)) O ts E := s_asg (h.imp fun t O' p => g_name p)
theorem s_par {i j : Nat} (h : WA K W ta O ts (fun xs O' => ∃ x y, xs = [x, y] ∧ E.nx ((ts.set i x).set j y) O') (fun C fs O' => E.xe C fs ts O')) : WS K W (tPar i j ta) O ts E := fun b A σ H D s rs ks =>
  h b A σ H _ s rs (fun xs vs A' O' H' p s' n' r' => by
    obtain ⟨x, y, rfl, q⟩ := p
    obtain ⟨v, _, rfl, r1, w', _, rfl, r2, rfl⟩ := r'
    exact ⟨v, w', rfl, ks.nx _ _ A' O' H' q s' n' (((rs.nxt n').set r1 i).set r2 j)⟩) (ks.kx rs)
theorem s_aug {i : Nat} {f : Int → Int → Int} {a : Int} (ha : ts[i]? = some (.v (.int a))) (h : WE K W te O ts (fun t O' => ∃ c, t = .v (.int c) ∧ E.nx (ts.set i (.v (.int (f a c)))) O') (fun C fs O' => E.xe C fs ts O')) : WS K W (tAug i te (ipI f)) O ts E := fun b A σ H D s rs ks => by
  obtain ⟨o, e, v, rfl, rd⟩ := rs.2 i _ ha
  refine ⟨v, e, h b A σ H _ s rs (fun t y A' O' H' p s' n' r' => ?_) (ks.kx rs)⟩
  obtain ⟨c, rfl, q⟩ := p
  obtain ⟨_, e2, rd2⟩ := r'
  cases e2
  exact ⟨a, c, rd, rd2, ks.nx _ _ A' O' H' q s' n' ((rs.nxt n').set (repT_int (f a c)) i)⟩

/-! ### loops -/
/-- what a for loop's source is, over data: the items, as they come -/
def WI (K : PySem.W.Frag) (W : WX) (wi : TI) (O : List OD) (ts : List T) (S : (Nat → Option T) → List OD → Prop) (X : XX) : Prop :=
  ∀ b A σ H R, StO K b A O H → RepS K (Fz b A O H) A ts σ →
    (∀ J f A' O' H', S f O' → StO K b A' O' H' → Nxt b A O H A' O' H' →
      (∀ i A2 O2 H2, StO K b A2 O2 H2 → Nxt b A' O' H' A2 O2 H2 → (f i = none → (∀ j, j < i → f j ≠ none) → J.stop i H2) ∧ (∀ t, f i = some t → J.go i H2 ∧ ∀ x H3, J.yld i H2 x H3 → StO K b A2 O2 H3 ∧ Nxt b A2 O2 H2 A2 O2 H3 ∧ RepT K (Fz b A2 O2 H3) A2 t (some x))) → R J H') →
    KX K W b A O σ H X → wi σ H R
/-- the items of a list of data -/
def itD (ds : List D) : Nat → Option T := fun i => (ds[i]?).map T.v
theorem itD_none {ds : List D} {i : Nat} (h : itD ds i = none) : ds.length ≤ i := by
  unfold itD at h
  cases q : ds[i]? with
  | none => exact List.getElem?_eq_none_iff.mp q
  | some d =>
    rw [q] at h
    cases h
theorem itD_some {ds : List D} {i : Nat} {t : T} (h : itD ds i = some t) : ∃ d, ds[i]? = some d ∧ t = .v d := by
  unfold itD at h
  cases q : ds[i]? with
  | none =>
    rw [q] at h
    cases h
  | some d =>
    rw [q] at h
    exact ⟨d, rfl, (Option.some.inj h).symm⟩
theorem i_list {tl : TE} {S : (Nat → Option T) → List OD → Prop} {X : XX} (h : WE K W tl O ts (fun t O' => ∃ ds, t = .v (.lst ds) ∧ S (itD ds) O') X) : WI K W (iList K tl) O ts S X := fun b A σ H R s rs k kx =>
  h b A σ H _ s rs (fun t v A' O' H' p s' n' r' => by
    obtain ⟨ds, rfl, q⟩ := p
    obtain ⟨_, e, a, vs, rfl, h1, h2⟩ := r'
    replace h1 := SqL.of (K := K) h1
    cases e
    have h1' := (hid_ex : Ex (Fz b A' O' H') H').l h1
    refine ⟨a, rfl, ⟨vs, h1'⟩, k _ _ A' O' H' q s' n' fun i A2 O2 H2 s2 n2 => ⟨fun hn _ => ⟨vs, hid_ex.l (n2.ext.l h1), by rw [h2.length]; exact itD_none hn⟩, fun t ht => ?_⟩⟩
    obtain ⟨d, e1, rfl⟩ := itD_some ht
    obtain ⟨v, e2, r⟩ := h2.get e1
    have h2' : SqL K H2 a vs := hid_ex.l (n2.ext.l h1)
    refine ⟨⟨vs, v, h2', e2⟩, fun x H3 y => ?_⟩
    obtain ⟨rfl, y⟩ := y
    have e3 := (y vs h2').symm.trans e2
    have e4 : x = v := Option.some.inj e3
    subst e4
    exact ⟨s2, Nxt.refl, ⟨_, rfl, r.ex n2.ext⟩⟩) kx
theorem i_tup {tl : TE} {S : (Nat → Option T) → List OD → Prop} {X : XX} (h : WE K W tl O ts (fun t O' => ∃ ds, t = .v (.tup ds) ∧ S (itD ds) O') X) : WI K W (iTup K tl) O ts S X := fun b A σ H R s rs k kx =>
  h b A σ H _ s rs (fun t v A' O' H' p s' n' r' => by
    obtain ⟨ds, rfl, q⟩ := p
    obtain ⟨_, e, a, vs, rfl, h1, h2⟩ := r'
    cases e
    have h1' := (hid_ex : Ex (Fz b A' O' H') H').t h1
    refine ⟨a, rfl, ⟨vs, h1'⟩, k _ _ A' O' H' q s' n' fun i A2 O2 H2 s2 n2 => ⟨fun hn _ => ⟨vs, hid_ex.t (n2.ext.t h1), by rw [h2.length]; exact itD_none hn⟩, fun t ht => ?_⟩⟩
    obtain ⟨d, e1, rfl⟩ := itD_some ht
    obtain ⟨v, e2, r⟩ := h2.get e1
    have h2' : SqT K H2 a vs := hid_ex.t (n2.ext.t h1)
    refine ⟨⟨vs, v, h2', e2⟩, fun x H3 y => ?_⟩
    obtain ⟨rfl, y⟩ := y
    have e3 := (y vs h2').symm.trans e2
    have e4 : x = v := Option.some.inj e3
    subst e4
    exact ⟨s2, Nxt.refl, ⟨_, rfl, r.ex n2.ext⟩⟩) kx
/-- the integers from lo on, n of them -/
def itR (lo c : Int) (n : Nat) : Nat → Option T := fun i => if i < n then some (.v (.int (lo + (i : Int) * c))) else none
theorem itR_none {lo c : Int} {n i : Nat} (h : itR lo c n i = none) : n ≤ i := by
  unfold itR at h
  by_cases q : i < n
  · rw [if_pos q] at h
    cases h
  · omega
theorem itR_some {lo c : Int} {n i : Nat} {t : T} (h : itR lo c n i = some t) : i < n ∧ t = .v (.int (lo + (i : Int) * c)) := by
  unfold itR at h
  by_cases q : i < n
  · rw [if_pos q] at h
    exact ⟨q, (Option.some.inj h).symm⟩
  · rw [if_neg q] at h
    cases h
theorem r_facts {b : Bs} {lo : Int} {n : Nat} {A' : List Addr} {O' : List OD} {H' : Hp} (i : Nat) (A2 : List Addr) (O2 : List OD) (H2 : Hp) (s2 : StO K b A2 O2 H2) :
    (itR lo 1 n i = none → (∀ j, j < i → itR lo 1 n j ≠ none) → (Itr lo n).stop i H2) ∧ (∀ t, itR lo 1 n i = some t → (Itr lo n).go i H2 ∧ ∀ x H3, (Itr lo n).yld i H2 x H3 → StO K b A2 O2 H3 ∧ Nxt b A2 O2 H2 A2 O2 H3 ∧ RepT K (Fz b A2 O2 H3) A2 t (some x)) := by
  refine ⟨fun hn _ => itR_none hn, fun t ht => ?_⟩
  obtain ⟨hi, rfl⟩ := itR_some ht
  refine ⟨hi, fun x H3 y => ?_⟩
  obtain ⟨rfl, rfl⟩ := y
  exact ⟨s2, Nxt.refl, ⟨_, rfl, by rw [Int.mul_one]; exact rfl⟩⟩
theorem i_rng1 {S : (Nat → Option T) → List OD → Prop} {X : XX} (h : WA K W ta O ts (fun xs O' => ∃ j : Int, xs = [.v (.int j)] ∧ (-(2 ^ 62) ≤ j ∧ j < 2 ^ 62) ∧ S (itR 0 1 j.toNat) O') X) : WI K W (iRng1 ta) O ts S X := fun b A σ H R s rs k kx =>
  h b A σ H _ s rs (fun xs vs A' O' H' p s' n' r' => by
    obtain ⟨j, rfl, hj, q⟩ := p
    obtain ⟨v, _, rfl, ⟨_, e, rfl⟩, rfl⟩ := r'
    cases e
    exact ⟨j, rfl, hj.1, hj.2, k _ _ A' O' H' q s' n' fun i A2 O2 H2 s2 _ => r_facts (A' := A') (O' := O') (H' := H') i A2 O2 H2 s2⟩) kx
theorem i_rng2 {S : (Nat → Option T) → List OD → Prop} {X : XX} (h : WA K W ta O ts (fun xs O' => ∃ i j : Int, xs = [.v (.int i), .v (.int j)] ∧ (-(2 ^ 62) ≤ i ∧ i < 2 ^ 62 ∧ -(2 ^ 62) ≤ j ∧ j < 2 ^ 62) ∧ S (itR i 1 (j - i).toNat) O') X) : WI K W (iRng2 ta) O ts S X := fun b A σ H R s rs k kx =>
  h b A σ H _ s rs (fun xs vs A' O' H' p s' n' r' => by
    obtain ⟨i, j, rfl, hj, q⟩ := p
    obtain ⟨v, _, rfl, ⟨_, e, rfl⟩, w', _, rfl, ⟨_, e2, rfl⟩, rfl⟩ := r'
    cases e
    cases e2
    exact ⟨i, j, rfl, hj, k _ _ A' O' H' q s' n' fun i A2 O2 H2 s2 _ => r_facts (A' := A') (O' := O') (H' := H') i A2 O2 H2 s2⟩) kx
theorem i_rng3 {S : (Nat → Option T) → List OD → Prop} {X : XX} (h : WA K W ta O ts (fun xs O' => ∃ (i j c : Int) (n : Nat), xs = [.v (.int i), .v (.int j), .v (.int c)] ∧ RgC i j c n ∧ S (itR i c n) O') X) : WI K W (iRng3 ta) O ts S X := fun b A σ H R s rs k kx =>
  h b A σ H _ s rs (fun xs vs A' O' H' p s' n' r' => by
    obtain ⟨i, j, c, n, rfl, hj, q⟩ := p
    obtain ⟨v, _, rfl, ⟨_, e, rfl⟩, w', _, rfl, ⟨_, e2, rfl⟩, w2, _, rfl, ⟨_, e3, rfl⟩, rfl⟩ := r'
    cases e
    cases e2
    cases e3
    refine ⟨i, j, c, n, rfl, hj, k _ _ A' O' H' q s' n' fun i' A2 O2 H2 s2 _ => ⟨fun hn _ => itR_none hn, fun t ht => ?_⟩⟩
    obtain ⟨hi, rfl⟩ := itR_some ht
    refine ⟨hi, fun x H3 y => ?_⟩
    obtain ⟨rfl, rfl⟩ := y
    exact ⟨s2, Nxt.refl, ⟨_, rfl, rfl⟩⟩) kx

/-- a for loop by an invariant over the turn, the slots and the owned things; n: the number of items -/
theorem s_for {wi : TI} {g : TG} {tb : TS} (h : WI K W wi O ts (fun f O1 => ∃ (n : Nat) (I : Nat → List T → List OD → Prop), (∀ i, i < n → f i ≠ none) ∧ f n = none ∧ I 0 ts O1 ∧
      (∀ i t ts' O', i < n → f i = some t → I i ts' O' → WG K W g t O' ts' (fun ts2 O2 => WS K W tb O2 ts2 { E with nx := I (i + 1), ct := I (i + 1), bk := E.nx })) ∧ (∀ ts' O', I n ts' O' → E.nx ts' O')) (fun C fs O' => E.xe C fs ts O')) : WS K W (tFor wi g tb) O ts E := fun b A σ H D s rs ks =>
  h b A σ H _ s rs (fun J f A1 O1 H1 p s1 n1 fc => by
    obtain ⟨n, I, hf, hn, h0, hs, hd⟩ := p
    refine ⟨fun i m σ' H' => m = n - i ∧ i ≤ n ∧ ∃ ts' A' O', I i ts' O' ∧ StO K b A' O' H' ∧ Nxt b A1 O1 H1 A' O' H' ∧ RepS K (Fz b A' O' H') A' ts' σ', ⟨n, by omega, Nat.zero_le _, ts, A1, O1, h0, s1, Nxt.refl, rs.nxt n1⟩, ?_⟩
    rintro i m σ' H' ⟨rfl, hi, ts', A', O', hI, s', n', rs'⟩
    obtain ⟨c1, c2⟩ := fc i A' O' H' s' n'
    by_cases hlt : i < n
    · right
      obtain ⟨t, ht⟩ := Option.ne_none_iff_exists'.mp (hf i hlt)
      obtain ⟨hgo, hy⟩ := c2 t ht
      refine ⟨hgo, fun σ2 H2 => ∃ ts2 A2 O2, I (i + 1) ts2 O2 ∧ StO K b A2 O2 H2 ∧ Nxt b A1 O1 H1 A2 O2 H2 ∧ RepS K (Fz b A2 O2 H2) A2 ts2 σ2, fun σ2 H2 q => ⟨n - (i + 1), by omega, rfl, hlt, q⟩, fun x H3 y => ?_⟩
      obtain ⟨s3, n3, r3⟩ := hy x H3 y
      refine hs i t ts' O' hlt ht hI b A' σ' H3 _ x s3 (rs'.nxt n3) r3 fun ts4 σ4 A4 O4 H4 p4 s4 n4 rs4 => ?_
      have n14 := (n'.trans n3).trans n4
      refine p4 b A4 σ4 H4 _ s4 rs4 ⟨fun ts5 σ5 A5 O5 H5 p5 s5 n5 rs5 => ⟨ts5, A5, O5, p5, s5, n14.trans n5, rs5⟩, ks.rt.nxt (n1.trans n14), ks.nx.nxt (n1.trans n14), fun ts5 σ5 A5 O5 H5 p5 s5 n5 rs5 => ⟨ts5, A5, O5, p5, s5, n14.trans n5, rs5⟩,
        fun C fs ts5 σ5 A5 O5 H5 d p5 s5 n5 rs5 rx => ks.xe C fs ts5 σ5 A5 O5 H5 d p5 s5 ((n1.trans n14).trans n5) rs5 rx⟩
    · left
      have e : i = n := by omega
      subst e
      exact ⟨c1 hn hf, ks.nx ts' σ' A' O' H' (hd ts' O' hI) s' (n1.trans n') rs'⟩) (ks.kx rs)
/-- while: an invariant with a measure -/
theorem s_while {tb : TS} (I : Nat → List T → List OD → Prop) (m0 : Nat) (h0 : I m0 ts O)
    (hs : ∀ m ts' O', I m ts' O' → WT K W tt O' ts' (fun c O2 => (c = true → WS K W tb O2 ts' { E with nx := fun ts3 O3 => ∃ m', m' < m ∧ I m' ts3 O3, ct := fun ts3 O3 => ∃ m', m' < m ∧ I m' ts3 O3, bk := E.nx }) ∧ (c = false → E.nx ts' O2)) (fun C fs O2 => E.xe C fs ts' O2)) :
    WS K W (tWhile tt tb) O ts E := fun b A σ H D s rs ks => by
  refine ⟨fun m σ' H' => ∃ ts' A' O', I m ts' O' ∧ StO K b A' O' H' ∧ Nxt b A O H A' O' H' ∧ RepS K (Fz b A' O' H') A' ts' σ', ⟨m0, ts, A, O, h0, s, Nxt.refl, rs⟩, ?_⟩
  rintro m σ' H' ⟨ts', A', O', hI, s', n', rs'⟩
  refine hs m ts' O' hI b A' σ' H' _ s' rs' (fun c A2 O2 H2 p2 s2 n2 => ?_) ((ks.nxt n').kx rs')
  cases c with
  | true =>
    refine iteT ⟨fun σ3 H3 => ∃ m', m' < m ∧ ∃ ts3 A3 O3, I m' ts3 O3 ∧ StO K b A3 O3 H3 ∧ Nxt b A O H A3 O3 H3 ∧ RepS K (Fz b A3 O3 H3) A3 ts3 σ3, fun σ3 H3 q => q, ?_⟩
    have n12 := n'.trans n2
    exact p2.1 rfl b A2 σ' H2 _ s2 (rs'.nxt n2) ⟨fun ts3 σ3 A3 O3 H3 ⟨m', l, p3⟩ s3 n3 rs3 => ⟨m', l, ts3, A3, O3, p3, s3, n12.trans n3, rs3⟩, ks.rt.nxt n12, ks.nx.nxt n12, fun ts3 σ3 A3 O3 H3 ⟨m', l, p3⟩ s3 n3 rs3 => ⟨m', l, ts3, A3, O3, p3, s3, n12.trans n3, rs3⟩,
      fun C fs ts3 σ3 A3 O3 H3 d p3 s3 n3 rs3 rx => ks.xe C fs ts3 σ3 A3 O3 H3 d p3 s3 (n12.trans n3) rs3 rx⟩
  | false => exact iteF (ks.nx ts' σ' A2 O2 H2 (p2.2 rfl) s2 (n'.trans n2) (rs'.nxt n2))
end
end G

set_option Elab.async false
set_option linter.all false
set_option maxRecDepth 100000
set_option maxHeartbeats 4000000
namespace G
open PySem PySem.Spec PyProof.Rows L2

/-! ### owned things are given up -/
theorem live_app : ∀ {A M : List Addr} {O N : List OD}, A.length = O.length → live (A ++ M) (O ++ N) = live A O ++ live M N
  | [], _, [], _, _ => rfl
  | [], _, _ :: _, _, h => by simp at h
  | _ :: _, _, [], _, h => by simp at h
  | a :: A, M, u :: O, N, h => by
    have ih := live_app (A := A) (O := O) (M := M) (N := N) (by simpa using h)
    cases u <;> simp only [List.cons_append, live, ih]
section
variable {K : PySem.W.Frag} {b : Bs} {A M : List Addr} {O N : List OD} {H : Hp}
theorem StO.drop (s : StO K b (A ++ M) (O ++ N) H) (hl : A.length = O.length) (hp : ∃ L, A = b.A0 ++ L) : StO K b A O H ∧ Ex (Fz b (A ++ M) (O ++ N) H) (Fz b A O H) := by
  have e := live_app (M := M) (N := N) hl
  have sub : ∀ a, a ∈ live A O → a ∈ live (A ++ M) (O ++ N) := fun a h => by
    rw [e]
    exact List.mem_append_left _ h
  have x : Ex (Fz b (A ++ M) (O ++ N) H) (Fz b A O H) := hid_mono (fun _ _ _ h => h) fun a o h _ z => by
    rcases List.mem_append.mp z with z | z
    · exact h (List.mem_append_left _ (sub a z))
    · exact h (List.mem_append_right _ z)
  refine ⟨⟨hl, hp, s.ext.trans (hid_mono (fun _ _ _ h => h) fun a o h _ z => h (sub a z)), s.zs, (List.nodup_append.mp s.nd).1, fun a h => s.inh a (List.mem_append_left _ h), fun i a o h1 h2 => ?_, s.tb⟩, x⟩
  have l1 : i < A.length := (List.getElem?_eq_some_iff.mp h1).1
  exact (s.cell i a o (by rw [List.getElem?_append_left l1]; exact h1) (by rw [List.getElem?_append_left (by rw [← hl]; exact l1)]; exact h2)).ex x fun _ h => h
end

/-! ### a def's promise over data -/
def okG : List OD → Bool
  | [] => true
  | .gone :: _ => false
  | _ :: r => okG r
theorem okG_live : ∀ {A : List Addr} {O : List OD}, A.length = O.length → okG O = true → live A O = A
  | [], [], _, _ => rfl
  | [], _ :: _, h, _ => by simp at h
  | _ :: _, [], h, _ => by simp at h
  | a :: A, o :: O, h, g => by
    cases o with
    | gone => cases g
    | lst ds => exact congrArg (a :: ·) (okG_live (A := A) (O := O) (by simpa using h) g)
    | ins C fs => exact congrArg (a :: ·) (okG_live (A := A) (O := O) (by simpa using h) g)
    | dic kvs => exact congrArg (a :: ·) (okG_live (A := A) (O := O) (by simpa using h) g)
theorem okG_at : ∀ {O : List OD} {i : Nat} {o : OD}, okG O = true → O[i]? = some o → o ≠ .gone
  | [], _, _, _, h => by simp at h
  | o :: O, 0, _, g, h => by
    have e : o = _ := Option.some.inj h
    subst e
    intro z
    subst z
    cases g
  | o :: O, i + 1, _, g, h => by
    have g2 : okG O = true := by
      cases o with
      | gone => cases g
      | lst ds => exact g
      | ins C fs => exact g
      | dic kvs => exact g
    exact okG_at (i := i) g2 h

abbrev SpD := List T → List OD → PT' → XX → Prop
/-- the promise, over the heap -/
def lift (K : PySem.W.Frag) (sp : SpD) : Sp := fun vs H Q E => ∃ (Z A : List Addr) (O : List OD) (ts : List T) (P : PT') (X : XX),
  StO K ⟨hid A H, Z, A⟩ A O H ∧ okG O = true ∧ RepTs K (Fz ⟨hid A H, Z, A⟩ A O H) A ts vs ∧ sp ts O P X ∧
  (∀ t v O' H', P t O' → okG O' = true → StO K ⟨hid A H, Z, A⟩ A O' H' → RepT K (Fz ⟨hid A H, Z, A⟩ A O' H') A t (some v) → Q v H') ∧
  (∀ C fs O' H' d, X C fs O' → okG O' = true → StO K ⟨hid A H, Z, A⟩ A O' H' → RepX K (Fz ⟨hid A H, Z, A⟩ A O' H') H' fs d → E C d H')
theorem lift_len {K : PySem.W.Frag} {sp : SpD} {n : Nat} (h : ∀ ts O P X, sp ts O P X → ts.length = n) : ∀ vs H Q E, lift K sp vs H Q E → vs.length = n := fun vs H Q E ⟨_, _, _, ts, _, _, _, _, r, p, _, _⟩ => by
  rw [r.length]
  exact h _ _ _ _ p
/-- what a def hands back: an owned list of its own becomes plain data -/
def retOk (n : Nat) (P : PT') (t : T) (O : List OD) : Prop := okG (O.take n) = true ∧ match t with
  | .v d => P (.v d) (O.take n)
  | .own i => if i < n then P (.own i) (O.take n) else (match O[i]? with
    | some (.lst ds) => P (.v (.lst ds)) (O.take n)
    | some (.ins C fs) => P (.v (.ins C fs)) (O.take n)
    | some (.dic kvs) => P (.v (.dic kvs)) (O.take n)
    | _ => False)
  | _ => False
def bodyE (n : Nat) (P : PT') (X : XX) : DE where
  nx := fun _ O' => okG (O'.take n) = true ∧ P (.v .non) (O'.take n)
  rt := retOk n P
  xe := fun C fs _ O' => okG (O'.take n) = true ∧ X C fs (O'.take n)
def startT (N : Nat) (ts : List T) : List T := ts ++ List.replicate (N - ts.length) .no
theorem repS_start {K : PySem.W.Frag} {F : Hp} {A : List Addr} {N : List Str} {ts : List T} {vs : List V} (r : RepTs K F A ts vs) : RepS K F A (startT N.length ts) (L2.start N vs) := by
  have hl := r.length
  refine ⟨?_, fun i t h => ?_⟩
  · unfold startT L2.start
    rw [List.length_append, List.length_append, List.length_replicate, List.length_replicate, List.length_map, hl]
  · unfold startT at h
    unfold L2.start
    by_cases hi : i < ts.length
    · rw [List.getElem?_append_left hi] at h
      obtain ⟨v, e, q⟩ := r.get h
      refine ⟨some v, ?_, q⟩
      rw [List.getElem?_append_left (by rw [List.length_map, hl]; exact hi), List.getElem?_map, e]
      exact rfl
    · rw [List.getElem?_append_right (by omega)] at h
      rw [List.getElem?_append_right (by rw [List.length_map, hl]; omega), List.length_map, hl]
      rw [List.getElem?_replicate] at h ⊢
      by_cases h2 : i - ts.length < N.length - ts.length
      · rw [if_pos h2] at h ⊢
        have e : T.no = t := Option.some.inj h
        subst e
        exact ⟨_, rfl, trivial⟩
      · rw [if_neg h2] at h
        cases h
theorem enter {K : PySem.W.Frag} {sp : SpD} {t : TS} {N : List Str} {vs : List V} {H : Hp} {Q : VK} {E : XK} (h : lift K sp vs H Q E)
    (hb : ∀ ts O P X, sp ts O P X → okG O = true → WS K (fun c d _ H => E c d H) t O (startT N.length ts) (bodyE O.length P X)) : t { nx := fun _ H' => Q .non H', rt := Q } (L2.start N vs) H := by
  obtain ⟨Z, A, O, ts, P, X, s, g, r, p, hq, hx⟩ := h
  have hlen := s.len
  have shut : ∀ {A' O' H'}, StO K ⟨hid A H, Z, A⟩ A' O' H' → ∃ M, A' = A ++ M ∧ StO K ⟨hid A H, Z, A⟩ A (O'.take O.length) H' ∧ Ex (Fz ⟨hid A H, Z, A⟩ A' O' H') (Fz ⟨hid A H, Z, A⟩ A (O'.take O.length) H') := fun {A' O' H'} s' => by
    obtain ⟨M, e⟩ := s'.pre
    have e : A' = A ++ M := e
    subst e
    have l1 := s'.len
    rw [List.length_append] at l1
    have e2 : O' = O'.take O.length ++ O'.drop O.length := (List.take_append_drop _ _).symm
    have s2 := s'
    rw [e2] at s2
    obtain ⟨s3, x3⟩ := s2.drop (by rw [List.length_take]; omega) ⟨[], (List.append_nil A).symm⟩
    refine ⟨M, rfl, s3, ?_⟩
    rw [← e2] at x3
    exact x3
  refine hb ts O P X p g _ A _ H _ s (repS_start r) ⟨fun ts' σ' A' O' H' q s' _ _ => ?_, fun t v A' O' H' q s' _ rt => ?_, fun _ _ _ _ _ q => q.elim, fun _ _ _ _ _ q => q.elim, fun C fs ts' σ' A' O' H' d q s' _ _ rx => ?_⟩
  · obtain ⟨M, _, s3, _⟩ := shut s'
    exact hq (.v .non) .non _ H' q.2 q.1 s3 ⟨_, rfl, rfl⟩
  · obtain ⟨M, e, s3, x3⟩ := shut s'
    obtain ⟨q1, q2⟩ := q
    cases t with
    | v d =>
      obtain ⟨w, e4, r4⟩ := rt
      exact hq (.v d) v _ H' q2 q1 s3 ⟨w, e4, r4.ex x3⟩
    | own i =>
      obtain ⟨a, e4, e5⟩ := rt
      have ev : v = .ref a := Option.some.inj e5
      subst ev
      have q3 : if i < O.length then P (.own i) (O'.take O.length) else (match O'[i]? with
        | some (.lst ds) => P (.v (.lst ds)) (O'.take O.length)
        | some (.ins C fs) => P (.v (.ins C fs)) (O'.take O.length)
        | some (.dic kvs) => P (.v (.dic kvs)) (O'.take O.length)
        | _ => False) := q2
      by_cases hi : i < O.length
      · rw [if_pos hi] at q3
        refine hq (.own i) _ _ H' q3 q1 s3 ⟨a, ?_, rfl⟩
        rw [e, List.getElem?_append_left (by rw [hlen]; exact hi)] at e4
        exact e4
      · rw [if_neg hi] at q3
        have hn : a ∉ A := fun hm => by
          have nd := s'.nd
          rw [e] at nd e4
          rw [List.getElem?_append_right (by rw [hlen]; omega)] at e4
          exact (List.nodup_append.mp nd).2.2 a hm a (List.mem_of_getElem? e4) rfl
        have fz : ∀ o, H' a = some o → Fz ⟨hid A H, Z, A⟩ A (O'.take O.length) H' a = some o := fun o ho => hid_some.mpr ⟨fun z => by
          rcases List.mem_append.mp z with z | z
          · rw [okG_live s3.len q1] at z
            exact hn z
          · obtain ⟨o2, z2, _⟩ := s3.zs a z
            have z3 := (hid_some.mp z2).2
            have zz := s'.z_at (a := a) z
            cases ho' : O'[i]? with
            | none =>
              rw [ho'] at q3
              exact q3
            | some w =>
              rw [ho'] at q3
              have ng : w ≠ .gone := fun zz2 => by
                subst zz2
                exact q3
              exact zz.1 (live_at e4 ho' ng), ho⟩
        cases ho : O'[i]? with
        | none =>
          rw [ho] at q3
          exact q3.elim
        | some w =>
          rw [ho] at q3
          have c := s'.cell i a w e4 ho
          cases w with
          | gone => exact q3.elim
          | lst ds =>
            obtain ⟨us, c1, c2⟩ := c
            exact hq (.v (.lst ds)) _ _ H' q3 q1 s3 ⟨_, rfl, a, us, rfl, fz _ c1, c2.ex x3⟩
          | ins C fs =>
            obtain ⟨dx, us, c1, c2⟩ := c
            exact hq (.v (.ins C fs)) _ _ H' q3 q1 s3 ⟨_, rfl, a, dx, us, rfl, fz _ c1, c2.ex x3⟩
          | dic kvs =>
            obtain ⟨us, c1, c2⟩ := c
            exact hq (.v (.dic kvs)) _ _ H' q3 q1 s3 ⟨_, rfl, a, us, rfl, fz _ c1, c2.ex x3⟩
    | no => exact q2.elim
    | clo R f => exact q2.elim
  · obtain ⟨M, _, s3, x3⟩ := shut s'
    refine hx C fs _ H' d q.2 q.1 s3 ?_
    cases fs with
    | none => exact rx
    | some l =>
      obtain ⟨dx, us, r1, r2, r3⟩ := rx
      exact ⟨dx, us, r1, x3 _ _ r2 (by (first | assumption | exact nt_exc | exact fun _ z => (by cases z))), r3.ex x3⟩

/-! ### calls -/
section
variable {K : PySem.W.Frag} {W : WX} {O : List OD} {ts : List T} {P : PT'} {X : XX} {sp : SpD} {te ta : TE} {tr : TA} {E : XK}
theorem unv_reps {F : Hp} {A A' : List Addr} : ∀ {xs : List T} {vs : List V} {ds : List D}, unv xs = some ds → RepTs K F A xs vs → RepTs K F A' xs vs
  | [], _, _, _, h => h
  | .v d :: xs, _, ds, e, h => by
    obtain ⟨v, r, e1, ⟨w, e2, r2⟩, h2⟩ := h
    have e3 : (unv xs).map (d :: ·) = some ds := e
    cases q : unv xs with
    | none =>
      rw [q] at e3
      cases e3
    | some es => exact ⟨v, r, e1, ⟨w, e2, r2⟩, unv_reps q h2⟩
  | .own _ :: _, _, _, e, _ => by cases e
  | .no :: _, _, _, e, _ => by cases e
  | .clo _ _ :: _, _, _, e, _ => by cases e
/-- into a def that is handed plain data alone -/
theorem lift_p {b : Bs} {A : List Addr} {O : List OD} {H : Hp} {σ : L2.St} {Q : VK} {vs : List V} {xs : List T} {ds : List D} (s : StO K b A O H) (r : RepTs K (Fz b A O H) A xs vs) (hx : unv xs = some ds) (hE : ∀ C d H, W C d σ H → E C d H)
    (p : sp xs [] (fun t _ => (∃ d, t = .v d) ∧ P t O) (fun C fs _ => X C fs O)) (kv : KV' K b A O H P Q) (kx : KX K W b A O σ H X) : lift K sp vs H Q E := by
  have eh : hid [] H = H := by
    funext a
    unfold hid
    rw [if_neg (by simp)]
  have nz : ∀ a, a ∈ live A O ++ b.Z → ∃ o, H a = some o ∧ OB o := fun a h => by
    rcases List.mem_append.mp h with h | h
    · exact s.some_at h
    · exact (s.z_at h).2
  have back : ∀ {H'}, StO K ⟨hid [] H, live A O ++ b.Z, []⟩ [] [] H' → StO K b A O H' ∧ Nxt b A O H A O H' := fun {H'} s' => by
    have x : Ex H H' := by
      have x1 := s'.ext
      have e2 : hid (live [] []) H' = H' := by
        funext a
        show hid [] H' a = H' a
        unfold hid
        rw [if_neg (by simp)]
      rw [e2] at x1
      have x2 : Ex (hid [] H) H' := x1
      rw [eh] at x2
      exact x2
    have x3 : Ex (Fz b A O H) (Fz b A O H') := hid_monoW (fun a o _ h n => x a o h n) fun _ _ h _ => h
    exact ⟨⟨s.len, s.pre, s.ext.trans (hid_monoW (fun a o _ h n => x a o h n) fun _ _ h _ => h), s.zs, s.nd, fun a h => let ⟨o, q, n⟩ := s.inh a h; ⟨o, x a o q n, n⟩, fun i a o h1 h2 => (s.cell i a o h1 h2).exW x3 (x a), s'.tb⟩, ⟨[], (List.append_nil A).symm⟩, x3⟩
  refine ⟨live A O ++ b.Z, [], [], xs, _, _, ⟨rfl, ⟨[], rfl⟩, ?_, fun z hz => ?_, List.nodup_nil, fun a h => (by simp at h), fun i a o h _ => (by simp at h), s.tb⟩, rfl, unv_reps hx r, p, fun t v O' H' ⟨⟨d, e⟩, q⟩ g s' rt => ?_, fun C fs O' H' d q g s' rx => ?_⟩
  · show Ex (hid [] H) (hid [] H)
    exact Ex.refl _
  · obtain ⟨o, q, n⟩ := nz z hz
    exact ⟨o, by show hid [] H z = some o; rw [eh]; exact q, n⟩
  · have e0 : O' = [] := List.length_eq_zero_iff.mp s'.len.symm
    subst e0
    obtain ⟨s2, n2⟩ := back s'
    subst e
    exact kv _ v A O H' q s2 n2 rt
  · have e0 : O' = [] := List.length_eq_zero_iff.mp s'.len.symm
    subst e0
    obtain ⟨s2, n2⟩ := back s'
    exact hE C d H' (kx C fs A O H' d q s2 n2 rx)
theorem w_fn (hE : ∀ C d σ H, W C d σ H → E C d H) (h : WA K W tr O ts (fun xs O1 => ∃ ds, unv xs = some ds ∧ sp xs [] (fun t _ => (∃ d, t = .v d) ∧ P t O1) (fun C fs _ => X C fs O1)) X) : WE K W (tCall (lift K sp) [] E tr) O ts P X := fun b A σ H Q s rs kv kx =>
  h b A σ H _ s rs (fun xs vs A1 O1 H1 p1 s1 n1 r1 => by
    obtain ⟨ds, e, p⟩ := p1
    rw [List.append_nil]
    exact lift_p (W := W) (σ := σ) s1 r1 e (fun C d H => hE C d σ H) p (kv.nxt n1) (kx.nxt n1)) kx
/-- .. one that lets no exception out -/
theorem w_fn0 (h : WA K W tr O ts (fun xs O1 => ∃ ds, unv xs = some ds ∧ sp xs [] (fun t _ => (∃ d, t = .v d) ∧ P t O1) (fun _ _ _ => False)) X) : WE K W (tCall (lift K sp) [] E0 tr) O ts P X := fun b A σ H Q s rs kv kx =>
  h b A σ H _ s rs (fun xs vs A1 O1 H1 p1 s1 n1 r1 => by
    obtain ⟨ds, e, p⟩ := p1
    rw [List.append_nil]
    exact lift_p (W := fun _ _ _ _ => False) (X := fun _ _ _ => False) (σ := σ) s1 r1 e (fun C d H z => z) p (kv.nxt n1) (fun C fs A' O' H' d z => z.elim)) kx
end
end G

set_option Elab.async false
set_option linter.all false
set_option maxRecDepth 100000
set_option maxHeartbeats 4000000
namespace G
open PySem PySem.Spec PyProof.Rows L2

section
variable {K : PySem.W.Frag} {W : WX} {O : List OD} {ts : List T} {P : PT'} {X : XX} {sp : SpD} {te ta : TE} {tr : TA} {E : XK}
/-- into a def that is handed one owned thing, the i-th one (by it .own 0) -/
def tr1 (i : Nat) : List T → Option (List T)
  | [] => some []
  | .v d :: r => (tr1 i r).map (.v d :: ·)
  | .own j :: r => if j = i then (tr1 i r).map (.own 0 :: ·) else none
  | _ :: _ => none
/-- what a def may hand back -/
def okR : T → Bool
  | .v _ => true
  | .own _ => true
  | _ => false
abbrev un1 (i : Nat) : T → T
  | .own _ => .own i
  | t => t
theorem tr1_reps {F : Hp} {A : List Addr} {i : Nat} {a : Addr} (ha : A[i]? = some a) : ∀ {xs ys : List T} {vs : List V}, tr1 i xs = some ys → RepTs K F A xs vs → RepTs K F [a] ys vs
  | [], ys, _, e, h => by
    have e2 : [] = ys := Option.some.inj e
    subst e2
    exact h
  | .v d :: xs, ys, _, e, h => by
    obtain ⟨v, r, e1, ⟨w, e2, r2⟩, h2⟩ := h
    have e3 : (tr1 i xs).map (.v d :: ·) = some ys := e
    cases q : tr1 i xs with
    | none =>
      rw [q] at e3
      cases e3
    | some es =>
      rw [q] at e3
      have e4 : .v d :: es = ys := Option.some.inj e3
      subst e4
      exact ⟨v, r, e1, ⟨w, e2, r2⟩, tr1_reps ha q h2⟩
  | .own j :: xs, ys, _, e, h => by
    obtain ⟨v, r, e1, ⟨c, e2, r2⟩, h2⟩ := h
    have e3 : (if j = i then (tr1 i xs).map (.own 0 :: ·) else none) = some ys := e
    by_cases hj : j = i
    · rw [if_pos hj] at e3
      subst hj
      cases q : tr1 j xs with
      | none =>
        rw [q] at e3
        cases e3
      | some es =>
        rw [q] at e3
        have e4 : .own 0 :: es = ys := Option.some.inj e3
        subst e4
        rw [ha] at e2
        have e5 : a = c := Option.some.inj e2
        subst e5
        exact ⟨v, r, e1, ⟨a, rfl, r2⟩, tr1_reps ha q h2⟩
    · rw [if_neg hj] at e3
      cases e3
  | .no :: _, _, _, e, _ => by cases e
  | .clo _ _ :: _, _, _, e, _ => by cases e
theorem lift_1 {b : Bs} {A : List Addr} {H : Hp} {σ : L2.St} {Q : VK} {vs : List V} {xs ys : List T} {i : Nat} {o : OD} (s : StO K b A O H) (r : RepTs K (Fz b A O H) A xs vs) (hx : tr1 i xs = some ys) (ho : O[i]? = some o) (ng : okG [o] = true) (hE : ∀ C d H, W C d σ H → E C d H)
    (p : sp ys [o] (fun t O' => ∃ o', O' = [o'] ∧ okR t = true ∧ P (un1 i t) (O.set i o')) (fun C fs O' => ∃ o', O' = [o'] ∧ X C fs (O.set i o'))) (kv : KV' K b A O H P Q) (kx : KX K W b A O σ H X) : lift K sp vs H Q E := by
  have ng1 : o ≠ .gone := fun z => by
    subst z
    cases ng
  have hi : i < A.length := by
    rw [s.len]
    exact (List.getElem?_eq_some_iff.mp ho).1
  obtain ⟨a, ha⟩ : ∃ a, A[i]? = some a := ⟨A[i], List.getElem?_eq_getElem hi⟩
  have hl : a ∈ live A O := live_at ha ho ng1
  have lv1 : ∀ {o' : OD}, o' ≠ .gone → live [a] [o'] = [a] := fun {o'} h => by
    cases o' with
    | gone => exact absurd rfl h
    | _ => rfl
  have mem : ∀ x, x ∈ [a] ++ ((live A O).filter (fun y => y != a) ++ b.Z) ↔ x ∈ live A O ++ b.Z := fun x => by
    simp only [List.mem_append, List.mem_singleton, List.mem_filter, bne_iff_ne, ne_eq]
    constructor
    · rintro (rfl | ⟨h, _⟩ | h)
      · exact .inl hl
      · exact .inl h
      · exact .inr h
    · rintro (h | h)
      · by_cases hx : x = a
        · exact .inl hx
        · exact .inr (.inl ⟨h, hx⟩)
      · exact .inr (.inr h)
  have hid_eq : ∀ H0 : Hp, hid ([a] ++ ((live A O).filter (fun y => y != a) ++ b.Z)) H0 = hid (live A O ++ b.Z) H0 := fun H0 => by
    funext x
    unfold hid
    by_cases hx : x ∈ live A O ++ b.Z
    · rw [if_pos hx, if_pos ((mem x).mpr hx)]
    · rw [if_neg hx, if_neg fun z => hx ((mem x).mp z)]
  have fzc : ∀ {o' : OD} {H0 : Hp}, o' ≠ .gone → Fz ⟨hid [a] H, (live A O).filter (fun y => y != a) ++ b.Z, [a]⟩ [a] [o'] H0 = hid (live A O ++ b.Z) H0 := fun {o' H0} h => by
    show hid (live [a] [o'] ++ ((live A O).filter (fun y => y != a) ++ b.Z)) H0 = _
    rw [lv1 h]
    exact hid_eq H0
  have back : ∀ {o' : OD} {H' : Hp}, o' ≠ .gone → StO K ⟨hid [a] H, (live A O).filter (fun y => y != a) ++ b.Z, [a]⟩ [a] [o'] H' → StO K b A (O.set i o') H' ∧ Nxt b A O H A (O.set i o') H' ∧ Fz b A (O.set i o') H' = hid (live A O ++ b.Z) H' := fun {o' H'} g s' => by
    have x : ∀ c u, c ≠ a → H c = some u → NT u → H' c = some u := fun c u hc h n => by
      have x1 : Ex (hid [a] H) (hid (live [a] [o']) H') := s'.ext
      exact (hid_some.mp (x1 c u (hid_some.mpr ⟨by simpa using hc, h⟩) n)).2
    have el : live A (O.set i o') = live A O := live_set ho ng1 g
    have x3 : Ex (Fz b A O H) (Fz b A (O.set i o') H') := by
      unfold Fz
      rw [el]
      exact hid_monoW (fun c u hc h n => x c u (fun z => hc (List.mem_append_left _ (by rw [z]; exact hl))) h n) fun _ _ h _ => h
    refine ⟨⟨by rw [List.length_set]; exact s.len, s.pre, ?_, s.zs, s.nd, fun c h => ?_, fun j c u h1 h2 => ?_, s'.tb⟩, ⟨⟨[], (List.append_nil A).symm⟩, x3⟩, by unfold Fz; rw [el]⟩
    · rw [el]
      exact s.ext.trans (hid_monoW (fun c u hc h n => x c u (fun z => hc (by rw [z]; exact hl)) h n) fun _ _ h _ => h)
    · by_cases z : c = a
      · rw [z]
        exact s'.inh a List.mem_cons_self
      · obtain ⟨u, q, n⟩ := s.inh c h
        exact ⟨u, x c u z q n, n⟩
    · rw [List.getElem?_set] at h2
      by_cases hij : i = j
      · subst hij
        rw [if_pos rfl] at h2
        rw [ha] at h1
        have e3 : a = c := Option.some.inj h1
        subst e3
        by_cases hlt : i < O.length
        · rw [if_pos hlt] at h2
          have e4 : o' = u := Option.some.inj h2
          subst e4
          have c := s'.cell 0 a o' rfl rfl
          refine c.ex (fun y w h _ => ?_) fun _ h => h
          rw [fzc g] at h
          unfold Fz
          rw [el]
          exact h
        · rw [if_neg hlt] at h2
          cases h2
      · rw [if_neg hij] at h2
        have hne : c ≠ a := fun z => hij (nd_ix s.nd ha (z ▸ h1))
        exact (s.cell j c u h1 h2).exW x3 fun w h n => x c w hne h n
  have one : ∀ {o' : OD}, okG [o'] = true → o' ≠ .gone := fun {o'} g z => by
    subst z
    cases g
  refine ⟨(live A O).filter (fun y => y != a) ++ b.Z, [a], [o], ys, _, _, ⟨rfl, ⟨[], rfl⟩, ?_, fun z hz => ?_, by simp, fun c h => ?_, fun j c u h1 h2 => ?_, s.tb⟩, ng, ?_, p, fun t v O' H' ⟨o', e, hn, q⟩ g s' rt => ?_, fun C fs O' H' d ⟨o', e, q⟩ g s' rx => ?_⟩
  · show Ex (hid [a] H) (hid (live [a] [o]) H)
    rw [lv1 ng1]
    exact Ex.refl _
  · have hz' : z ≠ a ∧ ∃ u, H z = some u ∧ OB u := by
      rcases List.mem_append.mp hz with hz | hz
      · obtain ⟨h1, h2⟩ := List.mem_filter.mp hz
        exact ⟨by simpa using h2, s.some_at h1⟩
      · obtain ⟨h1, h2⟩ := s.z_at hz
        exact ⟨fun z => h1 (by rw [z]; exact hl), h2⟩
    obtain ⟨h1, u, h2, n⟩ := hz'
    exact ⟨u, hid_some.mpr ⟨by simpa using h1, h2⟩, n⟩
  · rw [List.mem_singleton.mp h]
    obtain ⟨o2, q2, q3⟩ := s.some_at hl
    exact ⟨o2, q2, q3.1⟩
  · have hj : j = 0 := by
      cases j with
      | zero => rfl
      | succ n => simp at h1
    subst hj
    have e1 : a = c := Option.some.inj h1
    have e2 : o = u := Option.some.inj h2
    subst e1 e2
    rw [fzc ng1]
    exact s.cell i a o ha ho
  · rw [fzc ng1]
    exact tr1_reps ha hx r
  · subst e
    have g1 := one g
    obtain ⟨s2, n2, f2⟩ := back g1 s'
    rw [fzc g1] at rt
    refine kv _ v A _ H' q s2 n2 ?_
    rw [f2]
    cases t with
    | v d => exact rt
    | own j =>
      obtain ⟨c, e1, e2⟩ := rt
      have hj : j = 0 := by
        cases j with
        | zero => rfl
        | succ n => simp at e1
      subst hj
      have e3 : a = c := Option.some.inj e1
      subst e3
      exact ⟨a, ha, e2⟩
    | no => cases hn
    | clo R f => cases hn
  · subst e
    have g1 := one g
    obtain ⟨s2, n2, f2⟩ := back g1 s'
    refine hE C d H' (kx C fs A _ H' d q s2 n2 ?_)
    rw [f2]
    rw [fzc g1] at rx
    exact rx
theorem w_fn1 (i : Nat) (hE : ∀ C d σ H, W C d σ H → E C d H) (h : WA K W tr O ts (fun xs O1 => ∃ ys o, tr1 i xs = some ys ∧ O1[i]? = some o ∧ okG [o] = true ∧
    sp ys [o] (fun t O' => ∃ o', O' = [o'] ∧ okR t = true ∧ P (un1 i t) (O1.set i o')) (fun C fs O' => ∃ o', O' = [o'] ∧ X C fs (O1.set i o'))) X) : WE K W (tCall (lift K sp) [] E tr) O ts P X := fun b A σ H Q s rs kv kx =>
  h b A σ H _ s rs (fun xs vs A1 O1 H1 p1 s1 n1 r1 => by
    obtain ⟨ys, o, e, ho, ng, p⟩ := p1
    rw [List.append_nil]
    exact lift_1 (W := W) (σ := σ) s1 r1 e ho ng (fun C d H => hE C d σ H) p (kv.nxt n1) (kx.nxt n1)) kx
theorem w_fn10 (i : Nat) (h : WA K W tr O ts (fun xs O1 => ∃ ys o, tr1 i xs = some ys ∧ O1[i]? = some o ∧ okG [o] = true ∧
    sp ys [o] (fun t O' => ∃ o', O' = [o'] ∧ okR t = true ∧ P (un1 i t) (O1.set i o')) (fun C fs O' => False)) X) : WE K W (tCall (lift K sp) [] E0 tr) O ts P X := fun b A σ H Q s rs kv kx =>
  h b A σ H _ s rs (fun xs vs A1 O1 H1 p1 s1 n1 r1 => by
    obtain ⟨ys, o, e, ho, ng, p⟩ := p1
    rw [List.append_nil]
    have x0 : (fun (C : Value) (fs : Option (List (Str × D))) (O' : List OD) => ∃ o', O' = [o'] ∧ (fun _ _ _ => False : XX) C fs (O1.set i o')) = fun _ _ _ => False := by
      funext C fs O'
      exact propext ⟨fun ⟨_, _, z⟩ => z, fun z => z.elim⟩
    exact lift_1 (W := fun _ _ _ _ => False) (X := fun _ _ _ => False) (σ := σ) s1 r1 e ho ng (fun C d H z => z) (by rw [x0]; exact p) (kv.nxt n1) (fun C fs A' O' H' d z => z.elim)) kx

/-! ### instances -/
theorem StO.lay2 {b : Bs} {A : List Addr} {H : Hp} (s : StO K b A O H) {p : Addr} (hp : H p = none) (o : HO) : StO K b A O (upd H p o) ∧ Nxt b A O H A O (upd H p o) := ⟨(s.lay hp o).1, (s.lay hp o).2.1⟩
/-- C(..): __init__ is handed the new instance as the owned thing 0, of no fields -/
theorem w_make0 {C : Addr} (h : WA K W tr O ts (fun xs O1 => ∃ ds, unv xs = some ds ∧ sp (.own 0 :: xs) [.ins C []] (fun t O' => t = .v .non ∧ ∃ fs, O' = [.ins C fs] ∧ P (.v (.ins C fs)) O1) (fun _ _ _ => False)) X) :
    WE K W (tMake C (lift K sp) [] E0 tr) O ts P X := fun b A σ H Q s rs kv kx =>
  h b A σ H _ s rs (fun xs vs A1 O1 H1 p1 s1 n1 r1 x dx hx hdx hne => by
    obtain ⟨ds, e, p⟩ := p1
    rw [List.append_nil]
    obtain ⟨s2, n2⟩ := s1.lay2 hdx (.own x)
    have hx2 : upd H1 dx (.own x) x = none := by
      rw [upd_ne hne.symm]
      exact hx
    obtain ⟨s3, n3⟩ := s2.own (u := .ins C dx []) (o := .ins C []) hx2 ⟨dx, [], upd_same, rfl⟩
    have n13 := n2.trans n3
    have hat : (A1 ++ [x])[A1.length]? = some x := by
      rw [List.getElem?_append_right (Nat.le_refl _), Nat.sub_self]
      exact rfl
    have hoat : (O1 ++ [OD.ins C []])[A1.length]? = some (.ins C []) := by
      rw [s1.len, List.getElem?_append_right (Nat.le_refl _), Nat.sub_self]
      exact rfl
    have tr : tr1 A1.length (.own A1.length :: xs) = some (.own 0 :: xs) := by
      have z : ∀ {xs : List T} {ds : List D}, unv xs = some ds → tr1 A1.length xs = some xs := fun {xs} => by
        induction xs with
        | nil => exact fun _ => rfl
        | cons t xs ih =>
          intro ds e
          cases t with
          | v d =>
            have e3 : (unv xs).map (d :: ·) = some ds := e
            cases q : unv xs with
            | none =>
              rw [q] at e3
              cases e3
            | some es =>
              show (tr1 A1.length xs).map (T.v d :: ·) = _
              rw [ih q]
              exact rfl
          | own j => cases e
          | no => cases e
          | clo R f => cases e
      show (if A1.length = A1.length then (tr1 A1.length xs).map (T.own 0 :: ·) else none) = _
      rw [if_pos rfl, z e]
      exact rfl
    refine lift_1 (W := fun _ _ _ _ => False) (X := fun _ _ _ => False) (σ := σ) (P := fun t O' => t = .v .non ∧ ∃ fs, O' = O1 ++ [.ins C fs] ∧ P (.v (.ins C fs)) O1) s3 (xs := .own A1.length :: xs) ⟨.ref x, vs, rfl, ⟨x, hat, rfl⟩, r1.nxt n13⟩ tr hoat rfl (fun C d H z => z) ?_
      (fun t v A' O' H' q s' n' rt => ?_) (fun C fs A' O' H' d z => z.elim)
    · have x0 : (fun (C' : Value) (fs : Option (List (Str × D))) (O' : List OD) => ∃ o', O' = [o'] ∧ (fun _ _ _ => False : XX) C' fs ((O1 ++ [OD.ins C []]).set A1.length o')) = fun _ _ _ => False := by
        funext C fs O'
        exact propext ⟨fun ⟨_, _, z⟩ => z, fun z => z.elim⟩
      rw [x0]
      have pq : (fun (t : T) (O' : List OD) => ∃ o', O' = [o'] ∧ okR t = true ∧ (un1 A1.length t = .v .non ∧ ∃ fs, (O1 ++ [OD.ins C []]).set A1.length o' = O1 ++ [.ins C fs] ∧ P (.v (.ins C fs)) O1)) = fun t O' => t = .v .non ∧ ∃ fs, O' = [.ins C fs] ∧ P (.v (.ins C fs)) O1 := by
        have es : ∀ o' : OD, (O1 ++ [OD.ins C []]).set A1.length o' = O1 ++ [o'] := fun o' => by
          rw [s1.len, List.set_append_right _ _ (Nat.le_refl _), Nat.sub_self]
          exact rfl
        funext t O'
        refine propext ⟨?_, ?_⟩
        · rintro ⟨o', rfl, hn, hu, fs, e1, q⟩
          rw [es] at e1
          have e2 : o' = .ins C fs := by
            have := List.append_cancel_left e1
            injection this
          subst e2
          refine ⟨?_, fs, rfl, q⟩
          cases t with
          | v d => exact hu
          | own j => cases hu
          | no => cases hn
          | clo R f => cases hn
        · rintro ⟨rfl, fs, rfl, q⟩
          exact ⟨_, rfl, rfl, rfl, fs, es _, q⟩
      rw [pq]
      exact p
    · obtain ⟨rfl, fs, rfl, q⟩ := q
      obtain ⟨_, e1, e2⟩ := rt
      cases e1
      obtain ⟨M, eM⟩ := n'.pre
      have l2 := s'.len
      have eM0 : M = [] := by
        have l3 : A'.length = (A1 ++ [x] ++ M).length := by rw [eM]
        rw [List.length_append, List.length_append] at l3
        rw [List.length_append] at l2
        have l4 := s1.len
        refine List.length_eq_zero_iff.mp ?_
        simp only [List.length_singleton] at l2 l3
        omega
      subst eM0
      rw [List.append_nil] at eM
      subst eM
      have c := s'.cell A1.length x (.ins C fs) hat (by rw [s1.len, List.getElem?_append_right (Nat.le_refl _), Nat.sub_self]; exact rfl)
      obtain ⟨s4, x4⟩ := s'.drop s1.len s1.pre
      obtain ⟨dx', us, c1, c2⟩ := c
      have nA : x ∉ A1 := fun hm => (List.nodup_append.mp s'.nd).2.2 x hm x (List.mem_singleton.mpr rfl) rfl
      have nz : x ∉ live A1 O1 ++ b.Z := fun z => by
        rcases List.mem_append.mp z with z | z
        · obtain ⟨j, o, z1, _, _⟩ := live_mem z
          exact nA (List.mem_of_getElem? z1)
        · have zz := s1.z_at (a := x) z
          obtain ⟨o, zz, _⟩ := zz.2
          rw [hx] at zz
          cases zz
      have fz : Fz b A1 O1 H' x = some (.ins C dx' us) := hid_some.mpr ⟨nz, c1⟩
      refine ⟨e2, kv _ _ A1 O1 H' q s4 (n1.trans ⟨⟨[], (List.append_nil A1).symm⟩, ?_⟩) ⟨_, rfl, x, dx', us, rfl, fz, c2.ex x4⟩⟩
      exact (n13.ext.trans n'.ext).trans x4) kx
end
end G

set_option Elab.async false
set_option linter.all false
set_option maxRecDepth 100000
set_option maxHeartbeats 4000000
namespace G
open PySem PySem.Spec PyProof.Rows L2

/-! ### fields, methods -/
/-- an instance: plain, or owned -/
def InsD (x : T) (O : List OD) (C : Addr) (fs : List (Str × D)) : Prop := x = .v (.ins C fs) ∨ ∃ i, x = .own i ∧ O[i]? = some (.ins C fs)
theorem insD_v {O : List OD} {C : Addr} {fs : List (Str × D)} : InsD (.v (.ins C fs)) O C fs := .inl rfl
theorem insD_o {O : List OD} {C : Addr} {fs : List (Str × D)} {i : Nat} (h : O[i]? = some (.ins C fs)) : InsD (.own i) O C fs := .inr ⟨i, rfl, h⟩
theorem insD_at {K : PySem.W.Frag} {b : Bs} {A : List Addr} {O : List OD} {H : Hp} {x : T} {C : Addr} {fs : List (Str × D)} {v : V} (h : InsD x O C fs) (s : StO K b A O H) (r : RepT K (Fz b A O H) A x (some v)) :
    ∃ a dx vs, v = .ref a ∧ H a = some (.ins C dx vs) ∧ RepF K (Fz b A O H) fs vs := by
  rcases h with rfl | ⟨i, rfl, ho⟩
  · obtain ⟨_, e, a, dx, vs, rfl, h1, h2⟩ := r
    cases e
    exact ⟨a, dx, vs, rfl, (hid_some.mp h1).2, h2⟩
  · obtain ⟨a, ha, e⟩ := r
    cases e
    obtain ⟨dx, vs, h1, h2⟩ := s.cell i a _ ha ho
    exact ⟨a, dx, vs, rfl, h1, h2⟩
section
variable {K : PySem.W.Frag} {W : WX} {O : List OD} {ts : List T} {P : PT'} {X : XX} {sp : SpD} {te ta tv : TE} {tr : TA} {E : XK} {DE' : DE} {C : Addr} {f m : Str}
theorem w_fld (c : Cls K C) (n : NoAttr K C f) (h : WE K W ta O ts (fun x O1 => ∃ fs d, InsD x O1 C fs ∧ fs.lookup f = some d ∧ P (.v d) O1) X) : WE K W (tFld K ta f) O ts P X := fun b A σ H Q s rs kv kx =>
  h b A σ H _ s rs (fun x v A1 O1 H1 p1 s1 n1 r1 => by
    obtain ⟨fs, d, hi, hl, p⟩ := p1
    obtain ⟨a, dx, vs, rfl, h1, h2⟩ := insD_at hi s1 r1
    obtain ⟨w, e, r⟩ := h2.look hl
    exact ⟨a, C, dx, vs, w, rfl, h1, c, n, e, kv _ w A1 O1 H1 p s1 n1 ⟨w, rfl, r⟩⟩) kx
theorem w_con {cv : V} {u : Value} {d : D} (c : Cls K C) (k : Con K C f cv u) (hd : ∀ H, Rep K H d cv) (h : WE K W ta O ts (fun x O1 => ∃ fs, InsD x O1 C fs ∧ fs.lookup f = none ∧ P (.v d) O1) X) : WE K W (tCon K ta f) O ts P X := fun b A σ H Q s rs kv kx =>
  h b A σ H _ s rs (fun x v A1 O1 H1 p1 s1 n1 r1 => by
    obtain ⟨fs, hi, hl, p⟩ := p1
    obtain ⟨a, dx, vs, rfl, h1, h2⟩ := insD_at hi s1 r1
    exact ⟨a, C, dx, vs, cv, u, rfl, h1, c, k, h2.none hl, kv _ _ A1 O1 H1 p s1 n1 ⟨_, rfl, hd _⟩⟩) kx
def putD (f : Str) (d : D) : List (Str × D) → List (Str × D)
  | [] => [(f, d)]
  | p :: r => if p.1 = f then (f, d) :: r else p :: putD f d r
theorem repF_put {F : Hp} {f : Str} {d : D} {v : V} (q : Rep K F d v) : ∀ {fs : List (Str × D)} {vs : List (Str × V)}, RepF K F fs vs → RepF K F (putD f d fs) (putF f v vs)
  | [], _, h => by
    rw [show _ = [] from h]
    exact ⟨v, [], rfl, q, rfl⟩
  | p :: fs, _, h => by
    obtain ⟨w, r, e1, h1, h2⟩ := h
    subst e1
    show RepF K F (if p.1 = f then (f, d) :: fs else p :: putD f d fs) (putF f v ((p.1, w) :: r))
    unfold putF
    by_cases e : p.1 = f
    · rw [if_pos e]
      first
        | (rw [if_pos e]; exact ⟨v, r, rfl, q, h2⟩)
        | (rw [if_pos e.symm]; exact ⟨v, r, rfl, q, h2⟩)
        | (simp only [e, beq_self_eq_true, if_true]; exact ⟨v, r, rfl, q, h2⟩)
    · rw [if_neg e]
      first
        | (rw [if_neg e]; exact ⟨w, _, rfl, h1, repF_put q h2⟩)
        | (rw [if_neg (Ne.symm e)]; exact ⟨w, _, rfl, h1, repF_put q h2⟩)
        | (simp only [beq_iff_eq, e, if_false]; exact ⟨w, _, rfl, h1, repF_put q h2⟩)
theorem s_fld (c : Cls K C) (n : NoAttr K C f) (h : WE K W tv O ts (fun y O1 => WE K W ta O1 ts (fun x O2 => ∃ i fs d, x = .own i ∧ y = .v d ∧ O2[i]? = some (.ins C fs) ∧ fs.length < 1000 ∧ DE'.nx ts (O2.set i (.ins C (putD f d fs)))) (fun C fs O' => DE'.xe C fs ts O')) (fun C fs O' => DE'.xe C fs ts O')) :
    WS K W (sFld K ta tv f) O ts DE' := fun b A σ H D s rs ks =>
  h b A σ H _ s rs (fun y v A1 O1 H1 p1 s1 n1 r1 => by
    refine p1 b A1 σ H1 _ s1 (rs.nxt n1) (fun x u A2 O2 H2 p2 s2 n2 r2 => ?_) ((ks.kx rs).nxt n1)
    obtain ⟨i, fs, d, rfl, rfl, ho, hz, q⟩ := p2
    obtain ⟨a, ha, e⟩ := r2
    cases e
    obtain ⟨dx, vs, h1, h2⟩ := s2.cell i a _ ha ho
    obtain ⟨w, e2, rw'⟩ := r1.nxt n2
    cases e2
    obtain ⟨s3, n3⟩ := s2.put (w := .ins C dx (putF f v vs)) (o := .ins C (putD f d fs)) ha ho (fun z => by cases z) (fun z => by cases z) ⟨dx, _, upd_same, repF_put rw' h2⟩
    refine ⟨a, C, dx, vs, rfl, h1, c, n, by rw [h2.length]; exact hz, ks.nx ts σ A2 _ _ q s3 ((n1.trans n2).trans n3) (rs.nxt ((n1.trans n2).trans n3))⟩) (ks.kx rs)
/-- o.m(..) of a plain instance -/
theorem w_meth0 (h : WE K W ta O ts (fun x O1 => ∃ fs, x = .v (.ins C fs) ∧ fs.lookup m = none ∧ WA K W tr O1 ts (fun xs O2 => ∃ ds, unv xs = some ds ∧ sp (.v (.ins C fs) :: xs) [] (fun t _ => (∃ d, t = .v d) ∧ P t O2) (fun _ _ _ => False)) X) X) :
    WE K W (tMeth C m (lift K sp) [] E0 ta tr) O ts P X := fun b A σ H Q s rs kv kx =>
  h b A σ H _ s rs (fun x v A1 O1 H1 p1 s1 n1 r1 => by
    obtain ⟨fs, rfl, hm, p⟩ := p1
    obtain ⟨a, dx, vs, rfl, h1, h2⟩ := insD_at insD_v s1 r1
    refine ⟨a, dx, vs, rfl, h1, h2.none hm, p b A1 σ H1 _ s1 (rs.nxt n1) (fun xs us A2 O2 H2 p2 s2 n2 r2 => ?_) (kx.nxt n1)⟩
    obtain ⟨ds, e, q⟩ := p2
    rw [List.append_nil]
    exact lift_p (W := fun _ _ _ _ => False) (X := fun _ _ _ => False) (σ := σ) s2 (xs := .v (.ins C fs) :: xs) (ds := .ins C fs :: ds) ⟨.ref a, us, rfl, r1.nxt n2, r2⟩ (by show (unv xs).map _ = _; rw [e] <;> rfl) (fun C d H z => z) q (kv.nxt (n1.trans n2)) (fun C fs A' O' H' d z => z.elim)) kx
theorem w_meth (hE : ∀ C d σ H, W C d σ H → E C d H) (h : WE K W ta O ts (fun x O1 => ∃ fs, x = .v (.ins C fs) ∧ fs.lookup m = none ∧ WA K W tr O1 ts (fun xs O2 => ∃ ds, unv xs = some ds ∧ sp (.v (.ins C fs) :: xs) [] (fun t _ => (∃ d, t = .v d) ∧ P t O2) (fun C fs _ => X C fs O2)) X) X) :
    WE K W (tMeth C m (lift K sp) [] E ta tr) O ts P X := fun b A σ H Q s rs kv kx =>
  h b A σ H _ s rs (fun x v A1 O1 H1 p1 s1 n1 r1 => by
    obtain ⟨fs, rfl, hm, p⟩ := p1
    obtain ⟨a, dx, vs, rfl, h1, h2⟩ := insD_at insD_v s1 r1
    refine ⟨a, dx, vs, rfl, h1, h2.none hm, p b A1 σ H1 _ s1 (rs.nxt n1) (fun xs us A2 O2 H2 p2 s2 n2 r2 => ?_) (kx.nxt n1)⟩
    obtain ⟨ds, e, q⟩ := p2
    rw [List.append_nil]
    exact lift_p (W := W) (σ := σ) s2 (xs := .v (.ins C fs) :: xs) (ds := .ins C fs :: ds) ⟨.ref a, us, rfl, r1.nxt n2, r2⟩ (by show (unv xs).map _ = _; rw [e] <;> rfl) (fun C d H => hE C d σ H) q (kv.nxt (n1.trans n2)) (kx.nxt (n1.trans n2))) kx
end

/-! ### lists and tuples -/
def LstD (x : T) (O : List OD) (ds : List D) : Prop := x = .v (.lst ds) ∨ ∃ i, x = .own i ∧ O[i]? = some (.lst ds)
theorem lstD_v {O : List OD} {ds : List D} : LstD (.v (.lst ds)) O ds := .inl rfl
theorem lstD_o {O : List OD} {ds : List D} {i : Nat} (h : O[i]? = some (.lst ds)) : LstD (.own i) O ds := .inr ⟨i, rfl, h⟩
theorem lstD_atH {K : PySem.W.Frag} {b : Bs} {A : List Addr} {O : List OD} {H : Hp} {x : T} {ds : List D} {v : V} (h : LstD x O ds) (s : StO K b A O H) (r : RepT K (Fz b A O H) A x (some v)) :
    ∃ a vs, v = .ref a ∧ H a = some (.lst vs) ∧ RepL K (Fz b A O H) ds vs := by
  rcases h with rfl | ⟨i, rfl, ho⟩
  · obtain ⟨_, e, a, vs, rfl, h1, h2⟩ := r
    cases e
    exact ⟨a, vs, rfl, hid_ex _ _ h1 (by (first | assumption | exact nt_exc | exact fun _ z => (by cases z))), h2⟩
  · obtain ⟨a, ha, e⟩ := r
    cases e
    obtain ⟨vs, h1, h2⟩ := s.cell i a _ ha ho
    exact ⟨a, vs, rfl, h1, h2⟩
theorem lstD_at {K : PySem.W.Frag} {b : Bs} {A : List Addr} {O : List OD} {H : Hp} {x : T} {ds : List D} {v : V} (h : LstD x O ds) (s : StO K b A O H) (r : RepT K (Fz b A O H) A x (some v)) :
    ∃ a vs, v = .ref a ∧ SqL K H a vs ∧ RepL K (Fz b A O H) ds vs := by
  obtain ⟨a, vs, e, h1, h2⟩ := lstD_atH h s r
  exact ⟨a, vs, e, SqL.of h1, h2⟩
theorem tupD_at {K : PySem.W.Frag} {F H : Hp} {A : List Addr} {ds : List D} {v : V} (e : Ex F H) (r : RepT K F A (.v (.tup ds)) (some v)) : ∃ a vs, v = .ref a ∧ SqT K H a vs ∧ RepL K F ds vs := by
  obtain ⟨_, e1, a, vs, rfl, h1, h2⟩ := r
  cases e1
  exact ⟨a, vs, rfl, e.t h1, h2⟩
theorem atI_rep {K : PySem.W.Frag} {F : Hp} {ds : List D} {vs : List V} {i : Int} {d : D} (r : RepL K F ds vs) (h : atI ds i = some d) : ∃ v, atI vs i = some v ∧ Rep K F d v := by
  unfold atI at h ⊢
  rw [r.length]
  cases q : ixN ds.length i with
  | none =>
    rw [q] at h
    cases h
  | some j =>
    rw [q] at h
    exact r.get h
section
variable {K : PySem.W.Frag} {W : WX} {O : List OD} {ts : List T} {P : PT'} {X : XX} {te ta tv : TE} {tr : TA} {DE' : DE}
theorem w_ixL {x : T} {ds : List D} {i : Int} {d : D} (hx : LstD x O ds) (h : atI ds i = some d) (k : P (.v d) O) : WR K (rIxL K) x (.v (.int i)) O P := fun b A H Q v u s r1 r2 kv => by
  obtain ⟨a, vs, rfl, h1, h2⟩ := lstD_at hx s r1
  obtain ⟨_, e2, rfl⟩ := r2
  cases e2
  obtain ⟨w, e, r⟩ := atI_rep h2 h
  exact ⟨a, vs, i, w, rfl, rfl, h1, e, kv _ w A O H k s Nxt.refl ⟨w, rfl, r⟩⟩
theorem w_ixT {ds : List D} {i : Int} {d : D} (h : atI ds i = some d) (k : P (.v d) O) : WR K (rIxT K) (.v (.tup ds)) (.v (.int i)) O P := fun b A H Q v u s r1 r2 kv => by
  obtain ⟨a, vs, rfl, h1, h2⟩ := tupD_at (hid_ex : Ex (Fz b A O H) H) r1
  obtain ⟨_, e2, rfl⟩ := r2
  cases e2
  obtain ⟨w, e, r⟩ := atI_rep h2 h
  exact ⟨a, vs, i, w, rfl, rfl, h1, e, kv _ w A O H k s Nxt.refl ⟨w, rfl, r⟩⟩
theorem atI_0 {α : Type} {x : α} {r : List α} : atI (x :: r) 0 = some x := atI_nat (j := 0) rfl
theorem atI_1 {α : Type} {x y : α} {r : List α} : atI (x :: y :: r) 1 = some y := atI_nat (j := 1) rfl
theorem atI_2 {α : Type} {x y z : α} {r : List α} : atI (x :: y :: z :: r) 2 = some z := atI_nat (j := 2) rfl
theorem atI_3 {α : Type} {x y z u : α} {r : List α} : atI (x :: y :: z :: u :: r) 3 = some u := atI_nat (j := 3) rfl
theorem atI_4 {α : Type} {x y z u v : α} {r : List α} : atI (x :: y :: z :: u :: v :: r) 4 = some v := atI_nat (j := 4) rfl
theorem atI_5 {α : Type} {x y z u v w : α} {r : List α} : atI (x :: y :: z :: u :: v :: w :: r) 5 = some w := atI_nat (j := 5) rfl
theorem atI_6 {α : Type} {x y z u v w k : α} {r : List α} : atI (x :: y :: z :: u :: v :: w :: k :: r) 6 = some k := atI_nat (j := 6) rfl
/-- xs[i] = e -/
theorem g_setL {te ti : TE} {x : T} {N : List T → List OD → Prop} (h : WE K W te O ts (fun y O1 => WE K W ti O1 ts (fun z O2 => ∃ (i : Nat) (ds : List D) (k : Int) (j : Nat) (d : D), y = .own i ∧ z = .v (.int k) ∧ x = .v d ∧ O2[i]? = some (.lst ds) ∧ ixN ds.length k = some j ∧ N ts (O2.set i (.lst (ds.set j d)))) (fun _ _ _ => False)) (fun _ _ _ => False)) :
    WG K W (gSub te ti rSetL) x O ts N := fun b A σ H Q v s rs r kn => by
  refine h b A σ H _ s rs (fun y u A1 O1 H1 p1 s1 n1 r1 => ?_) (fun C fs A' O' H' d z => z.elim)
  refine p1 b A1 σ H1 _ s1 (rs.nxt n1) (fun z w A2 O2 H2 p2 s2 n2 r2 => ?_) (fun C fs A' O' H' d z => z.elim)
  obtain ⟨i, ds, k, j, d, rfl, rfl, rfl, ho, hk, q⟩ := p2
  obtain ⟨a, ha, e⟩ := r1.nxt n2
  cases e
  obtain ⟨_, e2, rfl⟩ := r2
  cases e2
  obtain ⟨vs, h1, h2⟩ := s2.cell i a _ ha ho
  obtain ⟨v', e3, rd⟩ := r.nxt (n1.trans n2)
  cases e3
  obtain ⟨s3, n3⟩ := s2.put (w := .lst (vs.set j v)) (o := .lst (ds.set j d)) ha ho (fun z => by cases z) (fun z => by cases z) ⟨_, upd_same, h2.set rd j⟩
  exact ⟨a, vs, k, j, rfl, rfl, h1, by rw [h2.length]; exact hk, kn ts σ A2 _ _ q s3 ((n1.trans n2).trans n3) (rs.nxt ((n1.trans n2).trans n3))⟩
/-! methods of lists -/
theorem w_bmL {rm : V → List V → Hp → VK → Prop} (h : WE K W ta O ts (fun x O1 => ∃ ds, LstD x O1 ds ∧ WA K W tr O1 ts (fun xs O2 => WM K rm x xs O2 P) X) X) : WE K W (tBM K "list" rm ta tr) O ts P X := fun b A σ H Q s rs kv kx =>
  h b A σ H _ s rs (fun x v A1 O1 H1 p1 s1 n1 r1 => by
    obtain ⟨ds, hx, p⟩ := p1
    obtain ⟨a, vs, rfl, h1, h2⟩ := lstD_at hx s1 r1
    exact ⟨.inl ⟨rfl, vs, h1⟩, p b A1 σ H1 _ s1 (rs.nxt n1) (fun xs us A2 O2 H2 p2 s2 n2 r2 => p2 b A2 H2 Q _ us s2 (r1.nxt n2) r2 (kv.nxt (n1.trans n2))) (kx.nxt n1)⟩) kx
theorem w_bmL0 {rm : V → List V → Hp → VK → Prop} (h : WE K W ta O ts (fun x O1 => ∃ ds, LstD x O1 ds ∧ WM K rm x [] O1 P) X) : WE K W (tBM0 K "list" rm ta) O ts P X := fun b A σ H Q s rs kv kx =>
  h b A σ H _ s rs (fun x v A1 O1 H1 p1 s1 n1 r1 => by
    obtain ⟨ds, hx, p⟩ := p1
    obtain ⟨a, vs, rfl, h1, h2⟩ := lstD_at hx s1 r1
    exact ⟨.inl ⟨rfl, vs, h1⟩, p b A1 H1 Q _ [] s1 r1 rfl (kv.nxt n1)⟩) kx
theorem m_append {i : Nat} {ds : List D} {d : D} (ho : O[i]? = some (.lst ds)) (hz : ds.length < sizeLine) (k : P (.v .non) (O.set i (.lst (ds ++ [d])))) : WM K rAppend (.own i) [.v d] O P := fun b A H Q v vs s r1 r2 kv => by
  obtain ⟨a, ha, e⟩ := r1
  cases e
  obtain ⟨us, h1, h2⟩ := s.cell i a _ ha ho
  obtain ⟨w, _, rfl, ⟨w2, e2, rd⟩, rfl⟩ := r2
  cases e2
  obtain ⟨s3, n3⟩ := s.put (w := .lst (us ++ [w])) (o := .lst (ds ++ [d])) ha ho (fun z => by cases z) (fun z => by cases z) ⟨_, upd_same, h2.append ⟨w, [], rfl, rd, rfl⟩⟩
  exact ⟨a, us, w, rfl, rfl, h1, by rw [h2.length]; exact hz, kv _ .non A _ _ k s3 n3 ⟨_, rfl, rfl⟩⟩
theorem m_pop {i : Nat} {ds : List D} {d : D} (ho : O[i]? = some (.lst ds)) (hz : ds[ds.length - 1]? = some d) (k : P (.v d) (O.set i (.lst ds.dropLast))) : WM K rPop (.own i) [] O P := fun b A H Q v vs s r1 r2 kv => by
  obtain ⟨a, ha, e⟩ := r1
  cases e
  obtain ⟨us, h1, h2⟩ := s.cell i a _ ha ho
  obtain ⟨w, e2, rd⟩ := h2.get hz
  have dl : RepL K (Fz b A O H) ds.dropLast us.dropLast := by
    rw [List.dropLast_eq_take, List.dropLast_eq_take, h2.length]
    exact h2.take _
  obtain ⟨s3, n3⟩ := s.put (w := .lst us.dropLast) (o := .lst ds.dropLast) ha ho (fun z => by cases z) (fun z => by cases z) ⟨_, upd_same, dl⟩
  exact ⟨a, us, w, rfl, r2, h1, by rw [h2.length]; exact e2, kv _ w A _ _ k s3 n3 ⟨w, rfl, rd.ex n3.ext⟩⟩

/-! slices -/
def WO (K : PySem.W.Frag) (W : WX) (to : TO) (O : List OD) (ts : List T) (P : Option Int → List OD → Prop) (X : XX) : Prop :=
  ∀ b A σ H Q, StO K b A O H → RepS K (Fz b A O H) A ts σ → (∀ c A' O' H', P c O' → StO K b A' O' H' → Nxt b A O H A' O' H' → Q c H') → KX K W b A O σ H X → to σ H Q
theorem o_none {PO' : Option Int → List OD → Prop} (k : PO' none O) : WO K W tNoPart O ts PO' X := fun b A σ H Q s rs kb _ => kb none A O H k s Nxt.refl
theorem o_some {PO' : Option Int → List OD → Prop} (h : WE K W te O ts (fun t O' => ∃ i, t = .v (.int i) ∧ PO' (some i) O') X) : WO K W (tPart te) O ts PO' X := fun b A σ H Q s rs kb kx =>
  h b A σ H _ s rs (fun t v A1 O1 H1 p1 s1 n1 r1 => by
    obtain ⟨i, rfl, p⟩ := p1
    obtain ⟨_, e, rfl⟩ := r1
    cases e
    exact ⟨i, rfl, kb _ A1 O1 H1 p s1 n1⟩) kx
def cutD (xs : List D) (lo hi : Option Int) : List D := (xs.drop (HT.sIx xs.length 0 lo)).take (HT.sIx xs.length xs.length hi - HT.sIx xs.length 0 lo)
theorem cut_rep {F : Hp} {ds : List D} {vs : List V} (r : RepL K F ds vs) (lo hi : Option Int) : RepL K F (cutD ds lo hi) (cutV vs lo hi) := by
  unfold cutD cutV
  rw [r.length]
  exact (r.drop _).take _
theorem w_slL {tl th : TO} (h : WE K W te O ts (fun x O1 => WO K W tl O1 ts (fun lo O2 => WO K W th O2 ts (fun hi O3 => ∃ ds, LstD x O3 ds ∧ P (.v (.lst (cutD ds lo hi))) O3) X) X) X) : WE K W (tSl (rSlL K) te tl th) O ts P X := fun b A σ H Q s rs kv kx =>
  h b A σ H _ s rs (fun x v A1 O1 H1 p1 s1 n1 r1 => p1 b A1 σ H1 _ s1 (rs.nxt n1) (fun lo A2 O2 H2 p2 s2 n2 => p2 b A2 σ H2 _ s2 (rs.nxt (n1.trans n2)) (fun hi A3 O3 H3 p3 s3 n3 => by
    obtain ⟨ds, hx, p⟩ := p3
    obtain ⟨a, vs, rfl, h1, h2⟩ := lstD_at hx s3 (r1.nxt (n2.trans n3))
    refine ⟨a, vs, rfl, h1, fun p' hp => ?_⟩
    obtain ⟨s4, n4, q⟩ := s3.lay hp (.lst (cutV vs lo hi))
    exact kv _ _ A3 O3 _ p s4 (((n1.trans n2).trans n3).trans n4) ⟨_, rfl, p', _, rfl, q, (cut_rep h2 lo hi).ex n4.ext⟩) (kx.nxt (n1.trans n2))) (kx.nxt n1)) kx
/-- a tuple's slice; the whole is the tuple itself -/
def rSlT2 (K : PySem.W.Frag) : V → Option Int → Option Int → Hp → VK → Prop := fun x lo hi H Q => ∃ a xs, x = .ref a ∧ SqT K H a xs ∧ (¬ (HT.sIx xs.length 0 lo = 0 ∧ HT.sIx xs.length xs.length hi = xs.length) ∧ ∀ p, H p = none → Q (.ref p) (upd H p (.tup (cutV xs lo hi))))

/-! ### built-in calls -/
theorem c_int {i : Int} (k : P (.v (.int i)) O) : WC K (fun xs H Q => (∃ i, xs = [.int i] ∧ Q (.int i) H) ∨ ∃ k, xs = [.bl k] ∧ Q (.int (if k then 1 else 0)) H) [.v (.int i)] O P := fun b A H Q vs s r kv => by
  obtain ⟨v, _, rfl, ⟨_, e, rfl⟩, rfl⟩ := r
  cases e
  exact .inl ⟨i, rfl, kv _ _ A O H k s Nxt.refl ⟨_, rfl, rfl⟩⟩
theorem c_intB {c : Bool} (k : P (.v (.int (if c then 1 else 0))) O) : WC K (fun xs H Q => (∃ i, xs = [.int i] ∧ Q (.int i) H) ∨ ∃ k, xs = [.bl k] ∧ Q (.int (if k then 1 else 0)) H) [.v (.bl c)] O P := fun b A H Q vs s r kv => by
  obtain ⟨v, _, rfl, ⟨_, e, rfl⟩, rfl⟩ := r
  cases e
  exact .inr ⟨c, rfl, kv _ _ A O H k s Nxt.refl ⟨_, rfl, rfl⟩⟩
theorem c_abs {i : Int} (k : P (.v (.int (if i < 0 then -i else i))) O) : WC K (fun xs H Q => ∃ i, xs = [.int i] ∧ Q (.int (if i < 0 then -i else i)) H) [.v (.int i)] O P := fun b A H Q vs s r kv => by
  obtain ⟨v, _, rfl, ⟨_, e, rfl⟩, rfl⟩ := r
  cases e
  exact ⟨i, rfl, kv _ _ A O H k s Nxt.refl ⟨_, rfl, rfl⟩⟩
def rLen (K : PySem.W.Frag) : List V → Hp → VK → Prop := fun xs H Q => ∃ x n, xs = [x] ∧ LenV K x H n ∧ Q (.int n) H
theorem cr_len {X : Cx} : CallR X (.builtin "len") (rLen X.K) := call_len
theorem c_lenL {x : T} {ds : List D} (hx : LstD x O ds) (k : P (.v (.int ds.length)) O) : WC K (rLen K) [x] O P := fun b A H Q vs s r kv => by
  obtain ⟨v, _, rfl, r1, rfl⟩ := r
  obtain ⟨a, us, rfl, h1, h2⟩ := lstD_at hx s r1
  refine ⟨.ref a, ds.length, rfl, .inl ⟨us, h1, h2.length.symm⟩, kv _ _ A O H k s Nxt.refl ⟨_, rfl, rfl⟩⟩
theorem c_lenT {ds : List D} (k : P (.v (.int ds.length)) O) : WC K (rLen K) [.v (.tup ds)] O P := fun b A H Q vs s r kv => by
  obtain ⟨v, _, rfl, r1, rfl⟩ := r
  obtain ⟨a, us, rfl, h1, h2⟩ := tupD_at (hid_ex : Ex (Fz b A O H) H) r1
  refine ⟨.ref a, ds.length, rfl, .inr ⟨us, h1, h2.length.symm⟩, kv _ _ A O H k s Nxt.refl ⟨_, rfl, rfl⟩⟩
theorem c_lenS {x : Str} (hz : x.length ≤ sizeLine) (k : P (.v (.int x.length)) O) : WC K (rLen K) [.v (.str x)] O P := fun b A H Q vs s r kv => by
  obtain ⟨v, _, rfl, ⟨_, e, rfl⟩, rfl⟩ := r
  cases e
  exact ⟨.str x, x.length, rfl, ⟨hz, rfl⟩, kv _ _ A O H k s Nxt.refl ⟨_, rfl, rfl⟩⟩
def rListOf (K : PySem.W.Frag) : List V → Hp → VK → Prop := fun xs H Q => ∃ p ys, xs = [.ref p] ∧ (SqL K H p ys ∨ SqT K H p ys) ∧ ∀ l, H l = none → Q (.ref l) (upd H l (.lst ys))
theorem cr_list {X : Cx} : CallR X (.type "list") (rListOf X.K) := call_list_of
def rTupOf (K : PySem.W.Frag) : List V → Hp → VK → Prop := fun xs H Q => ∃ p ys, xs = [.ref p] ∧ ((SqL K H p ys ∧ ∀ l, H l = none → Q (.ref l) (upd H l (.tup ys))) ∨ (SqT K H p ys ∧ Q (.ref p) H))
theorem cr_tup {X : Cx} : CallR X (.type "tuple") (rTupOf X.K) := call_tuple_of
theorem c_listL {x : T} {ds : List D} (hx : LstD x O ds) (k : P (.v (.lst ds)) O) : WC K (rListOf K) [x] O P := fun b A H Q vs s r kv => by
  obtain ⟨v, _, rfl, r1, rfl⟩ := r
  obtain ⟨a, us, rfl, h1, h2⟩ := lstD_at hx s r1
  refine ⟨a, us, rfl, .inl h1, fun p hp => ?_⟩
  obtain ⟨s2, n2, q⟩ := s.lay hp (.lst us)
  exact kv _ _ A O _ k s2 n2 ⟨_, rfl, p, us, rfl, q, h2.ex n2.ext⟩
theorem c_listT {ds : List D} (k : P (.v (.lst ds)) O) : WC K (rListOf K) [.v (.tup ds)] O P := fun b A H Q vs s r kv => by
  obtain ⟨v, _, rfl, r1, rfl⟩ := r
  obtain ⟨a, us, rfl, h1, h2⟩ := tupD_at (hid_ex : Ex (Fz b A O H) H) r1
  refine ⟨a, us, rfl, .inr h1, fun p hp => ?_⟩
  obtain ⟨s2, n2, q⟩ := s.lay hp (.lst us)
  exact kv _ _ A O _ k s2 n2 ⟨_, rfl, p, us, rfl, q, h2.ex n2.ext⟩
theorem c_tupL {x : T} {ds : List D} (hx : LstD x O ds) (k : P (.v (.tup ds)) O) : WC K (rTupOf K) [x] O P := fun b A H Q vs s r kv => by
  obtain ⟨v, _, rfl, r1, rfl⟩ := r
  obtain ⟨a, us, rfl, h1, h2⟩ := lstD_at hx s r1
  refine ⟨a, us, rfl, .inl ⟨h1, fun p hp => ?_⟩⟩
  obtain ⟨s2, n2, q⟩ := s.lay hp (.tup us)
  exact kv _ _ A O _ k s2 n2 ⟨_, rfl, p, us, rfl, SqT.of q, h2.ex n2.ext⟩
theorem c_tupT {ds : List D} (k : P (.v (.tup ds)) O) : WC K (rTupOf K) [.v (.tup ds)] O P := fun b A H Q vs s r kv => by
  obtain ⟨v, _, rfl, r1, rfl⟩ := r
  obtain ⟨a, us, rfl, h1, h2⟩ := tupD_at (hid_ex : Ex (Fz b A O H) H) r1
  exact ⟨a, us, rfl, .inr ⟨h1, kv _ _ A O H k s Nxt.refl r1⟩⟩
/-! lists of ints, of bools -/
def dI' (ns : List Int) : List D := ns.map D.int
def dB (bs : List Bool) : List D := bs.map D.bl
theorem rep_ints {F : Hp} : ∀ {ns : List Int} {vs : List V}, RepL K F (ns.map D.int) vs → vs = ns.map V.int
  | [], _, h => h
  | n :: ns, _, h => by
    obtain ⟨v, r, rfl, rfl, h2⟩ := h
    rw [rep_ints h2] <;> rfl
theorem rep_bools {F : Hp} : ∀ {ns : List Bool} {vs : List V}, RepL K F (ns.map D.bl) vs → vs = ns.map V.bl
  | [], _, h => h
  | n :: ns, _, h => by
    obtain ⟨v, r, rfl, rfl, h2⟩ := h
    rw [rep_bools h2] <;> rfl
theorem ints_rep {F : Hp} : ∀ {ns : List Int}, RepL K F (ns.map D.int) (ns.map V.int)
  | [] => rfl
  | n :: ns => ⟨_, _, rfl, rfl, ints_rep (ns := ns)⟩
theorem c_sum {x : T} {ns : List Int} (hx : LstD x O (ns.map D.int)) (k : P (.v (.int ns.sum)) O) : WC K (rSum K) [x] O P := fun b A H Q vs s r kv => by
  obtain ⟨v, _, rfl, r1, rfl⟩ := r
  obtain ⟨a, us, rfl, h1, h2⟩ := lstD_at hx s r1
  rw [rep_ints h2] at h1
  exact ⟨a, ns, rfl, h1, kv _ _ A O H k s Nxt.refl ⟨_, rfl, rfl⟩⟩
theorem c_all {x : T} {bs : List Bool} (hx : LstD x O (bs.map D.bl)) (k : P (.v (.bl (bs.all id))) O) : WC K (rAll K) [x] O P := fun b A H Q vs s r kv => by
  obtain ⟨v, _, rfl, r1, rfl⟩ := r
  obtain ⟨a, us, rfl, h1, h2⟩ := lstD_at hx s r1
  rw [rep_bools h2] at h1
  exact ⟨a, bs, rfl, h1, kv _ _ A O H k s Nxt.refl ⟨_, rfl, rfl⟩⟩
theorem c_any {x : T} {bs : List Bool} (hx : LstD x O (bs.map D.bl)) (k : P (.v (.bl (bs.any id))) O) : WC K (rAny K) [x] O P := fun b A H Q vs s r kv => by
  obtain ⟨v, _, rfl, r1, rfl⟩ := r
  obtain ⟨a, us, rfl, h1, h2⟩ := lstD_at hx s r1
  rw [rep_bools h2] at h1
  exact ⟨a, bs, rfl, h1, kv _ _ A O H k s Nxt.refl ⟨_, rfl, rfl⟩⟩
end
end G

set_option Elab.async false
set_option linter.all false
set_option maxRecDepth 100000
set_option maxHeartbeats 4000000
namespace G
open PySem PySem.Spec PyProof.Rows L2

/-! ### comprehensions -/
def wipeT (ts : List T) : List Nat → List T
  | [] => ts
  | v :: vs => (wipeT ts vs).set v .no
theorem repS_wipe {K : PySem.W.Frag} {F : Hp} {A : List Addr} {ts : List T} {σ : L2.St} (h : RepS K F A ts σ) : ∀ vs : List Nat, RepS K F A (wipeT ts vs) (wipe σ vs)
  | [] => h
  | v :: vs => by
    have ih := repS_wipe h vs
    refine ⟨by show ((wipeT ts vs).set v .no).length = ((wipe σ vs).set v none).length; rw [List.length_set, List.length_set]; exact ih.1, fun j u e => ?_⟩
    have e : ((wipeT ts vs).set v .no)[j]? = some u := e
    show ∃ o, ((wipe σ vs).set v none)[j]? = some o ∧ _
    rw [List.getElem?_set] at e
    by_cases hij : v = j
    · subst hij
      rw [if_pos rfl] at e
      by_cases hl : v < (wipeT ts vs).length
      · rw [if_pos hl] at e
        have e2 : T.no = u := Option.some.inj e
        subst e2
        refine ⟨none, ?_, trivial⟩
        rw [List.getElem?_set_self (by rw [← ih.1]; exact hl)]
      · rw [if_neg hl] at e
        cases e
    · rw [if_neg hij] at e
      obtain ⟨o, e1, r1⟩ := ih.2 j u e
      refine ⟨o, ?_, r1⟩
      rw [List.getElem?_set_ne hij]
      exact e1
/-- the target touches the block's own slots alone -/
def Tgt (g : TG) (vs : List Nat) : Prop := ∀ v σ H (Q : L2.St → Hp → Prop), g v σ H Q → g v σ H fun σ2 H2 => wipe σ2 vs = wipe σ vs ∧ Q σ2 H2
def Tgts (g : TGs) (vs : List Nat) : Prop := ∀ xs σ H (Q : L2.St → Hp → Prop), g xs σ H Q → g xs σ H fun σ2 H2 => wipe σ2 vs = wipe σ vs ∧ Q σ2 H2
theorem wipe_get {σ : L2.St} : ∀ (vs : List Nat) (i : Nat), (wipe σ vs)[i]? = if i ∈ vs then (σ[i]?).map (fun _ => none) else σ[i]?
  | [], i => by simp [wipe]
  | v :: vs, i => by
    show ((wipe σ vs).set v none)[i]? = _
    rw [List.getElem?_set, wipe_get vs i]
    by_cases h : v = i
    · subst h
      rw [if_pos rfl, if_pos List.mem_cons_self]
      by_cases hl : v < (wipe σ vs).length
      · rw [if_pos hl]
        rw [wipe_length] at hl
        rw [List.getElem?_eq_getElem hl] <;> rfl
      · rw [if_neg hl]
        rw [wipe_length] at hl
        rw [List.getElem?_eq_none (by omega)] <;> rfl
    · rw [if_neg h]
      by_cases hm : i ∈ vs
      · rw [if_pos hm, if_pos (List.mem_cons_of_mem _ hm)]
      · rw [if_neg hm, if_neg (fun z => by rcases List.mem_cons.mp z with z | z; exact h z.symm; exact hm z)]
theorem wipe_set {σ : L2.St} {j : Nat} {o : Option V} {vs : List Nat} (h : j ∈ vs) : wipe (σ.set j o) vs = wipe σ vs := by
  refine List.ext_getElem? fun i => ?_
  rw [wipe_get, wipe_get, List.getElem?_set]
  by_cases hi : i ∈ vs
  · rw [if_pos hi, if_pos hi]
    by_cases hj : j = i
    · subst hj
      rw [if_pos rfl]
      by_cases hl : j < σ.length
      · rw [if_pos hl, List.getElem?_eq_getElem hl] <;> rfl
      · rw [if_neg hl, List.getElem?_eq_none (by omega)]
    · rw [if_neg hj]
  · have hne : ¬ j = i := fun z => hi (z ▸ h)
    rw [if_neg hi, if_neg hi, if_neg hne]
theorem tgt_name {j : Nat} {vs : List Nat} (h : j ∈ vs) : Tgt (gName j) vs := fun v σ H Q q => ⟨wipe_set h, q⟩
theorem tgt_nil {vs : List Nat} : Tgts gNil vs := fun xs σ H Q q => ⟨q.1, rfl, q.2⟩
theorem TGs_mono {g : TGs} {vs : List Nat} (h : Tgts g vs) {xs : List V} {σ : L2.St} {H : Hp} {Q : L2.St → Hp → Prop} (q : g xs σ H Q) : g xs σ H fun σ2 H2 => wipe σ2 vs = wipe σ vs ∧ Q σ2 H2 := h xs σ H Q q
theorem tgt_cons1 {j : Nat} {gs : TGs} {vs : List Nat} (h : j ∈ vs) (hs : Tgts gs vs) : Tgts (gCons (gName j) gs) vs := fun xs σ H Q q => by
  obtain ⟨v, r, rfl, q⟩ := q
  refine ⟨v, r, rfl, ?_⟩
  have q2 := hs r (σ.set j (some v)) H Q q
  rw [wipe_set h] at q2
  exact q2
theorem tgt_tup {K : PySem.W.Frag} {n : Nat} {gs : TGs} {vs : List Nat} (h : Tgts gs vs) : Tgt (gTup K n gs) vs := fun v σ H Q q => by
  obtain ⟨a, xs, e, h1, h2, q⟩ := q
  exact ⟨a, xs, e, h1, h2, h xs σ H Q q⟩

section
variable {K : PySem.W.Frag} {W : WX} {O : List OD} {ts : List T} {P : PT'} {X : XX} {te : TE} {tt : TT}
/-- no exception may leave -/
abbrev X0 : XX := fun _ _ _ => False
theorem w_yes {PB' : PB} (k : PB' true O) : WT K W tYes O ts PB' X := fun b A σ H Q s rs kb _ => kb true A O H k s Nxt.refl
theorem w_lc {wi : TI} {g : TG} {vs : List Nat} (hg : Tgt g vs) (h : WI K W wi O ts (fun f O1 => ∃ (n : Nat) (I : Nat → List D → List OD → Prop), (∀ i, i < n → f i ≠ none) ∧ f n = none ∧ I 0 [] O1 ∧ (∀ i acc O', I i acc O' → O'.length = O1.length) ∧
      (∀ i t acc O', i < n → f i = some t → I i acc O' → WG K W g t (O' ++ [.lst acc]) (wipeT ts vs) (fun ts2 O2 => WT K W tt O2 ts2 (fun c O3 =>
        (c = true → WE K W te O3 ts2 (fun y O4 => ∃ d O5, y = .v d ∧ O4 = O5 ++ [.lst acc] ∧ acc.length < sizeLine ∧ I (i + 1) (acc ++ [d]) O5) X0) ∧ (c = false → ∃ O5, O3 = O5 ++ [.lst acc] ∧ I (i + 1) acc O5)) X0)) ∧
      (∀ acc O', I n acc O' → P (.v (.lst acc)) O')) X) : WE K W (tLc wi g tt te vs) O ts P X := fun b A σ H Q s rs kv kx =>
  h b A σ H _ s rs (fun J f A1 O1 H1 p s1 n1 fc => by
    obtain ⟨n, I, hf, hn, h0, hlen, hs, hd⟩ := p
    intro Dl hD
    obtain ⟨s2, n2⟩ := s1.own (u := .lst []) (o := .lst []) hD ⟨[], upd_same, rfl⟩
    have at_ : ∀ {O' : List OD} {acc : List D}, O'.length = O1.length → (O' ++ [OD.lst acc])[A1.length]? = some (.lst acc) := fun {O' acc} e => by
      rw [s1.len, List.getElem?_append_right (by omega), e, Nat.sub_self]
      exact rfl
    have atA : (A1 ++ [Dl])[A1.length]? = some Dl := by
      rw [List.getElem?_append_right (Nat.le_refl _), Nat.sub_self]
      exact rfl
    refine ⟨fun i m H' => m = n - i ∧ i ≤ n ∧ ∃ acc O', I i acc O' ∧ StO K b (A1 ++ [Dl]) (O' ++ [.lst acc]) H' ∧ Nxt b A1 O1 H1 (A1 ++ [Dl]) (O' ++ [.lst acc]) H', ⟨n, by omega, Nat.zero_le _, [], O1, h0, s2, n2⟩, ?_⟩
    rintro i m H' ⟨rfl, hi, acc, O', hI, s', n'⟩
    have hl := hlen i acc O' hI
    obtain ⟨c1, c2⟩ := fc i _ _ H' s' n'
    by_cases hlt : i < n
    · right
      obtain ⟨t, ht⟩ := Option.ne_none_iff_exists'.mp (hf i hlt)
      obtain ⟨hgo, hy⟩ := c2 t ht
      refine ⟨hgo, fun H2 => ∃ acc2 O2, I (i + 1) acc2 O2 ∧ StO K b (A1 ++ [Dl]) (O2 ++ [.lst acc2]) H2 ∧ Nxt b A1 O1 H1 (A1 ++ [Dl]) (O2 ++ [.lst acc2]) H2, fun H2 q => ⟨n - (i + 1), by omega, rfl, hlt, q⟩, fun x H3 y => ?_⟩
      obtain ⟨s3, n3, r3⟩ := hy x H3 y
      have rsw : RepS K (Fz b (A1 ++ [Dl]) (O' ++ [.lst acc]) H3) (A1 ++ [Dl]) (wipeT ts vs) (wipe σ vs) := repS_wipe (rs.nxt ((n1.trans n').trans n3)) vs
      have key := hs i t acc O' hlt ht hI b (A1 ++ [Dl]) (wipe σ vs) H3 (fun σ2 H2 => tt σ2 H2 fun c H4 => if c = true then te σ2 H4 fun y H5 => ∃ acc, H5 Dl = some (.lst acc) ∧ acc.length < sizeLine ∧ ∃ acc2 O2, I (i + 1) acc2 O2 ∧ StO K b (A1 ++ [Dl]) (O2 ++ [.lst acc2]) (upd H5 Dl (.lst (acc ++ [y]))) ∧ Nxt b A1 O1 H1 (A1 ++ [Dl]) (O2 ++ [.lst acc2]) (upd H5 Dl (.lst (acc ++ [y])))
        else ∃ acc2 O2, I (i + 1) acc2 O2 ∧ StO K b (A1 ++ [Dl]) (O2 ++ [.lst acc2]) H4 ∧ Nxt b A1 O1 H1 (A1 ++ [Dl]) (O2 ++ [.lst acc2]) H4) x s3 rsw r3 fun ts4 σ4 A4 O4 H4 p4 s4 n4 rs4 => ?_
      · have k2 := hg x (wipe σ vs) H3 _ key
        have ww : wipe (wipe σ vs) vs = wipe σ vs := by
          refine List.ext_getElem? fun i => ?_
          rw [wipe_get, wipe_get]
          by_cases hi : i ∈ vs
          · rw [if_pos hi, if_pos hi]
            cases σ[i]? <;> rfl
          · rw [if_neg hi, if_neg hi]
        rw [ww] at k2
        exact k2
      · have n14 := (n'.trans n3).trans n4
        refine p4 b A4 σ4 H4 _ s4 rs4 (fun c A5 O5 H5 p5 s5 n5 => ?_) (fun C fs A' O' H' d z => z.elim)
        have n15 := n14.trans n5
        have prefixA : ∀ {A6 O6 H6}, Nxt b A1 O1 H1 A6 O6 H6 → Nxt b (A1 ++ [Dl]) (O' ++ [.lst acc]) H' A6 O6 H6 → StO K b A6 O6 H6 → O6.length = O1.length + 1 → A6 = A1 ++ [Dl] := fun {A6 O6 H6} n6 m6 s6 l6 => by
          obtain ⟨M, e⟩ := m6.pre
          have l7 := s6.len
          rw [e, List.length_append, List.length_append, s1.len] at l7
          have : M.length = 0 := by
            simp only [List.length_singleton] at l7
            omega
          rw [e, List.length_eq_zero_iff.mp this, List.append_nil]
        cases c with
        | true =>
          refine iteT (p5.1 rfl b A5 σ4 H5 _ s5 (rs4.nxt n5) (fun y v A6 O6 H6 p6 s6 n6 r6 => ?_) (fun C fs A' O' H' d z => z.elim))
          obtain ⟨d, O7, rfl, rfl, hz, hI2⟩ := p6
          have hl7 := hlen _ _ _ hI2
          have eA := prefixA (n'.trans (((n3.trans n4).trans n5).trans n6)) (((n3.trans n4).trans n5).trans n6) s6 (by rw [List.length_append, hl7] <;> rfl)
          subst eA
          obtain ⟨us, h1, h2⟩ := s6.cell A1.length Dl _ atA (at_ hl7)
          obtain ⟨w, e2, rd⟩ := r6
          cases e2
          refine ⟨us, h1, by rw [h2.length]; exact hz, acc ++ [d], O7, hI2, ?_⟩
          obtain ⟨s8, n8⟩ := s6.put (w := .lst (us ++ [v])) (o := .lst (acc ++ [d])) atA (at_ hl7) (fun z => by cases z) (fun z => by cases z) ⟨_, upd_same, h2.append ⟨v, [], rfl, rd, rfl⟩⟩
          have es : (O7 ++ [OD.lst acc]).set A1.length (.lst (acc ++ [d])) = O7 ++ [.lst (acc ++ [d])] := by
            rw [s1.len, ← hl7, List.set_append_right _ _ (Nat.le_refl _), Nat.sub_self]
            exact rfl
          rw [es] at s8 n8
          exact ⟨s8, n'.trans ((((n3.trans n4).trans n5).trans n6).trans n8)⟩
        | false =>
          refine iteF ?_
          obtain ⟨O7, rfl, hI2⟩ := p5.2 rfl
          have hl7 := hlen _ _ _ hI2
          have eA := prefixA (n'.trans ((n3.trans n4).trans n5)) ((n3.trans n4).trans n5) s5 (by rw [List.length_append, hl7] <;> rfl)
          subst eA
          exact ⟨acc, O7, hI2, s5, n'.trans ((n3.trans n4).trans n5)⟩
    · left
      have e : i = n := by omega
      subst e
      refine ⟨c1 hn hf, ?_⟩
      obtain ⟨us, h1, h2⟩ := s'.cell A1.length Dl _ atA (at_ hl)
      obtain ⟨s5, x5⟩ := s'.drop (by rw [hl]; exact s1.len) s1.pre
      have nA : Dl ∉ A1 := fun hm => (List.nodup_append.mp s'.nd).2.2 Dl hm Dl (List.mem_singleton.mpr rfl) rfl
      have nz : Dl ∉ live A1 O' ++ b.Z := fun z => by
        rcases List.mem_append.mp z with z | z
        · obtain ⟨j, o, z1, _, _⟩ := live_mem z
          exact nA (List.mem_of_getElem? z1)
        · have zz := s1.z_at (a := Dl) z
          obtain ⟨o, zz, _⟩ := zz.2
          rw [hD] at zz
          cases zz
      exact kv _ _ A1 O' H' (hd acc O' hI) s5 (n1.trans ⟨⟨[], (List.append_nil A1).symm⟩, n'.ext.trans x5⟩) ⟨_, rfl, Dl, us, rfl, (hid_some.mpr ⟨nz, h1⟩), h2.ex x5⟩) kx
end

/-! ### equality of data -/
mutual
def toP : D → PyData
  | .non => .none
  | .bl b => .bool b
  | .int i => .int i
  | .str x => .str x
  | .lst ds => .list (toPs ds)
  | .tup ds => .tuple (toPs ds)
  | _ => .none
def toPs : List D → List PyData
  | [] => []
  | d :: ds => toP d :: toPs ds
end
mutual
/-- data that can be compared, of depth at most n -/
def pl : Nat → D → Bool
  | _, .non => true
  | _, .bl _ => true
  | _, .int _ => true
  | _, .str x => PyData.canLay0 (.str x)
  | n + 1, .lst ds => pls n ds
  | n + 1, .tup ds => pls n ds
  | _, _ => false
def pls : Nat → List D → Bool
  | _, [] => true
  | n, d :: ds => pl n d && pls n ds
end
mutual
theorem rep_dp {K : PySem.W.Frag} {H : Hp} : ∀ (n : Nat) (d : D) {v : V}, pl n d = true → Rep K H d v → Dp K H v (toP d)
  | _, .non, _, _, r => by rw [show _ = V.non from r]; exact .non
  | _, .bl b, _, _, r => by rw [show _ = V.bl b from r]; exact .bl b
  | _, .int b, _, _, r => by rw [show _ = V.int b from r]; exact .int b
  | _, .str b, _, _, r => by rw [show _ = V.str b from r]; exact .str b
  | n + 1, .lst ds, _, h, r => by
    obtain ⟨a, vs, rfl, h1, h2⟩ := r
    exact .lst (SqL.of h1) (reps_dp n ds h h2)
  | n + 1, .tup ds, _, h, r => by
    obtain ⟨a, vs, rfl, h1, h2⟩ := r
    exact .tup h1 (reps_dp n ds h h2)
  | 0, .lst ds, _, h, _ => by cases h
  | 0, .tup ds, _, h, _ => by cases h
  | 0, .ins _ _, _, h, _ => by cases h
  | _ + 1, .ins _ _, _, h, _ => by cases h
  | 0, .ref _, _, h, _ => by cases h
  | _ + 1, .ref _, _, h, _ => by cases h
  | 0, .ty _, _, h, _ => by cases h
  | _ + 1, .ty _, _, h, _ => by cases h
  | 0, .dic _, _, h, _ => by cases h
  | _ + 1, .dic _, _, h, _ => by cases h
  | 0, .scr _, _, h, _ => by cases h
  | _ + 1, .scr _, _, h, _ => by cases h
  | 0, .exc _ _, _, h, _ => by cases h
  | _ + 1, .exc _ _, _, h, _ => by cases h
theorem reps_dp {K : PySem.W.Frag} {H : Hp} : ∀ (n : Nat) (ds : List D) {vs : List V}, pls n ds = true → RepL K H ds vs → DpAll K H vs (toPs ds)
  | _, [], _, _, r => by rw [show _ = [] from r]; exact .nil
  | n, d :: ds, _, h, r => by
    obtain ⟨v, s, rfl, r1, r2⟩ := r
    have h' : (pl n d && pls n ds) = true := h
    obtain ⟨h1, h2⟩ := Bool.and_eq_true_iff.mp h'
    exact .cons (rep_dp n d h1 r1) (reps_dp n ds h2 r2)
end
mutual
theorem pl_shape : ∀ (n : Nat) (d : D), pl n d = true → (toP d).canLay0 = true ∧ (toP d).depth ≤ n
  | _, .non, _ => ⟨by simp only [toP, PyData.canLay0], by simp only [toP, PyData.depth]; omega⟩
  | _, .bl b, _ => ⟨by simp only [toP, PyData.canLay0], by simp only [toP, PyData.depth]; omega⟩
  | _, .int b, _ => ⟨by simp only [toP, PyData.canLay0], by simp only [toP, PyData.depth]; omega⟩
  | _, .str b, h => ⟨h, by simp only [toP, PyData.depth]; omega⟩
  | n + 1, .lst ds, h => by
    obtain ⟨h1, h2⟩ := pls_shape n ds h
    exact ⟨by simp only [toP, PyData.canLay0]; exact h1, by simp only [toP, PyData.depth]; omega⟩
  | n + 1, .tup ds, h => by
    obtain ⟨h1, h2⟩ := pls_shape n ds h
    exact ⟨by simp only [toP, PyData.canLay0]; exact h1, by simp only [toP, PyData.depth]; omega⟩
  | 0, .lst ds, h => by cases h
  | 0, .tup ds, h => by cases h
  | 0, .ins _ _, h => by cases h
  | _ + 1, .ins _ _, h => by cases h
  | 0, .ref _, h => by cases h
  | _ + 1, .ref _, h => by cases h
  | 0, .ty _, h => by cases h
  | _ + 1, .ty _, h => by cases h
  | 0, .scr _, h => by cases h
  | _ + 1, .scr _, h => by cases h
  | 0, .exc _ _, h => by cases h
  | _ + 1, .exc _ _, h => by cases h
  | 0, .dic _, h => by cases h
  | _ + 1, .dic _, h => by cases h
theorem pls_shape : ∀ (n : Nat) (ds : List D), pls n ds = true → PyData.canLayAll0 (toPs ds) = true ∧ PyData.depthAll (toPs ds) ≤ n
  | n, [], _ => ⟨by simp only [toPs, PyData.canLayAll0], by simp only [toPs, PyData.depthAll]; omega⟩
  | n, d :: ds, h => by
    have h' : (pl n d && pls n ds) = true := h
    obtain ⟨h1, h2⟩ := Bool.and_eq_true_iff.mp h'
    obtain ⟨a1, a2⟩ := pl_shape n d h1
    obtain ⟨b1, b2⟩ := pls_shape n ds h2
    exact ⟨by simp only [toPs, PyData.canLayAll0, a1, b1, Bool.and_self], by simp only [toPs, PyData.depthAll]; omega⟩
end
theorem pl_shaped {d : D} (h : pl 60 d = true) : SeqAt.shaped (toP d) = true := by
  obtain ⟨h1, h2⟩ := pl_shape 60 d h
  unfold SeqAt.shaped
  rw [h1, decide_eq_true (by omega)] <;> rfl
def eqD (d e : D) : Bool := PyData.eqv (toP d) (toP e)
/-- a value, or an owned list, as data -/
def ValD (x : T) (O : List OD) (d : D) : Prop := x = .v d ∨ ∃ i ds, x = .own i ∧ O[i]? = some (.lst ds) ∧ d = .lst ds
theorem valD_v {O : List OD} {d : D} : ValD (.v d) O d := .inl rfl
theorem valD_o {O : List OD} {i : Nat} {ds : List D} (h : O[i]? = some (.lst ds)) : ValD (.own i) O (.lst ds) := .inr ⟨i, ds, rfl, h, rfl⟩
theorem valD_dp {K : PySem.W.Frag} {b : Bs} {A : List Addr} {O : List OD} {H : Hp} {x : T} {d : D} {v : V} (hp : pl 60 d = true) (h : ValD x O d) (s : StO K b A O H) (r : RepT K (Fz b A O H) A x (some v)) : Dp K H v (toP d) := by
  rcases h with rfl | ⟨i, ds, rfl, ho, rfl⟩
  · obtain ⟨_, e, r⟩ := r
    cases e
    exact rep_dp 60 d hp (r.ex hid_ex)
  · obtain ⟨a, ha, e⟩ := r
    cases e
    obtain ⟨vs, h1, h2⟩ := s.cell i a _ ha ho
    have h2' : RepL K H ds vs := h2.ex hid_ex
    exact rep_dp 60 (.lst ds) hp ⟨a, vs, rfl, h1, h2'⟩
section
variable {K : PySem.W.Frag} {W : WX} {O : List OD} {ts : List T} {P : PT'} {X : XX} {te : TE} {tr : TA}
theorem w_eqD {x y : T} {d e : D} (hx : ValD x O d) (hy : ValD y O e) (h1 : pl 60 d = true) (h2 : pl 60 e = true) (k : P (.v (.bl (eqD d e))) O) : WR K (rEqD K) x y O P := fun b A H Q v u s r1 r2 kv =>
  ⟨toP d, toP e, valD_dp h1 hx s r1, valD_dp h2 hy s r2, pl_shaped h1, pl_shaped h2, kv _ _ A O H k s Nxt.refl ⟨_, rfl, rfl⟩⟩
theorem w_neD {x y : T} {d e : D} (hx : ValD x O d) (hy : ValD y O e) (h1 : pl 60 d = true) (h2 : pl 60 e = true) (k : P (.v (.bl (!eqD d e))) O) : WR K (rNeD K) x y O P := fun b A H Q v u s r1 r2 kv =>
  ⟨toP d, toP e, valD_dp h1 hx s r1, valD_dp h2 hy s r2, pl_shaped h1, pl_shaped h2, kv _ _ A O H k s Nxt.refl ⟨_, rfl, rfl⟩⟩
/-! is None -/
def isNon : D → Bool
  | .non => true
  | _ => false
theorem isNon_v {F : Hp} {d : D} {v : V} (r : Rep K F d v) : decide (v = .non) = isNon d := by
  cases d with
  | non => rw [show v = .non from r] <;> rfl
  | bl b => rw [show v = .bl b from r] <;> rfl
  | int b => rw [show v = .int b from r] <;> rfl
  | str b => rw [show v = .str b from r] <;> rfl
  | ty b => rw [show v = .ty b from r] <;> rfl
  | ref b => rw [show v = .ref b from r] <;> rfl
  | lst ds =>
    obtain ⟨a, vs, rfl, _⟩ := r
    rfl
  | tup ds =>
    obtain ⟨a, vs, rfl, _⟩ := r
    rfl
  | ins C fs =>
    obtain ⟨a, dx, vs, rfl, _⟩ := r
    rfl
  | dic kvs =>
    obtain ⟨a, vs, rfl, _⟩ := r
    rfl
  | scr kvs =>
    obtain ⟨a, rfl, _⟩ := r
    rfl
  | exc C fs =>
    obtain ⟨a, d, vs, rfl, _⟩ := r
    rfl
theorem w_isN {d : D} (k : P (.v (.bl (isNon d))) O) : WR K rIsN (.v d) (.v .non) O P := fun b A H Q v u s r1 r2 kv => by
  obtain ⟨_, e1, q1⟩ := r1
  obtain ⟨_, e2, rfl⟩ := r2
  cases e1
  cases e2
  refine ⟨rfl, ?_⟩
  rw [isNon_v q1]
  exact kv _ _ A O H k s Nxt.refl ⟨_, rfl, rfl⟩
theorem w_notN {d : D} (k : P (.v (.bl (!isNon d))) O) : WR K rNotN (.v d) (.v .non) O P := fun b A H Q v u s r1 r2 kv => by
  obtain ⟨_, e1, q1⟩ := r1
  obtain ⟨_, e2, rfl⟩ := r2
  cases e1
  cases e2
  refine ⟨rfl, ?_⟩
  rw [isNon_v q1]
  exact kv _ _ A O H k s Nxt.refl ⟨_, rfl, rfl⟩
/-! slices of tuples, sums of lists and tuples, stars -/
theorem cutV_whole {xs : List V} {lo hi : Option Int} (h : HT.sIx xs.length 0 lo = 0 ∧ HT.sIx xs.length xs.length hi = xs.length) : cutV xs lo hi = xs := by
  unfold cutV
  rw [h.1, h.2, Nat.sub_zero, List.drop_zero, List.take_length]
theorem w_slT {tl th : TO} (h : WE K W te O ts (fun x O1 => WO K W tl O1 ts (fun lo O2 => WO K W th O2 ts (fun hi O3 => ∃ ds, x = .v (.tup ds) ∧ P (.v (.tup (cutD ds lo hi))) O3) X) X) X) : WE K W (tSl (rSlA K) te tl th) O ts P X := fun b A σ H Q s rs kv kx =>
  h b A σ H _ s rs (fun x v A1 O1 H1 p1 s1 n1 r1 => p1 b A1 σ H1 _ s1 (rs.nxt n1) (fun lo A2 O2 H2 p2 s2 n2 => p2 b A2 σ H2 _ s2 (rs.nxt (n1.trans n2)) (fun hi A3 O3 H3 p3 s3 n3 => by
    obtain ⟨ds, rfl, p⟩ := p3
    have r3 := r1.nxt (n2.trans n3)
    obtain ⟨_, e3, a, vs, rfl, h1, h2⟩ := r3
    cases e3
    refine ⟨a, vs, rfl, (hid_ex : Ex (Fz b A3 O3 H3) H3).t h1, fun hw => ?_, fun _ p' hp => ?_⟩
    · have c := cut_rep h2 lo hi
      rw [cutV_whole hw] at c
      exact kv _ _ A3 O3 _ p s3 ((n1.trans n2).trans n3) ⟨_, rfl, a, vs, rfl, h1, c⟩
    · obtain ⟨s4, n4, q⟩ := s3.lay hp (.tup (cutV vs lo hi))
      exact kv _ _ A3 O3 _ p s4 (((n1.trans n2).trans n3).trans n4) ⟨_, rfl, p', _, rfl, SqT.of q, (cut_rep h2 lo hi).ex n4.ext⟩) (kx.nxt (n1.trans n2))) (kx.nxt n1)) kx
theorem w_catT {ds es : List D} (hz : ds.length + es.length ≤ sizeLine) (k : P (.v (.tup (ds ++ es))) O) : WR K (rCatA K) (.v (.tup ds)) (.v (.tup es)) O P := fun b A H Q v u s r1 r2 kv => by
  obtain ⟨_, e1, a, vs, rfl, h1, h2⟩ := r1
  obtain ⟨_, e2, c, us, rfl, h3, h4⟩ := r2
  cases e1
  cases e2
  have x : Ex (Fz b A O H) H := hid_ex
  refine ⟨a, c, vs, us, rfl, rfl, x.t h1, x.t h3, by rw [h2.length, h4.length]; exact hz, fun e => ?_, fun _ e => ?_, fun _ _ p hp => ?_⟩
  · subst e
    have e0 : ds = [] := List.length_eq_zero_iff.mp h2.length.symm
    subst e0
    exact kv _ _ A O H k s Nxt.refl ⟨_, rfl, c, us, rfl, h3, h4⟩
  · subst e
    have e0 : es = [] := List.length_eq_zero_iff.mp h4.length.symm
    subst e0
    rw [List.append_nil] at k
    exact kv _ _ A O H k s Nxt.refl ⟨_, rfl, a, vs, rfl, h1, h2⟩
  · obtain ⟨s4, n4, q⟩ := s.lay hp (.tup (vs ++ us))
    exact kv _ _ A O _ k s4 n4 ⟨_, rfl, p, _, rfl, SqT.of q, (h2.append h4).ex n4.ext⟩
theorem repTs_app {F : Hp} {A : List Addr} {ys : List T} {us : List V} (q : RepTs K F A ys us) : ∀ {ds : List D} {vs : List V}, RepL K F ds vs → RepTs K F A (ds.map T.v ++ ys) (vs ++ us)
  | [], _, h => by
    rw [show _ = [] from h]
    exact q
  | d :: ds, _, h => by
    obtain ⟨v, r, rfl, h1, h2⟩ := h
    exact ⟨v, r ++ us, rfl, ⟨v, rfl, h1⟩, repTs_app q h2⟩
/-- *xs in a display or a call -/
theorem w_star {PL' : PL} (h : WE K W te O ts (fun x O1 => ∃ ds, (ValD x O1 (.lst ds) ∨ x = .v (.tup ds)) ∧ WA K W tr O1 ts (fun ys O2 => PL' (ds.map T.v ++ ys) O2) X) X) : WA K W (StX.tStar K te tr) O ts PL' X := fun b A σ H Q s rs kl kx =>
  h b A σ H _ s rs (fun x v A1 O1 H1 p1 s1 n1 r1 => by
    obtain ⟨ds, hx, p⟩ := p1
    have key : ∃ a vs, v = .ref a ∧ (SqT K H1 a vs ∨ SqL K H1 a vs) ∧ RepL K (Fz b A1 O1 H1) ds vs := by
      rcases hx with hx | rfl
      · have hx' : LstD x O1 ds := by
          rcases hx with rfl | ⟨i, es, rfl, ho, e⟩
          · exact .inl rfl
          · cases e
            exact .inr ⟨i, rfl, ho⟩
        obtain ⟨a, vs, e, h1, h2⟩ := lstD_at hx' s1 r1
        exact ⟨a, vs, e, .inr h1, h2⟩
      · obtain ⟨a, vs, e, h1, h2⟩ := tupD_at (hid_ex : Ex (Fz b A1 O1 H1) H1) r1
        exact ⟨a, vs, e, .inl h1, h2⟩
    obtain ⟨a, vs, rfl, h1, h2⟩ := key
    refine ⟨a, vs, rfl, h1, p b A1 σ H1 _ s1 (rs.nxt n1) (fun ys us A2 O2 H2 p2 s2 n2 r2 => kl _ _ A2 O2 H2 p2 s2 (n1.trans n2) ?_) (kx.nxt n1)⟩
    exact repTs_app r2 (h2.ex n2.ext)) kx
end
end G

set_option Elab.async false
set_option linter.all false
set_option maxRecDepth 100000
set_option maxHeartbeats 4000000
namespace G
open PySem PySem.Spec PyProof.Rows L2

/-! ### enumerate(x), x told by how its iterator begins -/
set_option maxHeartbeats 4000000 in
theorem meets_enum1 {v : Value} {o : Obj} {H : Heap → Prop} (B : Begins v o H) :
    Meets (Builtin.«enumerate.__new__» ⟨[.type "enumerate", v], []⟩) (fun _ R s => H s.heap ∧
      R (.ok (.ret (.ref (s.heap.push o).objs.size))) { s with heap := (s.heap.push o).push { cls := .type "enumerate", data := .fields #[.none, .bool false, .ref s.heap.objs.size, rawInt 0, .none, .none] } }) :=
  .of_wp fun prog w A R s h => by
    obtain ⟨hp, g, d, tk, os⟩ := s
    obtain ⟨h1, h⟩ := h
    have hsub := sub_enumerate
    have go : ∀ {A' : Around} {E : Value → Shared → Prop} {Q : Value → Shared → Prop}, Q (.ref hp.objs.size) ⟨hp.push o, g, d, tk, os⟩ → wpAny (model prog w) A' (pyIter v) Q E ⟨hp, g, d, tk, os⟩ :=
      fun q => B.iter prog w _ _ ⟨hp, g, d, tk, os⟩ _ h1 q
    wp_walk using go
    refine wpAny_stack_any fun st => wpAny_pure ?_
    split
    · rename_i c _ _ _ _ _
      cases (c == Value.type "enumerate") <;> (wp_walk using go; exact ⟨_, rfl, h⟩)
    · wp_walk using go
      exact ⟨_, rfl, h⟩
theorem call_enum1 {prog : Program} {w : World} {A : Around} {E : Value → Shared → Prop} {s : Shared} {v : Value} {o : Obj} {H : Heap → Prop} {Q : Value → Shared → Prop} (B : Begins v o H) (h1 : H s.heap)
    (h : ∀ h', IsEnum h' (s.heap.objs.size + 1) s.heap.objs.size 0 .none → h'.get? s.heap.objs.size = some o → (∀ b u, s.heap.get? b = some u → h'.get? b = some u) → Q (.ref (s.heap.objs.size + 1)) { s with heap := h' }) :
    wpAny (model prog w) A (call (.type "enumerate") [v]) Q E s := by
  refine callType_new F.called_enumerate (by decide) (F.typeCall_enumerate_1 _) (F.newCall_enumerate_1 _) (fun obj => F.args_object_init_2 obj _) F.entry_enumerate_new (meets_enum1 B) ⟨h1, ?_⟩
  have hz : (s.heap.push o).objs.size = s.heap.objs.size + 1 := Heap.size_push ..
  show _ ∧ _
  rw [hz]
  have he : IsEnum ((s.heap.push o).push { cls := .type "enumerate", data := .fields #[.none, .bool false, .ref s.heap.objs.size, rawInt 0, .none, .none] }) (s.heap.objs.size + 1) s.heap.objs.size 0 .none := by
    have q := Heap.get?_push_size (s.heap.push o) (o := { cls := .type "enumerate", data := .fields #[.none, .bool false, .ref s.heap.objs.size, rawInt 0, .none, .none] }) rfl
    rw [hz] at q
    exact q
  exact ⟨⟨_, he, rfl⟩, h _ he (Heap.get?_push_of_some _ (Heap.get?_push_size _ B.free)) fun b u x => Heap.get?_push_of_some _ (Heap.get?_push_of_some _ x)⟩
/-- the tuple at a, each item in a new pair -/
def IteT (K : PySem.W.Frag) (a : Addr) : It where
  go := fun i H => ∃ (xs : List V) (x : V), SqT K H a xs ∧ xs[i]? = some x
  yld := fun i H v H' => ∃ p x, v = .ref p ∧ H p = none ∧ H' = upd H p (.tup [.int (i : Nat), x]) ∧ ∀ xs, SqT K H a xs → xs[i]? = some x
  stop := fun i H => ∃ xs : List V, SqT K H a xs ∧ xs.length = i
theorem turn_enumT {P : Program} {w : World} {K : PySem.W.Frag} {elts : List Expr} {kk : Nat} {tpos : Pos} (a e it : Addr) (hae : a ≠ e) (hai : a ≠ it) :
    Turn P w K (.Tuple elts kk tpos) (IteT K a) [e, it] e (fun i h => (∃ old, IsEnum h e it ((i : Nat) : Int) old) ∧ h.IsTupleIter it a i ∧ e ≠ it) where
  mem := by simp
  obj := fun i h st b hb => by
    obtain ⟨⟨old, he⟩, ⟨o, ho, hc, hd⟩, _⟩ := st
    rcases (show b = e ∨ b = it by simpa using hb) with z | z
    · subst z
      exact ⟨_, he, fun v q => nomatch q⟩
    · subst z
      exact ⟨o, ho, fun v q => by rw [hd] at q; cases q⟩
  keep := fun i h h' st k => by
    obtain ⟨⟨old, he⟩, ⟨o, ho, r⟩, hne⟩ := st
    exact ⟨⟨old, k e (by simp) _ he⟩, ⟨o, k it (by simp) _ ho, r⟩, hne⟩
  item := by
    intro X hP hw hK hc i pins s σ H E I hf st hg
    subst hP hw hK
    obtain ⟨⟨old, he⟩, hit, hne⟩ := st
    obtain ⟨xs, x, hq, hx⟩ := hg
    obtain ⟨its, rv, p, hz⟩ := I.tuple hq
    obtain ⟨u, hu, ru⟩ := rv.get hx
    have hel : e < s.heap.objs.size := Heap.lt_size he
    have hil : it < s.heap.objs.size := by
      obtain ⟨_, q, _⟩ := hit
      exact Heap.lt_size q
    have hi : i < its.toArray.size := by
      rw [List.size_toArray]
      exact (List.getElem?_eq_some_iff.mp hu).1
    have D := Draws.tuple (prog := X.prog) (w := X.w) (A := X.A.in1) (I.ok.hd hc) it a hai its.toArray
    refine wpAny_pyNext_enum_itemC D he ⟨hit, p⟩ hi hne (by simp only [List.mem_cons, List.not_mem_nil, or_false, not_or]; exact ⟨hne, Ne.symm hae⟩) fun x' h' tk hx' ho hst hT hsz hk => ?_
    have ex : x' = u := by
      have q : its.toArray[i]? = some x' := hx'
      rw [List.getElem?_toArray, hu] at q
      exact (Option.some.inj q).symm
    subst ex
    refine ⟨_, rfl, wpAny_letOwnedTupleGo_enum (s := { s with heap := h', toks := tk + 1 }) ho fun h'' he' sb => ?_⟩
    have hT2 : h''.get? s.heap.objs.size = some { cls := .type "tuple", data := .seq #[.int i tk, x'] } := (sb.2 _ (Nat.ne_of_gt hel)).trans hT
    have new : ObjOk X.prog X.w (upd H s.heap.objs.size (.tup [.int (i : Nat), x])) h'' s.heap.objs.size (.tup [.int (i : Nat), x]) :=
      ⟨by show 2 ≤ sizeLine; decide, [.int i tk, x'], .cons ⟨_, rfl⟩ (.cons ru .nil), ⟨_, hT2, rfl, _, rfl⟩⟩
    have I1 : Inv X pins σ (upd H s.heap.objs.size (.tup [.int (i : Nat), x])) { s with heap := h'', toks := tk + 1 } :=
      I.turnedNew (ch := [e, it]) (fun b ob hb q => (sb.2 b (fun z => hb (by simp [z]))).trans (hk b ob (fun z => hb (by simp [z])) (fun z => hb (by simp [z])) q)) hf (Nat.le_refl _) new
    refine ⟨.ref s.heap.objs.size, _, I1, rfl, ⟨_, x, rfl, I.hok.fresh (Nat.le_refl _), rfl, fun ys hy => by rw [I.tuple_inj hy hq]; exact hx⟩, ⟨⟨x', ?_⟩, ?_, hne⟩, fun b hb => ?_⟩
    · have e1 : ((i + 1 : Nat) : Int) = (i : Int) + 1 := by omega
      rw [e1]
      exact he'
    · obtain ⟨o, ho2, r⟩ := hst.1
      exact ⟨o, (sb.2 it (Ne.symm hne)).trans ho2, r⟩
    · have hb' : b < s.heap.objs.size := by
        rcases (show b = e ∨ b = it by simpa using hb) with z | z
        · rw [z]; exact hel
        · rw [z]; exact hil
      rw [upd_ne (Nat.ne_of_lt hb')]
      exact (hf b hb).1
  done := by
    intro X hP hw hK hc i pins s σ H E I hf st hg
    subst hP hw hK
    obtain ⟨⟨old, he⟩, hit, hne⟩ := st
    obtain ⟨xs, hq, hx⟩ := hg
    obtain ⟨its, rv, p, hz⟩ := I.tuple hq
    obtain ⟨f0, f1, f2, f3, f4, f5⟩ := hf it (by simp)
    have hl := rv.length
    have D := Draws.tuple (prog := X.prog) (w := X.w) (A := X.A.in1) (I.ok.hd hc) it a hai its.toArray
    have hii : i = its.toArray.size := by
      rw [List.size_toArray]
      omega
    subst hii
    exact wpAny_pyNext_enum_endD D he ⟨hit, p⟩ fun h' eb => ⟨rfl, I.turned (t' := s.toks) (fun b o hb q => eb b o hb q) f0 f1 f3 f4 f5⟩
  self := fun A i s Q E st h => let ⟨⟨_, he⟩, _⟩ := st; wpAny_pyIter_enum he h

def iEnumT (K : PySem.W.Frag) (ta : TA) : TI := fun σ H R => ta σ H fun vs H1 => ∃ a xs, vs = [.ref a] ∧ SqT K H1 a xs ∧ R (IteT K a) H1
theorem pi_enumT {X : Cx} {e : Expr} {ta : TA} {p pos tpos : Pos} {elts : List Expr} {kk : Nat} (hg : Gl X "enumerate") (hm : X.mg "enumerate" = none) (ha : PA X [e] ta) (hs : starEach [e] X.env = [(false, eval e X.env)] := by rfl) :
    PI X (.Tuple elts kk tpos) (.Call (.Name "enumerate" p) [e] [] pos) (iEnumT X.K ta) := by
  refine ⟨fun pins s σ H R I h => ?_⟩
  refine Call_ (ld_blt I hg hm boot_enumerate (PyProof.Rows.callWith_type1 (thn (ha.run pos pins s σ H _ I h) fun us s1 ⟨vs, H1, I1, r1, q1⟩ => ?_) hs rfl))
  obtain ⟨a, xs, ex, hq, q⟩ := q1
  subst ex
  obtain rfl : us = [Value.ref a] := Vals.ref1 r1
  obtain ⟨its, rv, p', hz⟩ := I1.tuple hq
  have la : a < s1.heap.objs.size := by
    obtain ⟨o, ho, _⟩ := p'
    exact Heap.lt_size ho
  refine call_enum1 (begins_tuple a its.toArray) p' fun h' he hit hk => wpAny_pyIter_enum he ?_
  have I2 : Inv X pins σ H1 { s1 with heap := h' } := I1.kept (t' := s1.toks) hk
  refine ⟨s1.heap.objs.size + 1, [s1.heap.objs.size + 1, s1.heap.objs.size], _, _, H1, rfl, I2, turn_enumT a (s1.heap.objs.size + 1) s1.heap.objs.size (Nat.ne_of_lt (Nat.lt_succ_of_lt la)) (Nat.ne_of_lt la), ⟨⟨.none, he⟩, ⟨_, hit, rfl, rfl⟩, Nat.succ_ne_self _⟩, fun b hb => ?_, q⟩
  have hle : s1.heap.objs.size ≤ b := by
    rcases (show b = s1.heap.objs.size + 1 ∨ b = s1.heap.objs.size by simpa using hb) with z | z
    · rw [z]; exact Nat.le_add_right _ _
    · rw [z]; exact Nat.le_refl _
  exact I1.fpOk hle (I1.hok.fresh hle)

section
variable {K : PySem.W.Frag} {W : WX} {O : List OD} {ts : List T} {X : XX} {ta : TA}
def itE (ds : List D) : Nat → Option T := fun i => (ds[i]?).map fun d => T.v (.tup [.int (i : Nat), d])
theorem itE_none {ds : List D} {i : Nat} (h : itE ds i = none) : ds.length ≤ i := by
  unfold itE at h
  cases q : ds[i]? with
  | none => exact List.getElem?_eq_none_iff.mp q
  | some d =>
    rw [q] at h
    cases h
theorem itE_some {ds : List D} {i : Nat} {t : T} (h : itE ds i = some t) : ∃ d, ds[i]? = some d ∧ t = .v (.tup [.int (i : Nat), d]) := by
  unfold itE at h
  cases q : ds[i]? with
  | none =>
    rw [q] at h
    cases h
  | some d =>
    rw [q] at h
    exact ⟨d, rfl, (Option.some.inj h).symm⟩
theorem itE_len {ds : List D} {i : Nat} (h : itE ds i = none) (hj : ∀ j, j < i → itE ds j ≠ none) : ds.length = i := by
  have h1 := itE_none h
  by_cases e : ds.length = i
  · exact e
  · exact absurd (by unfold itE; rw [List.getElem?_eq_none (Nat.le_refl _)] <;> rfl) (hj ds.length (by omega))
theorem pair_laid {b : Bs} {A : List Addr} {H : Hp} {p : Addr} {x y : V} {d e : D} (s : StO K b A O H) (hp : H p = none) (r1 : Rep K (Fz b A O H) d x) (r2 : Rep K (Fz b A O H) e y) :
    StO K b A O (upd H p (.tup [x, y])) ∧ Nxt b A O H A O (upd H p (.tup [x, y])) ∧ RepT K (Fz b A O (upd H p (.tup [x, y]))) A (.v (.tup [d, e])) (some (.ref p)) := by
  obtain ⟨s2, n2, q⟩ := s.lay hp (.tup [x, y])
  exact ⟨s2, n2, _, rfl, p, _, rfl, SqT.of q, x, [y], rfl, r1.ex n2.ext, y, [], rfl, r2.ex n2.ext, rfl⟩
theorem i_enumL {S : (Nat → Option T) → List OD → Prop} (h : WA K W ta O ts (fun xs O' => ∃ ds, xs = [.v (.lst ds)] ∧ S (itE ds) O') X) : WI K W (iEnum K ta) O ts S X := fun b A σ H R s rs k kx =>
  h b A σ H _ s rs (fun xs vs A' O' H' p s' n' r' => by
    obtain ⟨ds, rfl, q⟩ := p
    obtain ⟨v, _, rfl, ⟨_, e, a, us, rfl, h1, h2⟩, rfl⟩ := r'
    replace h1 := SqL.of (K := K) h1
    cases e
    refine ⟨a, us, rfl, hid_ex.l h1, k _ _ A' O' H' q s' n' fun i A2 O2 H2 s2 n2 => ⟨fun hn _ => ⟨us, hid_ex.l (n2.ext.l h1), by rw [h2.length]; exact itE_none hn⟩, fun t ht => ?_⟩⟩
    obtain ⟨d, e1, rfl⟩ := itE_some ht
    obtain ⟨v, e2, r⟩ := h2.get e1
    have h2' : SqL K H2 a us := hid_ex.l (n2.ext.l h1)
    refine ⟨⟨us, v, h2', e2⟩, fun x H3 y => ?_⟩
    obtain ⟨p, w, rfl, hp, rfl, y⟩ := y
    have e4 : w = v := Option.some.inj ((y us h2').symm.trans e2)
    subst e4
    exact pair_laid s2 hp (d := .int (i : Nat)) (by exact rfl) (r.ex n2.ext)) kx
theorem i_enumT {S : (Nat → Option T) → List OD → Prop} (h : WA K W ta O ts (fun xs O' => ∃ ds, xs = [.v (.tup ds)] ∧ S (itE ds) O') X) : WI K W (iEnumT K ta) O ts S X := fun b A σ H R s rs k kx =>
  h b A σ H _ s rs (fun xs vs A' O' H' p s' n' r' => by
    obtain ⟨ds, rfl, q⟩ := p
    obtain ⟨v, _, rfl, ⟨_, e, a, us, rfl, h1, h2⟩, rfl⟩ := r'
    cases e
    refine ⟨a, us, rfl, hid_ex.t h1, k _ _ A' O' H' q s' n' fun i A2 O2 H2 s2 n2 => ⟨fun hn hj => ⟨us, hid_ex.t (n2.ext.t h1), by rw [h2.length]; exact itE_len hn hj⟩, fun t ht => ?_⟩⟩
    obtain ⟨d, e1, rfl⟩ := itE_some ht
    obtain ⟨v, e2, r⟩ := h2.get e1
    have h2' : SqT K H2 a us := hid_ex.t (n2.ext.t h1)
    refine ⟨⟨us, v, h2', e2⟩, fun x H3 y => ?_⟩
    obtain ⟨p, w, rfl, hp, rfl, y⟩ := y
    have e4 : w = v := Option.some.inj ((y us h2').symm.trans e2)
    subst e4
    exact pair_laid s2 hp (d := .int (i : Nat)) (by exact rfl) (r.ex n2.ext)) kx
/-- zip of two lists, of two tuples -/
def itZ (ds es : List D) : Nat → Option T := fun i => match ds[i]?, es[i]? with
  | some d, some e => some (.v (.tup [d, e]))
  | _, _ => none
theorem itZ_none {ds es : List D} {i : Nat} (h : itZ ds es i = none) : ds.length ≤ i ∨ es.length ≤ i := by
  unfold itZ at h
  cases q : ds[i]? with
  | none => exact .inl (List.getElem?_eq_none_iff.mp q)
  | some d =>
    cases q2 : es[i]? with
    | none => exact .inr (List.getElem?_eq_none_iff.mp q2)
    | some e =>
      rw [q, q2] at h
      cases h
theorem itZ_some {ds es : List D} {i : Nat} {t : T} (h : itZ ds es i = some t) : ∃ d e, ds[i]? = some d ∧ es[i]? = some e ∧ t = .v (.tup [d, e]) := by
  unfold itZ at h
  cases q : ds[i]? with
  | none =>
    rw [q] at h
    cases h
  | some d =>
    cases q2 : es[i]? with
    | none =>
      rw [q, q2] at h
      cases h
    | some e =>
      rw [q, q2] at h
      exact ⟨d, e, rfl, rfl, (Option.some.inj h).symm⟩
theorem i_zipL {S : (Nat → Option T) → List OD → Prop} (h : WA K W ta O ts (fun xs O' => ∃ ds es, xs = [.v (.lst ds), .v (.lst es)] ∧ S (itZ ds es) O') X) : WI K W (RZ.iZipA K ta) O ts S X := fun b A σ H R s rs k kx =>
  h b A σ H _ s rs (fun xs vs A' O' H' p s' n' r' => by
    obtain ⟨ds, es, rfl, q⟩ := p
    obtain ⟨v, _, rfl, ⟨_, e, a, us, rfl, h1, h2⟩, v', _, rfl, ⟨_, e', c, ws, rfl, h3, h4⟩, rfl⟩ := r'
    replace h1 := SqL.of (K := K) h1
    replace h3 := SqL.of (K := K) h3
    cases e
    cases e'
    refine ⟨a, c, us, ws, rfl, .inl ⟨hid_ex.l h1, hid_ex.l h3, k _ _ A' O' H' q s' n' fun i A2 O2 H2 s2 n2 => ⟨fun hn _ => ⟨us, ws, hid_ex.l (n2.ext.l h1), hid_ex.l (n2.ext.l h3), by rw [h2.length, h4.length]; exact itZ_none hn⟩, fun t ht => ?_⟩⟩⟩
    obtain ⟨d, e, e1, e2, rfl⟩ := itZ_some ht
    obtain ⟨v, e3, r3⟩ := h2.get e1
    obtain ⟨v', e4, r4⟩ := h4.get e2
    have k1 : SqL K H2 a us := hid_ex.l (n2.ext.l h1)
    have k2 : SqL K H2 c ws := hid_ex.l (n2.ext.l h3)
    refine ⟨⟨us, ws, v, v', k1, k2, e3, e4⟩, fun x H3 y => ?_⟩
    obtain ⟨p, w, w', rfl, hp, rfl, y1, y2⟩ := y
    have e5 : w = v := Option.some.inj ((y1 us k1).symm.trans e3)
    have e6 : w' = v' := Option.some.inj ((y2 ws k2).symm.trans e4)
    subst e5 e6
    exact pair_laid s2 hp (r3.ex n2.ext) (r4.ex n2.ext)) kx
theorem i_zipT {S : (Nat → Option T) → List OD → Prop} (h : WA K W ta O ts (fun xs O' => ∃ ds es, xs = [.v (.tup ds), .v (.tup es)] ∧ S (itZ ds es) O') X) : WI K W (RZ.iZipA K ta) O ts S X := fun b A σ H R s rs k kx =>
  h b A σ H _ s rs (fun xs vs A' O' H' p s' n' r' => by
    obtain ⟨ds, es, rfl, q⟩ := p
    obtain ⟨v, _, rfl, ⟨_, e, a, us, rfl, h1, h2⟩, v', _, rfl, ⟨_, e', c, ws, rfl, h3, h4⟩, rfl⟩ := r'
    cases e
    cases e'
    refine ⟨a, c, us, ws, rfl, .inr ⟨hid_ex.t h1, hid_ex.t h3, k _ _ A' O' H' q s' n' fun i A2 O2 H2 s2 n2 => ⟨fun hn _ => ⟨us, ws, hid_ex.t (n2.ext.t h1), hid_ex.t (n2.ext.t h3), by rw [h2.length, h4.length]; exact itZ_none hn⟩, fun t ht => ?_⟩⟩⟩
    obtain ⟨d, e, e1, e2, rfl⟩ := itZ_some ht
    obtain ⟨v, e3, r3⟩ := h2.get e1
    obtain ⟨v', e4, r4⟩ := h4.get e2
    have k1 : SqT K H2 a us := hid_ex.t (n2.ext.t h1)
    have k2 : SqT K H2 c ws := hid_ex.t (n2.ext.t h3)
    refine ⟨⟨us, ws, v, v', k1, k2, e3, e4⟩, fun x H3 y => ?_⟩
    obtain ⟨p, w, w', rfl, hp, rfl, y1, y2⟩ := y
    have e5 : w = v := Option.some.inj ((y1 us k1).symm.trans e3)
    have e6 : w' = v' := Option.some.inj ((y2 ws k2).symm.trans e4)
    subst e5 e6
    exact pair_laid s2 hp (r3.ex n2.ext) (r4.ex n2.ext)) kx
/-! three at once; an operator on an attribute -/
theorem s_par3 {E : DE} {i j l : Nat} (h : WA K W ta O ts (fun xs O' => ∃ x y z, xs = [x, y, z] ∧ E.nx (((ts.set i x).set j y).set l z) O') (fun C fs O' => E.xe C fs ts O')) : WS K W (tPar3 i j l ta) O ts E := fun b A σ H D s rs ks =>
  h b A σ H _ s rs (fun xs vs A' O' H' p s' n' r' => by
    obtain ⟨x, y, z, rfl, q⟩ := p
    obtain ⟨v, _, rfl, r1, w', _, rfl, r2, w2, _, rfl, r3, rfl⟩ := r'
    exact ⟨v, w', w2, rfl, ks.nx _ _ A' O' H' q s' n' ((((rs.nxt n').set r1 i).set r2 j).set r3 l)⟩) (ks.kx rs)
/-! ### isinstance -/
/-- what of the text an own class must have that isinstance may look at its instances -/
structure InsTy (K : PySem.W.Frag) (C : Addr) : Prop where
  cl : Cls K C
  ha : PySem.W.findIn K (.ref C) "__class__" = some (some (.builtin "object.__class__"))
  hn : PySem.W.specialIn K (.builtin "object.__class__") "__get__" = some (some (.builtin "getset_descriptor.__get__"))
  ht : PySem.W.takesIn K (.builtin "object.__class__") = some true
  hm : PySem.W.mroIn K C (.type "object") = some true
inductive TyD (K : PySem.W.Frag) : D → Value → Prop where
  | non : TyD K .non (.type "NoneType")
  | bl (b : Bool) : TyD K (.bl b) (.type "bool")
  | int (i : Int) : TyD K (.int i) (.type "int")
  | str (x : Str) : TyD K (.str x) (.type "str")
  | lst (ds : List D) : TyD K (.lst ds) (.type "list")
  | tup (ds : List D) : TyD K (.tup ds) (.type "tuple")
  | dic (kvs : List (Key × D)) : TyD K (.dic kvs) (.type "dict")
  | ins (C : Addr) (fs : List (Str × D)) (h : InsTy K C) : TyD K (.ins C fs) (.ref C)
theorem sqL_ty {H : Hp} {a : Addr} {vs : List V} (h : SqL K H a vs) : TyX K H (.ref a) (.type "list") := by
  rcases h with (h | ⟨o, h⟩) | h
  · exact .base (.lst h)
  · exact .base (.frz h)
  · obtain ⟨o, its, n, h1, h2, _⟩ := h
    exact .kList h1 h2
theorem sqT_ty {H : Hp} {a : Addr} {vs : List V} (h : SqT K H a vs) : TyX K H (.ref a) (.type "tuple") := by
  rcases h with (h | ⟨o, h⟩) | h
  · exact .base (.tup h)
  · exact .fTuple h
  · obtain ⟨o, its, n, h1, h2, _⟩ := h
    exact .kTuple h1 h2
theorem TyD.tyX {H : Hp} {d : D} {t : Value} {v : V} (h : TyD K d t) (r : Rep K H d v) : TyX K H v t := by
  cases h with
  | non => rw [show v = .non from r]; exact .base .non
  | bl b => rw [show v = .bl b from r]; exact .base (.bl b)
  | int i => rw [show v = .int i from r]; exact .base (.int i)
  | str x => rw [show v = .str x from r]; exact .base (.str x)
  | lst ds =>
    obtain ⟨a, vs, rfl, h1, _⟩ := r
    exact sqL_ty (SqL.of h1)
  | tup ds =>
    obtain ⟨a, vs, rfl, h1, _⟩ := r
    exact sqT_ty h1
  | dic kvs =>
    obtain ⟨a, vs, rfl, h1, _⟩ := r
    exact .base (.dK h1)
  | ins C fs h =>
    obtain ⟨a, dx, vs, rfl, h1, _⟩ := r
    exact .base (.ins h1 h.cl h.ha h.hn h.ht h.hm)
/-- a class as data -/
inductive ClsD : D → Value → Prop where
  | ty (n : String) : ClsD (.ty n) (.type n)
  | own (C : Addr) : ClsD (.ref C) (.ref C)
theorem ClsD.cls {H : Hp} {d : D} {u : Value} {v : V} (h : ClsD d u) (r : Rep K H d v) : ClsV v u := by
  cases h with
  | ty n => rw [show v = .ty n from r]; exact .ty n
  | own C => rw [show v = .ref C from r]; exact .own C
theorem c_isi {P : PT'} {d c : D} {t u : Value} {b : Bool} (ht : TyD K d t) (hc : ClsD c u) (e : PySem.W.kitOne K t u = some b) (k : P (.v (.bl b)) O) : WC K (rIsi K) [.v d, .v c] O P := fun b' A H Q vs s r kv => by
  obtain ⟨v, _, rfl, ⟨_, e1, r1⟩, w, _, rfl, ⟨_, e2, r2⟩, rfl⟩ := r
  cases e1
  cases e2
  exact ⟨v, w, t, u, b, rfl, hc.cls r2, ht.tyX (r1.ex hid_ex), e, kv _ _ A O H k s Nxt.refl ⟨_, rfl, rfl⟩⟩
/-- an owned instance -/
theorem c_isiO {P : PT'} {i : Nat} {C : Addr} {fs : List (Str × D)} {c : D} {u : Value} {b : Bool} (ho : O[i]? = some (.ins C fs)) (h : InsTy K C) (hc : ClsD c u) (e : PySem.W.kitOne K (.ref C) u = some b) (k : P (.v (.bl b)) O) : WC K (rIsi K) [.own i, .v c] O P := fun b' A H Q vs s r kv => by
  obtain ⟨v, _, rfl, ⟨a, ha, e1⟩, w, _, rfl, ⟨_, e2, r2⟩, rfl⟩ := r
  cases e1
  cases e2
  obtain ⟨dx, us, h1, _⟩ := s.cell i a _ ha ho
  exact ⟨.ref a, w, .ref C, u, b, rfl, hc.cls r2, .base (.ins h1 h.cl h.ha h.hn h.ht h.hm), e, kv _ _ A O H k s Nxt.refl ⟨_, rfl, rfl⟩⟩
/-- isinstance(x, (c1, c2)): the tuple as it can be read -/
def rIsiS (K : PySem.W.Frag) : List V → Hp → VK → Prop := fun xs H Q => ∃ (x : V) (tp : Addr) (cs : List V) (t : Value) (us : List Value) (b : Bool), xs = [x, .ref tp] ∧ SqT K H tp cs ∧ Paired ClsV cs us ∧ TyX K H x t ∧ PySem.W.kitAny K t us = some b ∧ Q (.bl b) H
theorem call_isiS {X : Cx} : CallR X (.builtin "isinstance") (rIsiS X.K) := by
  intro pins s σ H xs us Q I r h
  obtain ⟨x, tp, cs, t, ws, b, rfl, hT, k, ty, e, q⟩ := h
  obtain ⟨u1, u2, rfl, r1, r2⟩ := vals2 r
  obtain rfl : u2 = Value.ref tp := r2
  obtain ⟨P, Z, p, hx⟩ := kit_of I r1 ty
  obtain ⟨its, rv, ⟨o, h1, h2, n, h3⟩, _⟩ := I.tuple hT
  have e3 := ClsV.all k rv
  subst e3
  obtain ⟨oc, od, dt, sl⟩ := o
  simp only at h2 h3
  subst h2 h3
  exact PySem.W.kia_tup Z I.kIn p h1 e hx fun tk => ⟨.bl b, H, I.tok tk, rfl, q⟩
theorem clsDs {H : Hp} : ∀ {ds : List D} {us : List Value} {vs : List V}, Paired ClsD ds us → RepL K H ds vs → Paired ClsV vs us
  | [], _, _, .nil, r => by
    rw [show _ = [] from r]
    exact .nil
  | d :: ds, _, _, .cons h t, r => by
    obtain ⟨v, r, rfl, h1, h2⟩ := r
    exact .cons (h.cls h1) (clsDs t h2)
theorem c_isiS {P : PT'} {d : D} {cs : List D} {t : Value} {us : List Value} {b : Bool} (ht : TyD K d t) (hc : Paired ClsD cs us) (e : PySem.W.kitAny K t us = some b) (k : P (.v (.bl b)) O) : WC K (rIsiS K) [.v d, .v (.tup cs)] O P := fun b' A H Q vs s r kv => by
  obtain ⟨v, _, rfl, ⟨_, e1, r1⟩, w, _, rfl, ⟨_, e2, a, xs, rfl, h1, h2⟩, rfl⟩ := r
  cases e1
  cases e2
  exact ⟨v, a, xs, t, us, b, rfl, (hid_ex : Ex (Fz b' A O H) H).t h1, clsDs hc h2, ht.tyX (r1.ex hid_ex), e, kv _ _ A O H k s Nxt.refl ⟨_, rfl, rfl⟩⟩
end
end G

set_option Elab.async false
set_option linter.all false
set_option maxRecDepth 100000
set_option maxHeartbeats 4000000
namespace G
open PySem PySem.Spec PyProof.Rows L2
section
variable {K : PySem.W.Frag} {W : WX} {O : List OD} {ts : List T} {P : PT'} {X : XX}
theorem w_add {i j : Int} (k : P (.v (.int (i + j))) O) : WR K (rI0 fun i j => .int (i + j)) (.v (.int i)) (.v (.int j)) O P := w_I0 (d := .int (i + j)) (fun _ => rfl) k
theorem w_sub {i j : Int} (k : P (.v (.int (i - j))) O) : WR K (rI0 fun i j => .int (i - j)) (.v (.int i)) (.v (.int j)) O P := w_I0 (d := .int (i - j)) (fun _ => rfl) k
theorem w_lt {i j : Int} (k : P (.v (.bl (decide (i < j)))) O) : WR K (rI0 fun i j => .bl (decide (i < j))) (.v (.int i)) (.v (.int j)) O P := w_I0 (d := .bl (decide (i < j))) (fun _ => rfl) k
theorem w_le {i j : Int} (k : P (.v (.bl (decide (i ≤ j)))) O) : WR K (rI0 fun i j => .bl (decide (i ≤ j))) (.v (.int i)) (.v (.int j)) O P := w_I0 (d := .bl (decide (i ≤ j))) (fun _ => rfl) k
theorem w_gt {i j : Int} (k : P (.v (.bl (decide (j < i)))) O) : WR K (rI0 fun i j => .bl (decide (j < i))) (.v (.int i)) (.v (.int j)) O P := w_I0 (d := .bl (decide (j < i))) (fun _ => rfl) k
theorem w_ge {i j : Int} (k : P (.v (.bl (decide (j ≤ i)))) O) : WR K (rI0 fun i j => .bl (decide (j ≤ i))) (.v (.int i)) (.v (.int j)) O P := w_I0 (d := .bl (decide (j ≤ i))) (fun _ => rfl) k
theorem w_mul {i j : Int} (h : CMul i j) (k : P (.v (.int (i * j))) O) : WR K (rI CMul fun i j => .int (i * j)) (.v (.int i)) (.v (.int j)) O P := w_I (d := .int (i * j)) h (fun _ => rfl) k
theorem w_mulW {i j : Int} (h : CMulW i j) (k : P (.v (.int (i * j))) O) : WR K (rI CMulW fun i j => .int (i * j)) (.v (.int i)) (.v (.int j)) O P := w_I (d := .int (i * j)) h (fun _ => rfl) k
theorem w_fdiv {i j : Int} (h : CDiv i j) (k : P (.v (.int (i / j))) O) : WR K (rI CDiv fun i j => .int (i / j)) (.v (.int i)) (.v (.int j)) O P := w_I (d := .int (i / j)) h (fun _ => rfl) k
theorem w_fdivW {i j : Int} (h : CDivW i j) (k : P (.v (.int (i / j))) O) : WR K (rI CDivW fun i j => .int (i / j)) (.v (.int i)) (.v (.int j)) O P := w_I (d := .int (i / j)) h (fun _ => rfl) k
theorem w_mod {i j : Int} (h : 0 < j) (k : P (.v (.int (i % j))) O) : WR K (rI (fun _ j => 0 < j) fun i j => .int (i % j)) (.v (.int i)) (.v (.int j)) O P := w_I (d := .int (i % j)) h (fun _ => rfl) k
theorem w_pow {i j : Int} (h : CPow i j) (k : P (.v (.int (i ^ j.toNat))) O) : WR K (rI CPow fun i j => .int (i ^ j.toNat)) (.v (.int i)) (.v (.int j)) O P := w_I (d := .int (i ^ j.toNat)) h (fun _ => rfl) k
theorem w_neg {i : Int} (k : P (.v (.int (-i))) O) : WU K (rU fun i => .int (-i)) (.v (.int i)) O P := w_Ui (d := .int (-i)) (fun _ => rfl) k
/-! branches -/
theorem brT {p : Prop} [Decidable p] {A B : Prop} (hp : p) (h : A) : (decide p = true → A) ∧ (decide p = false → B) := ⟨fun _ => h, fun z => absurd hp (of_decide_eq_false z)⟩
theorem brF {p : Prop} [Decidable p] {A B : Prop} (hp : ¬ p) (h : B) : (decide p = true → A) ∧ (decide p = false → B) := ⟨fun z => absurd (of_decide_eq_true z) hp, fun _ => h⟩
theorem br {p : Prop} [Decidable p] {A B : Prop} (h1 : p → A) (h2 : ¬ p → B) : (decide p = true → A) ∧ (decide p = false → B) := ⟨fun z => h1 (of_decide_eq_true z), fun z => h2 (of_decide_eq_false z)⟩
theorem nbT {p : Prop} [Decidable p] {A B : Prop} (hp : ¬ p) (h : A) : ((!decide p) = true → A) ∧ ((!decide p) = false → B) := ⟨fun _ => h, fun z => by rw [decide_eq_false hp] at z; cases z⟩
theorem nbF {p : Prop} [Decidable p] {A B : Prop} (hp : p) (h : B) : ((!decide p) = true → A) ∧ ((!decide p) = false → B) := ⟨fun z => (by rw [decide_eq_true hp] at z; cases z), fun _ => h⟩
theorem nbr {p : Prop} [Decidable p] {A B : Prop} (h1 : ¬ p → A) (h2 : p → B) : ((!decide p) = true → A) ∧ ((!decide p) = false → B) := ⟨fun z => h1 fun hp => (by rw [decide_eq_true hp] at z; cases z), fun z => h2 (Decidable.byContradiction fun hp => (by rw [decide_eq_false hp] at z; cases z))⟩
theorem bT {c : Bool} {A B : Prop} (hp : c = true) (h : A) : (c = true → A) ∧ (c = false → B) := ⟨fun _ => h, fun z => by rw [hp] at z; cases z⟩
theorem bF {c : Bool} {A B : Prop} (hp : c = false) (h : B) : (c = true → A) ∧ (c = false → B) := ⟨fun z => (by rw [hp] at z; cases z), fun _ => h⟩
theorem bnT {c : Bool} {A B : Prop} (hp : c = false) (h : A) : ((!c) = true → A) ∧ ((!c) = false → B) := ⟨fun _ => h, fun z => by rw [hp] at z; cases z⟩
theorem bnF {c : Bool} {A B : Prop} (hp : c = true) (h : B) : ((!c) = true → A) ∧ ((!c) = false → B) := ⟨fun z => (by rw [hp] at z; cases z), fun _ => h⟩
theorem tt_ {A B : Prop} (h : A) : (true = true → A) ∧ (true = false → B) := ⟨fun _ => h, fun z => (nomatch z)⟩
theorem ff_ {A B : Prop} (h : B) : (false = true → A) ∧ (false = false → B) := ⟨fun z => (nomatch z), fun _ => h⟩
theorem ntt_ {A B : Prop} (h : B) : ((!true) = true → A) ∧ ((!true) = false → B) := ⟨fun z => (nomatch z), fun _ => h⟩
theorem nff_ {A B : Prop} (h : A) : ((!false) = true → A) ∧ ((!false) = false → B) := ⟨fun _ => h, fun z => (nomatch z)⟩
end
def LkF (K : PySem.W.Frag) (f : Addr) (fd : FuncData) : Prop := ∃ oc od osl, K.lookup f = some ⟨oc, od, .func fd, osl⟩
theorem lk_of {K : PySem.W.Frag} {x qual : Str} {params : Arguments} {body : List Stmt} {scope : Scope} {dvs : List V} {kws : List (Str × V)} {f : Addr} {fd : FuncData} (F : FunD K x qual params body scope dvs kws f fd) : LkF K f fd := by
  obtain ⟨oc, od, dV, kV, doc, pm, an, cdv, ct, osl, rfl, lk, _⟩ := F.ex
  exact ⟨oc, od, osl, lk⟩
/-- a def by its promise over data -/
def Fn (P : Program) (w : World) (K : PySem.W.Frag) (mg : Str → Option Value) (base : Heap) (k : Nat) (f : Addr) (ps : List Str) (sp : SpD) : Prop :=
  ∃ fd, FnOk P w K mg base (L2.CX P w) k f fd ps (lift K sp) ∧ Binds K fd ps [] ∧ PySem.W.keepIn K (.ref f) = true ∧ LkF K f fd
def orS (a b : SpD) : SpD := fun ts O P X => a ts O P X ∨ b ts O P X
theorem Fn.or {P : Program} {w : World} {K : PySem.W.Frag} {mg : Str → Option Value} {base : Heap} {k j l : Nat} {f : Addr} {ps : List Str} {a b : SpD} (x : Fn P w K mg base k f ps a) (y : Fn P w K mg base j f ps b) (hk : k ≤ l) (hj : j ≤ l) : Fn P w K mg base l f ps (orS a b) := by
  obtain ⟨fd, F, B, kp, lk⟩ := x
  obtain ⟨fd2, F2, B2, kp2, lk2⟩ := y
  obtain ⟨oc, od, osl, e⟩ := lk
  obtain ⟨oc2, od2, osl2, e2⟩ := lk2
  rw [e] at e2
  injection e2 with e2
  injection e2 with _ _ e2
  injection e2 with e2
  subst e2
  refine ⟨fd, ⟨fun vs H Q E h => ?_, fun A outer s H args us vs Q E hr h0 hb hv h => ?_⟩, B, kp, ⟨oc, od, osl, e⟩⟩
  · obtain ⟨Z, A, O, ts, P, X, h1, h2, h3, h4, h5⟩ := h
    rcases h4 with h4 | h4
    · exact F.len vs H Q E ⟨Z, A, O, ts, P, X, h1, h2, h3, h4, h5⟩
    · exact F2.len vs H Q E ⟨Z, A, O, ts, P, X, h1, h2, h3, h4, h5⟩
  · obtain ⟨Z, A', O, ts, P, X, h1, h2, h3, h4, h5⟩ := h
    rcases h4 with h4 | h4
    · exact F.run A outer s H args us vs Q E (hr.mono hk) h0 hb hv ⟨Z, A', O, ts, P, X, h1, h2, h3, h4, h5⟩
    · exact F2.run A outer s H args us vs Q E (hr.mono hj) h0 hb hv ⟨Z, A', O, ts, P, X, h1, h2, h3, h4, h5⟩
/-! bounds -/
theorem natAbs_lt {i : Int} {n : Nat} (h0 : -(2 ^ n : Int) < i) (h1 : i < 2 ^ n) : i.natAbs < 2 ^ n := by
  have e : ((2 ^ n : Nat) : Int) = (2 ^ n : Int) := by simp
  omega
theorem mulW_ok {i j : Int} (hi : -(2 ^ 250 : Int) < i ∧ i < 2 ^ 250) (hj : -(2 ^ 250 : Int) < j ∧ j < 2 ^ 250) : CMulW i j :=
  wide_mul (a := 250) (b := 250) (natAbs_lt hi.1 hi.2) (natAbs_lt hj.1 hj.2) (by omega) (by omega) (by omega)
theorem divW_ok {i j : Int} (h : 0 < j) (hj : j < 2 ^ 250) : CDivW i j := by
  have h2 : -(2 ^ 250 : Int) < j := Int.lt_trans (by decide) h
  exact wide_div (b := 250) h (natAbs_lt h2 hj) (by omega) (by omega)
/-! kinds of values -/
/-- whether a value is an integer and no bool, as isinstance tells it -/
def IntQ (K : PySem.W.Frag) (d : D) (b : Bool) : Prop := ∃ t b1 b2, TyD K d t ∧ PySem.W.kitOne K t (.type "int") = some b1 ∧ PySem.W.kitOne K t (.type "bool") = some b2 ∧ b = (b1 && !b2)
theorem intQ_int {K : PySem.W.Frag} {n : Int} : IntQ K (.int n) true := ⟨_, true, false, .int n, kit_ty (by decide +kernel), kit_ty (by decide +kernel), rfl⟩
theorem intQ_bl {K : PySem.W.Frag} {n : Bool} : IntQ K (.bl n) false := ⟨_, true, true, .bl n, kit_ty (by decide +kernel), kit_ty (by decide +kernel), rfl⟩
theorem intQ_non {K : PySem.W.Frag} : IntQ K .non false := ⟨_, false, false, .non, kit_ty (by decide +kernel), kit_ty (by decide +kernel), rfl⟩
theorem intQ_str {K : PySem.W.Frag} {n : Str} : IntQ K (.str n) false := ⟨_, false, false, .str n, kit_ty (by decide +kernel), kit_ty (by decide +kernel), rfl⟩
theorem intQ_lst {K : PySem.W.Frag} {n : List D} : IntQ K (.lst n) false := ⟨_, false, false, .lst n, kit_ty (by decide +kernel), kit_ty (by decide +kernel), rfl⟩
theorem intQ_tup {K : PySem.W.Frag} {n : List D} : IntQ K (.tup n) false := ⟨_, false, false, .tup n, kit_ty (by decide +kernel), kit_ty (by decide +kernel), rfl⟩
theorem intQ_dic {K : PySem.W.Frag} {n : List (Key × D)} : IntQ K (.dic n) false := ⟨_, false, false, .dic n, kit_ty (by decide +kernel), kit_ty (by decide +kernel), rfl⟩
end G

set_option Elab.async false
set_option linter.all false
set_option maxRecDepth 100000
set_option maxHeartbeats 4000000
/-! GJ: the pens of the laws. -/
namespace G
open PySem PySem.Spec PyProof.Rows L2

def nums (ns : List Int) : List D := ns.map D.int
/-- a pen: its cells, where it is, what is left of a great cell; n: how often it has drawn at most -/
def Pen (n : Nat) (p : List D) : Prop := ∃ (cs : List Int) (at_ g : Int), p = [.lst (nums cs), .int at_, .int g] ∧ 0 ≤ at_ ∧ at_ ≤ n ∧ 0 ≤ g
theorem Pen.mono {n m : Nat} {p : List D} (h : Pen n p) (k : n ≤ m) : Pen m p := by
  obtain ⟨cs, a, g, e, h1, h2, h3⟩ := h
  exact ⟨cs, a, g, e, h1, by omega, h3⟩
/-- what making a pen does: the script's cut, its copy, the pen -/
def penSp (K : PySem.W.Frag) (n : Int) : Sp := fun vs H Q _ => ∃ (a : Addr) (cs : List Int), vs = [.ref a] ∧ SqL K H a (cs.map V.int) ∧
  ∀ s l p, H s = none → upd H s (.lst (cutV (cs.map V.int) none (some n))) l = none → upd (upd H s (.lst (cutV (cs.map V.int) none (some n)))) l (.lst (cutV (cs.map V.int) none (some n))) p = none →
    Q (.ref p) (upd (upd (upd H s (.lst (cutV (cs.map V.int) none (some n)))) l (.lst (cutV (cs.map V.int) none (some n)))) p (.lst [.ref l, .int 0, .int 0]))
theorem penSp_len {K : PySem.W.Frag} {n : Int} {vs H Q E} (h : penSp K n vs H Q E) : vs.length = 1 := by
  obtain ⟨a, cs, rfl, _⟩ := h
  rfl
theorem cut_ints {cs : List Int} {n : Int} : ∃ ds : List Int, cutV (cs.map V.int) none (some n) = List.map V.int ds := ⟨(cs.drop (HT.sIx (cs.map V.int).length 0 none)).take (HT.sIx (cs.map V.int).length (cs.map V.int).length (some n) - HT.sIx (cs.map V.int).length 0 none), by
  unfold cutV
  rw [List.map_take, List.map_drop]⟩
/-- a def by its promise as it is -/
def FnRaw (P : Program) (w : World) (K : PySem.W.Frag) (mg : Str → Option Value) (base : Heap) (k : Nat) (f : Addr) (ps : List Str) (sp : Sp) : Prop :=
  ∃ fd, FnOk P w K mg base (L2.CX P w) k f fd ps sp ∧ Binds K fd ps [] ∧ PySem.W.keepIn K (.ref f) = true ∧ LkF K f fd
section
variable {K : PySem.W.Frag} {W : WX} {O : List OD} {ts : List T} {P : PT'} {X : XX} {te ta : TE} {tr : TA} {E : XK}
theorem repL_ints {F : Hp} : ∀ {ns : List Int}, RepL K F (nums ns) (ns.map V.int)
  | [] => rfl
  | n :: ns => ⟨_, _, rfl, rfl, repL_ints (ns := ns)⟩
theorem ints_repL {F : Hp} : ∀ {ns : List Int} {vs : List V}, RepL K F (nums ns) vs → vs = ns.map V.int
  | [], _, h => h
  | n :: ns, _, h => by
    obtain ⟨v, r, e, h1, h2⟩ := h
    rw [e, ints_repL h2, show v = .int n from h1] <;> rfl
theorem w_pen {n : Int} (h : WA K W tr O ts (fun xs O1 => ∃ cs, xs = [.v (.scr cs)] ∧ ∀ p, Pen 0 p → P (.own O1.length) (O1 ++ [.lst p])) X) : WE K W (tCall (penSp K n) [] E tr) O ts P X := fun b A σ H Q s rs kv kx =>
  h b A σ H _ s rs (fun xs vs A1 O1 H1 p1 s1 n1 r1 => by
    obtain ⟨cs, rfl, p⟩ := p1
    rw [List.append_nil]
    obtain ⟨v, _, rfl, ⟨_, e, a, rfl, h1⟩, rfl⟩ := r1
    cases e
    refine ⟨a, cs, rfl, hid_ex.l h1, fun s0 l q hs hl hq => ?_⟩
    obtain ⟨ds, ed⟩ := cut_ints (cs := cs) (n := n)
    rw [ed] at hl hq ⊢
    obtain ⟨s2, n2, _⟩ := s1.lay hs (.lst (List.map V.int ds))
    obtain ⟨s3, n3, f3⟩ := s2.lay hl (.lst (List.map V.int ds))
    obtain ⟨s4, n4⟩ := s3.own (u := .lst [.ref l, .int 0, .int 0]) (o := .lst [.lst (nums ds), .int 0, .int 0]) hq ⟨_, upd_same, _, _, rfl, ⟨l, _, rfl, f3, repL_ints⟩, _, _, rfl, rfl, _, _, rfl, rfl, rfl⟩
    refine kv _ _ _ _ _ (p _ ⟨ds, 0, 0, rfl, by omega, by omega, by omega⟩) s4 (((n1.trans n2).trans n3).trans n4) ⟨q, ?_, rfl⟩
    rw [← s3.len, List.getElem?_append_right (Nat.le_refl _), Nat.sub_self]
    exact rfl) kx
end
/-! ### draws -/
def sp_draw (K : PySem.W.Frag) : SpD := fun ts O P _ => ∃ (n : Nat) (p : List D) (m : Int), ts = [.own 0, .v (.int m)] ∧ O = [.lst p] ∧ Pen n p ∧ n < 1000000 ∧ 1 ≤ m ∧ m < 2 ^ 200 ∧ ∀ p' r, Pen (n + 1) p' → 0 ≤ r → r < m → P (.v (.int r)) [.lst p']
theorem sp_draw_len {K : PySem.W.Frag} {ts O P X} (h : sp_draw K ts O P X) : ts.length = 2 := by
  obtain ⟨n, p, m, rfl, _⟩ := h
  rfl
theorem u_draw {K : PySem.W.Frag} {P : PT'} {X : XX} {n : Nat} {p : List D} {m : Int} (hp : Pen n p) (hn : n < 1000000) (h1 : 1 ≤ m) (h2 : m < 2 ^ 200) (k : ∀ p' r, Pen (n + 1) p' → 0 ≤ r → r < m → P (.v (.int r)) [.lst p']) :
    sp_draw K [.own 0, .v (.int m)] [.lst p] P X := ⟨n, p, m, rfl, rfl, hp, hn, h1, h2, k⟩
/-- one of some values, by a draw; d: the i-th of them -/
def sp_pick (K : PySem.W.Frag) : SpD := fun ts O P _ => ∃ (n : Nat) (p : List D) (ds : List D), ts = [.own 0, .v (.lst ds)] ∧ O = [.lst p] ∧ Pen n p ∧ n < 1000000 ∧ 1 ≤ ds.length ∧ ds.length ≤ 1000000 ∧ ∀ p' (i : Nat) d, Pen (n + 1) p' → ds[i]? = some d → P (.v d) [.lst p']
theorem sp_pick_len {K : PySem.W.Frag} {ts O P X} (h : sp_pick K ts O P X) : ts.length = 2 := by
  obtain ⟨n, p, m, rfl, _⟩ := h
  rfl
theorem u_pick {K : PySem.W.Frag} {P : PT'} {X : XX} {n : Nat} {p : List D} {ds : List D} (hp : Pen n p) (hn : n < 1000000) (h1 : 1 ≤ ds.length) (h2 : ds.length ≤ 1000000) (k : ∀ p' (j : Nat) d, Pen (n + 1) p' → ds[j]? = some d → P (.v d) [.lst p']) :
    sp_pick K [.own 0, .v (.lst ds)] [.lst p] P X := ⟨n, p, ds, rfl, rfl, hp, hn, h1, h2, k⟩
theorem nno {d : D} : okR (T.v d) = true := rfl
/-! ### fixed laws of arithmetic used by the pens -/
theorem pow5_ok {x a : Int} (hx : 0 ≤ x) (hx2 : x < 2147483543) (ha : 0 ≤ a) (ha2 : a ≤ 1000000) : CPow (x + 71887 * a + 977) 5 := ⟨by omega, by omega, by omega⟩
end G

set_option Elab.async false
set_option linter.all false
set_option maxRecDepth 100000
set_option maxHeartbeats 4000000
/-! GK: equality of plain data. -/
namespace G
open PySem PySem.Spec PyProof.Rows L2
mutual
theorem pl_refl : ∀ (n : Nat) (d : D), pl n d = true → eqD d d = true
  | _, .non, _ => by unfold eqD; simp only [toP, PyData.eqv]
  | _, .bl b, _ => by unfold eqD; simp only [toP, PyData.eqv]; exact beq_self_eq_true b
  | _, .int b, _ => by unfold eqD; simp only [toP, PyData.eqv]; exact beq_self_eq_true b
  | _, .str b, h => by
    unfold eqD
    simp only [toP, PyData.eqv]
    first | exact beq_self_eq_true b | simp
  | n + 1, .lst ds, h => by
    unfold eqD
    simp only [toP, PyData.eqv]
    exact pls_refl n ds h
  | n + 1, .tup ds, h => by
    unfold eqD
    simp only [toP, PyData.eqv]
    exact pls_refl n ds h
  | 0, .lst ds, h => by cases h
  | 0, .tup ds, h => by cases h
  | 0, .ins _ _, h => by cases h
  | _ + 1, .ins _ _, h => by cases h
  | 0, .ref _, h => by cases h
  | _ + 1, .ref _, h => by cases h
  | 0, .ty _, h => by cases h
  | _ + 1, .ty _, h => by cases h
  | 0, .scr _, h => by cases h
  | _ + 1, .scr _, h => by cases h
  | 0, .exc _ _, h => by cases h
  | _ + 1, .exc _ _, h => by cases h
  | 0, .dic _, h => by cases h
  | _ + 1, .dic _, h => by cases h
theorem pls_refl : ∀ (n : Nat) (ds : List D), pls n ds = true → PyData.eqvAll (toPs ds) (toPs ds) = true
  | n, [], _ => by simp only [toPs, PyData.eqvAll]
  | n, d :: ds, h => by
    have h' : (pl n d && pls n ds) = true := h
    obtain ⟨h1, h2⟩ := Bool.and_eq_true_iff.mp h'
    have a := pl_refl n d h1
    unfold eqD at a
    simp only [toPs, PyData.eqvAll, a, pls_refl n ds h2, Bool.and_self]
end
theorem eqD_refl {d : D} (h : pl 60 d = true) : eqD d d = true := pl_refl 60 d h
section
variable {K : PySem.W.Frag} {W : WX} {O : List OD} {ts : List T} {P : PT'} {X : XX} {te : TE} {tr : TA}
theorem w_eqT {x y : T} {d : D} (hx : ValD x O d) (hy : ValD y O d) (h1 : pl 60 d = true) (k : P (.v (.bl true)) O) : WR K (rEqD K) x y O P := w_eqD hx hy h1 h1 (by rw [eqD_refl h1]; exact k)
theorem w_neF {x y : T} {d : D} (hx : ValD x O d) (hy : ValD y O d) (h1 : pl 60 d = true) (k : P (.v (.bl false)) O) : WR K (rNeD K) x y O P := w_neD hx hy h1 h1 (by rw [eqD_refl h1]; exact k)
end
theorem pls_map {α : Type} {n : Nat} {f : α → D} (h : ∀ x, pl n (f x) = true) : ∀ xs : List α, pls n (xs.map f) = true
  | [] => by cases n <;> rfl
  | x :: xs => by
    have e : pls n ((x :: xs).map f) = (pl n (f x) && pls n (xs.map f)) := by cases n <;> rfl
    rw [e, h x, pls_map h xs] <;> rfl
theorem pl_int {n : Nat} {i : Int} : pl n (.int i) = true := by cases n <;> rfl
theorem pls_nums {n : Nat} {ns : List Int} : pls n (nums ns) = true := pls_map (fun _ => pl_int) ns
theorem pl_numsL {n : Nat} {ns : List Int} : pl (n + 1) (.lst (nums ns)) = true := pls_nums
theorem pl_numsT {n : Nat} {ns : List Int} : pl (n + 1) (.tup (nums ns)) = true := pls_nums
theorem pl_nilL {n : Nat} : pl (n + 1) (.lst []) = true := by cases n <;> rfl
/-- lists and tuples of integers -/
theorem toPs_nums : ∀ {ns ms : List Int}, PyData.eqvAll (toPs (nums ns)) (toPs (nums ms)) = decide (ns = ms)
  | [], [] => by simp [nums, toPs, PyData.eqvAll]
  | [], m :: ms => by simp [nums, toPs, PyData.eqvAll]
  | n :: ns, [] => by simp [nums, toPs, PyData.eqvAll]
  | n :: ns, m :: ms => by
    have ih := toPs_nums (ns := ns) (ms := ms)
    have e : PyData.eqvAll (toPs (nums (n :: ns))) (toPs (nums (m :: ms))) = (n == m && PyData.eqvAll (toPs (nums ns)) (toPs (nums ms))) := by
      simp only [nums, List.map_cons, toPs, toP, PyData.eqvAll, PyData.eqv]
    rw [e, ih]
    by_cases h1 : n = m
    · subst h1
      simp
    · simp [h1]
theorem eqD_numsL {ns ms : List Int} : eqD (.lst (nums ns)) (.lst (nums ms)) = decide (ns = ms) := by
  unfold eqD
  simp only [toP, PyData.eqv]
  exact toPs_nums
theorem eqD_numsT {ns ms : List Int} : eqD (.tup (nums ns)) (.tup (nums ms)) = decide (ns = ms) := by
  unfold eqD
  simp only [toP, PyData.eqv]
  exact toPs_nums
theorem eqD_nilL {ns : List Int} : eqD (.lst (nums ns)) (.lst []) = decide (ns = []) := eqD_numsL (ms := [])
theorem nums_len {ns : List Int} : (nums ns).length = ns.length := List.length_map _
theorem mulB {x y a b : Int} (h0 : 0 ≤ x) (h1 : x ≤ a) (h2 : 0 ≤ y) (h3 : y ≤ b) : 0 ≤ x * y ∧ x * y ≤ a * b :=
  ⟨Int.mul_nonneg h0 h2, Int.mul_le_mul h1 h3 h2 (Int.le_trans h0 h1)⟩
theorem atI_pos {α : Type} {xs : List α} {i : Int} (h0 : 0 ≤ i) (h1 : i < xs.length) : ∃ x, atI xs i = some x ∧ xs[i.toNat]? = some x := by
  obtain ⟨j, rfl⟩ := Int.eq_ofNat_of_zero_le h0
  have hj : j < xs.length := by omega
  exact ⟨xs[j], atI_nat (List.getElem?_eq_getElem hj), List.getElem?_eq_getElem hj⟩
theorem atI_nums {ns : List Int} {i : Int} (h0 : 0 ≤ i) (h1 : i < ns.length) : ∃ x, atI (nums ns) i = some (.int x) ∧ ns[i.toNat]? = some x := by
  obtain ⟨j, rfl⟩ := Int.eq_ofNat_of_zero_le h0
  have hj : j < ns.length := by omega
  refine ⟨ns[j], atI_nat ?_, List.getElem?_eq_getElem hj⟩
  show (ns.map D.int)[j]? = _
  rw [List.getElem?_map, List.getElem?_eq_getElem hj] <;> rfl
end G

set_option Elab.async false
set_option linter.all false
set_option maxRecDepth 100000
set_option maxHeartbeats 4000000
/-! GL: an owned thing becomes plain data. -/
namespace G
open PySem PySem.Spec PyProof.Rows L2
def odD : OD → Option D
  | .lst ds => some (.lst ds)
  | .ins C fs => some (.ins C fs)
  | .dic kvs => some (.dic kvs)
  | .gone => none
def thaw (i : Nat) (d : D) : T → T
  | .own j => if j = i then .v d else .own j
  | t => t
section
variable {K : PySem.W.Frag} {W : WX} {b : Bs} {A : List Addr} {O : List OD} {H : Hp} {ts : List T} {t : TS} {te : TE} {E : DE} {P : PT'} {X : XX}
theorem live_sub {i : Nat} {a : Addr} (h : a ∈ live A (O.set i .gone)) : a ∈ live A O := by
  obtain ⟨j, o, h1, h2, h3⟩ := live_mem h
  rw [List.getElem?_set] at h2
  by_cases hij : i = j
  · rw [if_pos hij] at h2
    by_cases hl : i < O.length
    · rw [if_pos hl] at h2
      exact absurd (Option.some.inj h2).symm h3
    · rw [if_neg hl] at h2
      cases h2
  · rw [if_neg hij] at h2
    exact live_at h1 h2 h3
theorem StO.freeze (s : StO K b A O H) {i : Nat} {o : OD} {d : D} (ho : O[i]? = some o) (hd : odD o = some d) : StO K b A (O.set i .gone) H ∧ Nxt b A O H A (O.set i .gone) H ∧ ∃ a, A[i]? = some a ∧ Rep K (Fz b A (O.set i .gone) H) d (.ref a) := by
  have ng : o ≠ .gone := fun z => by
    subst z
    cases hd
  have hi : i < A.length := by
    rw [s.len]
    exact (List.getElem?_eq_some_iff.mp ho).1
  obtain ⟨a, ha⟩ : ∃ a, A[i]? = some a := ⟨A[i], List.getElem?_eq_getElem hi⟩
  have hl : a ∈ live A O := live_at ha ho ng
  have x3 : Ex (Fz b A O H) (Fz b A (O.set i .gone) H) := hid_mono (fun _ _ _ h => h) fun c o h1 h2 h3 => by
    rcases List.mem_append.mp h3 with h3 | h3
    · exact h1 (List.mem_append_left _ (live_sub h3))
    · exact h1 (List.mem_append_right _ h3)
  have fz : ∀ u, H a = some u → Fz b A (O.set i .gone) H a = some u := fun u hu => hid_some.mpr ⟨fun h3 => by
    rcases List.mem_append.mp h3 with h3 | h3
    · obtain ⟨j, o', h1, h2, h4⟩ := live_mem h3
      have e : i = j := nd_ix s.nd ha h1
      subst e
      rw [List.getElem?_set_self (List.getElem?_eq_some_iff.mp ho).1] at h2
      exact h4 (Option.some.inj h2).symm
    · exact (s.z_at h3).1 hl, hu⟩
  have c := s.cell i a o ha ho
  refine ⟨⟨by rw [List.length_set]; exact s.len, s.pre, s.ext.trans (hid_mono (fun _ _ _ h => h) fun c o h1 h2 h3 => h1 (live_sub h3)), s.zs, s.nd, s.inh, fun j c' u h1 h2 => ?_, s.tb⟩, ⟨⟨[], (List.append_nil A).symm⟩, x3⟩, a, ha, ?_⟩
  · rw [List.getElem?_set] at h2
    by_cases hij : i = j
    · rw [if_pos hij] at h2
      by_cases hl : i < O.length
      · rw [if_pos hl] at h2
        have e : OD.gone = u := Option.some.inj h2
        subst e
        trivial
      · rw [if_neg hl] at h2
        cases h2
    · rw [if_neg hij] at h2
      exact (s.cell j c' u h1 h2).ex x3 fun _ h => h
  · cases o with
    | gone => cases hd
    | lst ds =>
      have e := Option.some.inj hd
      subst e
      obtain ⟨vs, c1, c2⟩ := c
      exact ⟨a, vs, rfl, fz _ c1, c2.ex x3⟩
    | ins C fs =>
      have e := Option.some.inj hd
      subst e
      obtain ⟨dx, vs, c1, c2⟩ := c
      exact ⟨a, dx, vs, rfl, fz _ c1, c2.ex x3⟩
    | dic kvs =>
      have e := Option.some.inj hd
      subst e
      obtain ⟨vs, c1, c2⟩ := c
      exact ⟨a, vs, rfl, fz _ c1, c2.ex x3⟩
theorem RepT.thaw {F : Hp} {i : Nat} {d : D} {a : Addr} {x : T} {o : Option V} (h : RepT K F A x o) (ha : A[i]? = some a) (r : Rep K F d (.ref a)) : RepT K F A (thaw i d x) o := by
  cases x with
  | v d => exact h
  | no => trivial
  | clo R f => exact h
  | own j =>
    show RepT K F A (if j = i then .v d else .own j) o
    by_cases e : j = i
    · subst e
      rw [if_pos rfl]
      obtain ⟨c, h1, h2⟩ := h
      rw [ha] at h1
      have e2 := Option.some.inj h1
      subst e2
      exact ⟨_, h2, r⟩
    · rw [if_neg e]
      exact h
theorem RepS.thaw {F : Hp} {i : Nat} {d : D} {a : Addr} {σ : L2.St} (h : RepS K F A ts σ) (ha : A[i]? = some a) (r : Rep K F d (.ref a)) : RepS K F A (ts.map (G.thaw i d)) σ := by
  refine ⟨by rw [List.length_map]; exact h.1, fun j t e => ?_⟩
  rw [List.getElem?_map] at e
  cases q : ts[j]? with
  | none =>
    rw [q] at e
    cases e
  | some u =>
    rw [q] at e
    have e2 : G.thaw i d u = t := Option.some.inj e
    subst e2
    obtain ⟨o, h1, h2⟩ := h.2 j u q
    exact ⟨o, h1, h2.thaw ha r⟩
theorem s_frz (i : Nat) {o : OD} {d : D} (ho : O[i]? = some o) (hd : odD o = some d) (h : WS K W t (O.set i .gone) (ts.map (G.thaw i d)) E) : WS K W t O ts E := fun b A σ H D s rs ks => by
  obtain ⟨s2, n2, a, ha, r⟩ := s.freeze ho hd
  exact h b A σ H D s2 ((rs.nxt n2).thaw ha r) (ks.nxt n2)
end
end G

set_option Elab.async false
set_option linter.all false
set_option maxRecDepth 100000
set_option maxHeartbeats 4000000
/-! GM: loops over what is known. -/
namespace G
open PySem PySem.Spec PyProof.Rows L2
section
variable {K : PySem.W.Frag} {W : WX} {O : List OD} {ts : List T} {E : DE} {g : TG} {tb : TS}
def ForEx (K : PySem.W.Frag) (W : WX) (g : TG) (tb : TS) (E : DE) (ts : List T) (f : Nat → Option T) (O1 : List OD) : Prop :=
  ∃ (n : Nat) (I : Nat → List T → List OD → Prop), (∀ i, i < n → f i ≠ none) ∧ f n = none ∧ I 0 ts O1 ∧
      (∀ i t ts' O', i < n → f i = some t → I i ts' O' → WG K W g t O' ts' (fun ts2 O2 => WS K W tb O2 ts2 { E with nx := I (i + 1), ct := I (i + 1), bk := E.nx })) ∧ (∀ ts' O', I n ts' O' → E.nx ts' O')
theorem itD_ne {ds : List D} {i : Nat} (h : i < ds.length) : itD ds i ≠ none := fun z => by
  have := itD_none z
  omega
theorem for_D {ds : List D} (I : Nat → List T → List OD → Prop) (h0 : I 0 ts O)
    (hs : ∀ i d ts' O', i < ds.length → ds[i]? = some d → I i ts' O' → WG K W g (.v d) O' ts' (fun ts2 O2 => WS K W tb O2 ts2 { E with nx := I (i + 1), ct := I (i + 1), bk := E.nx }))
    (hd : ∀ ts' O', I ds.length ts' O' → E.nx ts' O') : ForEx K W g tb E ts (itD ds) O :=
  ⟨ds.length, I, fun i h => itD_ne h, by unfold itD; rw [List.getElem?_eq_none (Nat.le_refl _)]; rfl, h0, fun i t ts' O' hi ht hI => by
    obtain ⟨d, e, rfl⟩ := itD_some ht
    exact hs i d ts' O' hi e hI, hd⟩
theorem for_N {ns : List Int} (I : Nat → List T → List OD → Prop) (h0 : I 0 ts O)
    (hs : ∀ i r ts' O', i < ns.length → ns[i]? = some r → I i ts' O' → WG K W g (.v (.int r)) O' ts' (fun ts2 O2 => WS K W tb O2 ts2 { E with nx := I (i + 1), ct := I (i + 1), bk := E.nx }))
    (hd : ∀ ts' O', I ns.length ts' O' → E.nx ts' O') : ForEx K W g tb E ts (itD (nums ns)) O :=
  for_D I h0 (fun i d ts' O' hi e hI => by
    have e' : (ns.map D.int)[i]? = some d := e
    rw [List.getElem?_map] at e'
    cases q : ns[i]? with
    | none =>
      rw [q] at e'
      cases e'
    | some r =>
      rw [q] at e'
      have e2 : D.int r = d := Option.some.inj e'
      subst e2
      exact hs i r ts' O' (by rw [nums_len] at hi; exact hi) q hI) (by rw [nums_len]; exact hd)
theorem for_E {ds : List D} (I : Nat → List T → List OD → Prop) (h0 : I 0 ts O)
    (hs : ∀ i d ts' O', i < ds.length → ds[i]? = some d → I i ts' O' → WG K W g (.v (.tup [.int (i : Nat), d])) O' ts' (fun ts2 O2 => WS K W tb O2 ts2 { E with nx := I (i + 1), ct := I (i + 1), bk := E.nx }))
    (hd : ∀ ts' O', I ds.length ts' O' → E.nx ts' O') : ForEx K W g tb E ts (itE ds) O :=
  ⟨ds.length, I, fun i h z => by
    have := itE_none z
    omega, by unfold itE; rw [List.getElem?_eq_none (Nat.le_refl _)]; rfl, h0, fun i t ts' O' hi ht hI => by
    obtain ⟨d, e, rfl⟩ := itE_some ht
    exact hs i d ts' O' hi e hI, hd⟩
theorem for_EN {ns : List Int} (I : Nat → List T → List OD → Prop) (h0 : I 0 ts O)
    (hs : ∀ i r ts' O', i < ns.length → ns[i]? = some r → I i ts' O' → WG K W g (.v (.tup [.int (i : Nat), .int r])) O' ts' (fun ts2 O2 => WS K W tb O2 ts2 { E with nx := I (i + 1), ct := I (i + 1), bk := E.nx }))
    (hd : ∀ ts' O', I ns.length ts' O' → E.nx ts' O') : ForEx K W g tb E ts (itE (nums ns)) O :=
  for_E I h0 (fun i d ts' O' hi e hI => by
    have e' : (ns.map D.int)[i]? = some d := e
    rw [List.getElem?_map] at e'
    cases q : ns[i]? with
    | none =>
      rw [q] at e'
      cases e'
    | some r =>
      rw [q] at e'
      have e2 : D.int r = d := Option.some.inj e'
      subst e2
      exact hs i r ts' O' (by rw [nums_len] at hi; exact hi) q hI) (by rw [nums_len]; exact hd)
theorem for_R {lo c : Int} {n : Nat} (I : Nat → List T → List OD → Prop) (h0 : I 0 ts O)
    (hs : ∀ i ts' O', i < n → I i ts' O' → WG K W g (.v (.int (lo + (i : Int) * c))) O' ts' (fun ts2 O2 => WS K W tb O2 ts2 { E with nx := I (i + 1), ct := I (i + 1), bk := E.nx }))
    (hd : ∀ ts' O', I n ts' O' → E.nx ts' O') : ForEx K W g tb E ts (itR lo c n) O :=
  ⟨n, I, fun i h z => by
    have := itR_none z
    omega, by unfold itR; rw [if_neg (Nat.lt_irrefl n)], h0, fun i t ts' O' hi ht hI => by
    obtain ⟨_, rfl⟩ := itR_some ht
    exact hs i ts' O' hi hI, hd⟩
/-- range(n), range(lo, hi): the items as they are -/
theorem for_R1 {n : Nat} (I : Nat → List T → List OD → Prop) (h0 : I 0 ts O)
    (hs : ∀ i ts' O', i < n → I i ts' O' → WG K W g (.v (.int (i : Nat))) O' ts' (fun ts2 O2 => WS K W tb O2 ts2 { E with nx := I (i + 1), ct := I (i + 1), bk := E.nx }))
    (hd : ∀ ts' O', I n ts' O' → E.nx ts' O') : ForEx K W g tb E ts (itR 0 1 n) O :=
  for_R I h0 (fun i ts' O' hi hI => by
    rw [Int.zero_add, Int.mul_one]
    exact hs i ts' O' hi hI) hd
theorem for_Z {ds es : List D} (hl : ds.length = es.length) (I : Nat → List T → List OD → Prop) (h0 : I 0 ts O)
    (hs : ∀ i d e ts' O', i < ds.length → ds[i]? = some d → es[i]? = some e → I i ts' O' → WG K W g (.v (.tup [d, e])) O' ts' (fun ts2 O2 => WS K W tb O2 ts2 { E with nx := I (i + 1), ct := I (i + 1), bk := E.nx }))
    (hd : ∀ ts' O', I ds.length ts' O' → E.nx ts' O') : ForEx K W g tb E ts (itZ ds es) O :=
  ⟨ds.length, I, fun i h z => by
    rcases itZ_none z with z | z <;> omega, by unfold itZ; rw [List.getElem?_eq_none (Nat.le_refl ds.length)], h0, fun i t ts' O' hi ht hI => by
    obtain ⟨d, e, e1, e2, rfl⟩ := itZ_some ht
    exact hs i d e ts' O' hi e1 e2 hI, hd⟩
theorem s_forE {wi : TI} (h : WI K W wi O ts (fun f O1 => ForEx K W g tb E ts f O1) (fun C fs O' => E.xe C fs ts O')) : WS K W (tFor wi g tb) O ts E := s_for h
/-- a, b = a pair -/
theorem g_pair {n : Nat} {i j : Nat} {a b : D} {N : List T → List OD → Prop} (hn : n = 2) (k : N ((ts.set i (.v a)).set j (.v b)) O) : WG K W (gTup K n (gCons (gName i) (gCons (gName j) gNil))) (.v (.tup [a, b])) O ts N :=
  g_tup (by rw [hn] <;> rfl) (g_cons (g_name (g_cons (g_name (g_nil k)))))
theorem g_trip {n : Nat} {i j l : Nat} {a b c : D} {N : List T → List OD → Prop} (hn : n = 3) (k : N (((ts.set i (.v a)).set j (.v b)).set l (.v c)) O) : WG K W (gTup K n (gCons (gName i) (gCons (gName j) (gCons (gName l) gNil)))) (.v (.tup [a, b, c])) O ts N :=
  g_tup (by rw [hn] <;> rfl) (g_cons (g_name (g_cons (g_name (g_cons (g_name (g_nil k)))))))
theorem g_quad {n : Nat} {i j l m : Nat} {a b c d : D} {N : List T → List OD → Prop} (hn : n = 4) (k : N ((((ts.set i (.v a)).set j (.v b)).set l (.v c)).set m (.v d)) O) : WG K W (gTup K n (gCons (gName i) (gCons (gName j) (gCons (gName l) (gCons (gName m) gNil))))) (.v (.tup [a, b, c, d])) O ts N :=
  g_tup (by rw [hn] <;> rfl) (g_cons (g_name (g_cons (g_name (g_cons (g_name (g_cons (g_name (g_nil k)))))))))
variable {P : PT'} {X : XX} {te ta tv : TE} {DE' : DE} {C : Addr} {f : Str}
theorem w_fldN (n : NoAttr K C f) (c : Cls K C) (h : WE K W ta O ts (fun x O1 => ∃ fs d, InsD x O1 C fs ∧ fs.lookup f = some d ∧ P (.v d) O1) X) : WE K W (tFld K ta f) O ts P X := w_fld c n h
theorem s_fldN (n : NoAttr K C f) (c : Cls K C) (h : WE K W tv O ts (fun y O1 => WE K W ta O1 ts (fun x O2 => ∃ i fs d, x = .own i ∧ y = .v d ∧ O2[i]? = some (.ins C fs) ∧ fs.length < 1000 ∧ DE'.nx ts (O2.set i (.ins C (putD f d fs)))) (fun C fs O' => DE'.xe C fs ts O')) (fun C fs O' => DE'.xe C fs ts O')) :
    WS K W (sFld K ta tv f) O ts DE' := s_fld c n h
theorem drop_at {α : Type} {xs : List α} {i : Nat} {x : α} (h : xs[i]? = some x) : xs.drop i = x :: xs.drop (i + 1) := by
  obtain ⟨hi, e⟩ := List.getElem?_eq_some_iff.mp h
  rw [List.drop_eq_getElem_cons hi, e]
theorem unv_vs : ∀ {ds : List D} {ys : List T} {es : List D}, unv ys = some es → unv (ds.map T.v ++ ys) = some (ds ++ es)
  | [], _, _, h => h
  | d :: ds, _, _, h => by
    show (unv (ds.map T.v ++ _)).map (d :: ·) = _
    rw [unv_vs h] <;> rfl
theorem atI_m1 {α : Type} {xs : List α} {x : α} : atI (xs ++ [x]) (-1) = some x := by
  have e : ixN (xs ++ [x]).length (-1) = some xs.length := by
    unfold ixN
    rw [List.length_append]
    simp
    omega
  unfold atI
  rw [e]
  simp
theorem unv_nums {fs : List Int} {x : Int} : unv ((nums fs).map T.v ++ [.v (.int x)]) = some (nums (fs ++ [x])) := by
  rw [unv_vs (ys := [.v (.int x)]) (es := [.int x]) rfl]
  unfold nums
  rw [List.map_append] <;> rfl
theorem star_len {fs : List Int} {y : T} : ((nums fs).map T.v ++ [y]).length = fs.length + 1 := by
  rw [List.length_append, List.length_map, nums_len] <;> rfl
theorem sizeL_ok {n : Nat} (h : n ≤ 1000000) : n ≤ sizeLine := Nat.le_trans h (Nat.le_of_ble_eq_true rfl)
theorem lt_sz {fs : List Int} (h : fs.length < 1000000) : (nums fs).length < sizeLine := Nat.lt_of_lt_of_le (by rw [nums_len]; exact h) (Nat.le_of_ble_eq_true rfl)
theorem lt_szD {fs : List D} (h : fs.length < 1000000) : fs.length < sizeLine := Nat.lt_of_lt_of_le h (Nat.le_of_ble_eq_true rfl)
theorem nums_app {fs : List Int} {x : Int} : nums fs ++ [.int x] = nums (fs ++ [x]) := by
  unfold nums
  rw [List.map_append] <;> rfl
theorem atI_m1n {fs : List Int} {x : Int} : atI (nums (fs ++ [x])) (-1) = some (.int x) := by
  rw [← nums_app]
  exact atI_m1
/-- a stop that is never reached -/
theorem nb_t {A B : Prop} {c : Bool} (hc : c = true) (h : B) : ((!c) = true → A) ∧ ((!c) = false → B) := ⟨fun z => (by rw [hc] at z; cases z), fun _ => h⟩
end
end G

set_option Elab.async false
set_option linter.all false
set_option maxRecDepth 100000
set_option maxHeartbeats 4000000
/-! GN: comprehensions over what is known. -/
namespace G
open PySem PySem.Spec PyProof.Rows L2
section
variable {K : PySem.W.Frag} {W : WX} {O : List OD} {ts : List T} {g : TG} {te : TE} {vs : List Nat} {P : PT'}
def LcEx (K : PySem.W.Frag) (W : WX) (g : TG) (te : TE) (vs : List Nat) (P : PT') (ts : List T) (f : Nat → Option T) (O1 : List OD) : Prop :=
  ∃ (n : Nat) (I : Nat → List D → List OD → Prop), (∀ i, i < n → f i ≠ none) ∧ f n = none ∧ I 0 [] O1 ∧ (∀ i acc O', I i acc O' → O'.length = O1.length) ∧
      (∀ i t acc O', i < n → f i = some t → I i acc O' → WG K W g t (O' ++ [.lst acc]) (wipeT ts vs) (fun ts2 O2 => WT K W tYes O2 ts2 (fun c O3 =>
        (c = true → WE K W te O3 ts2 (fun y O4 => ∃ d O5, y = .v d ∧ O4 = O5 ++ [.lst acc] ∧ acc.length < sizeLine ∧ I (i + 1) (acc ++ [d]) O5) X0) ∧ (c = false → ∃ O5, O3 = O5 ++ [.lst acc] ∧ I (i + 1) acc O5)) X0)) ∧
      (∀ acc O', I n acc O' → P (.v (.lst acc)) O')
theorem WG.imp {t : T} {N N' : List T → List OD → Prop} (h : WG K W g t O ts N) (q : ∀ ts O, N ts O → N' ts O) : WG K W g t O ts N' := fun b A σ H Q v s rs r kn => h b A σ H Q v s rs r fun ts σ A' O' H' x s m r => kn ts σ A' O' H' (q ts O' x) s m r
/-- with effects -/
theorem lc_I {f : Nat → Option T} {n : Nat} {item : Nat → T} (hf : ∀ i, i < n → f i = some (item i)) (hn : f n = none) (hz : n ≤ 1000000) (I : Nat → List D → List OD → Prop) (h0 : I 0 [] O)
    (hlen : ∀ i acc O', I i acc O' → O'.length = O.length ∧ acc.length = i)
    (hs : ∀ i acc O', i < n → I i acc O' → WG K W g (item i) (O' ++ [.lst acc]) (wipeT ts vs) (fun ts2 O2 => WE K W te O2 ts2 (fun y O4 => ∃ d O5, y = .v d ∧ O4 = O5 ++ [.lst acc] ∧ I (i + 1) (acc ++ [d]) O5) X0))
    (hd : ∀ acc O', I n acc O' → P (.v (.lst acc)) O') : LcEx K W g te vs P ts f O := by
  refine ⟨n, I, fun i h z => ?_, hn, h0, fun i acc O' h => (hlen i acc O' h).1, fun i t acc O' hi ht hI => ?_, hd⟩
  · rw [hf i h] at z
    cases z
  · have e : item i = t := by
      rw [hf i hi] at ht
      exact Option.some.inj ht
    subst e
    refine (hs i acc O' hi hI).imp fun ts2 O2 q => w_yes ⟨fun _ => q.imp fun y O4 p => ?_, fun z => by cases z⟩
    obtain ⟨d, O5, e1, e2, p⟩ := p
    exact ⟨d, O5, e1, e2, Nat.lt_of_lt_of_le (show acc.length < 1000000 by rw [(hlen i acc O' hI).2]; omega) (Nat.le_of_ble_eq_true rfl), p⟩
theorem range_get {α : Type} {n : Nat} {r : Nat → α} {i : Nat} : ((List.range n).map r) ++ [r n] = (List.range (n + 1)).map r := by
  rw [List.range_succ, List.map_append] <;> rfl
/-- without -/
theorem lc_P {f : Nat → Option T} {n : Nat} {item : Nat → T} (r : Nat → D) (hf : ∀ i, i < n → f i = some (item i)) (hn : f n = none) (hz : n ≤ 1000000)
    (hs : ∀ i acc, i < n → WG K W g (item i) (O ++ [.lst acc]) (wipeT ts vs) (fun ts2 O2 => WE K W te O2 ts2 (fun y O4 => y = .v (r i) ∧ O4 = O ++ [.lst acc]) X0))
    (hd : P (.v (.lst ((List.range n).map r))) O) : LcEx K W g te vs P ts f O := by
  refine lc_I hf hn hz (fun i acc O' => O' = O ∧ acc = (List.range i).map r) ⟨rfl, rfl⟩ (fun i acc O' h => ?_) (fun i acc O' hi h => ?_) fun acc O' h => ?_
  · obtain ⟨rfl, rfl⟩ := h
    exact ⟨rfl, by rw [List.length_map, List.length_range]⟩
  · obtain ⟨rfl, rfl⟩ := h
    refine (hs i _ hi).imp fun ts2 O2 q => q.imp fun y O4 p => ?_
    obtain ⟨rfl, rfl⟩ := p
    exact ⟨_, _, rfl, rfl, rfl, range_get (i := i)⟩
  · obtain ⟨rfl, rfl⟩ := h
    exact hd
theorem lc_R {n : Nat} (r : Nat → D) (hz : n ≤ 1000000)
    (hs : ∀ i acc, i < n → WG K W g (.v (.int (i : Nat))) (O ++ [.lst acc]) (wipeT ts vs) (fun ts2 O2 => WE K W te O2 ts2 (fun y O4 => y = .v (r i) ∧ O4 = O ++ [.lst acc]) X0))
    (hd : P (.v (.lst ((List.range n).map r))) O) : LcEx K W g te vs P ts (itR 0 1 n) O :=
  lc_P (item := fun i => .v (.int (i : Nat))) r (fun i hi => by
    unfold itR
    rw [if_pos hi, Int.zero_add, Int.mul_one]) (by unfold itR; rw [if_neg (Nat.lt_irrefl n)]) hz hs hd
theorem lc_RI {n : Nat} (hz : n ≤ 1000000) (I : Nat → List D → List OD → Prop) (h0 : I 0 [] O)
    (hlen : ∀ i acc O', I i acc O' → O'.length = O.length ∧ acc.length = i)
    (hs : ∀ i acc O', i < n → I i acc O' → WG K W g (.v (.int (i : Nat))) (O' ++ [.lst acc]) (wipeT ts vs) (fun ts2 O2 => WE K W te O2 ts2 (fun y O4 => ∃ d O5, y = .v d ∧ O4 = O5 ++ [.lst acc] ∧ I (i + 1) (acc ++ [d]) O5) X0))
    (hd : ∀ acc O', I n acc O' → P (.v (.lst acc)) O') : LcEx K W g te vs P ts (itR 0 1 n) O :=
  lc_I (item := fun i => .v (.int (i : Nat))) (fun i hi => by
    unfold itR
    rw [if_pos hi, Int.zero_add, Int.mul_one]) (by unfold itR; rw [if_neg (Nat.lt_irrefl n)]) hz I h0 hlen hs hd
theorem map_range {α β : Type} {f : α → β} : ∀ {xs : List α} {r : Nat → β}, (∀ i x, xs[i]? = some x → r i = f x) → (List.range xs.length).map r = xs.map f := fun {xs r} h => by
  refine List.ext_getElem (by rw [List.length_map, List.length_range, List.length_map]) fun i h1 h2 => ?_
  rw [List.getElem_map, List.getElem_map, List.getElem_range]
  rw [List.length_map] at h2
  exact h i _ (List.getElem?_eq_getElem h2)
theorem lc_A {α : Type} (xs : List α) (e : α → D) (f : α → D) (hz : xs.length ≤ 1000000)
    (hs : ∀ x acc, x ∈ xs → WG K W g (.v (e x)) (O ++ [.lst acc]) (wipeT ts vs) (fun ts2 O2 => WE K W te O2 ts2 (fun y O4 => y = .v (f x) ∧ O4 = O ++ [.lst acc]) X0))
    (hd : P (.v (.lst (xs.map f))) O) : LcEx K W g te vs P ts (itD (xs.map e)) O := by
  refine lc_P (n := xs.length) (item := fun i => .v ((xs.map e).getD i .non)) (fun i => (xs.map f).getD i .non) (fun i hi => ?_) ?_ hz (fun i acc hi => ?_) ?_
  · unfold itD
    have h2 : i < (xs.map e).length := by rw [List.length_map]; exact hi
    rw [List.getElem?_eq_getElem h2, List.getD_eq_getElem?_getD, List.getElem?_eq_getElem h2] <;> rfl
  · unfold itD
    rw [List.getElem?_eq_none (by rw [List.length_map]; exact Nat.le_refl _)] <;> rfl
  · have h2 := hs xs[i] acc (List.getElem_mem hi)
    have e1 : (xs.map e).getD i .non = e xs[i] := by
      rw [List.getD_eq_getElem?_getD, List.getElem?_map, List.getElem?_eq_getElem hi] <;> rfl
    have e2 : (xs.map f).getD i .non = f xs[i] := by
      rw [List.getD_eq_getElem?_getD, List.getElem?_map, List.getElem?_eq_getElem hi] <;> rfl
    rw [e1, e2]
    exact h2
  · rw [map_range (f := f) (xs := xs) fun i x hx => by rw [List.getD_eq_getElem?_getD, List.getElem?_map, hx] <;> rfl]
    exact hd
/-- the target is one name -/
theorem w_lc1 {wi : TI} {i : Nat} {vs : List Nat} {X : XX} (h : WI K W wi O ts (fun f O1 => LcEx K W (gName i) te vs P ts f O1) X) (hm : i ∈ vs) : WE K W (tLc wi (gName i) tYes te vs) O ts P X := w_lc (tgt_name hm) h
theorem w_lcT {wi : TI} {vs : List Nat} {X : XX} (h : WI K W wi O ts (fun f O1 => LcEx K W g te vs P ts f O1) X) (hg : Tgt g vs) : WE K W (tLc wi g tYes te vs) O ts P X := w_lc hg h
end
/-! places -/
theorem getD_some {α : Type} {xs : List α} {i : Nat} {d : α} (h : i < xs.length) : xs[i]? = some (xs.getD i d) := by
  rw [List.getD_eq_getElem?_getD, List.getElem?_eq_getElem h] <;> rfl
theorem atIM {α : Type} {xs : List α} {f : α → D} {i : Nat} (d : α) (h : i < xs.length) : atI (xs.map f) (i : Int) = some (f (xs.getD i d)) := by
  refine atI_nat ?_
  rw [List.getElem?_map, getD_some (d := d) h] <;> rfl
theorem atIZ {α : Type} {xs : List α} {f : α → D} {j : Int} (i : Nat) (d : α) (hj : j = i) (h : i < xs.length) : atI (xs.map f) j = some (f (xs.getD i d)) := by
  rw [hj]
  exact atIM d h
theorem atIN {xs : List Int} {i : Nat} (h : i < xs.length) : atI (nums xs) (i : Int) = some (.int (xs.getD i 0)) := atIM (f := D.int) 0 h
theorem atINZ {xs : List Int} {j : Int} (i : Nat) (hj : j = i) (h : i < xs.length) : atI (nums xs) j = some (.int (xs.getD i 0)) := atIZ (f := D.int) i 0 hj h
theorem atIneg {α : Type} {xs : List α} {x : α} (h : xs[xs.length - 1]? = some x) : atI xs (-1) = some x := by
  have hl := (List.getElem?_eq_some_iff.mp h).1
  have e : ixN xs.length (-1) = some (xs.length - 1) := by
    unfold ixN
    rw [if_neg (by omega), if_pos (by omega)]
    congr 1
    omega
  unfold atI
  rw [e]
  exact h
theorem atInegM {α : Type} {xs : List α} {f : α → D} {n : Nat} (d : α) (h : xs.length = n + 1) : atI (xs.map f) (-1) = some (f (xs.getD n d)) := by
  refine atIneg ?_
  rw [List.length_map, h, Nat.add_sub_cancel, List.getElem?_map, getD_some (d := d) (by omega)] <;> rfl
theorem atI_m1M {α : Type} {xs : List α} {f : α → D} {x : α} : atI ((xs ++ [x]).map f) (-1) = some (f x) := by
  rw [List.map_append]
  exact atI_m1
theorem len_m {α : Type} {xs : List α} {f : α → D} : ((xs.map f).length : Int) = xs.length := by rw [List.length_map]
theorem len_n {xs : List Int} : ((nums xs).length : Int) = xs.length := by rw [nums_len]
def tupN (ns : List Int) : D := .tup (nums ns)
theorem pl_tupN {n : Nat} {ns : List Int} : pl (n + 1) (tupN ns) = true := pl_numsT
theorem pl_tups {n : Nat} {xs : List (List Int)} : pl (n + 2) (.lst (xs.map tupN)) = true := pls_map (fun _ => pl_tupN) xs
theorem rg_down {n : Nat} (h : n ≤ 1000000) : RgC ((n : Int) - 1) (-1) (-1) n := by
  have := RgC.neg (i := (n : Int) - 1) (j := -1) (by omega) (by omega) (by omega) (by omega)
  rwa [show (((n : Int) - 1) - (-1)).toNat = n by omega] at this
theorem cutD_take {xs : List D} {n : Nat} (h : n ≤ xs.length) : cutD xs none (some (n : Int)) = xs.take n := by
  unfold cutD
  rw [HT.sIx_none, HT.sIx_nat, Nat.min_eq_left h, List.drop_zero, Nat.sub_zero]
theorem cut_nums {xs : List Int} {n : Nat} (h : n ≤ xs.length) : cutD (nums xs) none (some (n : Int)) = nums (xs.take n) := by
  rw [cutD_take (by rw [nums_len]; exact h)]
  unfold nums
  rw [List.map_take]
end G

set_option Elab.async false
set_option linter.all false
set_option maxRecDepth 100000
set_option maxHeartbeats 4000000
/-! GO: the rules of HandS with K given, so that they serve inside comprehensions. -/
namespace G
open PySem PySem.Spec PyProof.Rows L2
section
variable {X : Cx}
theorem ix_listK (K : PySem.W.Frag) (h : X.K = K := by rfl) : IxR X (rIxL K) := h ▸ ix_list
theorem ix_tupK (K : PySem.W.Frag) (h : X.K = K := by rfl) : IxR X (rIxT K) := h ▸ ix_tup
theorem sl_listK (K : PySem.W.Frag) (h : X.K = K := by rfl) : SlR X (rSlL K) := h ▸ sl_list
theorem sl_tupAK (K : PySem.W.Frag) (h : X.K = K := by rfl) : SlR X (rSlA K) := h ▸ sl_tupA
theorem op_eqDK (K : PySem.W.Frag) (hu : X.A.units + 64 < cLine) (h : X.K = K := by rfl) : OpR X (compareOp .Eq) (rEqD K) := h ▸ op_eqD hu
theorem op_neDK (K : PySem.W.Frag) (hu : X.A.units + 64 < cLine) (h : X.K = K := by rfl) : OpR X (compareOp .NotEq) (rNeD K) := h ▸ op_neD hu
theorem op_catAK (K : PySem.W.Frag) (h : X.K = K := by rfl) : OpR X (binaryOp .Add) (rCatA K) := h ▸ op_catA
theorem call_isiK (K : PySem.W.Frag) (h : X.K = K := by rfl) : CallR X (.builtin "isinstance") (rIsi K) := h ▸ call_isi
theorem call_isiSK (K : PySem.W.Frag) (h : X.K = K := by rfl) : CallR X (.builtin "isinstance") (rIsiS K) := h ▸ call_isiS
theorem cr_lenK (K : PySem.W.Frag) (h : X.K = K := by rfl) : CallR X (.builtin "len") (rLen K) := h ▸ cr_len
theorem cr_listK (K : PySem.W.Frag) (h : X.K = K := by rfl) : CallR X (.type "list") (rListOf K) := h ▸ cr_list
theorem cr_tupK (K : PySem.W.Frag) (h : X.K = K := by rfl) : CallR X (.type "tuple") (rTupOf K) := h ▸ cr_tup
theorem cr_sumK (K : PySem.W.Frag) (hc : X.calm = true) (h : X.K = K := by rfl) : CallR X (.builtin "sum") (rSum K) := h ▸ cr_sum hc
theorem cr_allK (K : PySem.W.Frag) (hc : X.calm = true) (h : X.K = K := by rfl) : CallR X (.builtin "all") (rAll K) := h ▸ cr_all hc
theorem cr_anyK (K : PySem.W.Frag) (hc : X.calm = true) (h : X.K = K := by rfl) : CallR X (.builtin "any") (rAny K) := h ▸ cr_any hc
variable {e : Expr} {f : Str} {pos : Pos} {ta : TE}
theorem pe_fldK (K : PySem.W.Frag) (he : PE X e ta) (hb : attributeBase e f X.env (eval e X.env) = eval e X.env := by rfl) (h : X.K = K := by rfl) : PE X (.Attribute e f pos) (tFld K ta f) := h ▸ pe_fld he hb
theorem pe_conK (K : PySem.W.Frag) (he : PE X e ta) (hb : attributeBase e f X.env (eval e X.env) = eval e X.env := by rfl) (h : X.K = K := by rfl) : PE X (.Attribute e f pos) (tCon K ta f) := h ▸ pe_con he hb
theorem pg_tupK (K : PySem.W.Frag) {es : List Expr} {k : Nat} {t : TGs} {n : Nat} (hc : X.calm = true) (h : PGs X es t)
    (hn : (assignEach es X.env).length = n := by rfl) (hst : (assignEach es X.env).findIdx? (·.1) = none := by rfl) (hK : X.K = K := by rfl) : PG X (.Tuple es k pos) (gTup K n t) := hK ▸ pg_tup hc h hn hst
theorem pi_listK (K : PySem.W.Frag) {tg : Expr} (he : PE X e ta) (h : X.K = K := by rfl) : PI X tg e (iList K ta) := h ▸ pi_list he
theorem pi_tupK (K : PySem.W.Frag) {tg : Expr} (he : PE X e ta) (h : X.K = K := by rfl) : PI X tg e (iTup K ta) := h ▸ pi_tup he
end
end G

set_option Elab.async false
set_option linter.all false
set_option maxRecDepth 100000
set_option maxHeartbeats 4000000
/-! GP: a law's end. -/
namespace G
open PySem PySem.Spec PyProof.Rows L2
def CXa (P : Program) : CXT := fun outer H s E u s' => ∃ w, L2.CX P w outer H s E u s'
theorem cxa_nil {P : Program} {H : Hp} {s : Shared} {e : Value} {s' : Shared} (h : CXa P [] H s (fun _ _ _ => False) e s') : False := by
  obtain ⟨w, a, B, H', cls, d, _, _, _, _, _, _, _, z⟩ := h
  exact z
theorem fn_end {P : Program} {w : World} {K : PySem.W.Frag} {mg : Str → Option Value} {base : Heap} {k l : Nat} {f : Addr} {fd : FuncData} {ps : List Str} {sp : SpD} (h : Fn P w K mg base k f ps sp) (lk : LkF K f fd) (hk : k ≤ l) : FnOk P w K mg base (CXa P) l f fd ps (lift K sp) := by
  obtain ⟨fd2, F, _, _, lk2⟩ := h
  obtain ⟨oc, od, osl, e⟩ := lk
  obtain ⟨oc2, od2, osl2, e2⟩ := lk2
  rw [e] at e2
  injection e2 with e2
  injection e2 with _ _ e2
  injection e2 with e2
  subst e2
  refine ⟨F.len, fun A outer s H args us vs Q E hr h0 hb hv h => ?_⟩
  refine codeAny_mono (F.run A outer s H args us vs Q E (hr.mono hk) h0 hb hv h) fun r s' c => ?_
  cases r with
  | ok x => cases x <;> exact c
  | error e => exact ⟨w, c⟩
/-- the law's own call -/
def sp_law (_K : PySem.W.Frag) : SpD := fun ts O P _ => ∃ (cs : List Int), ts = [.v (.scr cs)] ∧ O = [] ∧ cs.length ≤ 1000000 ∧ P (.v (.bl true)) []
theorem sp_law_len {K : PySem.W.Frag} {ts O P X} (h : sp_law K ts O P X) : ts.length = 1 := by
  obtain ⟨cs, rfl, _⟩ := h
  rfl
theorem law_lift {K : PySem.W.Frag} {H : Hp} {a : Addr} {ns : List Int} (hz : ns.length ≤ 1000000) (h : SqL K H a (ns.map V.int)) (ht : TabsK K H) : lift K (sp_law K) [.ref a] H (fun v _ => v = .bl true) fun _ _ _ => False := by
  have eh : ∀ L : List Addr, L = [] → hid L H = H := fun L e => by
    subst e
    funext a
    unfold hid
    rw [if_neg (by simp)]
  refine ⟨[], [], [], [.v (.scr ns)], fun t O => t = .v (.bl true), fun _ _ _ => False, ⟨rfl, ⟨[], rfl⟩, Ex.refl _, fun z hz => (by cases hz), List.nodup_nil, fun a h => (by cases h), fun i a o h _ => (by simp at h), ht⟩, rfl, ?_, ⟨ns, rfl, rfl, hz, rfl⟩, fun t v O' H' q _ _ r => ?_, fun _ _ _ _ _ q => q.elim⟩
  · refine ⟨.ref a, [], rfl, ⟨_, rfl, a, rfl, ?_⟩, rfl⟩
    show SqL K (hid _ H) a _
    rw [eh _ rfl]
    exact h
  · subst q
    obtain ⟨_, e, rfl⟩ := r
    exact (Option.some.inj e)
end G

set_option Elab.async false
set_option linter.all false
set_option maxRecDepth 100000
set_option maxHeartbeats 4000000
/-! GQ: defs with a star parameter. -/
namespace G
open PySem PySem.Spec PyProof.Rows L2
/-- a def with a star parameter, by its promise over data: behind n values the rest comes as a tuple -/
def liftS (K : PySem.W.Frag) (n : Nat) (sp : SpD) : Sp := fun vs H Q E => ∃ ws rest, vs = ws ++ rest ∧ ws.length = n ∧ rest.length ≤ sizeLine ∧ ∀ p, H p = none → lift K sp (ws ++ [V.ref p]) (upd H p (.tup rest)) Q E
def FnS (P : Program) (w : World) (K : PySem.W.Frag) (mg : Str → Option Value) (base : Heap) (k : Nat) (f : Addr) (n : Nat) (sp : SpD) : Prop :=
  L2.FnR P w K mg base (L2.CX P w) k f (liftS K n sp) ∧ PySem.W.keepIn K (.ref f) = true
section
variable {P : Program} {w : World} {K : PySem.W.Frag} {mg : Str → Option Value} {base : Heap} {k : Nat} {x qual : Str} {params : Arguments} {body : List Stmt} {scope : Scope} {f : Addr} {fd : FuncData} {N ps : List Str} {pv : Str} {sp : SpD}
theorem fnS (F : FunD K x qual params body scope [] [] f fd) (S : FnScope N (ps ++ [pv]) scope)
    (hb : ∀ (kV doc pm : Value) (an : Option Addr) (cdv ct : Value) (us rest : List Value), us.length = ps.length →
      bindArgs (PySem.W.fnOf x qual params body scope .none kV doc pm an cdv ct) ⟨us ++ rest, []⟩ = (newTuple rest >>= fun t => pure (ps.zip us ++ [(pv, t)])))
    (h : ∀ (cdv : Value) (A : Around) (outer : List Env) (s : Shared) (H : Hp) (vs : List V) (Q : VK) (E : XK), Room k (A.deeper (envOfC qual scope s.heap.objs.size f cdv)) → lift K sp vs H Q E →
      ∃ t, PSs (cxOf (L2.CX P w) P w K mg base N qual scope f cdv A outer s H E) body t ∧ t { nx := fun _ H' => Q .non H', rt := Q } (L2.start N vs) H) :
    FnS P w K mg base (k + 1) f ps.length sp := by
  obtain ⟨⟨oc, od, dV, kV, doc, pm, an, cdv, ct, osl, rfl, lk, hcd, hD, _⟩, kp⟩ := F
  refine ⟨?_, kp⟩
  rcases hD with ⟨_, rfl⟩ | ⟨z, _⟩
  · exact StX.fn_star lk hcd S StX.cxUp (hb kV doc pm an cdv ct) fun A outer s H vs Q E hr hs => h cdv A outer s H vs Q E hr hs
  · exact absurd rfl z
end
section
variable {X : Cx} {CX : CXT} {k : Nat} {f : Addr} {sp : Sp} {E : XK} {x : Str} {e : Expr} {es : List Expr} {t : TA} {p pos : Pos}
def tCallR (sp : Sp) (E : XK) (t : TA) : TE := fun σ H Q => t σ H fun vs H1 => sp vs H1 Q E
theorem pe_callR (F : L2.FnR X.prog X.w X.K X.mg X.base CX k f sp) (hr : Room k X.A) (hg : Gl X x)
    (hm : X.mg x = some (.ref f)) (hk : PySem.W.keepIn X.K (.ref f) = true) (hx : Passes CX X E) (ha : PA X (e :: es) t)
    (hdb : (x == ("__debug__" : Str)) = false := by decide) (he : starEach (e :: es) X.env = (false, eval e X.env) :: starEach es X.env := by rfl)
    (hpl : (backTo pos (starEach es X.env)).any (·.1) = false := by rfl) : PE X (.Call (.Name x p) (e :: es) [] pos) (tCallR sp E t) := by
  constructor
  intro pins s σ H Q I h
  apply wpAny_Call_Name_kw
  refine ld_glob I hg hm ?_ hdb
  refine PySem.W.callWith_K I.ok.mod.kin hk (thn (ha.run pos pins s σ H _ I h) fun us s1 z => ?_) he hpl
  obtain ⟨vs, H1, I1, r, q⟩ := z
  exact ⟨I1.kIn, wpAny_call (run_fnR F hr hx I1 r q)⟩
theorem pe_callR0 (F : L2.FnR X.prog X.w X.K X.mg X.base CX k f sp) (hr : Room k X.A) (hg : Gl X x)
    (hm : X.mg x = some (.ref f)) (hk : PySem.W.keepIn X.K (.ref f) = true) (hx : Passes CX X E) (hdb : (x == ("__debug__" : Str)) = false := by decide) : PE X (.Call (.Name x p) [] [] pos) (tCallR sp E tNil) := by
  constructor
  intro pins s σ H Q I h
  apply wpAny_Call_Name_kw
  refine ld_glob I hg hm ?_ hdb
  exact PySem.W.callWith_K0 I.kIn hk (wpAny_call (run_fnR (us := []) F hr hx I .nil h))
end
section
variable {K : PySem.W.Frag} {W : WX} {O : List OD} {ts : List T} {P : PT'} {X : XX} {sp : SpD} {tr : TA} {E : XK}
theorem repL_split {F : Hp} {ds : List D} {vs : List V} (h : RepL K F ds vs) (n : Nat) : RepL K F (ds.take n) (vs.take n) ∧ RepL K F (ds.drop n) (vs.drop n) := ⟨h.take n, h.drop n⟩
theorem unv_app {ds : List D} {d : D} : unv (ds.map T.v ++ [.v d]) = some (ds ++ [d]) := unv_vs (ys := [.v d]) (es := [d]) rfl
theorem w_fnS0 {n : Nat} (h : WA K W tr O ts (fun xs O1 => ∃ ds, unv xs = some ds ∧ n ≤ ds.length ∧ ds.length ≤ 1000000 ∧ sp ((ds.take n).map T.v ++ [.v (.tup (ds.drop n))]) [] (fun t _ => (∃ d, t = .v d) ∧ P t O1) (fun _ _ _ => False)) X) :
    WE K W (tCallR (liftS K n sp) E0 tr) O ts P X := fun b A σ H Q s rs kv kx =>
  h b A σ H _ s rs (fun xs vs A1 O1 H1 p1 s1 n1 r1 => by
    obtain ⟨ds, e, hn, hz, q⟩ := p1
    have r2 := r1.plain e
    have hl : vs.length = ds.length := r2.length
    obtain ⟨ra, rb⟩ := repL_split r2 n
    refine ⟨vs.take n, vs.drop n, (List.take_append_drop n vs).symm, by rw [List.length_take]; omega, Nat.le_trans (show (vs.drop n).length ≤ 1000000 by rw [List.length_drop]; omega) (Nat.le_of_ble_eq_true rfl), fun p hp => ?_⟩
    obtain ⟨s2, n2, f2⟩ := s1.lay hp (.tup (vs.drop n))
    refine lift_p (W := fun _ _ _ _ => False) (X := fun _ _ _ => False) (σ := σ) s2 (repTs_app (ys := [.v (.tup (ds.drop n))]) ⟨.ref p, [], rfl, ⟨_, rfl, p, vs.drop n, rfl, SqT.of f2, rb.ex n2.ext⟩, rfl⟩ (ra.ex n2.ext)) unv_app (fun C d H z => z) q (kv.nxt (n1.trans n2)) (fun C fs A' O' H' d z => z.elim)) kx
end
end G

set_option Elab.async false
set_option linter.all false
set_option maxRecDepth 100000
set_option maxHeartbeats 4000000
/-! GR: constant tuples; loops over typed rows; comprehensions with a test. -/
namespace G
open PySem PySem.Spec PyProof.Rows L2
/-! a tuple of integers that the module holds -/
def TupC (K : PySem.W.Frag) (a : Addr) (ns : List Int) : Prop := ∃ (o : Obj) (its : Array Value) (n : Nat), K.lookup a = some o ∧ o.cls = .type "tuple" ∧ o.data = .seq its n ∧ its.size ≤ sizeLine ∧ Vals (ns.map V.int) its.toList
def tupB (K : PySem.W.Frag) (a : Addr) (ns : List Int) : Bool := match K.lookup a with
  | some ⟨.type "tuple", _, .seq its _, _⟩ => Nat.ble its.size 1000 && decide (its.toList.map (fun v => match v with | .int i _ => some i | _ => none) = ns.map some)
  | _ => false
theorem vals_of : ∀ {vs : List Value} {ns : List Int}, vs.map (fun v => match v with | .int i _ => some i | _ => none) = ns.map some → Vals (ns.map V.int) vs
  | [], [], _ => .nil
  | [], _ :: _, h => by cases h
  | _ :: _, [], h => by cases h
  | v :: vs, n :: ns, h => by
    rw [List.map_cons, List.map_cons] at h
    injection h with h1 h2
    refine .cons ?_ (vals_of h2)
    cases v <;> first | cases h1 | skip
    exact ⟨_, rfl⟩
theorem tupB_ok {K : PySem.W.Frag} {a : Addr} {ns : List Int} (h : tupB K a ns = true) : TupC K a ns := by
  unfold tupB at h
  split at h
  · rename_i e
    obtain ⟨h1, h2⟩ := Bool.and_eq_true_iff.mp h
    exact ⟨_, _, _, e, rfl, rfl, Nat.le_trans (Nat.le_of_ble_eq_true h1) (Nat.le_of_ble_eq_true rfl), vals_of (of_decide_eq_true h2)⟩
  · cases h
section
variable {K : PySem.W.Frag} {W : WX} {O : List OD} {ts : List T} {P : PT'} {X : XX} {g : TG} {te : TE} {vs : List Nat}
theorem w_ctup {a : Addr} {ns : List Int} (h : TupC K a ns) (k : P (.v (.tup (nums ns))) O) : WE K W (tC (.ref a)) O ts P X := by
  obtain ⟨o, its, n, h1, h2, h3, h4, h5⟩ := h
  exact w_c (d := .tup (nums ns)) (fun H => ⟨a, ns.map V.int, rfl, .inr ⟨o, its, n, h1, h2, h3, h4, h5⟩, repL_ints⟩) k
/-! rows of one kind -/
theorem for_A {α : Type} {E : DE} {tb : TS} {xs : List α} {e : α → D} (I : Nat → List T → List OD → Prop) (h0 : I 0 ts O)
    (hs : ∀ i x ts' O', i < xs.length → xs[i]? = some x → I i ts' O' → WG K W g (.v (e x)) O' ts' (fun ts2 O2 => WS K W tb O2 ts2 { E with nx := I (i + 1), ct := I (i + 1), bk := E.nx }))
    (hd : ∀ ts' O', I xs.length ts' O' → E.nx ts' O') : ForEx K W g tb E ts (itD (xs.map e)) O :=
  for_D I h0 (fun i d ts' O' hi eq hI => by
    rw [List.getElem?_map] at eq
    cases q : xs[i]? with
    | none =>
      rw [q] at eq
      cases eq
    | some r =>
      rw [q] at eq
      have e2 : e r = d := Option.some.inj eq
      subst e2
      exact hs i r ts' O' (by rw [List.length_map] at hi; exact hi) q hI) (by rw [List.length_map]; exact hd)
theorem for_AE {α : Type} {E : DE} {tb : TS} {xs : List α} {e : α → D} (I : Nat → List T → List OD → Prop) (h0 : I 0 ts O)
    (hs : ∀ i x ts' O', i < xs.length → xs[i]? = some x → I i ts' O' → WG K W g (.v (.tup [.int (i : Nat), e x])) O' ts' (fun ts2 O2 => WS K W tb O2 ts2 { E with nx := I (i + 1), ct := I (i + 1), bk := E.nx }))
    (hd : ∀ ts' O', I xs.length ts' O' → E.nx ts' O') : ForEx K W g tb E ts (itE (xs.map e)) O :=
  for_E I h0 (fun i d ts' O' hi eq hI => by
    rw [List.getElem?_map] at eq
    cases q : xs[i]? with
    | none =>
      rw [q] at eq
      cases eq
    | some r =>
      rw [q] at eq
      have e2 : e r = d := Option.some.inj eq
      subst e2
      exact hs i r ts' O' (by rw [List.length_map] at hi; exact hi) q hI) (by rw [List.length_map]; exact hd)
/-! comprehensions with a test -/
def LcExT (K : PySem.W.Frag) (W : WX) (g : TG) (tt : TT) (te : TE) (vs : List Nat) (P : PT') (ts : List T) (f : Nat → Option T) (O1 : List OD) : Prop :=
  ∃ (n : Nat) (I : Nat → List D → List OD → Prop), (∀ i, i < n → f i ≠ none) ∧ f n = none ∧ I 0 [] O1 ∧ (∀ i acc O', I i acc O' → O'.length = O1.length) ∧
      (∀ i t acc O', i < n → f i = some t → I i acc O' → WG K W g t (O' ++ [.lst acc]) (wipeT ts vs) (fun ts2 O2 => WT K W tt O2 ts2 (fun c O3 =>
        (c = true → WE K W te O3 ts2 (fun y O4 => ∃ d O5, y = .v d ∧ O4 = O5 ++ [.lst acc] ∧ acc.length < sizeLine ∧ I (i + 1) (acc ++ [d]) O5) X0) ∧ (c = false → ∃ O5, O3 = O5 ++ [.lst acc] ∧ I (i + 1) acc O5)) X0)) ∧
      (∀ acc O', I n acc O' → P (.v (.lst acc)) O')
theorem w_lcF1 {wi : TI} {tt : TT} {i : Nat} (h : WI K W wi O ts (fun f O1 => LcExT K W (gName i) tt te vs P ts f O1) X) (hm : i ∈ vs) : WE K W (tLc wi (gName i) tt te vs) O ts P X := w_lc (tgt_name hm) h
theorem w_lcFT {wi : TI} {tt : TT} (h : WI K W wi O ts (fun f O1 => LcExT K W g tt te vs P ts f O1) X) (hg : Tgt g vs) : WE K W (tLc wi g tt te vs) O ts P X := w_lc hg h
/-- [f x for x in xs if p x], without effects -/
theorem lcF_A {α : Type} {tt : TT} (xs : List α) (e : α → D) (p : α → Bool) (f : α → D) (hz : xs.length ≤ 1000000)
    (hs : ∀ x acc, x ∈ xs → WG K W g (.v (e x)) (O ++ [.lst acc]) (wipeT ts vs) (fun ts2 O2 => WT K W tt O2 ts2 (fun c O3 => c = p x ∧ O3 = O ++ [.lst acc] ∧ (p x = true → WE K W te (O ++ [.lst acc]) ts2 (fun y O4 => y = .v (f x) ∧ O4 = O ++ [.lst acc]) X0)) X0))
    (hd : P (.v (.lst ((xs.filter p).map f))) O) : LcExT K W g tt te vs P ts (itD (xs.map e)) O := by
  refine ⟨xs.length, fun i acc O' => O' = O ∧ acc = ((xs.take i).filter p).map f, fun i hi => itD_ne (by rw [List.length_map]; exact hi), ?_, ⟨rfl, rfl⟩, fun i acc O' h => by rw [h.1], fun i t acc O' hi ht h => ?_, fun acc O' h => ?_⟩
  · unfold itD
    rw [List.getElem?_eq_none (by rw [List.length_map]; exact Nat.le_refl _)] <;> rfl
  · obtain ⟨rfl, rfl⟩ := h
    obtain ⟨d, hd', rfl⟩ := itD_some ht
    rw [List.getElem?_map, List.getElem?_eq_getElem hi] at hd'
    have e2 : e xs[i] = d := Option.some.inj hd'
    subst e2
    have hl : (((xs.take i).filter p).map f).length < sizeLine := by
      rw [List.length_map]
      exact Nat.lt_of_le_of_lt (List.length_filter_le _ _) (Nat.lt_of_lt_of_le (show (xs.take i).length < 1000000 by rw [List.length_take]; omega) (Nat.le_of_ble_eq_true rfl))
    have et : xs.take (i + 1) = xs.take i ++ [xs[i]] := by rw [List.take_succ, List.getElem?_eq_getElem hi] <;> rfl
    refine (hs xs[i] _ (List.getElem_mem hi)).imp fun ts2 O2 q b A σ H Q s rs kb kx => q b A σ H Q s rs (fun c A' O' H' q2 => kb c A' O' H' ?_) kx
    obtain ⟨rfl, rfl, q3⟩ := q2
    refine ⟨fun hp => (q3 hp).imp fun y O4 q4 => ?_, fun hp => ⟨_, rfl, rfl, ?_⟩⟩
    · obtain ⟨rfl, rfl⟩ := q4
      refine ⟨_, _, rfl, rfl, hl, rfl, ?_⟩
      rw [et, List.filter_append, List.map_append, List.filter_cons_of_pos hp] <;> rfl
    · rw [et, List.filter_append, List.filter_cons_of_neg (by rw [hp]; exact Bool.false_ne_true)]
      simp
  · obtain ⟨rfl, rfl⟩ := h
    rw [List.take_length]
    exact hd
end
/-! lists: +, *, turned about -/
section
variable {K : PySem.W.Frag} {W : WX} {O : List OD} {ts : List T} {P : PT'} {X : XX} {te : TE}
theorem w_catL {x y : T} {ds es : List D} (hx : LstD x O ds) (hy : LstD y O es) (hz : ds.length + es.length ≤ 1000000) (k : P (.v (.lst (ds ++ es))) O) : WR K rCat x y O P := fun b A H Q v u s r1 r2 kv => by
  obtain ⟨a, vs, rfl, h1, h2⟩ := lstD_atH hx s r1
  obtain ⟨c, us, rfl, h3, h4⟩ := lstD_atH hy s r2
  refine ⟨a, c, vs, us, rfl, rfl, h1, h3, Nat.le_trans (by rw [h2.length, h4.length]; exact hz) (Nat.le_of_ble_eq_true rfl), fun p hp => ?_⟩
  obtain ⟨s2, n2, q⟩ := s.lay hp (.lst (vs ++ us))
  exact kv _ _ A O _ k s2 n2 ⟨_, rfl, p, _, rfl, q, (h2.append h4).ex n2.ext⟩
theorem repL_rep {F : Hp} {ds : List D} {vs : List V} (h : RepL K F ds vs) : ∀ n : Nat, RepL K F (List.replicate n ds).flatten (List.replicate n vs).flatten
  | 0 => rfl
  | n + 1 => by
    rw [List.replicate_succ, List.flatten_cons, List.replicate_succ, List.flatten_cons]
    exact h.append (repL_rep h n)
theorem w_repL {x : T} {ds : List D} {k : Int} (hx : LstD x O ds) (h0 : 0 ≤ k) (h1 : k ≤ 1000) (hz : ds.length ≤ 100) (kk : P (.v (.lst (List.replicate k.toNat ds).flatten)) O) : WR K rRep x (.v (.int k)) O P := fun b A H Q v u s r1 r2 kv => by
  obtain ⟨a, vs, rfl, e1, e2⟩ := lstD_atH hx s r1
  obtain ⟨_, e, rfl⟩ := r2
  cases e
  have hl : vs.length * k.toNat ≤ 100 * 1000 := Nat.mul_le_mul (by rw [e2.length]; exact hz) (by omega)
  refine ⟨a, k, vs, rfl, rfl, e1, by omega, by omega, Nat.le_trans hl (Nat.le_of_ble_eq_true rfl), fun p hp => ?_⟩
  obtain ⟨s2, n2, q⟩ := s.lay hp (.lst (List.replicate k.toNat vs).flatten)
  exact kv _ _ A O _ kk s2 n2 ⟨_, rfl, p, _, rfl, q, (repL_rep e2 _).ex n2.ext⟩
theorem RepL.reverse {F : Hp} : ∀ {ds : List D} {vs : List V}, RepL K F ds vs → RepL K F ds.reverse vs.reverse
  | [], _, h => by
    rw [show _ = [] from h]
    exact rfl
  | d :: ds, _, h => by
    obtain ⟨v, r, e1, h1, h2⟩ := h
    subst e1
    rw [List.reverse_cons, List.reverse_cons]
    exact (RepL.reverse h2).append ⟨v, [], rfl, h1, rfl⟩
theorem w_revL (h : WE K W te O ts (fun x O1 => ∃ ds, LstD x O1 ds ∧ P (.v (.lst ds.reverse)) O1) X) : WE K W (tRevL K te) O ts P X := fun b A σ H Q s rs kv kx =>
  h b A σ H _ s rs (fun x v A1 O1 H1 p1 s1 n1 r1 => by
    obtain ⟨ds, hx, k⟩ := p1
    obtain ⟨a, vs, rfl, h1, h2⟩ := lstD_atH hx s1 r1
    refine ⟨a, vs, rfl, SqL.of h1, fun p hp => ?_⟩
    obtain ⟨s2, n2, q⟩ := s1.lay hp (.lst vs.reverse)
    exact kv _ _ A1 O1 _ k s2 (n1.trans n2) ⟨_, rfl, p, _, rfl, q, h2.reverse.ex n2.ext⟩) kx
/-- [f a b for a, b in zip(xs, ys)] -/
theorem lc_Z {g : TG} {te : TE} {vs : List Nat} {α β : Type} (xs : List α) (ys : List β) (e1 : α → D) (e2 : β → D) (f : α → β → D) (hl : xs.length = ys.length) (hz : xs.length ≤ 1000000)
    (hs : ∀ x y acc, x ∈ xs → y ∈ ys → WG K W g (.v (.tup [e1 x, e2 y])) (O ++ [.lst acc]) (wipeT ts vs) (fun ts2 O2 => WE K W te O2 ts2 (fun y' O4 => y' = .v (f x y) ∧ O4 = O ++ [.lst acc]) X0))
    (hd : P (.v (.lst (List.zipWith f xs ys))) O) : LcEx K W g te vs P ts (itZ (xs.map e1) (ys.map e2)) O := by
  refine lc_P (n := xs.length) (item := fun i => match xs[i]?, ys[i]? with | some x, some y => .v (.tup [e1 x, e2 y]) | _, _ => .no) (fun i => match xs[i]?, ys[i]? with | some x, some y => f x y | _, _ => .non) (fun i hi => ?_) ?_ hz (fun i acc hi => ?_) ?_
  · unfold itZ
    rw [List.getElem?_map, List.getElem?_map, List.getElem?_eq_getElem hi, List.getElem?_eq_getElem (show i < ys.length by omega)] <;> rfl
  · unfold itZ
    rw [List.getElem?_eq_none (by rw [List.length_map]; exact Nat.le_refl _)] <;> rfl
  · have h2 : i < ys.length := by omega
    have h := hs xs[i] ys[i] acc (List.getElem_mem hi) (List.getElem_mem h2)
    rw [List.getElem?_eq_getElem hi, List.getElem?_eq_getElem h2]
    exact h
  · have e : (List.range xs.length).map (fun i => match xs[i]?, ys[i]? with | some x, some y => f x y | _, _ => D.non) = List.zipWith f xs ys := by
      refine List.ext_getElem (by rw [List.length_map, List.length_range, List.length_zipWith]; omega) fun i h1 h2 => ?_
      rw [List.length_map, List.length_range] at h1
      rw [List.getElem_map, List.getElem_range, List.getElem_zipWith, List.getElem?_eq_getElem h1, List.getElem?_eq_getElem (show i < ys.length by omega)]
    rw [e]
    exact hd
/-- two names for a pair -/
theorem tgt_pair {n i j : Nat} {vs : List Nat} (hi : i ∈ vs) (hj : j ∈ vs) : Tgt (gTup K n (gCons (gName i) (gCons (gName j) gNil))) vs := tgt_tup (tgt_cons1 hi (tgt_cons1 hj tgt_nil))
end
/-! bounds of great numbers -/
theorem mul_okP {i j : Int} {a b : Nat} (ha : i.natAbs < 2 ^ a) (hb : j.natAbs < 2 ^ b) (h : a + b ≤ 999000) : CMulW i j := by
  refine wide_mul (a := a + 1) (b := b + 1) ?_ ?_ (by omega) (by omega) (by omega)
  · rw [Nat.pow_succ]; omega
  · rw [Nat.pow_succ]; omega
theorem nabs {i : Int} {n : Nat} (h0 : -(2 ^ n : Int) < i) (h1 : i < 2 ^ n) : i.natAbs < 2 ^ n := natAbs_lt h0 h1
end G

set_option Elab.async false
set_option linter.all false
set_option maxRecDepth 100000
set_option maxHeartbeats 4000000
/-! GS: the making of an own exception below ValueError whose __init__ begins with super().__init__('..'). -/
namespace GX
open PySem PySem.Spec PyProof.Rows L2 NdefX
/-! ### a method-wrapper is called -/
section
open PySem.W PySem.Calls
variable {prog : Program} {w : World} {A : Around} {E : Value → Shared → Prop} {h : Heap} {g : Array GenState} {d : Drawn} {t : Nat} {os : OsState}
variable {nm q : Str} {C N : Addr} {bs bm : List Value} {hdct : Bool} {sn : List Str} {sub : List Value} {ab : Bool} {col : Option Bool} {dd : Option Addr} {k0 k1 k2 k3 k5 : Option Value}
theorem call_mw {u e t0 : Addr} {rest : List Value} {Q : Value → Shared → Prop}
    (hC : h.get? C = some (excClassObj nm q C N bs bm hdct sn sub ab col dd k0 k1 k2 k3 k5 "ValueError.__new__")) (he : h.get? e = some (HandSPX.excO C t0)) (hu : h.get? u = some (kxs_mw "ValueError.__init__" e)) (hz : rest.length ≤ sizeLine)
    (hq : ∀ h' t1, (∀ b o, b ≠ e → h.get? b = some o → h'.get? b = some o) → h'.get? e = some (HandSPX.excO C t1) → Q .none ⟨h', g, d, t, os⟩) :
    wpAny (model prog w) A (call (.ref u) rest) Q E ⟨h, g, d, t, os⟩ := by
  refine wpAny_call (codeAny_of_tree ?_)
  show wpAny _ A.in1 (callAny (.ref u) ⟨rest, []⟩) _ _ _
  simp only [callAny]
  refine wpAny_bind (wpAny_load hu ?_)
  simp only [kxs_mw, show (Value.type "method-wrapper" == Value.type "method" || Value.type "method-wrapper" == Value.type "builtin_function_or_method" || Value.type "method-wrapper" == Value.type "method-wrapper") = true by decide, if_true]
  refine W.KFB.if_so (by decide) ?_
  refine wpAny_bind (ESX.check_bound F.excBase_ValueError hC he rfl ?_)
  refine wpAny_bind (wpAny_pure (wpAny_pure ?_))
  refine ⟨Code.quiet_builtin _ (by decide +kernel), codeAny_builtin F.excBase_ValueError.initEntry ?_⟩
  rw [Around.under_plainId F.excBase_ValueError.init.plain _]
  wp_walk
  refine hq _ h.objs.size (fun b o hb ho => ?_) ?_
  · rw [Heap.get?_update_other _ _ (Ne.symm hb)]
    exact Heap.get?_push_of_some _ ho
  · rw [Heap.get?_update_self _ (Heap.get?_push_of_some _ he) rfl]
    rfl
end
/-! ### what the text says of such a class -/
/-- the function at f, its words by F, its class at C; ar: its first parameter -/
structure InitC (K : PySem.W.Frag) (C f cc : Addr) (F : NF) (ar : Str) : Prop where
  exc : OexC K C
  fn : ∃ oc od doc pm ctv osl, K.lookup f = some ⟨oc, od, .func (F.fd doc pm ctv), osl⟩
  code : PySem.W.codeIn K (.ref F.c) F.qual = true
  cl : F.cl = [(("__class__" : Str), cc)]
  cell : ∃ oc od osl, K.lookup cc = some ⟨oc, od, .cell (some (.ref C)), osl⟩
  file : ∃ oc od vs osl fl tf, K.lookup F.c = some ⟨oc, od, .fields vs, osl⟩ ∧ vs[2]? = some (.str fl tf)
  kp : PySem.W.keepIn K (.ref f) = true
  st : PySem.W.nsIn K cStatics "thirdparty.any" = some none
  su : PySem.W.nsIn K mainGlobals "super" = some none
  al : PySem.W.ks_superIn K C C "__init__" = some (some (.builtin "ValueError.__init__"))
  ve : PySem.W.subIn K (.ref C) (.type "ValueError") = some true
  me : PySem.W.mroIn K C (.ref C) = some true
  hp : ∃ x, (F.params.posonlyargs ++ F.params.args).head? = some x ∧ x.arg = ar
section
variable {CX : CXT} {P : Program} {w : World} {K : PySem.W.Frag} {mg : Str → Option Value} {base : Heap} {N ps : List Str} {F : NF} {f C cc : Addr} {k : Nat} {sp : Sp} {ar : Str} {tail : List Stmt} {z : Str} {kd : Nat} {p0 p1 p2 p3 p4 p5 : Pos}
/-- such an __init__ by what stands behind its first statement -/
theorem init_of (T : InitC K C f cc F ar)
    (hbody : F.body = .Expr (.Call (.Attribute (.Call (.Name "super" p0) [] [] p1) "__init__" p2) [.Constant (.str z) kd p3] [] p4) p5 :: tail)
    (hfile : ∀ oc od vs osl fl tf, K.lookup F.c = some ⟨oc, od, .fields vs, osl⟩ → vs[2]? = some (.str fl tf) → ((P.main.file : Str) == fl) = true)
    (htop : (P.main.scope.names.lookup ("super" : Str)).isSome = false) (S : NScope N ps ["__class__"] F.scope) (hps : ps.head? = some ar)
    (pl : Addr → Sem Bool)
    (hev : ∀ L, eval (.Call (.Attribute (.Call (.Name "super" p0) [] [] p1) "__init__" p2) [.Constant (.str z) kd p3] [] p4) (envF F f L) = (do
      let ov ← attributeBase (.Call (.Name "super" p0) [] [] p1) "__init__" (envF F f L) (eval (.Call (.Name "super" p0) [] [] p1) (envF F f L))
      standAt p2.atName
      let (f', first) ← holding [ov] (getMethod ov "__init__" (pl L))
      callWith p4 f' first (backTo p4 (starEach [.Constant (.str z) kd p3] (envF F f L))) []))
    (hi : ∀ L, interactive (envF F f L) = false) (hsw : ∀ L, swapsWith (.Call (.Attribute (.Call (.Name "super" p0) [] [] p1) "__init__" p2) [.Constant (.str z) kd p3] [] p4) none p5.line (envF F f L) = pure false) (hks : F.scope.names.lookup ("super" : Str) = some .globalImplicit) (hb : ∀ (doc pm ctv : Value) (us : List Value), us.length = ps.length → bindArgs (F.fd doc pm ctv) ⟨us, []⟩ = pure (ps.zip us))
    (len : ∀ vs H Q E, sp vs H Q E → vs.length = ps.length)
    (hsp : ∀ vs H Q E, sp vs H Q E → ∃ a ws, vs = .ref a :: ws ∧ H a = some (exo a C none))
    (ht : ∀ (A : Around) (outer : List Env) (s : Shared) (H : Hp) (vs : List V) (Q : VK) (E : XK), sp vs H Q E →
      ∃ t, PSs (ncx CX P w K mg base N F f A outer s H E) tail t ∧ t { nx := fun _ H' => Q .non H', rt := Q } (startF N vs [none]) H) :
    ∃ doc pm ctv, FnOk P w K mg base CX (k + 1) f (F.fd doc pm ctv) ps sp := by
  obtain ⟨oc, od, doc, pm, ctv, osl, lk⟩ := T.fn
  refine ⟨doc, pm, ctv, len, fun A outer s H args us vs Q E hr e0 hb' r hq => ?_⟩
  have hl := len _ _ _ _ hq
  have KX : K.In s.heap := e0.mod.kin.keeps fun b o e => (e0.bs b o e).1
  have lim : s.heap.NoLimit := e0.mod.nolimit.keeps fun b o e => (e0.bs b o e).1
  obtain ⟨oc2, od2, osl2, lkc⟩ := T.cell
  obtain ⟨oc3, od3, vs3, osl3, fl, tf, lkf, hv3⟩ := T.file
  obtain ⟨arg, harg, rfl⟩ := T.hp
  obtain ⟨nmC, q, NC, bs, bm, sn, sub, ab, col, dd, k0, k1, k2, k3, k5, hC, hbm⟩ := T.exc.cls
  have hHc : H cc = none := by
    have := e0.mod.kin _ _ lkc
    exact (e0.bs _ _ this).2
  have CA : CellsAt F.cl ["__class__"] [none] s.heap H := by
    rw [T.cl]
    have key : ∀ (y : Str) (c : Addr), List.lookup y [(("__class__" : Str), cc)] = some c → y = "__class__" ∧ c = cc := fun y c h => by
      rw [List.lookup_cons] at h
      cases e : (y == ("__class__" : Str)) with
      | true =>
        rw [e] at h
        exact ⟨beq_iff_eq.mp e, (Option.some.inj h).symm⟩
      | false =>
        rw [e] at h
        cases h
    refine ⟨rfl, fun y c h => ?_, fun x y c h1 h2 => (key x c h1).1.trans (key y c h2).1.symm, fun i y h => ?_⟩
    · obtain ⟨_, rfl⟩ := key y c h
      exact ⟨hHc, some (.ref C), _, KX _ _ lkc, rfl⟩
    · cases i with
      | zero =>
        have e : ("__class__" : Str) = y := Option.some.inj h
        subst e
        exact ⟨cc, by simp [List.lookup], fun v hv => by cases hv⟩
      | succ i => cases h
  refine PySem.ks_codeAny_call_defAt (fd := F.fd doc pm ctv) (body := F.body) (binds := ps.zip us) hr.depth (KX _ _ lk) rfl lim (PySem.W.codeRec_of KX T.code) rfl hb' S.nocell (fun ⟨n, _⟩ hy => S.par n (List.of_mem_zip hy).1) (fun h₁ hns kp => ?_) S.co S.gen S.kind
  show _root_.PySem.wpAt (model P w) (A.deeper (envF F f s.heap.objs.size)) (.func F.body (envF F f s.heap.objs.size)) (execs F.body (envF F f s.heap.objs.size)) _ _ _
  obtain ⟨t, ht, hqt⟩ := ht A outer s H vs Q E hq
  have I : Inv (ncx CX P w K mg base N F f A outer s H E) [] (startF N vs [none]) H { s with heap := h₁, toks := s.toks + (ps.zip us).length } := inv_startN S hr.hd e0 hl r CA hns kp
  obtain ⟨a, ws, rfl, ea⟩ := hsp _ _ _ _ hq
  have hx1 : PA (ncx CX P w K mg base N F f A outer s H E) [.Constant (.str z) kd p3] (tCons (tC (.str z)) tNil) := pa_cons pe_str pa_nil
  obtain ⟨u0, ur, rfl, ra⟩ : ∃ u0 ur, us = u0 :: ur ∧ u0 = Value.ref a := by
    cases r with
    | cons r1 r2 => exact ⟨_, _, rfl, r1⟩
  subst ra
  have fin : ∀ {fl : Flow} {s' : Shared}, SP (ncx CX P w K mg base N F f A outer s H E) [] { nx := fun _ H' => Q .non H', rt := Q } fl s' → CR CX outer P w H s Q E (.ok (.ret (match fl with | .ret v => v | _ => .none))) s' := fun {fl s'} hs => by
    have fin' : ∀ {σ' : L2.St} {H' : Hp} {v : V} {u : Value}, Inv (ncx CX P w K mg base N F f A outer s H E) [] σ' H' s' → L2.RelV v u → Q v H' → CE outer P w H s Q u s' :=
      fun {σ' H' v u} J rv q => ⟨v, H', J.os, J.bare, J.base, J.hok, rv, q⟩
    cases fl with
    | ret u =>
      obtain ⟨v, σ', H', J, rv, q⟩ := hs
      exact fin' J rv q
    | next =>
      obtain ⟨σ', H', J, q⟩ := hs
      exact fin' (v := V.non) (u := Value.none) J rfl q
    | brk =>
      obtain ⟨_, _, _, q⟩ := hs
      exact False.elim q
    | cont =>
      obtain ⟨_, _, _, q⟩ := hs
      exact False.elim q
  rw [hbody]
  refine ks_wpAt_execs_cons ?_
  refine ks_wpAt_Expr_any ?_ (hi _) (hsw _)
  refine ks_wpAt_MethodCall (he := hev _) ?_
  have KX1 : K.In h₁ := KX.keeps kp
  obtain ⟨cdC, hcdC, hmroC⟩ : ∃ cd, PySem.W.clsIn K C = some cd ∧ cd.mro = .ref C :: bm := ⟨_, by unfold PySem.W.clsIn; rw [hC] <;> rfl, rfl⟩
  obtain ⟨oD, hD1, hD2⟩ : ∃ oD, h₁.get? C = some oD ∧ oD.data = .cls cdC := by
    unfold PySem.W.clsIn at hcdC
    rw [hC] at hcdC
    cases hcdC
    exact ⟨_, KX1 _ _ hC, rfl⟩
  obtain ⟨t1, ho⟩ := exo_at I.hok ea
  have ho : h₁.get? a = some ({ cls := .ref C, dict := none, data := .fields #[.ref t1, .none, .none, .none, .bool false, .none] } : Obj) := ho
  have IA : PySem.W.InstAt h₁ a { cls := .ref C, dict := none, data := .fields #[.ref t1, .none, .none, .none, .bool false, .none] } C none := ⟨ho, rfl, rfl, trivial⟩
  obtain ⟨mb, hmb1, hmb2⟩ := e0.mod.blt
  have bk : ∀ b o, base.get? b = some o → h₁.get? b = some o := fun b o e => kp b o (e0.bs b o e).1
  have hsup : mg "super" = none := PySem.W.mg_none_of e0.mod.kin e0.mod.glob T.su
  have hc2 : F.scope.names.lookup ("__class__" : Str) = some .free := S.frk _ List.mem_cons_self
  have hself : arg.arg ∈ ps := List.mem_of_mem_head? (by rw [hps]; rfl)
  refine ks_wpAt_super_base (env := envF F f s.heap.objs.size) hks hc2 (by decide) rfl (KX1 _ _ lk) rfl harg rfl (KX1 _ _ lkf) rfl hv3 (hfile _ _ _ _ _ _ lkf hv3) htop ?_
  refine PySem.W.ks_loadName_global S.kind hks (Calls.loadGlobal_builtin (env := envF F f s.heap.objs.size) (e0.mod.glob.keeps bk) hsup (hmb1.keeps bk) ((hmb2 _ (by decide)).trans (by rfl)) ⟨rfl, ?_⟩)
  have hcl2 : (envF F f s.heap.objs.size).cells.lookup ("__class__" : Str) = some cc := by
    show List.lookup _ F.cl = _
    rw [T.cl]
    rfl
  have ndP : ps.Nodup := by
    have q := S.nd.sublist (List.take_sublist (ps.length + [("__class__" : Str)].length) N)
    rw [S.pre] at q
    exact (List.nodup_append.mp q).1
  have hv0 : (ps.zip (Value.ref a :: ur)).reverse.lookup arg.arg = some (.ref a) := by
    refine zip_look (i := 0) ndP ?_ rfl
    rw [← List.head?_eq_getElem?]
    exact hps
  refine wpAny_loadName_free S.kind hc2 hcl2 ⟨_, KX1 _ _ lkc, rfl⟩ ?_
  refine wpAny_loadName_local S.kind (S.par _ hself) hns hv0 ?_
  refine ks_wpAny_isType_cls hD1 hD2 ⟨rfl, ?_⟩
  refine ks_wpAny_call_super hD1 hD2 ho rfl (fun c e => by cases e) (PySem.W.looks_mroIn KX1 T.me) (fun h2 e2 k2 => ?_)
  have KX2 : K.In h2 := KX1.keeps k2
  have IA2 : PySem.W.InstAt h2 a { cls := .ref C, dict := none, data := .fields #[.ref t1, .none, .none, .none, .bool false, .none] } C none := ⟨k2 _ _ ho, rfl, rfl, trivial⟩
  have hal : PySem.W.alongIn K "__init__" ((cdC.mro.dropWhile (· != .ref C)).drop 1) = some (some (.builtin "ValueError.__init__")) := by
    have z := T.al
    unfold PySem.W.ks_superIn at z
    rw [hcdC] at z
    exact z
  refine PySem.W.kxs_getMethod PySem.W.kxs_ValueError e2 (PySem.W.looks_opaque KX2 T.st) (l₀ := cdC.mro) ?_ rfl KX2 hal (IA2.type.andThen (PySem.W.looks_subIn KX2 T.ve)) (PySem.W.ks_ne KX2 IA2 hcdC) (by decide) ?_
  · exact fun A Q E s k q => wpAny_bind ((PySem.W.looks_clsIn KX2 hcdC) A _ E s k (wpAny_pure q))
  have I3 := (I.kept (t' := s.toks + (ps.zip (Value.ref a :: ur)).length) k2)
  have hu : (h2.push (PySem.W.kxs_mw "ValueError.__init__" a)).get? h2.objs.size = some (PySem.W.kxs_mw "ValueError.__init__" a) := Heap.get?_push_at rfl rfl
  have k3 : ∀ b o, h2.get? b = some o → (h2.push (PySem.W.kxs_mw "ValueError.__init__" a)).get? b = some o := fun b o e => Heap.get?_push_of_some _ e
  refine PySem.W.kxs_callWith (i := "ValueError.__init__") (u := h2.objs.size) (x := a) (by rfl) ?_
  have hstar : backTo p4 (starEach [Expr.Constant (.str z) kd p3] (envF F f s.heap.objs.size)) = (false, eval (.Constant (.str z) kd p3) (envF F f s.heap.objs.size)) :: backTo p4 (starEach [] (envF F f s.heap.objs.size)) := rfl
  rw [hstar]
  refine PySem.Calls.evalArgs_plain ?_
  refine Calls.spliced_cons (Calls.Constant_str ?_)
  refine Calls.spliced_nil ⟨hu, ?_⟩
  have I4 := I3.kept (t' := s.toks + (ps.zip (Value.ref a :: ur)).length + 1 + 1) k3
  refine call_mw (KX2.keeps k3 _ _ hC) (k3 _ _ (k2 _ _ ho)) hu (by show 1 ≤ sizeLine; rw [sizeLine_eq]; omega) fun h' t2 k hx => ?_
  have J := I4.write (t' := s.toks + (ps.zip (Value.ref a :: ur)).length + 1 + 1) (x := a) (e := a) (o := exo a C none) (by rw [ea]; exact True.intro) (.inl rfl) k ⟨_, hx⟩ (exo_ok hx)
  have eu : upd H a (exo a C none) = H := by
    funext b
    by_cases hb : b = a
    · rw [hb, upd_same, ea]
    · rw [upd_ne hb]
  rw [eu] at J
  refine wpAt_of_wpAny (wpAny_mono (ht.run [] _ _ H _ J hqt) (fun fl s' hs => fin hs) fun e s' hs => ?_)
  exact hs
end
end GX

set_option Elab.async false
set_option linter.all false
set_option maxRecDepth 100000
set_option maxHeartbeats 4000000
/-! GT: raise, calls that may raise, try .. except X as n: y = n, over data. -/
namespace G
open PySem PySem.Spec PyProof.Rows L2
/-- an own exception's __init__ that keeps one field, two -/
def spX1 (C : Addr) (f : Str) : Sp := fun vs H Q _ => ∃ a v, vs = [.ref a, v] ∧ H a = some (exo a C none) ∧ ∀ dx, H dx = none → dx ≠ a → Q .non (upd (upd H dx (exd dx [(f, v)])) a (exo a C (some dx)))
def spX2 (C : Addr) (f g : Str) : Sp := fun vs H Q _ => ∃ a v w, vs = [.ref a, v, w] ∧ H a = some (exo a C none) ∧ ∀ dx, H dx = none → dx ≠ a → Q .non (upd (upd (upd H dx (exd dx [(f, v)])) a (exo a C (some dx))) dx (exd dx [(g, w), (f, v)]))
section
variable {K : PySem.W.Frag} {W : WX} {O : List OD} {ts : List T} {E : DE} {te te2 : TE} {C : Addr} {f g : Str}
theorem s_raise1 (h : WE K W te O ts (fun x O' => ∃ d, x = .v d ∧ E.xe (.ref C) (some [(f, d)]) ts O') (fun C fs O' => E.xe C fs ts O')) :
    WS K W (fun _ σ H => tMkO C (spX1 C f) [] (tCons te tNil) σ H fun cls d H' => W cls d σ H') O ts E := fun b A σ H D s rs ks =>
  h b A σ H _ s rs (fun t v A' O' H' p s' n' r' => by
    obtain ⟨d, rfl, q⟩ := p
    obtain ⟨_, e, rd⟩ := r'
    cases e
    refine ⟨(show 1 ≤ 1000 by decide), fun a ha => ⟨a, v, rfl, upd_same, fun dx hdx hne => ⟨rfl, dx, [(f, v)], upd_same, ?_, ?_, ?_⟩⟩⟩
    · rw [upd_ne hne, upd_same]
    · rw [upd_ne hne] at hdx
      exact hdx
    · rw [upd_ne hne] at hdx
      have e : upd (del (upd (upd (upd H' a (exo a C none)) dx (exd dx [(f, v)])) a (exo a C (some dx))) a) dx (.xd [(f, v)]) = upd H' dx (.xd [(f, v)]) := by
        funext y
        by_cases h1 : y = dx
        · rw [h1, upd_same, upd_same]
        · rw [upd_ne h1, upd_ne h1]
          by_cases h2 : y = a
          · rw [h2, del_same, ha]
          · rw [del_ne h2, upd_ne h2, upd_ne h1, upd_ne h2]
      rw [e]
      obtain ⟨s2, n2, q2⟩ := s'.lay hdx (.xd [(f, v)])
      exact ks.xe _ _ ts σ A' O' _ (some dx) q s2 (n'.trans n2) (rs.nxt (n'.trans n2)) ⟨dx, _, rfl, q2, v, [], rfl, rd.ex n2.ext, rfl⟩) (ks.kx rs)
theorem s_raise2 (h : WE K W te O ts (fun x O1 => WE K W te2 O1 ts (fun y O' => ∃ d e, x = .v d ∧ y = .v e ∧ E.xe (.ref C) (some [(g, e), (f, d)]) ts O') (fun C fs O' => E.xe C fs ts O')) (fun C fs O' => E.xe C fs ts O')) :
    WS K W (fun _ σ H => tMkO C (spX2 C f g) [] (tCons te (tCons te2 tNil)) σ H fun cls d H' => W cls d σ H') O ts E := fun b A σ H D s rs ks =>
  h b A σ H _ s rs (fun t v A1 O1 H1 p1 s1 n1 r1 => p1 b A1 σ H1 _ s1 (rs.nxt n1) (fun t2 w A' O' H' p s' n2' r2' => by
    obtain ⟨d, e0, rfl, rfl, q⟩ := p
    have n' := n1.trans n2'
    obtain ⟨_, e, rd⟩ := r1.nxt n2'
    cases e
    obtain ⟨_, e, rw2⟩ := r2'
    cases e
    refine ⟨(show 2 ≤ 1000 by decide), fun a ha => ⟨a, v, w, rfl, upd_same, fun dx hdx hne => ⟨rfl, dx, [(g, w), (f, v)], ?_, upd_same, ?_, ?_⟩⟩⟩
    · rw [upd_ne (Ne.symm hne), upd_same]
    · rw [upd_ne hne] at hdx
      exact hdx
    · rw [upd_ne hne] at hdx
      have e : upd (del (upd (upd (upd (upd H' a (exo a C none)) dx (exd dx [(f, v)])) a (exo a C (some dx))) dx (exd dx [(g, w), (f, v)])) a) dx (.xd [(g, w), (f, v)]) = upd H' dx (.xd [(g, w), (f, v)]) := by
        funext y
        by_cases h1 : y = dx
        · rw [h1, upd_same, upd_same]
        · rw [upd_ne h1, upd_ne h1]
          by_cases h2 : y = a
          · rw [h2, del_same, ha]
          · rw [del_ne h2, upd_ne h1, upd_ne h2, upd_ne h1, upd_ne h2]
      rw [e]
      obtain ⟨s2, n2, q2⟩ := s'.lay hdx (.xd [(g, w), (f, v)])
      exact ks.xe _ _ ts σ A' O' _ (some dx) q s2 (n'.trans n2) (rs.nxt (n'.trans n2)) ⟨dx, _, rfl, q2, w, [(f, v)], rfl, rw2.ex n2.ext, v, [], rfl, rd.ex n2.ext, rfl⟩) ((ks.nxt n1).kx (rs.nxt n1))) (ks.kx rs)
end
section
variable {K : PySem.W.Frag} {W : WX} {O : List OD} {ts : List T} {P : PT'} {X : XX} {sp : SpD} {tr : TA}
/-- a call that may raise -/
theorem w_fnX (h : WA K W tr O ts (fun xs O1 => ∃ ds, unv xs = some ds ∧ sp xs [] (fun t _ => (∃ d, t = .v d) ∧ P t O1) (fun C fs _ => X C fs O1)) X) : WE K W (tCallS (lift K sp) (L2.WE W) tr) O ts P X := fun b A σ H Q s rs kv kx =>
  h b A σ H _ s rs (fun xs vs A1 O1 H1 p1 s1 n1 r1 => by
    obtain ⟨ds, e, p⟩ := p1
    exact lift_p (W := W) (σ := σ) s1 r1 e (fun C d H q => q) p (kv.nxt n1) (kx.nxt n1)) kx
def tCallRS (sp : Sp) (E : L2.St → XK) (t : TA) : TE := fun σ H Q => t σ H fun vs H1 => sp vs H1 Q (E σ)
end
section
variable {X : Cx} {CX : CXT} {k : Nat} {f : Addr} {sp : Sp} {E : L2.St → XK} {x : Str} {e : Expr} {es : List Expr} {t : TA} {p pos : Pos}
theorem run_fnRS {pins : List (Addr × Obj)} {σ : L2.St} {H : Hp} {s : Shared} {Q : VK} {us : List Value} {vs : List V} (F : L2.FnR X.prog X.w X.K X.mg X.base CX k f sp) (hr : Room k X.A) (hx : PassesAt CX X σ (E σ))
    (I : Inv X pins σ H s) (r : Vals vs us) (h : sp vs H Q (E σ)) : wpAny (model X.prog X.w) X.A (call (.ref f) us) (EP X pins σ Q) X.xe s := by
  have F2 : L2.FnR X.prog X.w X.K X.mg X.base CX k f (fun vs H Q E' => sp vs H Q E') := F
  refine wpAny_call (codeAny_mono (F2 X.A X.stack s H us vs Q (E σ) hr I.env0 r h) fun r' s' hq => ?_)
  cases r' with
  | error e => exact hx pins H s e s' I hq
  | ok fl =>
    cases fl with
    | ret u => exact I.after hq
    | next => exact False.elim hq
    | brk => exact False.elim hq
    | cont => exact False.elim hq
theorem pe_callRS (F : L2.FnR X.prog X.w X.K X.mg X.base CX k f sp) (hr : Room k X.A) (hg : Gl X x)
    (hm : X.mg x = some (.ref f)) (hk : PySem.W.keepIn X.K (.ref f) = true) (hx : ∀ σ, PassesAt CX X σ (E σ)) (ha : PA X (e :: es) t)
    (hdb : (x == ("__debug__" : Str)) = false := by decide) (he : starEach (e :: es) X.env = (false, eval e X.env) :: starEach es X.env := by rfl)
    (hpl : (backTo pos (starEach es X.env)).any (·.1) = false := by rfl) : PE X (.Call (.Name x p) (e :: es) [] pos) (tCallRS sp E t) := by
  refine ⟨fun pins s σ H Q I h => ?_⟩
  refine wpAny_Call_Name_kw (ld_glob I hg hm ?_ hdb)
  exact PySem.W.callWith_K (h₀ := X.base) I.ok.mod.kin hk (thn (ha.run pos pins s σ H _ I h) fun us s1 ⟨vs, H1, I1, r, q⟩ => ⟨I1.kIn, run_fnRS F hr (hx σ) I1 r q⟩) he hpl
end
section
variable {K : PySem.W.Frag} {W : WX} {O : List OD} {ts : List T} {P : PT'} {X : XX} {sp : SpD} {tr : TA}
theorem w_fnSX {n : Nat} (h : WA K W tr O ts (fun xs O1 => ∃ ds, unv xs = some ds ∧ n ≤ ds.length ∧ ds.length ≤ 1000000 ∧ sp ((ds.take n).map T.v ++ [.v (.tup (ds.drop n))]) [] (fun t _ => (∃ d, t = .v d) ∧ P t O1) (fun C fs _ => X C fs O1)) X) :
    WE K W (tCallRS (liftS K n sp) (L2.WE W) tr) O ts P X := fun b A σ H Q s rs kv kx =>
  h b A σ H _ s rs (fun xs vs A1 O1 H1 p1 s1 n1 r1 => by
    obtain ⟨ds, e, hn, hz, q⟩ := p1
    have r2 := r1.plain e
    have hl : vs.length = ds.length := r2.length
    obtain ⟨ra, rb⟩ := repL_split r2 n
    refine ⟨vs.take n, vs.drop n, (List.take_append_drop n vs).symm, by rw [List.length_take]; omega, Nat.le_trans (show (vs.drop n).length ≤ 1000000 by rw [List.length_drop]; omega) (Nat.le_of_ble_eq_true rfl), fun p hp => ?_⟩
    obtain ⟨s2, n2, f2⟩ := s1.lay hp (.tup (vs.drop n))
    exact lift_p (W := W) (σ := σ) s2 (repTs_app (ys := [.v (.tup (ds.drop n))]) ⟨.ref p, [], rfl, ⟨_, rfl, p, vs.drop n, rfl, SqT.of f2, rb.ex n2.ext⟩, rfl⟩ (ra.ex n2.ext)) unv_app (fun C d H q => q) q (kv.nxt (n1.trans n2)) (kx.nxt (n1.trans n2))) kx
end
/-! ### an exception that was caught is kept -/
section
variable {X : Cx} {pins : List (Addr × Obj)} {σ : L2.St} {H : Hp} {s : Shared}
theorem excH_ok {P : Program} {w : World} {H : Hp} {h : Heap} {a C : Addr} {d : Option Addr} {oe : Obj} (e : h.get? a = some oe) (z : Zc (.ref C) d oe) (hd : ∃ vs, oe.data = .fields vs) : ObjOk P w H h a (excH a C d) :=
  ⟨⟨oe, e, z.1, z.2, hd⟩, ⟨oe, e⟩, fun _ _ ⟨o, q, r⟩ k => ⟨o, k o q, r⟩⟩
theorem adopt {a C : Addr} {d : Option Addr} {oe : Obj} (I : Inv X ((a, oe) :: pins) σ H s) (z : Zc (.ref C) d oe) (hd : ∃ vs, oe.data = .fields vs) (n0 : X.s_0.heap.get? a = none) (hc : ∀ x c, X.env.cells.lookup x = some c → c ≠ a) (hp : ∀ p ∈ X.pn ++ pins, p.1 ≠ a) :
    Inv X pins σ (upd H a (excH a C d)) s := by
  obtain ⟨ha, na, nL, nF, _⟩ := I.pin (a, oe) (List.mem_append_right _ List.mem_cons_self)
  refine ⟨I.ok, I.os, I.bare, ⟨I.base.keep, I.base.slot, fun b o e n hx => ?_, I.base.there, fun b xs e => ?_, fun b o u e => ?_, fun b ps e => ?_⟩, I.loc, I.cell, ?_, fun x c e => ?_, fun p hpm => ?_, HOk.laidN I.hok (fun _ _ e => e) na (excH_ok ha z hd), I.len⟩
  · rw [upd_ne (fun q => by rw [q, n0] at e; cases e)]
    exact I.base.free b o e n hx
  · rw [upd_ne (ne_of_none (I.base.tups b xs e) na)]
    exact I.base.tups b xs e
  · rw [upd_ne (ne_of_none (I.base.frzs b o u e) na)]
    exact I.base.frzs b o u e
  · obtain ⟨m, q⟩ := I.base.tbls b ps e
    exact ⟨m, by rw [upd_ne (ne_of_none q na)]; exact q⟩
  · rw [upd_ne (Ne.symm nL)]
    exact I.free
  · rw [upd_ne (hc x c e)]
    exact I.freeC x c e
  · obtain ⟨e1, e2, e3⟩ := I.pin p (by
      rcases List.mem_append.mp hpm with h | h
      · exact List.mem_append_left _ h
      · exact List.mem_append_right _ (List.mem_cons_of_mem _ h))
    exact ⟨e1, by rw [upd_ne (hp p hpm)]; exact e2, e3⟩
def keepE (a : Addr) (cls : Value) (d : Option Addr) (i : Nat) (D : Ends) : Ends where
  nx := fun σ' H' => ∀ C, cls = .ref C → D.nx (σ'.set i none) (upd H' a (excH a C d))
  rt := fun _ _ => False
  bk := fun _ _ => False
  ct := fun _ _ => False
def wKeep (K : PySem.W.Frag) (c : Value) (i : Nat) (ts : Addr → Value → Option Addr → TS) (Wout : WX) (D : Ends) : WX := fun cls d σ H =>
  ∃ b C, PySem.W.exmOne K cls c = some b ∧ cls = .ref C ∧ (b = true → ∀ a, H a = none → ts a cls d (keepE a cls d i D) (σ.set i (some (.ref a))) H) ∧ (b = false → Wout cls d σ H)
end
section
variable {X : Cx} {x n : Str} {c : Value} {i : Nat} {body suite : List Stmt} {b₀ : Stmt} {np pos pos' : Pos} {tb : WX → TS} {ts : Addr → Value → Option Addr → TS} {Wout : WX}
theorem ps_try_keep (hs : X.stack = X.env :: X.outer) (hf : X.env.frame = some X.env.locals) (hN : X.N.Nodup) (hi : X.N[i]? = some n) (hln : X.env.kindOf n = some .local) (hc : Names X x c) (hex : X.ex = []) (tk : Takes X Wout)
    (hb : ∀ (W : WX) (pn : List (Addr × Obj)) (xe : Value → Shared → Prop), Takes (X.tr pn xe) W → PassesOwn (model X.prog X.w) X.A X.env xe → PSs (X.tr pn xe) body (tb W))
    (hsu : ∀ (a : Addr) (oe : Obj) (cls : Value) (d : Option Addr) (pn : List (Addr × Obj)), Zc cls d oe → (∃ vs, oe.data = .fields vs) → PSs (X.suite a ((a, oe) :: pn)) (b₀ :: suite) (ts a cls d)) :
    PS X (.Try body [.ExceptHandler (some (.Name x np)) (some n) (b₀ :: suite) pos'] [] [] pos) (fun D σ H => tb (wKeep X.K c i ts Wout D) D σ H) := by
  refine ⟨fun pins s σ H D I h => ?_⟩
  have ok := I.ok
  have hfr : X.A.frames = some (X.env :: X.outer) := by rw [ok.frames, hs]
  have hloc : Loc X.env.scope n := .inl hln
  refine wpAny_Try_except ?_
  refine wpAny_mono ((hb (wKeep X.K c i ts Wout D) (X.pn ++ pins) (fun e s₁ => wpAny (model X.prog X.w) X.A (noteFrame e X.env) (fun _ s₂ => wpAny (model X.prog X.w) X.A (setFlight e none) (fun _ s₃ =>
    wpAny (model X.prog X.w) X.A (handleBy e X.env [.ExceptHandler (some (.Name x np)) (some n) (b₀ :: suite) pos']) (SP X pins D) X.xe s₃) X.xe s₂) X.xe s₁) (fun u s' xx => ?_) PassesOwn.looking).run [] s σ H D (I.toTry _) h) (fun f s1 hsp => ?_) (fun e s1 he => he)
  · obtain ⟨a, B, sI, pins', σ', H', cls, d, rfl, J', nb, up, sky, na, os, ag, b, C, hb1, rfl, hyes, hno⟩ := xx
    have J : Inv X pins σ' H' sI := J'.ofTry ok
    have sky' : Sky B (X.env :: X.outer) a (Zc (.ref C) d) X.env.locals s'.heap := by rw [← hs]; exact sky
    show wpAny (model X.prog X.w) X.A (noteFrame (.ref a) X.env) _ _ _
    refine Sky.land Zc.steady hfr hf sky' fun h3 fl3 up3 => ?_
    have J3 : Inv X pins σ' H' { s' with heap := h3 } := J.landed nb fl3.1 (up.trans up3) os ag
    obtain ⟨oe3, vs3, he3, hz3, hd3⟩ := fl3.there
    have notFr : ∀ {h : Heap} {o : Obj} {vs : Array Value}, h.FunFrames B (X.env :: X.outer) → h.get? a = some o → o.data = .fields vs → a ∉ frs (X.env :: X.outer) := fun {h o vs} ff e dd hm => by
      obtain ⟨_, o', e', hnf⟩ := ff.mem hm
      rw [e] at e'; cases e'
      exact hnf _ dd
    have nfr := notFr fl3.2.2.1 he3 hd3
    have nL : a ≠ X.env.locals := fun z => nfr (List.mem_filterMap.mpr ⟨X.env, List.mem_cons_self, by rw [hf, z]⟩)
    have nF : a ∉ X.fs := fun hm => by
      obtain ⟨e, he, q⟩ := List.mem_filterMap.mp hm
      exact nfr (List.mem_filterMap.mpr ⟨e, List.mem_cons_of_mem _ he, q⟩)
    have hBa : B.get? a = none := fl3.2.1
    have key : ∀ q o, sI.heap.get? q = some o → q ≠ a := fun q o e z => by
      subst z
      have := nb q o e (by rw [hs]; exact nfr)
      rw [hBa] at this
      cases this
    have n0 : X.s_0.heap.get? a = none := by
      cases e : X.s_0.heap.get? a with
      | none => rfl
      | some o =>
        obtain ⟨o', e'⟩ := J.base.there a o e (by rw [hex]; exact fun z => nomatch z)
        exact absurd rfl (key a o' e')
    have hcell : ∀ y c', X.env.cells.lookup y = some c' → c' ≠ a := fun y c' e => by
      obtain ⟨v, o, ho, _⟩ := J.cell y c' e
      exact key c' o ho
    have hpin : ∀ p ∈ X.pn ++ pins, p.1 ≠ a := fun p hp => key p.1 p.2 (J.pin p hp).1
    have S3 := J3.suite he3 hd3 na nL nF
    refine wpAny_handleBy_cons (codeAny_handlers_test ?_) (by intro q; cases q)
    have LT : PySem.W.Looks (model X.prog X.w) h3 (typeOf (.ref a)) (.ref C) := fun A Q E s k q => wpAny_typeOf_ref (k _ _ he3) (by rw [hz3.1]; exact q)
    have LM := PySem.W.exm_one (M := model X.prog X.w) (J3.kIn) LT hb1
    have test : ∀ {Q : Value → Shared → Prop} {E : Value → Shared → Prop}, Q c { s' with heap := h3 } → wpAny (model X.prog X.w) (X.A.mark (some (.ref a))) (eval (.Name x np) X.env) Q E { s' with heap := h3 } := fun {Q E} q => by
      obtain ⟨hg, hdbg, hm | ⟨hm, hv, hnn⟩⟩ := hc
      · exact ld_glob (X := X.suite a ((a, oe3) :: (X.pn ++ pins))) S3 hg hm q hdbg
      · exact ld_blt (X := X.suite a ((a, oe3) :: (X.pn ++ pins))) S3 hg hm hv q hnn hdbg
    refine test (LM.here ?_)
    cases b with
    | true =>
      refine codeAny_handlers_suite_as ?_
      refine HandSPX.lands_againZ fl3 fun h4 fl4 up4 => ?_
      have J4 : Inv X pins σ' H' { s' with heap := h4 } := J.landed nb fl4.1 ((up.trans up3).trans up4) os ag
      obtain ⟨oe4, vs4, he4, hz4, hd4⟩ := fl4.there
      have S4 := J4.suite he4 hd4 na nL nF
      refine store_ok (X := X.suite a ((a, oe4) :: (X.pn ++ pins))) (v := .ref a) S4 hN hi hloc rfl (fun s5 S5 => ?_) (.inr hln)
      refine wpAny_mono ((hsu a oe4 (.ref C) d (X.pn ++ pins) hz4 ⟨_, hd4⟩).run [] s5 _ H' _ S5 (hyes rfl a na)) (fun f s6 hsp => ?_) (fun _ _ z => False.elim z)
      cases f with
      | next =>
        obtain ⟨σ6, H6, S6, q6⟩ := hsp
        have U6 : Inv X pins σ6 H6 s6 := S6.unsuite ok
        have P6 := S6.pin (a, oe4) (List.mem_append_left _ List.mem_cons_self)
        have U7 : Inv X ((a, oe4) :: pins) σ6 H6 s6 := U6.pins_of fun p hp => by
          rcases List.mem_cons.mp hp with rfl | hp
          · exact P6
          · exact U6.pin p (List.mem_append_right _ hp)
        exact gone_ok U7 hN hi hln fun s7 J7 => ⟨_, _, adopt J7 hz4 ⟨_, hd4⟩ n0 hcell hpin, q6 C rfl⟩
      | brk =>
        obtain ⟨σ6, H6, S6, q6⟩ := hsp
        exact q6.elim
      | cont =>
        obtain ⟨σ6, H6, S6, q6⟩ := hsp
        exact q6.elim
      | ret u =>
        obtain ⟨v6, σ6, H6, S6, r6, q6⟩ := hsp
        exact q6.elim
    | false =>
      show wpAny _ X.A (handleBy (.ref a) X.env []) _ _ _
      refine wpAny_handleBy_nil ?_
      obtain ⟨k1, k2, k3, oe, vs, T, oT, ts', he, hz, hd, h1, hr⟩ := id fl3
      unfold PySem.passOn
      refine wpAny_bind (wpAny_field he hd h1 ?_)
      rw [if_neg (show ¬ ((Value.ref T == Value.none) = true) from by simp)]
      have fin : wpAny (model X.prog X.w) X.A (setFlight (.ref a) X.env.frame) (fun _ s4 => wpAny (model X.prog X.w) X.A (throw (.ref a) : Sem Flow) (SP X pins D) X.xe s4) X.xe { s' with heap := h3 } := by
        rw [hf]
        refine HandSPX.setFlight_upZ fl3 fun h4 hh4 up4 => wpAny_throw (tk _ _ ?_)
        exact ⟨a, B, sI, pins, σ', H', .ref C, d, rfl, J, nb, (up.trans up3).trans up4, .inr (.inr (by rw [hs]; exact hh4)), na, os, ag, hno rfl⟩
      first
        | exact wpAny_bind (wpAny_pure (wpAny_bind fin))
        | exact wpAny_bind fin
  · cases f with
    | next =>
      obtain ⟨σ', H', J', q⟩ := hsp
      exact wpAny_execs_nil ⟨σ', H', J'.ofTry ok, q⟩
    | brk =>
      obtain ⟨σ', H', J', q⟩ := hsp
      exact ⟨σ', H', J'.ofTry ok, q⟩
    | cont =>
      obtain ⟨σ', H', J', q⟩ := hsp
      exact ⟨σ', H', J'.ofTry ok, q⟩
    | ret u =>
      obtain ⟨v, σ', H', J', r, q⟩ := hsp
      exact ⟨v, σ', H', J'.ofTry ok, r, q⟩
end
end G

set_option Elab.async false
set_option linter.all false
set_option maxRecDepth 100000
set_option maxHeartbeats 4000000
/-! GU: the caught exception as a value: try, isinstance, its fields. -/
namespace GX
open PySem PySem.Spec PySem.Calls PyProof.Rows PySem.W
section
variable {prog : Program} {w : World} {A : Around} {E : Value → Shared → Prop} {s : Shared} {K : Frag} {x D : Addr} {ox : Obj} {od : Option Obj}
theorem find_data {C : Addr} {name : Str} {a g : Value} (hc : (clsIn K C).isSome = true) (ha : findIn K (.ref C) name = some (some a)) (hg : specialIn K a "__get__" = some (some g)) (ht : takesIn K a = some true) : findObj K C od name = some (.bind g a) := by
  obtain ⟨cd, hc⟩ := Option.isSome_iff_exists.mp hc
  unfold findObj
  rw [hc, Option.bind_some, ha, Option.bind_some]
  simp [hg, ht]
theorem class_of_exc {Q : Option Value → Shared → Prop} (T : L2.ExcC K D) (X : K.In s.heap) (I : InstAt s.heap x ox D od) (h : Q (some (.ref D)) { s with toks := s.toks + 1 }) : wpAny (model prog w) A (getAttr? (.ref x) "__class__") Q E s := by
  have hf : findObj K D od "__class__" = some (.bind (.builtin "getset_descriptor.__get__") (.builtin "object.__class__")) := find_data (by obtain ⟨cd, hc, _⟩ := any_some T.hd; rw [hc]; rfl) T.ha T.hn T.ht
  obtain ⟨hp, g, d, t, os⟩ := s
  have L0 := I.type (M := model prog w)
  have L1 := looks_findIn (M := model prog w) X T.hg
  have L2 := looks_findIn (M := model prog w) X T.hk
  have L3 := looks_find (M := model prog w) X I hf
  have sub : Looks (model prog w) hp (isInstance (.ref x) (.type "BaseException")) true := L0.andThen (looks_subIn X T.hs)
  have hx0 : (false && onTheHeap (Value.builtin "BaseException.__getattribute__")) = false := rfl
  have hx2 : (Value.builtin "BaseException.__getattribute__" == Value.builtin "object.__getattribute__") = false := by decide +kernel
  have hx1 : (onTheHeap (Value.ref D) && Value.builtin "BaseException.__getattribute__" == Value.builtin "object.__getattribute__") = false := by rw [hx2]; rfl
  unfold getAttr? getAttrBy? getAttrBy
  refine wpAny_bind (wpAny_mkText (wpAny_bind (wpAny_attempt (wpAny_holding (wpAny_bind (L0.at (wpAny_bind (L1.at ?_))))))))
  show wpAny _ _ (if (onTheHeap (Value.ref D) && Value.builtin "BaseException.__getattribute__" == Value.builtin "object.__getattribute__") = true then _ else _) _ _ _
  rw [hx1, if_neg Bool.false_ne_true]
  unfold getAttrByItsOwn hookBefore
  refine wpAny_bind ?_
  rw [if_pos (show onTheHeap (Value.ref D) = true from rfl)]
  refine L2.at ?_
  refine wpAny_bind (wpAny_attempt (wpAny_holding ?_))
  unfold callGetattribute
  rw [hx0, if_neg Bool.false_ne_true]
  unfold boundAndCalled
  rw [PySem.F.excAttr_ValueError.ga.bind (.ref x)]
  refine wpAny_bind (wpAny_pure ?_)
  show wpAny _ _ (call (.builtin "BaseException.__getattribute__") [.ref x, .str "__class__" t]) _ _ _
  refine wpAny_call (codeAny_call_builtin PySem.F.excAttr_ValueError.ga.plain PySem.F.entry_bexc_ga ?_)
  refine @check_slot (model prog w) _ _ ⟨hp, g, d, t + 1, os⟩ "BaseException.__getattribute__" "BaseException" "__getattribute__" (.ref x) [.str "__class__" t] [] _ (by decide +kernel) (by decide +kernel) sub (PySem.F.args_bexc_ga (.ref x) (.str "__class__" t)) ?_
  unfold Builtin.«object.__getattribute__»
  refine wpAny_bind (wpAny_of_eq (a := ((Value.ref x : Value), [Value.str "__class__" t])) (by first | rfl | (simp only [slotArgs]; rfl)) ?_)
  refine wpAny_bind (wpAny_pure (wpAny_bind (L0.at (wpAny_bind (L3.at ?_)))))
  show wpAny _ _ (holding [Value.builtin "object.__class__"] (call (.builtin "getset_descriptor.__get__") [.builtin "object.__class__", .ref x, .ref D]) >>= ret) _ _ _
  refine wpAny_bind (wpAny_holding (wpAny_call (class_get (s := ⟨hp, g, d, t + 1, os⟩) (ox := ox) (od := od) X I T.hm ?_)))
  refine wpAny_pure ?_
  show wpAny _ _ (handedOut (.ref D)) _ _ _
  rw [handedOut_of (v := .ref D) rfl]
  first
    | exact wpAny_pure (wpAny_pure h)
    | exact wpAny_pure h
    | exact wpAny_pure (wpAny_bind (wpAny_pure (wpAny_pure h)))
theorem kitx_of_exc (T : L2.ExcC K D) : KitX K (.ref x) (.ref D) (fun h => InstAt h x ox D od) where
  ty := fun _ _ _ I => I.type
  it := fun _ _ X _ => by
    obtain ⟨cdD, hcD, _⟩ := any_some T.hd
    unfold clsIn at hcD
    split at hcD
    · rename_i c' d' cd' sl' ho
      intro A' Q' E' s' k q
      unfold isType loadHead
      exact wpAny_bind (wpAny_loadPart (k _ _ (X _ _ ho)) (wpAny_pure q))
    · cases hcD
  ne := fun h tp dd its n sl X htp => by
    obtain ⟨cdD, hcD, _⟩ := any_some T.hd
    refine Bool.eq_false_iff.mpr fun q => ?_
    have e : D = tp := Value.ref.inj (beq_iff_eq.mp q)
    subst e
    unfold clsIn at hcD
    split at hcD
    · rename_i c' d' cd' sl' ho
      have z := (X _ _ ho).symm.trans htp
      cases z
    · cases hcD
  ca := fun X I k => class_of_exc T X I k
end
end GX
namespace G
open PySem PySem.Spec PyProof.Rows L2
section
variable {X : Cx} {e : Expr} {te : TE} {pos : Pos} {f : Str}
/-- the caught exception at a, its dict at d -/
def ExcAt (H : Hp) (a C d : Addr) (fs : List (Str × V)) : Prop := H a = some (excH a C (some d)) ∧ H d = some (.xd fs)
theorem exc_inst {pins : List (Addr × Obj)} {σ : L2.St} {H : Hp} {s : Shared} {a C d : Addr} {fs : List (Str × V)} (I : Inv X pins σ H s) (h : ExcAt H a C d fs) :
    ∃ oe od mA, PySem.W.InstAt s.heap a oe C (some od) ∧ s.heap.Ns1 d mA ∧ (∀ f, RelO (fs.lookup f) (mA f)) ∧ s.heap.get? d = some od := by
  obtain ⟨h1, h2⟩ := h
  obtain ⟨⟨oe, ho, hc, hd, vs, hv⟩, _, _⟩ := I.hok a _ h1
  obtain ⟨mA, hns, hr⟩ : ObjOk X.prog X.w H s.heap d (.xd fs) := I.hok d _ h2
  obtain ⟨od, hod, _⟩ := lookIn_ns hns
  exact ⟨oe, od, mA, ⟨ho, hc, by unfold PySem.W.notCls; rw [hv] <;> rfl, by rw [hd]; exact hod⟩, hns, hr, hod⟩
def tXfH (K : PySem.W.Frag) (f : Str) (te : TE) : TE := fun σ H Q => te σ H fun x H1 => ∃ (a C d : Addr) (fs : List (Str × V)) (v : V), x = .ref a ∧ XfC K C ∧ PySem.W.findIn K (.ref C) f = some none ∧ ExcAt H1 a C d fs ∧ fs.lookup f = some v ∧ Q v H1
theorem pe_xfH (he : PE X e te) (hb : attributeBase e f X.env (eval e X.env) = eval e X.env := by rfl) : PE X (.Attribute e f pos) (tXfH X.K f te) := by
  refine ⟨fun pins s σ H Q I h => ?_⟩
  refine attr_of hb (thn (he.run pins s σ H _ I h) fun u s1 hh => ?_)
  obtain ⟨x, H1, I1, rx, a, C, d, fs, v, ex, T, hno, ea, l, q⟩ := hh
  subst ex
  obtain rfl : u = Value.ref a := rx
  obtain ⟨oe, od, mA, J, hns, hr, hod⟩ := exc_inst I1 ea
  obtain ⟨od2, ho, hl⟩ := lookIn_ns hns
  have e2 : od = od2 := Option.some.inj (hod.symm.trans ho)
  subst e2
  obtain ⟨u, hu, ru⟩ := RelO.some_of (v := v) (o := mA f) (by rw [← l]; exact hr f)
  exact HandSPX.exc_get I1.kIn J T.ga T.gg T.exC (PySem.W.findObj_own T.hdC hno rfl (by rw [hl, hu])) (handed_of ru) ⟨v, H1, I1.tok _, ru, q⟩
def rIsiE (K : PySem.W.Frag) : List V → Hp → VK → Prop := fun xs H Q => ∃ (a C d : Addr) (fs : List (Str × V)) (c : V) (u : Value) (b : Bool), xs = [.ref a, c] ∧ ExcC K C ∧ ExcAt H a C d fs ∧ ClsV c u ∧ PySem.W.kitOne K (.ref C) u = some b ∧ Q (.bl b) H
theorem call_isiE : CallR X (.builtin "isinstance") (rIsiE X.K) := by
  intro pins s σ H xs us Q I r h
  obtain ⟨a, C, d, fs, c, u, b, rfl, T, ea, k, e, q⟩ := h
  obtain ⟨u1, u2, rfl, r1, r2⟩ := vals2 r
  have e2 := k.eq r2
  subst e2
  obtain rfl : u1 = Value.ref a := r1
  obtain ⟨oe, od, mA, J, _⟩ := exc_inst I ea
  exact PySem.W.kia_one (GX.kitx_of_exc (ox := oe) (od := some od) T) I.kIn J e (fun z => nomatch z) fun tk => ⟨.bl b, H, I.tok tk, rfl, q⟩
end
section
variable {K : PySem.W.Frag} {W : WX} {O : List OD} {ts : List T} {P : PT'} {X : XX} {te : TE} {E : DE}
theorem exc_rep {F H : Hp} {C : Addr} {fs : List (Str × D)} {v : V} (e : Ex F H) (r : Rep K F (.exc C fs) v) : ∃ a d vs, v = .ref a ∧ ExcAt H a C d vs ∧ RepF K F fs vs := by
  obtain ⟨a, d, vs, rfl, h1, h2, h3⟩ := r
  exact ⟨a, d, vs, rfl, ⟨e _ _ h1 (by (first | assumption | exact nt_exc | exact fun _ z => (by cases z))), e _ _ h2 (by (first | assumption | exact nt_exc | exact fun _ z => (by cases z)))⟩, h3⟩
theorem w_xf {f : Str} (h : WE K W te O ts (fun x O1 => ∃ C fs d, x = .v (.exc C fs) ∧ XfC K C ∧ PySem.W.findIn K (.ref C) f = some none ∧ fs.lookup f = some d ∧ P (.v d) O1) X) : WE K W (tXfH K f te) O ts P X := fun b A σ H Q s rs kv kx =>
  h b A σ H _ s rs (fun x v A1 O1 H1 p1 s1 n1 r1 => by
    obtain ⟨C, fs, d, rfl, T, hno, l, k⟩ := p1
    obtain ⟨_, e, r⟩ := r1
    cases e
    obtain ⟨a, dx, vs, rfl, ea, rf⟩ := exc_rep hid_ex r
    obtain ⟨u, hu, ru⟩ := rf.look l
    exact ⟨a, C, dx, vs, u, rfl, T, hno, ea, hu, kv _ _ A1 O1 H1 k s1 n1 ⟨_, rfl, ru⟩⟩) kx
theorem c_isiE {P : PT'} {C : Addr} {fs : List (Str × D)} {c : D} {u : Value} {b : Bool} (T : ExcC K C) (hc : ClsD c u) (e : PySem.W.kitOne K (.ref C) u = some b) (k : P (.v (.bl b)) O) : WC K (rIsiE K) [.v (.exc C fs), .v c] O P := fun b' A H Q vs s r kv => by
  obtain ⟨v, _, rfl, ⟨_, e1, r1⟩, w, _, rfl, ⟨_, e2, r2⟩, rfl⟩ := r
  cases e1
  cases e2
  obtain ⟨a, dx, us, rfl, ea, _⟩ := exc_rep hid_ex r1
  exact ⟨a, C, dx, us, w, u, b, rfl, T, ea, hc.cls r2, e, kv _ _ A O H k s Nxt.refl ⟨_, rfl, rfl⟩⟩
/-! ### try: .. except X as n: y = n -/
theorem RepS.setO {F : Hp} {A : List Addr} {ts : List T} {σ : L2.St} {t : T} {o : Option V} (h : RepS K F A ts σ) (r : RepT K F A t o) (i : Nat) : RepS K F A (ts.set i t) (σ.set i o) := by
  refine ⟨by rw [List.length_set, List.length_set]; exact h.1, fun j u e => ?_⟩
  rw [List.getElem?_set] at e
  by_cases hij : i = j
  · subst hij
    rw [if_pos rfl] at e
    by_cases hl : i < ts.length
    · rw [if_pos hl] at e
      have e2 : t = u := Option.some.inj e
      subst e2
      exact ⟨o, by rw [List.getElem?_set_self (by rw [← h.1]; exact hl)], r⟩
    · rw [if_neg hl] at e
      cases e
  · rw [if_neg hij] at e
    obtain ⟨o', e1, r1⟩ := h.2 j u e
    exact ⟨o', by rw [List.getElem?_set_ne hij]; exact e1, r1⟩
/-- what the clause makes of an exception of the body -/
def TryX (K : PySem.W.Frag) (c : Value) (i j : Nat) (E : DE) : Value → Option (List (Str × D)) → List T → List OD → Prop := fun C fs ts O => ∃ Ca l bb, C = .ref Ca ∧ fs = some l ∧ PySem.W.exmOne K C c = some bb ∧ i < ts.length ∧
  (bb = true → E.nx (((ts.set i .no).set j (.v (.exc Ca l))).set i .no) O) ∧ (bb = false → E.xe C fs ts O)
theorem s_tryK {c : Value} {i j : Nat} {tb : WX → TS} (h : ∀ W', WS K W' (tb W') O ts { E with xe := TryX K c i j E }) :
    WS K W (fun D σ H => tb (wKeep K c i (fun _ _ _ => tAsg (tVar i) (gName j)) W D) D σ H) O ts E := fun b A σ H D s rs ks => by
  refine h _ b A σ H D s rs ⟨ks.nx, ks.rt, ks.bk, ks.ct, fun C fs ts' σ' A' O' H' d q s' n' rs' rx => ?_⟩
  obtain ⟨Ca, l, bb, rfl, rfl, hb, hi, ht, hf⟩ := q
  refine ⟨bb, Ca, hb, rfl, fun e a ha => ?_, fun e => ks.xe _ _ ts' σ' A' O' H' d (hf e) s' n' rs' rx⟩
  obtain ⟨dx, vs, rfl, hdx, rf⟩ := rx
  have hl : i < σ'.length := by rw [← rs'.1]; exact hi
  refine ⟨.ref a, by rw [List.getElem?_set_self hl], fun C' hC => ?_⟩
  cases hC
  obtain ⟨s2, n2, q2⟩ := s'.lay ha (excH a Ca (some dx))
  refine ks.nx _ _ A' O' _ (ht e) s2 (n'.trans n2) ?_
  refine RepS.setO (RepS.setO (RepS.setO (rs'.nxt n2) (t := .no) trivial i) ?_ j) (t := .no) trivial i
  exact ⟨_, rfl, a, dx, vs, rfl, q2, n2.ext _ _ hdx (by (first | assumption | exact nt_exc | exact fun _ z => (by cases z))), rf.ex n2.ext⟩
end
end G

set_option Elab.async false
set_option linter.all false
set_option maxRecDepth 100000
set_option maxHeartbeats 4000000
/-! GV: promises that know the guards (repr of containers); the end for these. -/
namespace G
open PySem PySem.Spec PyProof.Rows L2
/-- a def's promise where no repr is under way -/
def FnRG (P : Program) (w : World) (K : PySem.W.Frag) (mg : Str → Option Value) (base : Heap) (CX : CXT) (k : Nat) (f : Addr) (sp : Sp) : Prop :=
  ∀ (A : Around) (outer : List Env) (s : Shared) (H : Hp) (us : List Value) (vs : List V) (Q : VK) (E : XK), A.guards = some [] → Room k A → Env0 P w K mg base A outer s H → Vals vs us → sp vs H Q E →
    codeAny (model P w) A (.call (.ref f) ⟨us, []⟩) (CR CX outer P w H s Q E) s
def FnG (P : Program) (w : World) (K : PySem.W.Frag) (mg : Str → Option Value) (base : Heap) (k : Nat) (f : Addr) (n : Nat) (sp : SpD) : Prop :=
  FnRG P w K mg base (L2.CX P w) k f (lift K sp) ∧ PySem.W.keepIn K (.ref f) = true
section
variable {P : Program} {w : World} {K : PySem.W.Frag} {mg : Str → Option Value} {base : Heap} {k : Nat} {x qual : Str} {params : Arguments} {body : List Stmt} {scope : Scope} {f : Addr} {fd : FuncData} {N ps : List Str} {sp : SpD}
theorem fnG (F : FunD K x qual params body scope [] [] f fd) (S : FnScope N ps scope) (len : ∀ vs H Q E, lift K sp vs H Q E → vs.length = ps.length) (hb : Binds K fd ps [])
    (h : ∀ (cdv : Value) (A : Around) (outer : List Env) (s : Shared) (H : Hp) (vs : List V) (Q : VK) (E : XK), A.guards = some [] → Room k (A.deeper (envOfC qual scope s.heap.objs.size f cdv)) → lift K sp vs H Q E →
      ∃ t, PSs (cxOf (L2.CX P w) P w K mg base N qual scope f cdv A outer s H E) body t ∧ t { nx := fun _ H' => Q .non H', rt := Q } (L2.start N vs) H) :
    FnG P w K mg base (k + 1) f ps.length sp := by
  obtain ⟨⟨oc, od, dV, kV, doc, pm, an, cdv, ct, osl, rfl, lk, hcd, hD, _⟩, kp⟩ := F
  refine ⟨fun A outer s H us vs Q E hgd hr e0 r hs => ?_, kp⟩
  have hl := len _ _ _ _ hs
  have hb' := hb s us (e0.mod.kin.keeps fun b o e => (e0.bs b o e).1) (by rw [List.append_nil, ← r.length]; exact hl)
  rw [List.append_nil] at hb'
  exact LamX.run_ofS lk hcd S hr e0 hb' r hl fun hr' => h cdv A outer s H vs Q E hgd hr' hs
end
section
variable {X : Cx} {CX : CXT} {k : Nat} {f : Addr} {sp : Sp} {E : L2.St → XK} {x : Str} {e : Expr} {es : List Expr} {t : TA} {p pos : Pos}
theorem run_fnG {pins : List (Addr × Obj)} {σ : L2.St} {H : Hp} {s : Shared} {Q : VK} {us : List Value} {vs : List V} (F : FnRG X.prog X.w X.K X.mg X.base CX k f sp) (hgd : X.A.guards = some []) (hr : Room k X.A) (hx : PassesAt CX X σ (E σ))
    (I : Inv X pins σ H s) (r : Vals vs us) (h : sp vs H Q (E σ)) : wpAny (model X.prog X.w) X.A (call (.ref f) us) (EP X pins σ Q) X.xe s := by
  have F2 : FnRG X.prog X.w X.K X.mg X.base CX k f (fun vs H Q E' => sp vs H Q E') := F
  refine wpAny_call (codeAny_mono (F2 X.A X.stack s H us vs Q (E σ) hgd hr I.env0 r h) fun r' s' hq => ?_)
  cases r' with
  | error e => exact hx pins H s e s' I hq
  | ok fl =>
    cases fl with
    | ret u => exact I.after hq
    | next => exact False.elim hq
    | brk => exact False.elim hq
    | cont => exact False.elim hq
/-- f(e, ..) where f may raise -/
theorem pe_callGS (F : FnRG X.prog X.w X.K X.mg X.base CX k f sp) (hgd : X.A.guards = some []) (hr : Room k X.A) (hg : Gl X x)
    (hm : X.mg x = some (.ref f)) (hk : PySem.W.keepIn X.K (.ref f) = true) (hx : ∀ σ, PassesAt CX X σ (E σ)) (ha : PA X (e :: es) t)
    (hdb : (x == ("__debug__" : Str)) = false := by decide) (he : starEach (e :: es) X.env = (false, eval e X.env) :: starEach es X.env := by rfl)
    (hpl : (backTo pos (starEach es X.env)).any (·.1) = false := by rfl) : PE X (.Call (.Name x p) (e :: es) [] pos) (tCallS sp E t) := by
  refine ⟨fun pins s σ H Q I h => ?_⟩
  refine wpAny_Call_Name_kw (ld_glob I hg hm ?_ hdb)
  exact PySem.W.callWith_K (h₀ := X.base) I.ok.mod.kin hk (thn (ha.run pos pins s σ H _ I h) fun us s1 ⟨vs, H1, I1, r, q⟩ => ⟨I1.kIn, run_fnG F hgd hr (hx σ) I1 r q⟩) he hpl
end
section
variable {X : Cx} {CX : CXT} {k : Nat} {f : Addr} {sp : Sp} {E : XK} {x : Str} {e : Expr} {es : List Expr} {t : TA} {p pos : Pos}
/-- f(e, ..) where f does not raise -/
theorem pe_callG (F : FnRG X.prog X.w X.K X.mg X.base CX k f sp) (hgd : X.A.guards = some []) (hr : Room k X.A) (hg : Gl X x)
    (hm : X.mg x = some (.ref f)) (hk : PySem.W.keepIn X.K (.ref f) = true) (hx : Passes CX X E) (ha : PA X (e :: es) t)
    (hdb : (x == ("__debug__" : Str)) = false := by decide) (he : starEach (e :: es) X.env = (false, eval e X.env) :: starEach es X.env := by rfl)
    (hpl : (backTo pos (starEach es X.env)).any (·.1) = false := by rfl) : PE X (.Call (.Name x p) (e :: es) [] pos) (tCall sp [] E t) := by
  refine ⟨fun pins s σ H Q I h => ?_⟩
  refine wpAny_Call_Name_kw (ld_glob I hg hm ?_ hdb)
  exact PySem.W.callWith_K (h₀ := X.base) I.ok.mod.kin hk (thn (ha.run pos pins s σ H _ I h) fun us s1 ⟨vs, H1, I1, r, q⟩ => ⟨I1.kIn, run_fnG (E := fun _ => E) F hgd hr (fun pins H s e s' I c => hx pins σ H s e s' I c) I1 r (by
    have q' : sp (vs ++ []) H1 Q E := q
    rw [List.append_nil] at q'
    exact q')⟩) he hpl
end
/-! ### the end -/
/-- the script's list as it is first tracked, the tables empty -/
def hp0 (K : PySem.W.Frag) (a : Addr) (oa : Obj) (xs : List V) (Ts : List Addr) : Hp := fun b =>
  if b = a then (if K.lookup a = none then some (.frz oa (.lst xs)) else none) else if b ∈ Ts then some (.tbl #[]) else none
theorem law_callG {P : Program} {w : World} {K : PySem.W.Frag} {mg mb : Str → Option Value} {CX : CXT} {fa a : Addr} {cs : List (Addr × Addr)} {s₁ : Shared} {vs : List Value} {ns : List Int}
    (KX : K.In s₁.heap) (hns : s₁.heap.Ns mainGlobals mg) (hb : s₁.heap.Ns builtinsNs mb) (hbb : ∀ x : Str, x ≠ "__name__" → mb x = bootBuiltins x) (hlim : s₁.heap.NoLimit) (hg : s₁.gens = #[])
    (hT : ∀ p ∈ cs, s₁.heap.get? p.2 = some { cls := .none, data := .fields #[] }) (nT : ∀ p ∈ cs, K.lookup p.2 = none) (C : ∀ p ∈ cs, PySem.W.CodeHd s₁.heap p.1 p.2)
    (hbm : ∃ (bm : Addr) (ob : Obj), mg "__builtins__" = some (.ref bm) ∧ bm ≠ builtinsNs ∧ s₁.heap.get? bm = some ob ∧ ob.cls = .type "module" ∧ ob.dict = some builtinsNs ∧ ob.data = .plain)
    (ha : s₁.heap.get? a = some { cls := .type "list", data := .seq vs.toArray }) (hi : IntsAre vs ns) (hl : ns.length ≤ sizeLine)
    (F : ∀ (base : Heap) (H : Hp), Env0 P w K mg base callerA [] s₁ H → (∀ p ∈ cs, LamX.TabB base mg p.1 p.2) → (∀ p ∈ cs, H p.2 = some (.tbl #[])) → SqL K H a (ns.map V.int) →
      codeAny (model P w) callerA (.call (.ref fa) ⟨[.ref a], []⟩) (CR CX [] P w H s₁ (fun v _ => v = .bl true) fun _ _ _ => False) s₁)
    (hCX : ∀ H e s', CX [] H s₁ (fun _ _ _ => False) e s' → False) :
    codeAny (model P w) callerA (.call (.ref fa) ⟨[.ref a], []⟩) (fun r s' => r = .ok (.ret (.bool true)) ∧ OldK s₁.heap s'.heap ∧ s'.os = s₁.os ∧ AllBare s'.gens) s₁ := by
  have rv := vals_ints hi
  have zl : (ns.map V.int).length ≤ sizeLine := by rw [List.length_map]; exact hl
  generalize eo : ({ cls := .type "list", data := .seq vs.toArray } : Obj) = oa at ha
  have eoD : oa.data = .seq vs.toArray := by rw [← eo]
  generalize eT : cs.map (·.2) = Ts
  have inT : ∀ p ∈ cs, p.2 ∈ Ts := fun p hp => by rw [← eT]; exact List.mem_map.mpr ⟨p, hp, rfl⟩
  have ofT : ∀ b, b ∈ Ts → ∃ p ∈ cs, p.2 = b := fun b hb => by rw [← eT] at hb; exact List.mem_map.mp hb
  have isT : ∀ b, b ∈ Ts → s₁.heap.get? b = some { cls := .none, data := .fields #[] } := fun b hb => by
    obtain ⟨p, hp, e⟩ := ofT b hb
    rw [← e]
    exact hT p hp
  have aT : a ∉ Ts := fun z => by
    have q := isT a z
    rw [ha] at q
    have q2 : oa.data = Data.fields #[] := by rw [Option.some.inj q]
    rw [eoD] at q2
    cases q2
  generalize eH : hp0 K a oa (ns.map V.int) Ts = H
  have HT : ∀ b, b ∈ Ts → H b = some (.tbl #[]) := fun b hb => by
    rw [← eH]
    unfold hp0
    rw [if_neg (fun z => aT (by rw [← z]; exact hb)), if_pos hb]
  have HA : K.lookup a = none → H a = some (.frz oa (.lst (ns.map V.int))) := fun hk => by
    rw [← eH]
    unfold hp0
    rw [if_pos rfl, if_pos hk]
  have of : ∀ b u, H b = some u → (b = a ∧ K.lookup a = none ∧ u = .frz oa (.lst (ns.map V.int))) ∨ (b ∈ Ts ∧ u = .tbl #[]) := fun b u e => by
    rw [← eH] at e
    unfold hp0 at e
    by_cases h1 : b = a
    · rw [if_pos h1] at e
      by_cases h2 : K.lookup a = none
      · rw [if_pos h2] at e
        exact .inl ⟨h1, h2, (Option.some.inj e).symm⟩
      · rw [if_neg h2] at e
        cases e
    · rw [if_neg h1] at e
      by_cases h2 : b ∈ Ts
      · rw [if_pos h2] at e
        exact .inr ⟨h2, (Option.some.inj e).symm⟩
      · rw [if_neg h2] at e
        cases e
  -- an object that is neither a list nor a table is not tracked
  have off : ∀ {b : Addr} {o : Obj}, s₁.heap.get? b = some o → (∀ vs n, o.data ≠ .seq vs n) → o.data ≠ .fields #[] → H b = none := fun {b o} e h1 h2 => by
    cases q : H b with
    | none => rfl
    | some u =>
      rcases of b u q with ⟨e', _, _⟩ | ⟨e', _⟩
      · rw [e', ha] at e
        rw [← Option.some.inj e, eoD] at h1
        exact (h1 _ _ rfl).elim
      · rw [isT b e'] at e
        rw [← Option.some.inj e] at h2
        exact (h2 rfl).elim
  have kp : ∀ {b : Addr} {o : Obj}, s₁.heap.get? b = some o → (∀ vs n, o.data ≠ .seq vs n) → o.data ≠ .fields #[] → (hidT s₁.heap H).get? b = some o := fun e h1 h2 => hidT_get e (off e h1 h2)
  have nsK : ∀ {b : Addr} {m : Str → Option Value}, s₁.heap.Ns b m → (hidT s₁.heap H).Ns b m := fun {b m} ⟨o, es, ep, e, d, r⟩ =>
    ⟨o, es, ep, kp e (fun vs n z => by rw [d] at z; cases z) (fun z => by rw [d] at z; cases z), d, r⟩
  have hKb : K.In (hidT s₁.heap H) := fun b o e => hidT_get (KX b o e) (by
    cases q : H b with
    | none => rfl
    | some u =>
      rcases of b u q with ⟨e', hk, _⟩ | ⟨e', _⟩
      · rw [e', hk] at e
        cases e
      · obtain ⟨p, hp, ep⟩ := ofT b e'
        rw [← ep, nT p hp] at e
        cases e)
  have hM : L2.Mod K mg (hidT s₁.heap H) := ⟨hKb, nsK hns, ⟨mb, nsK hb, hbb⟩, let ⟨mc, h1, h2⟩ := hlim; ⟨mc, nsK h1, h2⟩⟩
  have TB : ∀ p ∈ cs, LamX.TabB (hidT s₁.heap H) mg p.1 p.2 := fun p hp => by
    have hTp := hT p hp
    refine ⟨?_, ?_, fun z => ?_⟩
    · obtain ⟨o, us, file, tf, flags, tg, inF, text, tt, e1, r1, r2, r⟩ := C p hp
      refine ⟨o, us, file, tf, flags, tg, inF, text, tt, kp e1 (fun vs n z => by rw [r2] at z; cases z) (fun z => ?_), r1, r2, r⟩
      rw [r2] at z
      have z' : us = #[] := by injection z
      rw [z'] at r
      exact absurd r.1 (by simp)
    · obtain ⟨bm, ob, b1, b2, b3, b4, b5, b6⟩ := hbm
      refine ⟨bm, ob, b1, b2, fun q => ?_, fun q => ?_, kp b3 (fun vs n z => by rw [b6] at z; cases z) (fun z => by rw [b6] at z; cases z), b4, b5, b6⟩
      · obtain ⟨o, es, ep, e, hd, _⟩ := hns
        rw [q, e] at b3
        rw [Option.some.inj b3, b6] at hd
        cases hd
      · rw [q, hTp] at b3
        rw [← Option.some.inj b3] at b6
        cases b6
    · obtain ⟨o, es, ep, e, hd, _⟩ := hns
      rw [z, hTp] at e
      rw [← Option.some.inj e] at hd
      cases hd
  have hok : HOk P w H s₁.heap := fun b u e => by
    rcases of b u e with ⟨rfl, _, rfl⟩ | ⟨hb', rfl⟩
    · exact ⟨ha, zl, vs, 0, rv, by rw [eo]; exact ha⟩
    · exact isT b hb'
  have hS : SqL K H a (ns.map V.int) := by
    cases hk : K.lookup a with
    | none => exact .inl (.inr ⟨oa, HA hk⟩)
    | some o =>
      have e := KX a o hk
      rw [ha] at e
      have e := Option.some.inj e
      rw [← e, ← eo] at hk
      exact .inr ⟨_, vs.toArray, 0, hk, rfl, rfl, rfl, by rw [List.size_toArray, hi.length]; exact hl, by simpa using rv⟩
  have e0 : Env0 P w K mg (hidT s₁.heap H) callerA [] s₁ H := ⟨rfl, hM, fun b o e => of_hidT e, Nat.le_of_eq (hidT_size _ _), trivial, fun b hb => absurd (show b ∈ ([] : List Addr) from hb) (by simp), hok, .of_eq hg⟩
  refine codeAny_mono (F _ H e0 TB (fun p hp => HT _ (inT p hp)) hS) fun r s' h => ?_
  cases r with
  | error e => exact (hCX H e s' h).elim
  | ok fl =>
    cases fl with
    | next => exact False.elim h
    | brk => exact False.elim h
    | cont => exact False.elim h
    | ret u =>
      obtain ⟨v, H', os, bare, un, hok', r', q⟩ := h
      have q' : v = .bl true := q
      subst q'
      obtain rfl : u = Value.bool true := r'
      have key : ∀ b o, b ∉ Ts → s₁.heap.get? b = some o → s'.heap.get? b = some o := fun b o nb e => by
        cases q : H b with
        | none => exact un.keep b o e q (by intro z; exact absurd (show b ∈ ([] : List Addr) from z) (by simp)) (by simp)
        | some u =>
          rcases of b u q with ⟨_, _, e2⟩ | ⟨hb', _⟩
          · rw [e2] at q
            have e3 := (hok b _ q).1
            rw [e] at e3
            have e4 := (hok' b _ (un.frzs b oa _ q)).1
            rw [Option.some.inj e3]
            exact e4
          · exact absurd hb' nb
      have grown : ∀ b, b ∈ Ts → ∃ more : Array Value, s'.heap.get? b = some { cls := .none, data := .fields more } := fun b hb' => by
        obtain ⟨more, z⟩ := un.tbls b #[] (HT b hb')
        exact ⟨_, hok' b _ z⟩
      refine ⟨rfl, ⟨fun b o e => ?_, fun b o e => ?_⟩, os, bare⟩
      · by_cases hb' : b ∈ Ts
        · obtain ⟨more, hm⟩ := grown b hb'
          obtain ⟨p, hp, ep⟩ := ofT b hb'
          rw [← ep] at e hm ⊢
          rw [hT p hp] at e
          have e := Option.some.inj e
          rw [← e]
          exact .inr (.inl ⟨((C p hp).tab (hT p hp)).isCodeTable, rfl, #[], more, rfl, by rw [Array.empty_append]; exact hm⟩)
        · exact .inl (key b o hb' e)
      · by_cases hb' : b ∈ Ts
        · obtain ⟨more, hm⟩ := grown b hb'
          exact ⟨_, hm⟩
        · exact ⟨o, key b o hb' e⟩
/-- what is known of the tables at the head's heap -/
structure TabH (K : PySem.W.Frag) (h : Heap) : Prop where
  emp : ∀ p ∈ csT K, h.get? p.1.2 = some { cls := .none, data := .fields #[] }
  out : ∀ p ∈ csT K, K.lookup p.1.2 = none
  hd : ∀ p ∈ csT K, PySem.W.CodeHd h p.1.1 p.1.2
def TabsB (K : PySem.W.Frag) (mg : Str → Option Value) (base : Heap) : Prop := ∀ p ∈ csT K, LamX.TabB base mg p.1.1 p.1.2
theorem walk_ofG {l : PySem.W.OpenLaw} {n k : Nat} {q : Program} {loose : List Str} {XP : (Str → Option Value) → Heap → Prop} {YP : World → Heap → Prop} {d : DefRec} {CX : CXT}
    (hn : l.most = some n) (hn2 : n ≤ 1000000) (hdf : d.params.defaults = []) (hr : Room k callerA)
    (F : ∀ (w : World) (mg : Str → Option Value) (fa : Addr) (h : Heap), YP w h → h.Ns mainGlobals mg → mg d.name = some (.ref fa) →
      ∃ K : PySem.W.Frag, K.In h ∧ TabH K h ∧ ∀ base : Heap, K.In base → base.Ns mainGlobals mg → TabsB K mg base → FnRG l.prog w K mg base CX k fa (lift K (sp_law K)))
    (hCX : ∀ (H : Hp) (s : Shared) (e : Value) (s' : Shared), CX [] H s (fun _ _ _ => False) e s' → False) :
    PySem.W.WalkO q loose XP YP l.row.toRowW d [] (fun f vs => PySem.call f vs) := by
  refine Att.attach_call hn hdf fun w s₀ s₁ mg mb fa o pm cd doc a vs ns G Y ho hd hcd hmg hobj hints hlen hg => ?_
  obtain ⟨K, KX, TH, hF⟩ := F w mg fa _ Y G.T.g hmg
  have hl : ns.length ≤ 1000000 := Nat.le_trans hlen hn2
  have of : ∀ p ∈ (csT K).map (·.1), ∃ q ∈ csT K, q.1 = p := fun p hp => List.mem_map.mp hp
  refine law_callG (cs := (csT K).map (·.1)) KX G.T.g G.T.b G.T.builtins G.T.nolimit hg (fun p hp => ?_) (fun p hp => ?_) (fun p hp => ?_) G.T.bmain hobj hints (Nat.le_trans hl (by decide)) (fun base H e0 TB hH hS => ?_) fun H e s' => hCX H s₁ e s'
  · obtain ⟨q, hq, rfl⟩ := of p hp
    exact TH.emp q hq
  · obtain ⟨q, hq, rfl⟩ := of p hp
    exact TH.out q hq
  · obtain ⟨q, hq, rfl⟩ := of p hp
    exact TH.hd q hq
  · refine hF base e0.mod.kin e0.mod.glob (fun q hq => TB q.1 (List.mem_map.mpr ⟨q, hq, rfl⟩)) callerA [] s₁ H [.ref a] [.ref a] _ _ rfl hr e0 (.cons rfl .nil) (law_lift hl hS fun p hp => ?_)
    obtain ⟨q, hq, rfl⟩ := List.mem_map.mp hp
    exact LamX.TabS.nil (hH q.1 (List.mem_map.mpr ⟨q, hq, rfl⟩))
/-- a plain promise is one where the guards are known, too -/
theorem fn_endG {P : Program} {w : World} {K : PySem.W.Frag} {mg : Str → Option Value} {base : Heap} {k l n : Nat} {f : Addr} {sp : SpD} (h : FnG P w K mg base k f n sp) (hk : k ≤ l) : FnRG P w K mg base (CXa P) l f (lift K sp) := fun A outer s H us vs Q E hgd hr e0 r hs =>
  codeAny_mono (h.1 A outer s H us vs Q E hgd (hr.mono hk) e0 r hs) fun r s' c => by
    cases r with
    | ok x => cases x <;> exact c
    | error e => exact ⟨w, c⟩
/-! ### repr -/
/-- what repr is asked of: data, or an empty dict -/
def RpV (K : PySem.W.Frag) (H : Hp) (v : V) (d : PyData) : Prop := Dp K H v d ∨ (d = .dict [] ∧ ∃ a, v = .ref a ∧ H a = some (.dK []))
def rRepr (K : PySem.W.Frag) : List V → Hp → VK → Prop := fun xs H Q => ∃ v d, xs = [v] ∧ RpV K H v d ∧ d.showable = true ∧ d.depth ≤ 100 ∧ d.shown.length ≤ sizeLine ∧ Q (.str d.shown) H
mutual
theorem dp_noDict {K : PySem.W.Frag} {H : Hp} : ∀ (d : PyData) {v : V}, Dp K H v d → d.hasDict = false
  | .none, _, _ => by simp [PyData.hasDict]
  | .bool _, _, _ => by simp [PyData.hasDict]
  | .int _, _, _ => by simp [PyData.hasDict]
  | .str _, _, _ => by simp [PyData.hasDict]
  | .list ds, _, h => by
    cases h with
    | lst _ h2 => simpa [PyData.hasDict] using dpAll_noDict ds h2
  | .tuple ds, _, h => by
    cases h with
    | tup _ h2 => simpa [PyData.hasDict] using dpAll_noDict ds h2
  | .dict _, _, h => by cases h
theorem dpAll_noDict {K : PySem.W.Frag} {H : Hp} : ∀ (ds : List PyData) {vs : List V}, DpAll K H vs ds → PyData.hasDictAll ds = false
  | [], _, _ => by simp [PyData.hasDictAll]
  | d :: ds, _, h => by
    cases h with
    | cons h1 h2 => simp [PyData.hasDictAll, dp_noDict d h1, dpAll_noDict ds h2]
end
section
variable {X : Cx} {k : Nat}
theorem call_reprG (hgd : X.A.guards = some []) (hr : Room k X.A) (K : PySem.W.Frag) (hK : X.K = K := by rfl) : CallR X (.builtin "repr") (rRepr K) := by
  subst hK
  intro pins s σ H xs us Q I r h
  obtain ⟨v, d, rfl, hd, hs, hdp, hz, q⟩ := h
  obtain ⟨u, rfl, ru⟩ := vals1 r
  have hu : X.A.units + (d.depth + 1) < cLine := by
    have := hr.un
    omega
  have fin : ∀ (a : Addr) (as : List Addr), Reads s.heap (.ref a) d as → (d.hasDict = true → sysModules ∉ as) → wpAny (model X.prog X.w) X.A (call (.builtin "repr") [.ref a]) (EP X pins σ Q) X.xe s := fun a as rd hd' =>
    repr_of_reads' rd hs hd' hgd hu (fun _ _ e => e) (fun h' t tk kp => ⟨.str d.shown, H, (I.kept kp), ⟨t, rfl⟩, q⟩) hz
  rcases hd with hd | ⟨rfl, a, rfl, ha⟩
  · cases hd with
    | non =>
      cases ru
      exact PySem.P.repr_of_none ⟨.str _, H, I.tok _, ⟨_, rfl⟩, q⟩
    | bl b =>
      cases ru
      exact PySem.P.repr_of_bool ⟨.str _, H, I.tok _, ⟨_, rfl⟩, q⟩
    | int i =>
      obtain ⟨t, rfl⟩ := ru
      exact PySem.P.repr_of_int (by simpa [PyData.showable] using hs) ⟨.str _, H, I.tok _, ⟨_, rfl⟩, q⟩
    | str x =>
      obtain ⟨t, rfl⟩ := ru
      exact PySem.P.repr_of_str ⟨.str _, H, I.tok _, ⟨_, rfl⟩, q⟩ hz
    | lst h1 h2 =>
      have hd := Dp.lst h1 h2
      obtain ⟨as, rd⟩ := Dp.reads I _ _ _ hd ru
      cases ru
      exact fin _ as rd fun z => by
        rw [dp_noDict _ hd] at z
        cases z
    | tup h1 h2 =>
      have hd := Dp.tup h1 h2
      obtain ⟨as, rd⟩ := Dp.reads I _ _ _ hd ru
      cases ru
      exact fin _ as rd fun z => by
        rw [dp_noDict _ hd] at z
        cases z
  · cases ru
    obtain ⟨_, hne, vs, kv, o, es, ep, ho, hE, hdd, _, hes, _⟩ := I.hok a _ ha
    cases kv
    have e0 : es.toList = [] := by
      cases q : es.toList with
      | nil => rfl
      | cons e r =>
        rw [q] at hes
        cases hes
    refine fin a _ (Reads.dict (kvs := []) ho hE.1 hdd (by rw [e0]; exact ReadsAll.nil) (by rw [e0]; exact ReadsAll.nil)) fun _ z => ?_
    rcases List.mem_append.mp z with z | z
    · rcases List.mem_cons.mp z with z | z
      · rw [← z] at hne
        simp at hne
      · cases z
    · cases z
end
mutual
/-- what a reader sees of it -/
def pyD : D → Option PyData
  | .non => some .none
  | .bl b => some (.bool b)
  | .int i => some (.int i)
  | .str x => some (.str x)
  | .lst ds => (pyL ds).map .list
  | .tup ds => (pyL ds).map .tuple
  | _ => none
def pyL : List D → Option (List PyData)
  | [] => some []
  | d :: ds => match pyD d, pyL ds with
    | some x, some xs => some (x :: xs)
    | _, _ => none
end
def pyT : D → Option PyData
  | .dic [] => some (.dict [])
  | d => pyD d
mutual
theorem pyD_dp {K : PySem.W.Frag} {H : Hp} : ∀ (d : D) {p : PyData} {v : V}, pyD d = some p → Rep K H d v → Dp K H v p
  | .non, _, _, e, r => by cases e; cases r; exact .non
  | .bl b, _, _, e, r => by cases e; cases r; exact .bl b
  | .int b, _, _, e, r => by cases e; cases r; exact .int b
  | .str b, _, _, e, r => by cases e; cases r; exact .str b
  | .lst ds, _, _, e, r => by
    obtain ⟨a, vs, rfl, h1, h2⟩ := r
    have e' : (pyL ds).map PyData.list = some _ := e
    cases q : pyL ds with
    | none => rw [q] at e'; cases e'
    | some xs =>
      rw [q] at e'
      cases e'
      exact .lst (SqL.of h1) (pyL_dp ds q h2)
  | .tup ds, _, _, e, r => by
    obtain ⟨a, vs, rfl, h1, h2⟩ := r
    have e' : (pyL ds).map PyData.tuple = some _ := e
    cases q : pyL ds with
    | none => rw [q] at e'; cases e'
    | some xs =>
      rw [q] at e'
      cases e'
      exact .tup h1 (pyL_dp ds q h2)
  | .ty _, _, _, e, _ => nomatch e
  | .ref _, _, _, e, _ => nomatch e
  | .ins _ _, _, _, e, _ => nomatch e
  | .dic _, _, _, e, _ => nomatch e
  | .scr _, _, _, e, _ => nomatch e
  | .exc _ _, _, _, e, _ => nomatch e
theorem pyL_dp {K : PySem.W.Frag} {H : Hp} : ∀ (ds : List D) {ps : List PyData} {vs : List V}, pyL ds = some ps → RepL K H ds vs → DpAll K H vs ps
  | [], _, _, e, r => by cases e; cases r; exact .nil
  | d :: ds, _, _, e, r => by
    obtain ⟨v, w, rfl, h1, h2⟩ := r
    unfold pyL at e
    cases q1 : pyD d with
    | none => rw [q1] at e; cases e
    | some x =>
      cases q2 : pyL ds with
      | none => rw [q1, q2] at e; cases e
      | some xs =>
        rw [q1, q2] at e
        cases e
        exact .cons (pyD_dp d q1 h1) (pyL_dp ds q2 h2)
end
theorem pyT_rp {K : PySem.W.Frag} {H : Hp} {d : D} {p : PyData} {v : V} (e : pyT d = some p) (r : Rep K H d v) : RpV K H v p := by
  unfold pyT at e
  split at e
  · cases e
    obtain ⟨a, ws, rfl, h1, h2⟩ := r
    have h3 : ws = [] := h2
    subst h3
    exact .inr ⟨rfl, a, rfl, h1⟩
  · exact .inl (pyD_dp d e r)
/-- d may be shown -/
structure Shows (d : D) (p : PyData) : Prop where
  py : pyT d = some p
  ok : p.showable = true
  dp : p.depth ≤ 100
  len : p.shown.length ≤ sizeLine
theorem c_repr {K : PySem.W.Frag} {O : List OD} {P : PT'} {d : D} {p : PyData} (h : Shows d p) (k : P (.v (.str p.shown)) O) : WC K (rRepr K) [.v d] O P := fun b' A H Q vs s r kv => by
  obtain ⟨v, _, rfl, ⟨_, e1, r1⟩, rfl⟩ := r
  cases e1
  exact ⟨v, p, rfl, pyT_rp h.py (Rep.ex hid_ex _ r1), h.ok, h.dp, h.len, kv _ _ A O H k s Nxt.refl ⟨_, rfl, rfl⟩⟩
end G

set_option Elab.async false
set_option linter.all false
set_option maxRecDepth 100000
set_option maxHeartbeats 4000000
/-! GW: what is read of an own exception's class and its __init__. -/
namespace G
open PySem PySem.Spec PyProof.Rows L2 NdefX
/-- the only closure cell, the code object of the function at f -/
def closAt (K : PySem.W.Frag) (f : Addr) : Addr := match K.lookup f with
  | some ⟨_, _, .func fd, _⟩ => (match fd.closure with
    | [(_, c)] => c
    | _ => 0)
  | _ => 0
def codeAt (K : PySem.W.Frag) (f : Addr) : Addr := match K.lookup f with
  | some ⟨_, _, .func fd, _⟩ => (match fd.code with
    | .ref c => c
    | _ => 0)
  | _ => 0
structure ExD where
  cls : Str
  qual : Str
  params : Arguments
  body : List Stmt
  scope : Scope
  file : Str
  fs : List Str
def ExD.f (K : PySem.W.Frag) (d : ExD) : Addr := He.ma K (He.ga K d.cls) "__init__"
abbrev FnE : Type := Option (Str × Str × Arguments × FuncBody × Scope × Addr × List Str × Addr)
def fnE (K : PySem.W.Frag) (f : Addr) : FnE := match K.lookup f with
  | some ⟨_, _, .func fd, _⟩ => some (fd.name, fd.qualname, fd.params, fd.body, fd.scope, fd.globals, fd.closure.map (·.1), fd.builtins)
  | _ => none
def ExD.val (d : ExD) : FnE := some ("__init__", d.qual, d.params, .stmts d.body, d.scope, mainGlobals, ["__class__"], builtinsNs)
def ExD.nf (K : PySem.W.Frag) (d : ExD) : NF := ⟨"__init__", d.qual, d.params, d.body, d.scope, [("__class__", closAt K (d.f K))], codeAt K (d.f K)⟩
def noneB : Value → Bool
  | .none => true
  | _ => false
theorem noneB_ok {v : Value} (h : noneB v = true) : v = .none := by
  cases v with
  | none => rfl
  | _ => cases h
def refB : Value → Bool
  | .ref _ => true
  | _ => false
def funB (K : PySem.W.Frag) (f : Addr) : Bool := match K.lookup f with
  | some ⟨_, _, .func fd, _⟩ => noneB fd.defaults && (noneB fd.kwdefaults && (decide (fd.annotations = none) && refB fd.code))
  | _ => false
theorem fun_of {K : PySem.W.Frag} {d : ExD} (e : fnE K (d.f K) = d.val) (c : funB K (d.f K) = true) : ∃ oc od doc pm ctv osl, K.lookup (d.f K) = some ⟨oc, od, .func ((d.nf K).fd doc pm ctv), osl⟩ := by
  unfold fnE at e
  unfold funB at c
  unfold ExD.nf closAt codeAt
  cases q : K.lookup (d.f K) with
  | none =>
    rw [q] at c
    cases c
  | some o =>
    obtain ⟨oc, od, dt, osl⟩ := o
    rw [q] at c e
    cases dt with
    | func fd =>
      obtain ⟨n1, n2, n3, n4, n5, n6, n7, n8, n9, n10, n11, n12, n13, n14, n15⟩ := fd
      have e2 : (some (n1, n2, n3, n4, n5, n6, n7.map (·.1), n15) : FnE) = (some (("__init__" : Str), d.qual, d.params, FuncBody.stmts d.body, d.scope, mainGlobals, [("__class__" : Str)], builtinsNs) : FnE) := e
      simp only [Option.some.injEq, Prod.mk.injEq] at e2
      obtain ⟨h1, h2, h3, h4, h5, h6, h7, h8⟩ := e2
      have c2 : (noneB n8 && (noneB n9 && (decide (n12 = none) && refB n13))) = true := c
      obtain ⟨k1, c2⟩ := He.ba c2
      obtain ⟨k2, c2⟩ := He.ba c2
      obtain ⟨k3, k4⟩ := He.ba c2
      have k1 := noneB_ok k1
      have k2 := noneB_ok k2
      have k3 := of_decide_eq_true k3
      obtain ⟨c0, k4⟩ : ∃ c0, n13 = .ref c0 := by
        cases n13 with
        | ref c0 => exact ⟨c0, rfl⟩
        | _ => cases k4
      obtain ⟨cc, k5⟩ : ∃ cc, n7 = [(("__class__" : Str), cc)] := by
        cases n7 with
        | nil => cases h7
        | cons p r =>
          cases r with
          | nil =>
            obtain ⟨p1, p2⟩ := p
            have z : p1 = ("__class__" : Str) := by simpa using h7
            exact ⟨p2, by rw [z]⟩
          | cons _ _ => simp at h7
      subst h1 h2 h3 h4 h5 h6 h8 k1 k2 k3 k4 k5
      exact ⟨oc, od, n10, n11, n14, osl, rfl⟩
    | _ => cases c
def oexB (K : PySem.W.Frag) (C : Addr) : Bool := match K.lookup C with
  | some ⟨.type "type", _, .cls cd, sl⟩ => (match cd.mro, sl.toList with
    | .ref C' :: bm, [_, _, _, _, some (.builtin n), _] => C' == C && n == "ValueError.__new__" && !cd.hasDel && cd.hasDict && PySem.HandSPX.refsVE bm
    | _, _ => false)
  | _ => false
theorem oex_of {K : PySem.W.Frag} {C : Addr} (q : oexB K C = true) : ∃ nm qn N bs bm sn sub ab col dd k0 k1 k2 k3 k5, K.lookup C = some (excClassObj nm qn C N bs bm true sn sub ab col dd k0 k1 k2 k3 k5 "ValueError.__new__") ∧ PySem.HandSPX.refsVE bm = true := by
  unfold oexB at q
  split at q
  · rename_i dd cd sl ho
    split at q
    · rename_i C' bm k0 k1 k2 k3 n k5 hm hs
      simp only [Bool.and_eq_true, beq_iff_eq, Bool.not_eq_true'] at q
      obtain ⟨⟨⟨⟨rfl, rfl⟩, hdel⟩, hd0⟩, ht⟩ := q
      obtain ⟨nm, bs, mro, ns, qn, hd, sn, sub, ab, col, del⟩ := cd
      dsimp only at hm hdel hd0
      subst hm hdel hd0
      have hsl : sl = #[k0, k1, k2, k3, some (.builtin "ValueError.__new__"), k5] := by
        obtain ⟨l⟩ := sl
        simp only at hs
        rw [hs]
      subst hsl
      exact ⟨nm, qn, ns, bs, bm, sn, sub, ab, col, dd, k0, k1, k2, k3, k5, ho, ht⟩
    · cases q
  · cases q
/-- the class of an own exception -/
structure ExK (K : PySem.W.Frag) (C : Addr) : Prop where
  oex : OexC K C
  exc : ExcC K C
  xf : XfC K C
def exkB (K : PySem.W.Frag) (C : Addr) : List Bool := [oexB K C, decide (PySem.W.findIn K (.ref C) "__setattr__" = some (some (.builtin "object.__setattr__"))), decide (PySem.W.subIn K (.ref C) (.type "BaseException") = some true), decide (PySem.W.typeIn K (.ref C) = some (.type "type")), PySem.W.keepIn K (.ref C),
  decide (PySem.W.findIn K (.ref C) "__getattribute__" = some (some (.builtin "BaseException.__getattribute__"))), decide (PySem.W.findIn K (.ref C) "__getattr__" = some none), PySem.W.hasDictIn K C, decide (PySem.W.findIn K (.ref C) "__class__" = some (some (.builtin "object.__class__"))),
  decide (PySem.W.specialIn K (.builtin "object.__class__") "__get__" = some (some (.builtin "getset_descriptor.__get__"))), decide (PySem.W.takesIn K (.builtin "object.__class__") = some true), decide (PySem.W.mroIn K C (.type "object") = some true)]
theorem exk_ok {K : PySem.W.Frag} {C : Addr} (h : (exkB K C).all id = true) : ExK K C := by
  have g : ∀ i b, (exkB K C)[i]? = some b → b = true := fun i b hb => List.all_eq_true.mp h b (List.mem_of_getElem? hb)
  exact ⟨⟨oex_of (g 0 _ rfl), of_decide_eq_true (g 1 _ rfl), of_decide_eq_true (g 2 _ rfl), of_decide_eq_true (g 3 _ rfl), g 4 _ rfl⟩,
    ⟨of_decide_eq_true (g 5 _ rfl), of_decide_eq_true (g 6 _ rfl), of_decide_eq_true (g 2 _ rfl), g 7 _ rfl, of_decide_eq_true (g 8 _ rfl), of_decide_eq_true (g 9 _ rfl), of_decide_eq_true (g 10 _ rfl), of_decide_eq_true (g 11 _ rfl)⟩,
    ⟨of_decide_eq_true (g 5 _ rfl), of_decide_eq_true (g 6 _ rfl), of_decide_eq_true (g 2 _ rfl), g 7 _ rfl⟩⟩
def cellB (K : PySem.W.Frag) (cc C : Addr) : Bool := match K.lookup cc with
  | some ⟨_, _, .cell (some (.ref a)), _⟩ => decide (a = C)
  | _ => false
theorem cell_of {K : PySem.W.Frag} {cc C : Addr} (h : cellB K cc C = true) : ∃ oc od osl, K.lookup cc = some ⟨oc, od, .cell (some (.ref C)), osl⟩ := by
  unfold cellB at h
  split at h
  · rename_i oc od a osl q
    exact ⟨oc, od, osl, by rw [← of_decide_eq_true h]; exact q⟩
  · cases h
def fileB (K : PySem.W.Frag) (c : Addr) (file : Str) : Bool := match K.lookup c with
  | some ⟨_, _, .fields vs, _⟩ => (match (vs[2]? : Option Value) with
    | some (.str fl _) => decide (fl = file)
    | _ => false)
  | _ => false
theorem file_of {K : PySem.W.Frag} {c : Addr} {file : Str} (h : fileB K c file = true) : ∃ oc od vs osl tf, K.lookup c = some ⟨oc, od, .fields vs, osl⟩ ∧ vs[2]? = some (.str file tf) := by
  unfold fileB at h
  split at h
  · rename_i oc od vs osl q
    split at h
    · rename_i fl tf hv
      exact ⟨oc, od, vs, osl, tf, q, by rw [← of_decide_eq_true h]; exact hv⟩
    · cases h
  · cases h
/-- all that is asked of an own exception with an __init__ of its own -/
def ExD.oks (K : PySem.W.Frag) (d : ExD) : List Bool := [(exkB K (He.ga K d.cls)).all id, funB K (d.f K), PySem.W.codeIn K (.ref (codeAt K (d.f K))) d.qual, cellB K (closAt K (d.f K)) (He.ga K d.cls), fileB K (codeAt K (d.f K)) d.file, PySem.W.keepIn K (.ref (d.f K)),
  decide (PySem.W.nsIn K cStatics "thirdparty.any" = some none), decide (PySem.W.nsIn K mainGlobals "super" = some none), decide (PySem.W.ks_superIn K (He.ga K d.cls) (He.ga K d.cls) "__init__" = some (some (.builtin "ValueError.__init__"))), decide (PySem.W.subIn K (.ref (He.ga K d.cls)) (.type "ValueError") = some true),
  decide (PySem.W.mroIn K (He.ga K d.cls) (.ref (He.ga K d.cls)) = some true), decide (PySem.W.findIn K (.ref (He.ga K d.cls)) "__init__" = some (some (.ref (d.f K)))), decide (PySem.W.typeIn K (.ref (d.f K)) = some (.type "function")), d.fs.all fun f => decide (PySem.W.findIn K (.ref (He.ga K d.cls)) f = some none)]
structure ExOk (K : PySem.W.Frag) (d : ExD) (ar : Str) : Prop where
  k : ExK K (He.ga K d.cls)
  init : GX.InitC K (He.ga K d.cls) (d.f K) (closAt K (d.f K)) (d.nf K) ar
  file : ∃ oc od vs osl tf, K.lookup (d.nf K).c = some ⟨oc, od, .fields vs, osl⟩ ∧ vs[2]? = some (.str d.file tf)
  iC : PySem.W.findIn K (.ref (He.ga K d.cls)) "__init__" = some (some (.ref (d.f K)))
  tI : PySem.W.typeIn K (.ref (d.f K)) = some (.type "function")
  no : ∀ f ∈ d.fs, PySem.W.findIn K (.ref (He.ga K d.cls)) f = some none
theorem ExOk.of {K : PySem.W.Frag} {d : ExD} {ar : Str} (h : (d.oks K).all id = true) (e : fnE K (d.f K) = d.val) (hp : ∃ x, (d.params.posonlyargs ++ d.params.args).head? = some x ∧ x.arg = ar) : ExOk K d ar := by
  have g : ∀ i b, (d.oks K)[i]? = some b → b = true := fun i b hb => List.all_eq_true.mp h b (List.mem_of_getElem? hb)
  have k := exk_ok (g 0 _ rfl)
  have hf := file_of (g 4 _ rfl)
  refine ⟨k, ⟨k.oex, fun_of e (g 1 _ rfl), g 2 _ rfl, rfl, cell_of (g 3 _ rfl), ?_, g 5 _ rfl, of_decide_eq_true (g 6 _ rfl), of_decide_eq_true (g 7 _ rfl), of_decide_eq_true (g 8 _ rfl), of_decide_eq_true (g 9 _ rfl), of_decide_eq_true (g 10 _ rfl), hp⟩, hf, of_decide_eq_true (g 11 _ rfl), of_decide_eq_true (g 12 _ rfl), fun f hm => ?_⟩
  · obtain ⟨oc, od, vs, osl, tf, h1, h2⟩ := hf
    exact ⟨oc, od, vs, osl, d.file, tf, h1, h2⟩
  · have z := List.all_eq_true.mp (g 13 _ rfl) f hm
    exact of_decide_eq_true z
/-- what is asked of the program itself -/
structure POk (P : Program) (file : Str) : Prop where
  file : P.main.file = file
  sup : (P.main.scope.names.lookup ("super" : Str)).isSome = false
theorem ExOk.hfile {K : PySem.W.Frag} {d : ExD} {ar : Str} {P : Program} (T : ExOk K d ar) (h : POk P d.file) : ∀ oc od vs osl fl tf, K.lookup (d.nf K).c = some ⟨oc, od, .fields vs, osl⟩ → vs[2]? = some (.str fl tf) → ((P.main.file : Str) == fl) = true := fun oc od vs osl fl tf h1 h2 => by
  obtain ⟨oc2, od2, vs2, osl2, tf2, h3, h4⟩ := T.file
  rw [h1] at h3
  have e := Option.some.inj h3
  injection e with _ _ e3
  injection e3 with e4
  rw [← e4, h2] at h4
  have e5 := Option.some.inj h4
  injection e5 with e6
  rw [e6, h.file]
  exact beq_self_eq_true _
/-- an own exception's __init__ by its promise -/
def FnX (P : Program) (w : World) (K : PySem.W.Frag) (mg : Str → Option Value) (base : Heap) (k : Nat) (f : Addr) (ps : List Str) (sp : Sp) : Prop :=
  ∃ fd, FnOk P w K mg base (L2.CX P w) k f fd ps sp ∧ Binds K fd ps []
theorem spX1_len {C : Addr} {f : Str} {vs H Q E} (h : spX1 C f vs H Q E) : vs.length = 2 := by
  obtain ⟨_, _, rfl, _⟩ := h
  rfl
theorem spX2_len {C : Addr} {f g : Str} {vs H Q E} (h : spX2 C f g vs H Q E) : vs.length = 3 := by
  obtain ⟨_, _, _, rfl, _⟩ := h
  rfl
theorem spX1_a {C : Addr} {f : Str} {vs H Q E} (h : spX1 C f vs H Q E) : ∃ a ws, vs = .ref a :: ws ∧ H a = some (exo a C none) := by
  obtain ⟨a, v, rfl, e, _⟩ := h
  exact ⟨a, _, rfl, e⟩
theorem spX2_a {C : Addr} {f g : Str} {vs H Q E} (h : spX2 C f g vs H Q E) : ∃ a ws, vs = .ref a :: ws ∧ H a = some (exo a C none) := by
  obtain ⟨a, v, w, rfl, e, _⟩ := h
  exact ⟨a, _, rfl, e⟩
/-- {} -/
theorem w_dic0 {K : PySem.W.Frag} {W : WX} {O : List OD} {ts : List T} {P : PT'} {X : XX} (k : P (.v (.dic [])) O) : WE K W tDNewK O ts P X := fun b A σ H Q s rs kv kx => fun a ha => by
  obtain ⟨s2, n2, q2⟩ := s.lay ha (.dK [])
  exact kv _ _ A O _ k s2 n2 ⟨_, rfl, a, [], rfl, q2, rfl⟩
section
variable {X : Cx}
theorem call_isiEK (K : PySem.W.Frag) (h : X.K = K := by rfl) : CallR X (.builtin "isinstance") (rIsiE K) := h ▸ call_isiE
theorem pe_xfHK (K : PySem.W.Frag) {e : Expr} {te : TE} {f : Str} {pos : Pos} (he : PE X e te) (hb : attributeBase e f X.env (eval e X.env) = eval e X.env := by rfl) (h : X.K = K := by rfl) : PE X (.Attribute e f pos) (tXfH K f te) := h ▸ pe_xfH he hb
/-! ### f(k = e, ..): every parameter by its name, in order -/
def KwB (K : PySem.W.Frag) (fd : FuncData) (ps : List Str) : Prop := ∀ (s : Shared) (ws : List Value), K.In s.heap → ws.length = ps.length → BindsTo s fd ⟨[], ps.zip ws⟩ (ps.zip ws)
theorem kwB {K : PySem.W.Frag} {x qual : Str} {params : Arguments} {body : List Stmt} {scope : Scope} {f : Addr} {fd fd2 : FuncData} {ps : List Str} (F : FunD K x qual params body scope [] [] f fd) (lk : LkF K f fd2)
    (h : ∀ (kV doc pm : Value) (an : Option Addr) (cdv ct : Value) (ws : List Value), ws.length = ps.length → bindArgs (PySem.W.fnOf x qual params body scope .none kV doc pm an cdv ct) ⟨[], ps.zip ws⟩ = pure (ps.zip ws)) : KwB K fd2 ps := by
  obtain ⟨oc2, od2, osl2, e2⟩ := lk
  obtain ⟨oc, od, dV, kV, doc, pm, an, cdv, ct, osl, rfl, lk, hcd, hD, hK⟩ := F.ex
  rw [lk] at e2
  injection e2 with e2
  injection e2 with _ _ e2
  injection e2 with e2
  subst e2
  rcases hD with ⟨_, rfl⟩ | ⟨z, _⟩
  · exact fun s ws _ hl => BindsTo.of_eq (h kV doc pm an cdv ct ws hl)
  · exact absurd rfl z
variable {CX : CXT} {k : Nat} {f : Addr} {fd : FuncData} {ps : List Str} {sp : Sp} {E : XK} {x : Str} {kws : List Keyword} {tk : TA} {p pos : Pos}
theorem pe_callK0 (F : FnOk X.prog X.w X.K X.mg X.base CX k f fd ps sp) (hr : Room k X.A) (hg : Gl X x) (hm : X.mg x = some (.ref f)) (hk : PySem.W.keepIn X.K (.ref f) = true) (hb : KwB X.K fd ps) (hx : Passes CX X E)
    (hkw : PK X kws tk) (hall : (backToKw pos (keywordEach kws X.env)).all (·.1.isSome) = true := by rfl) (hks : (backToKw pos (keywordEach kws X.env)).filterMap (·.1) = ps := by rfl)
    (hdb : (x == ("__debug__" : Str)) = false := by decide)
    (hpl : ((backTo pos (starEach [] X.env)).any (·.1) || (backToKw pos (keywordEach kws X.env)).any (·.1.isNone)) = false := by rfl) :
    PE X (.Call (.Name x p) [] kws pos) (tCall sp [] E tk) := by
  refine ⟨fun pins s σ H Q I h => ?_⟩
  refine wpAny_Call_Name_kw (ld_glob I hg hm ?_ hdb)
  refine PySem.W.callWith_KW0 (h₀ := X.base) I.ok.mod.kin hk hall (thn (hkw.run pos pins s σ H _ I h) fun ws s2 ⟨zs, H2, I2, rz, q2⟩ => ⟨I2.kIn, ?_⟩) hpl
  rw [hks]
  have q2' : sp (zs ++ []) H2 Q E := q2
  rw [List.append_nil] at q2'
  have hl : ws.length = ps.length := by
    rw [← rz.length]
    exact F.len _ _ _ _ q2'
  show wpAny _ _ (call (.ref f) [] (ps.zip ws)) _ _ _
  refine wpAny_call (codeAny_mono (F.run X.A X.stack s2 H2 ⟨[], ps.zip ws⟩ ws zs Q E hr I2.env0 (hb s2 ws I2.kIn hl) rz q2') fun r s' hq => ?_)
  cases r with
  | error e => exact hx pins σ H2 s2 e s' I2 hq
  | ok fl =>
    cases fl with
    | ret u => exact I2.after hq
    | next => exact False.elim hq
    | brk => exact False.elim hq
    | cont => exact False.elim hq
end
/-! ### try: .. except X as n: y = n, kept folded -/
def tTryK (K : PySem.W.Frag) (c : Value) (i j : Nat) (tb : WX → TS) (W : WX) : TS := fun D σ H => tb (wKeep K c i (fun _ _ _ => tAsg (tVar i) (gName j)) W D) D σ H
theorem ps_tryK {X : Cx} {x n : Str} {c : Value} {i j : Nat} {body suite : List Stmt} {b₀ : Stmt} {np pos pos' : Pos} {tb : WX → TS} {Wout : WX} (K : PySem.W.Frag) (hs : X.stack = X.env :: X.outer) (hf : X.env.frame = some X.env.locals) (hN : X.N.Nodup) (hi : X.N[i]? = some n) (hln : X.env.kindOf n = some .local) (hc : Names X x c) (hex : X.ex = []) (tk : Takes X Wout)
    (hb : ∀ (W : WX) (pn : List (Addr × Obj)) (xe : Value → Shared → Prop), Takes (X.tr pn xe) W → PassesOwn (model X.prog X.w) X.A X.env xe → PSs (X.tr pn xe) body (tb W))
    (hsu : ∀ (a : Addr) (oe : Obj) (cls : Value) (d : Option Addr) (pn : List (Addr × Obj)), Zc cls d oe → (∃ vs, oe.data = .fields vs) → PSs (X.suite a ((a, oe) :: pn)) (b₀ :: suite) (tAsg (tVar i) (gName j))) (hK : X.K = K := by rfl) :
    PS X (.Try body [.ExceptHandler (some (.Name x np)) (some n) (b₀ :: suite) pos'] [] [] pos) (tTryK K c i j tb Wout) := hK ▸ ps_try_keep hs hf hN hi hln hc hex tk hb hsu
theorem s_try {K : PySem.W.Frag} {W : WX} {O : List OD} {ts : List T} {E : DE} {c : Value} {i j : Nat} {tb : WX → TS} (h : ∀ W', WS K W' (tb W') O ts { E with xe := TryX K c i j E }) : WS K W (tTryK K c i j tb W) O ts E := s_tryK h
end G

set_option Elab.async false
set_option linter.all false
set_option maxRecDepth 100000
set_option maxHeartbeats 4000000
/-! GY: a lambda without parameters is handed to a def that calls it once, inside a try or not; what it lets out depends on the state of the call. -/
namespace G
open PySem PySem.Spec PyProof.Rows L2 LamX
/-- x(), the lambda's reading tl -/
def tAsk (i : Nat) (f c' : Addr) (q : Str) (tl : XK → Hp → VK → Prop) (W : WX) : TE := fun σZ HZ Q => σZ[i]? = some (some (.ref f)) ∧ HZ c' = some (CodeO c' q) ∧ tl (L2.WE W σZ) HZ Q
section
variable {X : Cx} {pins : List (Addr × Obj)} {σ : L2.St} {H HZ : Hp} {s s1 : Shared}
theorem pe_askS {CXg : CXT} {Eg : XK} {Ng : List Str} {qg : Str} {sg : Scope} {g f c' : Addr} {cdg pm ctv : Value} {params : Arguments} {body : Expr} {scope : Scope} {k i : Nat} {a : Str} {pn : List (Addr × Obj)} {xe : Value → Shared → Prop} {W : WX} {tb : XK → TE} {p1 p2 : Pos}
    (I : Inv X pins σ H s) (L : LamS X.env.scope scope) (hf : s.heap.get? f = some (PySem.W.kla_obj "<lambda>" (X.env.qual ++ "<lambda>") params body scope (cloFrom X.env.cells scope.names []) pm c' ctv)) (hfn : H f = none) (hfr : f ∉ frs X.stack)
    (hbind : bindArgs (PySem.W.kla_fn "<lambda>" (X.env.qual ++ "<lambda>") params body scope (cloFrom X.env.cells scope.names []) pm (.ref c') ctv) ⟨[], []⟩ = pure [])
    (tk : Takes ((cxOf CXg X.prog X.w X.K X.mg X.base Ng qg sg g cdg X.A X.stack s H Eg).tr pn xe) W) (hr : Room (k + 1) (X.A.deeper (envOfC qg sg s.heap.objs.size g cdg)))
    (hbody : ∀ (A : Around) (outer : List Env) (s : Shared) (H : Hp) (E : XK), Room k (A.deeper (lamEnv X scope s.heap.objs.size f c')) → PE (lamCx X A outer s H E scope f c') body (tb E))
    (hN : Ng[i]? = some a) (hv : Vis sg a) (hd : (a == ("__debug__" : Str)) = false := by decide) (hcd : (a == ("__classdict__" : Str)) = false := by decide) :
    PE ((cxOf CXg X.prog X.w X.K X.mg X.base Ng qg sg g cdg X.A X.stack s H Eg).tr pn xe) (.Call (.Name a p1) [] [] p2) (tAsk i f c' (X.env.qual ++ "<lambda>") (fun E H' Q' => tb E σ H' Q') W) := by
  constructor
  intro pinsZ sZ σZ HZ Q IZ h
  obtain ⟨hs, hc, ht⟩ := h
  refine wpAny_Call_Name_kw (thn ((pe_var (pos := p1) (i := i) hN hv hd hcd).run pinsZ sZ σZ HZ (fun v H1 => v = .ref f ∧ H1 = HZ) IZ ⟨.ref f, hs, rfl, rfl⟩) fun u s1 z => ?_)
  obtain ⟨v, H1, I1, r1, ev, eH⟩ := z
  subst ev
  rw [eH] at I1
  obtain rfl : u = Value.ref f := r1
  have at1 : s1.heap.get? f = some (PySem.W.kla_obj "<lambda>" (X.env.qual ++ "<lambda>") params body scope (cloFrom X.env.cells scope.names []) pm c' ctv) := I1.base.keep f _ hf hfn hfr (fun z => nomatch (show f ∈ ([] : List Addr) from z))
  refine PySem.W.callWith_F0 ⟨_, _, _, _, at1⟩ ?_
  have un : Un (frs X.stack) [] H HZ s.heap s1.heap := I1.base
  obtain ⟨⟨oc, vs, t, hoc, hdc, hvc⟩, _, _⟩ := I1.hok c' _ hc
  have hx : PassesAt (L2.CX X.prog X.w) ((cxOf CXg X.prog X.w X.K X.mg X.base Ng qg sg g cdg X.A X.stack s H Eg).tr pn xe) σZ (L2.WE W σZ) := passAt tk σZ
  have run : codeAny (model X.prog X.w) (X.A.deeper (envOfC qg sg s.heap.objs.size g cdg)) (.call (.ref f) ⟨[], []⟩) (CR (L2.CX X.prog X.w) (envOfC qg sg s.heap.objs.size g cdg :: X.stack) X.prog X.w HZ s1 Q (L2.WE W σZ)) s1 := by
    refine PySem.W.kla_callFunE hr.depth at1 rfl L.co L.gen rfl ⟨c', oc, vs, t, rfl, hoc, hdc, hvc⟩ ?_
    rw [hbind]
    refine wpAny_pure (wpAny_newFunctionEnv (fun y hy => (L.own y hy).2) (fun y hy => absurd hy (by simp)) (fun h₁ hns hsb => ⟨I1.nolimit.fresh _ hsb, ?_⟩) L.kind)
    show codeAny _ _ (.expr body (lamEnv X scope s1.heap.objs.size f c')) _ _
    have J : Inv (lamCx X (X.A.deeper (envOfC qg sg s.heap.objs.size g cdg)) (envOfC qg sg s.heap.objs.size g cdg :: X.stack) s1 HZ (L2.WE W σZ) scope f c') [] σ HZ { s1 with heap := h₁, toks := s1.toks + ([] : List (Str × Value)).length } :=
      lam_start2 I L I1.env0 hr.hd un hns fun b o e => hsb.extBut b o (Nat.ne_of_lt (Heap.lt_size e)) (Heap.get?_push_of_some _ e)
    refine PySem.W.kla_codeExpr (wpAny_mono ((hbody _ _ s1 HZ _ (hr.deeper _)).run [] _ _ HZ Q J ht) (fun v s' hq => ?_) fun e s' hq => hq)
    obtain ⟨w', H', J', rv, q⟩ := hq
    exact ⟨w', H', J'.os, J'.bare, J'.base, J'.hok, rv, q⟩
  refine wpAny_call (codeAny_mono run fun r s' hq => ?_)
  cases r with
  | error e => exact hx pinsZ HZ s1 e s' I1 hq
  | ok fl =>
    cases fl with
    | ret u => exact I1.after hq
    | next => exact False.elim hq
    | brk => exact False.elim hq
    | cont => exact False.elim hq
end
/-- the def that got the lambda: its body's reading, whatever the lambda's is -/
def GivesS (X : Cx) (Ng : List Str) (x : Str) (sg : Scope) (g : Addr) (cdg : Value) (bg : List Stmt) (a : Str) (th : (WX → TE) → TS) : Prop :=
  ∀ (s : Shared) (H : Hp) (ta : WX → TE),
    (∀ (W : WX) (pn : List (Addr × Obj)) (xe : Value → Shared → Prop) (p1 p2 : Pos), Takes ((cxOf C8.CX0 X.prog X.w X.K X.mg X.base Ng x sg g cdg X.A X.stack s H C8.E0).tr pn xe) W →
      PE ((cxOf C8.CX0 X.prog X.w X.K X.mg X.base Ng x sg g cdg X.A X.stack s H C8.E0).tr pn xe) (.Call (.Name a p1) [] [] p2) (ta W)) →
    PSs (cxOf C8.CX0 X.prog X.w X.K X.mg X.base Ng x sg g cdg X.A X.stack s H C8.E0).nox bg (th ta)
/-- x(lambda: body), th: what x makes of it -/
def tLamS (T : List (Addr × Str)) (q : Str) (Ng : List Str) (th : (WX → TE) → TS) (t : XK → TE) : TE := fun σ H Q => Tabs T H ∧ ∀ H1, ExtN H H1 → Tabs T H1 → ∀ f c', H1 c' = some (CodeO c' q) →
  th (tAsk 0 f c' q fun E H' Q' => t E σ H' Q') { nx := fun _ H' => Q .non H', rt := Q } (L2.start Ng [.ref f]) H1
section
variable {X : Cx}
theorem pe_lamS {T : List (Addr × Str)} {th : (WX → TE) → TS} {x a : Str} {g c P : Addr} {k : Nat} {pg : Arguments} {bg : List Stmt} {sg : Scope} {dV kV doc pm cdv ct oc : Value} {an od : Option Addr} {osl : Array (Option Value)} {Ng : List Str}
    {params : Arguments} {body : Expr} {scope : Scope} {t : XK → TE} {p lpos pos : Pos} (hg : Gl X x) (hm : X.mg x = some (.ref g)) (hk : PySem.W.keepIn X.K (.ref g) = true)
    (lk : X.K.lookup g = some ⟨oc, od, .func (PySem.W.fnOf x x pg bg sg dV kV doc pm an cdv ct), osl⟩) (hcg : PySem.W.codeIn X.K cdv x = true) (hb : L2.Binds X.K (PySem.W.fnOf x x pg bg sg dV kV doc pm an cdv ct) [a] []) (Sg : FnScope Ng [a] sg) (hNg : Ng[0]? = some a) (hva : Vis sg a)
    (hG : GivesS X Ng x sg g cdv bg a th)
    (TB : TabB X.base X.mg c P) (hcode : X.env.code = .ref c) (hmT : (P, X.env.qual ++ "<lambda>") ∈ T) (hu : ∀ p ∈ T, p.1 = P → p.2 = X.env.qual ++ "<lambda>") (hr : Room (k + 2) X.A) (L : LamS X.env.scope scope) (hdef : defaultsOf params X.env = ([], []))
    (hbind : ∀ (q : Str) (cl : List (Str × Addr)) (pm cv ctv : Value), bindArgs (PySem.W.kla_fn "<lambda>" q params body scope cl pm cv ctv) ⟨[], []⟩ = pure [])
    (hbody : ∀ (A : Around) (outer : List Env) (s : Shared) (H : Hp) (E : XK) (f c' : Addr), Room k (A.deeper (lamEnv X scope s.heap.objs.size f c')) → PE (lamCx X A outer s H E scope f c') body (t E))
    (hdb : (x == ("__debug__" : Str)) = false := by decide) (hd : (a == ("__debug__" : Str)) = false := by decide) (hcd : (a == ("__classdict__" : Str)) = false := by decide) :
    PE X (.Call (.Name x p) [.Lambda params body scope lpos] [] pos) (tLamS T (X.env.qual ++ "<lambda>") Ng th t) := by
  constructor
  intro pins s σ H Q I h
  obtain ⟨hT, h⟩ := h
  apply wpAny_Call_Name_kw
  refine ld_glob I hg hm ?_ hdb
  refine PySem.W.callWith_K (h₀ := X.base) I.ok.mod.kin hk ?_ (by rfl) (by rfl)
  show wpAny _ _ (spliced ((false, eval (.Lambda params body scope lpos) X.env) :: backTo pos (starEach [] X.env))) _ _ s
  refine Calls.spliced_cons (lam_make2 I TB hcode hmT hu hT hdef (L.has I.ok) fun f c' pm' ctv H1 s' I1 eN T1 hf hfn hfr hco => ?_)
  refine Calls.spliced_nil ⟨I1.kIn, ?_⟩
  have run : codeAny (model X.prog X.w) X.A (.call (.ref g) ⟨[.ref f], []⟩) (CR C8.CX0 X.stack X.prog X.w H1 s' Q C8.E0) s' :=
    run_ofS (N := Ng) (ps := [a]) (us := [.ref f]) (vs := [.ref f]) lk hcg Sg hr I1.env0 (hb s' [.ref f] I1.kIn rfl) (.cons rfl .nil) rfl fun hr' =>
      ⟨_, (hG s' H1 (tAsk 0 f c' (X.env.qual ++ "<lambda>") fun E H' Q' => t E σ H' Q') fun W pn xe p1 p2 tk => pe_askS (i := 0) I1 L hf hfn hfr (hbind _ _ _ _ _) tk hr' (fun A outer s H E hr2 => hbody A outer s H E f c' hr2) hNg hva hd hcd).nox, h H1 eN T1 f c' hco⟩
  refine wpAny_call (codeAny_mono run fun r s2 hq => ?_)
  cases r with
  | error e => exact (show False from hq).elim
  | ok fl =>
    cases fl with
    | ret u => exact I1.after hq
    | next => exact False.elim hq
    | brk => exact False.elim hq
    | cont => exact False.elim hq
end
/-! ### over data -/
/-- what a lambda's slot knows: its code object, the slots of the def that made it -/
def cloR (K : PySem.W.Frag) (c' : Addr) (q : Str) (ts : List T) (σ : L2.St) : Hp → List Addr → Prop := fun F A => F c' = some (CodeO c' q) ∧ RepS K F A ts σ
section
variable {K : PySem.W.Frag} {W : WX} {O : List OD} {ts ts0 : List T} {P : PT'} {X : XX} {t : XK → TE} {σ0 : L2.St} {f c' : Addr} {q : Str} {i : Nat}
theorem w_ask (h0 : ts[i]? = some (.clo (cloR K c' q ts0 σ0) f)) (h : ∀ E : XK, WE K (fun c d _ H => E c d H) (t E) O ts0 P X) : WE K W (tAsk i f c' q (fun E H Q => t E σ0 H Q) W) O ts P X := fun b A σ H Q s rs kv kx => by
  obtain ⟨o, e1, e2, m⟩ := rs.2 i _ h0
  obtain ⟨hc, r0⟩ := m _ A (Ex.refl _) ⟨[], (List.append_nil A).symm⟩
  refine ⟨by rw [e1, e2], hid_ex _ _ hc codeO_nt, h _ b A σ0 H Q s r0 kv ?_⟩
  exact fun C fs A' O' H' d x s' n' rx => kx C fs A' O' H' d x s' n' rx
theorem StO.grow {b : Bs} {A : List Addr} {H H1 : Hp} (s : StO K b A O H) (e : ExtN H H1) (t : TabsK K H1) : StO K b A O H1 ∧ Nxt b A O H A O H1 := by
  have x3 : Ex (Fz b A O H) (Fz b A O H1) := hid_monoW (fun a o _ h n => e a o h n) fun _ _ h _ => h
  exact ⟨⟨s.len, s.pre, s.ext.trans (hid_monoW (fun a o _ h n => e a o h n) fun _ _ h _ => h), s.zs, s.nd, fun a h => let ⟨o, q, n⟩ := s.inh a h; ⟨o, e a o q n, n⟩, fun i a o h1 h2 => (s.cell i a o h1 h2).exW x3 (e a), t⟩, ⟨⟨[], (List.append_nil A).symm⟩, x3⟩⟩
theorem w_lamS {n : Nat} {Ng : List Str} {th : (WX → TE) → TS} (hn : Ng.length = n + 1)
    (h : ∀ (f c' : Addr) (σ0 : L2.St), WS K (fun _ _ _ _ => False) (th (tAsk 0 f c' q fun E H' Q' => t E σ0 H' Q')) O (.clo (cloR K c' q ts σ0) f :: List.replicate n .no) { nx := fun _ O' => P (.v .non) O', rt := P }) :
    WE K W (tLamS (tabT K) q Ng th t) O ts P X := fun b A σ H Q s rs kv kx => ⟨s.tb, fun H1 eN T1 f c' hc => by
  obtain ⟨s1, n1⟩ := s.grow eN T1
  have hz : c' ∉ live A O ++ b.Z := fun hm => by
    have key : ∃ o, H1 c' = some o ∧ OB o := by
      rcases List.mem_append.mp hm with hm | hm
      · exact s1.some_at hm
      · exact (s1.z_at hm).2
    obtain ⟨o, e, ob⟩ := key
    rw [hc] at e
    exact ob.2 _ _ (Option.some.inj e).symm
  have hF : Fz b A O H1 c' = some (CodeO c' q) := hid_some.mpr ⟨hz, hc⟩
  refine h f c' σ b A _ H1 _ s1 ⟨?_, fun j u e => ?_⟩ ⟨fun ts' σ' A' O' H' p s' n' _ => kv _ .non A' O' H' p s' (n1.trans n') ⟨_, rfl, rfl⟩, kv.nxt n1, fun _ _ _ _ _ z => z.elim, fun _ _ _ _ _ z => z.elim, fun _ _ _ _ _ _ _ _ z => z.elim⟩
  · unfold L2.start
    rw [List.length_cons, List.length_replicate, List.length_append, List.length_map, List.length_replicate, hn]
    simp
    omega
  · cases j with
    | zero =>
      have e : T.clo (cloR K c' q ts σ) f = u := Option.some.inj e
      subst e
      exact ⟨some (.ref f), rfl, rfl, fun F' A' x p => ⟨x _ _ hF codeO_nt, (rs.nxt n1).mono x p⟩⟩
    | succ j =>
      have e : (List.replicate n T.no)[j]? = some u := e
      rw [List.getElem?_replicate] at e
      by_cases hj : j < n
      · rw [if_pos hj] at e
        have e := Option.some.inj e
        subst e
        refine ⟨none, ?_, trivial⟩
        unfold L2.start
        rw [List.getElem?_append_right (by simp)]
        simp [hn, hj]
      · rw [if_neg hj] at e
        cases e⟩
end
/-! ### facts -/
/-- f's code object, its table, the name of its lambdas -/
structure LamF (K : PySem.W.Frag) (f : Addr) (q : Str) (P : Addr) : Prop where
  cs : ((codeAt K f, P), q) ∈ csT K
  un : ∀ p ∈ tabT K, p.1 = P → p.2 = q
theorem LamF.tab {K : PySem.W.Frag} {f : Addr} {q : Str} {P : Addr} (h : LamF K f q P) : (P, q) ∈ tabT K := List.mem_map.mpr ⟨_, h.cs, rfl⟩
/-- its table -/
def tbAt (K : PySem.W.Frag) (f : Addr) : Addr := match (csT K).find? fun p => p.1.1 == codeAt K f with
  | some p => p.1.2
  | none => 0
def lamFB (K : PySem.W.Frag) (f : Addr) (q : Str) : Bool := ((csT K).any fun p => decide (p = ((codeAt K f, tbAt K f), q))) && (tabT K).all fun p => !decide (p.1 = tbAt K f) || decide (p.2 = q)
theorem lamFB_ok {K : PySem.W.Frag} {f : Addr} {q : Str} (h : lamFB K f q = true) : LamF K f q (tbAt K f) := by
  obtain ⟨h1, h2⟩ := He.ba h
  obtain ⟨p, hp, e⟩ := List.any_eq_true.mp h1
  have e := of_decide_eq_true e
  refine ⟨by rw [← e]; exact hp, fun p hp e => ?_⟩
  have z := List.all_eq_true.mp h2 p hp
  rw [decide_eq_true e] at z
  simpa using z
/-- the tables at the head: in the part's words -/
def codeHdB (K : PySem.W.Frag) (c P : Addr) : Bool := match K.lookup c with
  | some ⟨cl, _, .fields vs, _⟩ => decide (cl = .type "code") && (decide ((vs[11]? : Option Value) = some (.ref P)) && ((match vs.getD 18 .none with
    | .str _ _ => true
    | _ => false) && ((match vs.getD 7 .none with
    | .int _ _ => true
    | _ => false) && ((match vs.getD 9 .none with
    | .bool _ => true
    | _ => false) && ((match vs.getD 10 .none with
    | .int _ _ => true
    | _ => false) && !decide (c = P))))))
  | _ => false
theorem codeHdB_ok {K : PySem.W.Frag} {h : Heap} {c P : Addr} (X : K.In h) (e : codeHdB K c P = true) : PySem.W.CodeHd h c P := by
  unfold codeHdB at e
  split at e
  · rename_i cl od vs osl ho
    obtain ⟨h1, e⟩ := He.ba e
    obtain ⟨h2, e⟩ := He.ba e
    obtain ⟨h3, e⟩ := He.ba e
    obtain ⟨h4, e⟩ := He.ba e
    obtain ⟨h5, e⟩ := He.ba e
    obtain ⟨h6, h7⟩ := He.ba e
    have h1 := of_decide_eq_true h1
    have h2 := of_decide_eq_true h2
    have g11 : vs.getD 11 .none = .ref P := by
      rw [Array.getD_eq_getD_getElem?, h2] <;> rfl
    obtain ⟨file, tf, h3⟩ : ∃ file tf, vs.getD 18 .none = .str file tf := by
      cases q : vs.getD 18 .none with
      | str a b => exact ⟨a, b, rfl⟩
      | _ => rw [q] at h3; cases h3
    obtain ⟨flags, tg, h4⟩ : ∃ file tf, vs.getD 7 .none = .int file tf := by
      cases q : vs.getD 7 .none with
      | int a b => exact ⟨a, b, rfl⟩
      | _ => rw [q] at h4; cases h4
    obtain ⟨inF, h5⟩ : ∃ inF, vs.getD 9 .none = .bool inF := by
      cases q : vs.getD 9 .none with
      | bool a => exact ⟨a, rfl⟩
      | _ => rw [q] at h5; cases h5
    obtain ⟨text, tt, h6⟩ : ∃ file tf, vs.getD 10 .none = .int file tf := by
      cases q : vs.getD 10 .none with
      | int a b => exact ⟨a, b, rfl⟩
      | _ => rw [q] at h6; cases h6
    refine ⟨_, vs, file, tf, flags, tg, inF, text, tt, X _ _ ho, h1, rfl, h2, g11, h3, h4, h5, h6, fun z => ?_⟩
    rw [decide_eq_true z] at h7
    cases h7
  · cases e
/-- looked at where the heap's objects are at hand -/
def tabsB (g : Addr → Option Obj) (K : PySem.W.Frag) : Bool := (csT K).all fun p => codeHdB K p.1.1 p.1.2 && ((K.lookup p.1.2).isNone && (match g p.1.2 with
  | some o => He.emptyTab o
  | none => false))
theorem tabsB_ok {K : PySem.W.Frag} {h : Heap} (X : K.In h) (e : tabsB h.get? K = true) : TabH K h := by
  have key : ∀ p ∈ csT K, codeHdB K p.1.1 p.1.2 = true ∧ K.lookup p.1.2 = none ∧ h.get? p.1.2 = some { cls := .none, data := .fields #[] } := fun p hp => by
    obtain ⟨h1, h2⟩ := He.ba (List.all_eq_true.mp e p hp)
    obtain ⟨h3, h4⟩ := He.ba h2
    refine ⟨h1, by simpa using h3, ?_⟩
    cases q : h.get? p.1.2 with
    | none => rw [q] at h4; cases h4
    | some o =>
      rw [q] at h4
      rw [He.emptyTab_eq h4]
  exact ⟨fun p hp => (key p hp).2.2, fun p hp => (key p hp).2.1, fun p hp => codeHdB_ok X (key p hp).1⟩
theorem TabH.keeps {K : PySem.W.Frag} {h h' : Heap} (t : TabH K h) (k : ∀ b o, h.get? b = some o → h'.get? b = some o) : TabH K h' := ⟨fun p hp => k _ _ (t.emp p hp), t.out, fun p hp => (t.hd p hp).keeps k⟩
/-- a def whose body has lambdas: it knows its code object -/
theorem fnGL {P : Program} {w : World} {K : PySem.W.Frag} {mg : Str → Option Value} {base : Heap} {k : Nat} {x qual : Str} {params : Arguments} {body : List Stmt} {scope : Scope} {f : Addr} {fd : FuncData} {N ps : List Str} {sp : SpD}
    (F : FunD K x qual params body scope [] [] f fd) (S : FnScope N ps scope) (len : ∀ vs H Q E, lift K sp vs H Q E → vs.length = ps.length) (hb : Binds K fd ps [])
    (h : ∀ (cdv : Value) (A : Around) (outer : List Env) (s : Shared) (H : Hp) (vs : List V) (Q : VK) (E : XK), cdv = .ref (codeAt K f) → A.guards = some [] → Room k (A.deeper (envOfC qual scope s.heap.objs.size f cdv)) → lift K sp vs H Q E →
      ∃ t, PSs (cxOf (L2.CX P w) P w K mg base N qual scope f cdv A outer s H E) body t ∧ t { nx := fun _ H' => Q .non H', rt := Q } (L2.start N vs) H) :
    FnG P w K mg base (k + 1) f ps.length sp := by
  obtain ⟨⟨oc, od, dV, kV, doc, pm, an, cdv, ct, osl, rfl, lk, hcd, hD, _⟩, kp⟩ := F
  refine ⟨fun A outer s H us vs Q E hgd hr e0 r hs => ?_, kp⟩
  have hl := len _ _ _ _ hs
  have hb' := hb s us (e0.mod.kin.keeps fun b o e => (e0.bs b o e).1) (by rw [List.append_nil, ← r.length]; exact hl)
  rw [List.append_nil] at hb'
  obtain ⟨c0, rfl⟩ := He.codeIn_ref hcd
  have hc : codeAt K f = c0 := by
    unfold codeAt
    rw [lk] <;> rfl
  exact LamX.run_ofS lk hcd S hr e0 hb' r hl fun hr' => h _ A outer s H vs Q E (by rw [hc]) hgd hr' hs
/-- the def that gets the lambdas -/
theorem heard_of {K : PySem.W.Frag} {x : Str} {params : Arguments} {body : List Stmt} {scope : Scope} {f : Addr} {fd : FuncData} {a : Str} (F : FunD K x x params body scope [] [] f fd)
    (h : ∀ (kV doc pm : Value) (an : Option Addr) (cdv ct : Value) (us : List Value), us.length = [a].length → bindArgs (PySem.W.fnOf x x params body scope .none kV doc pm an cdv ct) ⟨us, []⟩ = pure ([a].zip us)) :
    ∃ dV kV doc pm cdv ct oc an od osl, K.lookup f = some ⟨oc, od, .func (PySem.W.fnOf x x params body scope dV kV doc pm an cdv ct), osl⟩ ∧ PySem.W.codeIn K cdv x = true ∧ L2.Binds K (PySem.W.fnOf x x params body scope dV kV doc pm an cdv ct) [a] [] ∧ PySem.W.keepIn K (.ref f) = true := by
  have B := F.bindsN (ps := [a]) h
  obtain ⟨oc, od, dV, kV, doc, pm, an, cdv, ct, osl, rfl, lk, hcd, hD, hK⟩ := F.ex
  exact ⟨dV, kV, doc, pm, cdv, ct, oc, an, od, osl, lk, hcd, B, F.kp⟩
/-! ### f(b = .., a = ..): two parameters by their names, in turned order -/
def KwR (K : PySem.W.Frag) (fd : FuncData) (ps : List Str) : Prop := ∀ (s : Shared) (ws : List Value), K.In s.heap → ws.length = ps.length → BindsTo s fd ⟨[], ps.reverse.zip ws⟩ (ps.zip ws.reverse)
theorem kwR {K : PySem.W.Frag} {x qual : Str} {params : Arguments} {body : List Stmt} {scope : Scope} {f : Addr} {fd fd2 : FuncData} {ps : List Str} (F : FunD K x qual params body scope [] [] f fd) (lk : LkF K f fd2)
    (h : ∀ (kV doc pm : Value) (an : Option Addr) (cdv ct : Value) (ws : List Value), ws.length = ps.length → bindArgs (PySem.W.fnOf x qual params body scope .none kV doc pm an cdv ct) ⟨[], ps.reverse.zip ws⟩ = pure (ps.zip ws.reverse)) : KwR K fd2 ps := by
  obtain ⟨oc2, od2, osl2, e2⟩ := lk
  obtain ⟨oc, od, dV, kV, doc, pm, an, cdv, ct, osl, rfl, lk, hcd, hD, hK⟩ := F.ex
  rw [lk] at e2
  injection e2 with e2
  injection e2 with _ _ e2
  injection e2 with e2
  subst e2
  rcases hD with ⟨_, rfl⟩ | ⟨z, _⟩
  · exact fun s ws _ hl => BindsTo.of_eq (h kV doc pm an cdv ct ws hl)
  · exact absurd rfl z
def tCallV (sp : Sp) (E : XK) (t : TA) : TE := fun σ H Q => t σ H fun zs H1 => ∃ v u, zs = [v, u] ∧ sp [u, v] H1 Q E
section
variable {X : Cx} {CX : CXT} {k : Nat} {f : Addr} {fd : FuncData} {ps : List Str} {sp : Sp} {E : XK} {x : Str} {kws : List Keyword} {tk : TA} {p pos : Pos}
theorem pe_callKr (F : FnOk X.prog X.w X.K X.mg X.base CX k f fd ps sp) (hr : Room k X.A) (hg : Gl X x) (hm : X.mg x = some (.ref f)) (hk : PySem.W.keepIn X.K (.ref f) = true) (hb : KwR X.K fd ps) (hx : Passes CX X E)
    (hkw : PK X kws tk) (hall : (backToKw pos (keywordEach kws X.env)).all (·.1.isSome) = true := by rfl) (hks : (backToKw pos (keywordEach kws X.env)).filterMap (·.1) = ps.reverse := by rfl)
    (hdb : (x == ("__debug__" : Str)) = false := by decide)
    (hpl : ((backTo pos (starEach [] X.env)).any (·.1) || (backToKw pos (keywordEach kws X.env)).any (·.1.isNone)) = false := by rfl) :
    PE X (.Call (.Name x p) [] kws pos) (tCallV sp E tk) := by
  refine ⟨fun pins s σ H Q I h => ?_⟩
  refine wpAny_Call_Name_kw (ld_glob I hg hm ?_ hdb)
  refine PySem.W.callWith_KW0 (h₀ := X.base) I.ok.mod.kin hk hall (thn (hkw.run pos pins s σ H _ I h) fun ws s2 ⟨zs, H2, I2, rz, v, u, ez, q2⟩ => ⟨I2.kIn, ?_⟩) hpl
  subst ez
  rw [hks]
  have hl0 : ([u, v] : List V).length = ps.length := F.len _ _ _ _ q2
  have hl : ws.length = ps.length := by
    rw [← rz.length]
    exact hl0
  have rv : Vals [u, v] ws.reverse := by
    cases rz with
    | cons r1 r2 =>
      cases r2 with
      | cons r2 r3 =>
        cases r3
        exact .cons r2 (.cons r1 .nil)
  show wpAny _ _ (call (.ref f) [] (ps.reverse.zip ws)) _ _ _
  refine wpAny_call (codeAny_mono (F.run X.A X.stack s2 H2 ⟨[], ps.reverse.zip ws⟩ ws.reverse [u, v] Q E hr I2.env0 (hb s2 ws I2.kIn hl) rv q2) fun r s' hq => ?_)
  cases r with
  | error e => exact hx pins σ H2 s2 e s' I2 hq
  | ok fl =>
    cases fl with
    | ret u => exact I2.after hq
    | next => exact False.elim hq
    | brk => exact False.elim hq
    | cont => exact False.elim hq
end
section
variable {K : PySem.W.Frag} {W : WX} {O : List OD} {ts : List T} {P : PT'} {X : XX} {sp : SpD} {tr : TA}
theorem w_fnV (h : WA K W tr O ts (fun xs O1 => ∃ d e, xs = [.v d, .v e] ∧ sp [.v e, .v d] [] (fun t _ => (∃ d, t = .v d) ∧ P t O1) (fun _ _ _ => False)) X) : WE K W (tCallV (lift K sp) E0 tr) O ts P X := fun b A σ H Q s rs kv kx =>
  h b A σ H _ s rs (fun xs vs A1 O1 H1 p1 s1 n1 r1 => by
    obtain ⟨d, e, rfl, p⟩ := p1
    obtain ⟨v, _, rfl, r2, u, _, rfl, r3, rfl⟩ := r1
    exact ⟨v, u, rfl, lift_p (W := fun _ _ _ _ => False) (X := fun _ _ _ => False) (σ := σ) s1 (xs := [.v e, .v d]) ⟨u, _, rfl, r3, v, _, rfl, r2, rfl⟩ rfl (fun C d H z => z) p (kv.nxt n1) (fun C fs A' O' H' d z => z.elim)⟩) kx
end
end G

set_option Elab.async false
set_option linter.all false
set_option maxRecDepth 100000
set_option maxHeartbeats 4000000
/-! GZ: what a loop's body owns alone is let go at its end. -/
namespace G
open PySem PySem.Spec PyProof.Rows L2
def cut1 (n : Nat) : T → T
  | .v d => .v d
  | .own i => if i < n then .own i else .no
  | _ => .no
theorem s_local {K : PySem.W.Frag} {W : WX} {O : List OD} {ts : List T} {E : DE} {t : TS}
    (h : WS K W t O ts { E with nx := fun ts' O2 => ∃ O' R, O2 = O' ++ R ∧ O'.length = O.length ∧ E.nx (ts'.map (cut1 O.length)) O' }) : WS K W t O ts E := fun b A σ H D s rs ks => by
  refine h b A σ H D s rs ⟨fun ts' σ' A2 O2 H2 q s2 n2 r2 => ?_, ks.rt, ks.bk, ks.ct, ks.xe⟩
  obtain ⟨O', R, rfl, hl, q⟩ := q
  obtain ⟨M, rfl⟩ := n2.pre
  obtain ⟨s3, x3⟩ := s2.drop (A := A) (O := O') (by rw [s.len, hl]) s.pre
  refine ks.nx _ σ' A O' H2 q s3 ⟨⟨[], (List.append_nil A).symm⟩, n2.ext.trans x3⟩ ⟨by rw [List.length_map]; exact r2.1, fun j u e => ?_⟩
  rw [List.getElem?_map] at e
  cases q1 : ts'[j]? with
  | none =>
    rw [q1] at e
    cases e
  | some w =>
    rw [q1] at e
    have e : cut1 O.length w = u := Option.some.inj e
    obtain ⟨o, e1, r⟩ := r2.2 j w q1
    refine ⟨o, e1, ?_⟩
    subst e
    cases w with
    | v d =>
      obtain ⟨v, e2, r⟩ := r
      exact ⟨v, e2, r.ex x3⟩
    | own i =>
      show RepT K _ _ (if i < O.length then .own i else .no) o
      by_cases hi : i < O.length
      · rw [if_pos hi]
        obtain ⟨a, e2, e3⟩ := r
        rw [List.getElem?_append_left (by rw [s.len]; exact hi)] at e2
        exact ⟨a, e2, e3⟩
      · rw [if_neg hi]
        trivial
    | no => trivial
    | clo R f => trivial
end G

set_option Elab.async false
set_option linter.all false
set_option maxRecDepth 100000
set_option maxHeartbeats 4000000
/-! HA: comprehensions with a test over ranges; slices to the end. -/
namespace G
open PySem PySem.Spec PyProof.Rows L2
section
variable {K : PySem.W.Frag} {W : WX} {O : List OD} {ts : List T} {P : PT'} {X : XX} {g : TG} {te : TE} {vs : List Nat}
/-- [f i for i in range(n) if p i], without effects -/
theorem lcF_R {tt : TT} {n : Nat} (p : Nat → Bool) (f : Nat → D) (hz : n ≤ 1000000)
    (hs : ∀ i acc, i < n → WG K W g (.v (.int (i : Nat))) (O ++ [.lst acc]) (wipeT ts vs) (fun ts2 O2 => WT K W tt O2 ts2 (fun c O3 => c = p i ∧ O3 = O ++ [.lst acc] ∧ (p i = true → WE K W te (O ++ [.lst acc]) ts2 (fun y O4 => y = .v (f i) ∧ O4 = O ++ [.lst acc]) X0)) X0))
    (hd : P (.v (.lst (((List.range n).filter p).map f))) O) : LcExT K W g tt te vs P ts (itR 0 1 n) O := by
  have hit : ∀ i, i < n → itR 0 1 n i = some (.v (.int (i : Nat))) := fun i hi => by
    unfold itR
    rw [if_pos hi, Int.zero_add, Int.mul_one]
  refine ⟨n, fun i acc O' => O' = O ∧ acc = ((List.range i).filter p).map f, fun i hi z => (by rw [hit i hi] at z; cases z), ?_, ⟨rfl, rfl⟩, fun i acc O' h => by rw [h.1], fun i t acc O' hi ht h => ?_, fun acc O' h => ?_⟩
  · unfold itR
    rw [if_neg (Nat.lt_irrefl n)]
  · obtain ⟨rfl, rfl⟩ := h
    rw [hit i hi] at ht
    cases ht
    have hl : (((List.range i).filter p).map f).length < sizeLine := by
      rw [List.length_map]
      exact Nat.lt_of_le_of_lt (List.length_filter_le _ _) (Nat.lt_of_lt_of_le (show (List.range i).length < 1000000 by rw [List.length_range]; omega) (Nat.le_of_ble_eq_true rfl))
    refine (hs i _ hi).imp fun ts2 O2 q b A σ H Q s rs kb kx => q b A σ H Q s rs (fun c A' O' H' q2 => kb c A' O' H' ?_) kx
    obtain ⟨rfl, rfl, q3⟩ := q2
    refine ⟨fun hp => (q3 hp).imp fun y O4 q4 => ?_, fun hp => ⟨_, rfl, rfl, ?_⟩⟩
    · obtain ⟨rfl, rfl⟩ := q4
      refine ⟨_, _, rfl, rfl, hl, rfl, ?_⟩
      rw [List.range_succ, List.filter_append, List.map_append, List.filter_cons_of_pos hp] <;> rfl
    · rw [List.range_succ, List.filter_append, List.filter_cons_of_neg (by rw [hp]; exact Bool.false_ne_true)]
      simp
  · obtain ⟨rfl, rfl⟩ := h
    exact hd
end
theorem cutD_drop {xs : List D} {n : Nat} (h : n ≤ xs.length) : cutD xs (some (n : Int)) none = xs.drop n := by
  unfold cutD
  rw [HT.sIx_none, HT.sIx_nat, Nat.min_eq_left h, List.take_of_length_le (by rw [List.length_drop]; exact Nat.le_refl _)]
theorem filter_range_one {p : Nat → Bool} {k : Nat} : ∀ n : Nat, (∀ i, i < n → (p i = true ↔ i = k)) → (List.range n).filter p = if k < n then [k] else []
  | 0, _ => by rw [if_neg (Nat.not_lt_zero k)]; rfl
  | n + 1, h => by
    have ih := filter_range_one n fun i hi => h i (by omega)
    rw [List.range_succ, List.filter_append, ih]
    have hn := h n (by omega)
    by_cases e : n = k
    · subst e
      rw [if_neg (Nat.lt_irrefl n), if_pos (by omega), List.filter_cons_of_pos (hn.mpr rfl)]
      rfl
    · rw [List.filter_cons_of_neg (fun z => e (hn.mp z)), List.filter_nil, List.append_nil]
      by_cases hk : k < n
      · rw [if_pos hk, if_pos (by omega)]
      · rw [if_neg hk, if_neg (by omega)]
theorem take_snoc {α : Type} {xs : List α} {i : Nat} {x : α} (h : xs[i]? = some x) : xs.take (i + 1) = xs.take i ++ [x] := by
  rw [List.take_succ, h]
  rfl
end G

set_option Elab.async false
set_option linter.all false
set_option maxRecDepth 100000
set_option maxHeartbeats 4000000
/-! HB: own classes: __init__ with a star, calls of instances, properties, operators. -/
namespace G
open PySem PySem.Spec PyProof.Rows L2
section
variable {K : PySem.W.Frag} {W : WX} {O : List OD} {ts : List T} {P : PT'} {X : XX} {sp : SpD} {tr : TA} {E : XK}
/-- C(..) of an __init__ with a star: m values behind self, the rest as a tuple -/
theorem w_makeS {C : Addr} {m : Nat} (h : WA K W tr O ts (fun xs O1 => ∃ ds, unv xs = some ds ∧ m ≤ ds.length ∧ ds.length ≤ 1000000 ∧ sp (.own 0 :: ((ds.take m).map T.v ++ [.v (.tup (ds.drop m))])) [.ins C []] (fun t O' => t = .v .non ∧ ∃ fs, O' = [.ins C fs] ∧ P (.v (.ins C fs)) O1) (fun _ _ _ => False)) X) :
    WE K W (StX.tMakeR C (liftS K (m + 1) sp) E0 tr) O ts P X := fun b A σ H Q s rs kv kx =>
  h b A σ H _ s rs (fun xs vs A1 O1 H1 p1 s1 n1 r1 x dx hx hdx hne => by
    obtain ⟨ds, e, hn, hz, p⟩ := p1
    have r2 := r1.plain e
    have hl : vs.length = ds.length := r2.length
    obtain ⟨ra, rb⟩ := repL_split r2 m
    refine ⟨V.ref x :: vs.take m, vs.drop m, (by rw [List.cons_append, List.take_append_drop]), (by rw [List.length_cons, List.length_take]; omega), Nat.le_trans (show (vs.drop m).length ≤ 1000000 by rw [List.length_drop]; omega) (Nat.le_of_ble_eq_true rfl), fun p' hp' => ?_⟩
    obtain ⟨s2, n2⟩ := s1.lay2 hdx (.own x)
    have hx2 : upd H1 dx (.own x) x = none := by
      rw [upd_ne hne.symm]
      exact hx
    obtain ⟨s3, n3⟩ := s2.own (u := .ins C dx []) (o := .ins C []) hx2 ⟨dx, [], upd_same, rfl⟩
    obtain ⟨s3, n3', f3⟩ := s3.lay hp' (.tup (vs.drop m))
    have n13 := (n2.trans n3).trans n3'
    have e := unv_app (ds := ds.take m) (d := .tup (ds.drop m))
    have hat : (A1 ++ [x])[A1.length]? = some x := by
      rw [List.getElem?_append_right (Nat.le_refl _), Nat.sub_self]
      exact rfl
    have hoat : (O1 ++ [OD.ins C []])[A1.length]? = some (.ins C []) := by
      rw [s1.len, List.getElem?_append_right (Nat.le_refl _), Nat.sub_self]
      exact rfl
    have tr : tr1 A1.length (.own A1.length :: ((ds.take m).map T.v ++ [.v (.tup (ds.drop m))])) = some (.own 0 :: ((ds.take m).map T.v ++ [.v (.tup (ds.drop m))])) := by
      have z : ∀ {xs : List T} {ds : List D}, unv xs = some ds → tr1 A1.length xs = some xs := fun {xs} => by
        induction xs with
        | nil => exact fun _ => rfl
        | cons t xs ih =>
          intro ds e
          cases t with
          | v d =>
            have e3 : (unv xs).map (d :: ·) = some ds := e
            cases q : unv xs with
            | none =>
              rw [q] at e3
              cases e3
            | some es =>
              show (tr1 A1.length xs).map (T.v d :: ·) = _
              rw [ih q]
              exact rfl
          | own j => cases e
          | no => cases e
          | clo R f => cases e
      show (if A1.length = A1.length then (tr1 A1.length ((ds.take m).map T.v ++ [.v (.tup (ds.drop m))])).map (T.own 0 :: ·) else none) = _
      rw [if_pos rfl, z e]
      exact rfl
    refine lift_1 (W := fun _ _ _ _ => False) (X := fun _ _ _ => False) (σ := σ) (P := fun t O' => t = .v .non ∧ ∃ fs, O' = O1 ++ [.ins C fs] ∧ P (.v (.ins C fs)) O1) s3 (xs := .own A1.length :: ((ds.take m).map T.v ++ [.v (.tup (ds.drop m))])) ⟨.ref x, vs.take m ++ [V.ref p'], rfl, ⟨x, hat, rfl⟩, repTs_app (ys := [.v (.tup (ds.drop m))]) ⟨.ref p', [], rfl, ⟨_, rfl, p', vs.drop m, rfl, SqT.of f3, rb.ex n13.ext⟩, rfl⟩ (ra.ex n13.ext)⟩ tr hoat rfl (fun C d H z => z) ?_
      (fun t v A' O' H' q s' n' rt => ?_) (fun C fs A' O' H' d z => z.elim)
    · have x0 : (fun (C' : Value) (fs : Option (List (Str × D))) (O' : List OD) => ∃ o', O' = [o'] ∧ (fun _ _ _ => False : XX) C' fs ((O1 ++ [OD.ins C []]).set A1.length o')) = fun _ _ _ => False := by
        funext C fs O'
        exact propext ⟨fun ⟨_, _, z⟩ => z, fun z => z.elim⟩
      rw [x0]
      have pq : (fun (t : T) (O' : List OD) => ∃ o', O' = [o'] ∧ okR t = true ∧ (un1 A1.length t = .v .non ∧ ∃ fs, (O1 ++ [OD.ins C []]).set A1.length o' = O1 ++ [.ins C fs] ∧ P (.v (.ins C fs)) O1)) = fun t O' => t = .v .non ∧ ∃ fs, O' = [.ins C fs] ∧ P (.v (.ins C fs)) O1 := by
        have es : ∀ o' : OD, (O1 ++ [OD.ins C []]).set A1.length o' = O1 ++ [o'] := fun o' => by
          rw [s1.len, List.set_append_right _ _ (Nat.le_refl _), Nat.sub_self]
          exact rfl
        funext t O'
        refine propext ⟨?_, ?_⟩
        · rintro ⟨o', rfl, hn, hu, fs, e1, q⟩
          rw [es] at e1
          have e2 : o' = .ins C fs := by
            have := List.append_cancel_left e1
            injection this
          subst e2
          refine ⟨?_, fs, rfl, q⟩
          cases t with
          | v d => exact hu
          | own j => cases hu
          | no => cases hn
          | clo R f => cases hn
        · rintro ⟨rfl, fs, rfl, q⟩
          exact ⟨_, rfl, rfl, rfl, fs, es _, q⟩
      rw [pq]
      exact p
    · obtain ⟨rfl, fs, rfl, q⟩ := q
      obtain ⟨_, e1, e2⟩ := rt
      cases e1
      obtain ⟨M, eM⟩ := n'.pre
      have l2 := s'.len
      have eM0 : M = [] := by
        have l3 : A'.length = (A1 ++ [x] ++ M).length := by rw [eM]
        rw [List.length_append, List.length_append] at l3
        rw [List.length_append] at l2
        have l4 := s1.len
        refine List.length_eq_zero_iff.mp ?_
        simp only [List.length_singleton] at l2 l3
        omega
      subst eM0
      rw [List.append_nil] at eM
      subst eM
      have c := s'.cell A1.length x (.ins C fs) hat (by rw [s1.len, List.getElem?_append_right (Nat.le_refl _), Nat.sub_self]; exact rfl)
      obtain ⟨s4, x4⟩ := s'.drop s1.len s1.pre
      obtain ⟨dx', us, c1, c2⟩ := c
      have nA : x ∉ A1 := fun hm => (List.nodup_append.mp s'.nd).2.2 x hm x (List.mem_singleton.mpr rfl) rfl
      have nz : x ∉ live A1 O1 ++ b.Z := fun z => by
        rcases List.mem_append.mp z with z | z
        · obtain ⟨j, o, z1, _, _⟩ := live_mem z
          exact nA (List.mem_of_getElem? z1)
        · have zz := s1.z_at (a := x) z
          obtain ⟨o, zz, _⟩ := zz.2
          rw [hx] at zz
          cases zz
      have fz : Fz b A1 O1 H' x = some (.ins C dx' us) := hid_some.mpr ⟨nz, c1⟩
      refine ⟨e2, kv _ _ A1 O1 H' q s4 (n1.trans ⟨⟨[], (List.append_nil A1).symm⟩, ?_⟩) ⟨_, rfl, x, dx', us, rfl, fz, c2.ex x4⟩⟩
      exact (n13.ext.trans n'.ext).trans x4) kx
end
end G
namespace My2
open PySem PySem.W PyProof.Rows
section
variable {pr : Program} {wo : World} {B : Around} {Er : Value → Shared → Prop} {st : Shared} {K : Frag} {a cl lo me : Addr} {base : Heap} {nsm : Str → Option Value} {oa : Obj} {da : Option Obj}
/-- the class stands first in its own line of classes -/
theorem own_line (h : selfFirst K cl = true) : ∃ cd more, clsIn K cl = some cd ∧ cd.mro = .ref cl :: more := by
  unfold selfFirst at h
  cases e : clsIn K cl with
  | none =>
    rw [e] at h
    cases h
  | some cd =>
    rw [e] at h
    have h2 : (cd.mro.head? == some (.ref cl)) = true := h
    have h3 := beq_iff_eq.mp h2
    cases em : cd.mro with
    | nil =>
      rw [em] at h3
      cases h3
    | cons u l =>
      rw [em] at h3
      cases h3
      exact ⟨cd, l, rfl, em⟩
/-- a name that the class has as a def of its own, or has not at all, is asked about without effect -/
theorem asked {M : Model} {t : Value} {nm : Str} {v : Option Value} {Q : Bool → Shared → Prop} (hv : v = none ∨ ∃ g : Addr, v = some (.ref g)) (k : ∀ r, Q r st) : wpAny M B (calledByName t nm v) Q Er st := by
  rcases hv with e | ⟨g, e⟩ <;> cases e <;> exact wpAny_pure (k _)
/-- a op n of an instance and an integer: the class's own def answers -/
theorem first_int {nm : String} {n : Value} {Q : Value → Shared → Prop} {back : Option Value} (fr : Fr base lo st.heap nsm) (kin : K.In base) (at_ : InstAt st.heap a oa cl da) (hn : Looks (model pr wo) st.heap (typeOf n) (.type "int")) (hself : selfFirst K cl = true)
    (hme : findIn K (.ref cl) (PySem.dunder nm) = some (some (.ref me))) (hfn : isFn K (.ref me) = true) (hback : findIn K (.ref cl) (dunderR nm) = some back) (hb2 : back = none ∨ ∃ g : Addr, back = some (.ref g)) (hno : subIn K (.type "int") (.ref cl) = some false)
    (hfill : fillsNumberSlot (.type "int") nm = pure true) (hrev : ∃ v, typeLookup (.type "int") (dunderR nm) = pure v)
    (hrun : wpAny (model pr wo) B (call (.ref me) [.ref a, n]) (PySem.W.CmpBack Q) Er st) : wpAny (model pr wo) B (binaryOp1 nm (.ref a) n) (fun r s' => ∃ v, r = some v ∧ Q v s') Er st := by
  have kin2 := kin.keeps fr.keep
  obtain ⟨cd, more, ecd, emro⟩ := own_line hself
  obtain ⟨rv, erv⟩ := hrev
  have tried : wpAny (model pr wo) B (tryMethod (.ref a) (PySem.dunder nm) n) (fun r s' => ∃ v, r = some v ∧ Q v s') Er st := by
    unfold tryMethod
    refine wpAny_bind (special_fn kin2 at_ hme (beq_iff_eq.mp hfn) (wpAny_mono hrun (fun r s' hr => ?_) fun _ _ z => z))
    cases r
    all_goals first
      | exact False.elim hr
      | exact wpAny_pure ⟨_, rfl, hr⟩
  have left : wpAny (model pr wo) B (numberSlotInPython (.ref cl) nm) (fun r s' => r = true ∧ s' = st) Er st := by
    unfold numberSlotInPython
    refine wpAny_bind ((looks_findIn kin2 hme).here (wpAny_bind (wpAny_pure (wpAny_bind ((looks_findIn kin2 hback).here (wpAny_bind (asked hb2 fun r => ?_)))))))
    simp only [Bool.true_or]
    exact wpAny_pure ⟨rfl, rfl⟩
  unfold binaryOp1
  refine wpAny_bind (at_.type.here (wpAny_bind (hn.here (wpAny_bind ((fills_K kin2 ecd emro hme).here ?_)))))
  rw [show (Value.ref cl == Value.type "int") = false from rfl, if_neg Bool.false_ne_true, hfill]
  refine wpAny_bind (wpAny_pure ?_)
  simp only [show (true && true) = true from rfl, ite_true]
  refine wpAny_bind ((looks_subIn kin2 hno).here ?_)
  simp only [show (false = true) = False from eq_false Bool.false_ne_true, ite_false, show (true && true && !false) = true from rfl, ite_true]
  refine wpAny_bind (m := numberSlotInPython (.ref cl) nm) (wpAny_mono left (fun r s' hr => ?_) fun _ _ z => z)
  obtain ⟨rfl, rfl⟩ := hr
  simp only [ite_true]
  refine wpAny_bind (wpAny_pure ?_)
  simp only [show (!false) = true from rfl, ite_true, erv]
  refine wpAny_bind (wpAny_pure (wpAny_bind (wpAny_mono tried (fun r s' hr => ?_) fun _ _ z => z)))
  obtain ⟨v, rfl, q⟩ := hr
  exact wpAny_pure ⟨v, rfl, q⟩
theorem op_int {op : Operator} {n : Value} {Q : Value → Shared → Prop} {back : Option Value} (fr : Fr base lo st.heap nsm) (kin : K.In base) (at_ : InstAt st.heap a oa cl da) (hn : Looks (model pr wo) st.heap (typeOf n) (.type "int")) (hself : selfFirst K cl = true)
    (hme : findIn K (.ref cl) (PySem.dunder op.info.2) = some (some (.ref me))) (hfn : isFn K (.ref me) = true) (hback : findIn K (.ref cl) (dunderR op.info.2) = some back) (hb2 : back = none ∨ ∃ g : Addr, back = some (.ref g)) (hno : subIn K (.type "int") (.ref cl) = some false)
    (hfill : fillsNumberSlot (.type "int") op.info.2 = pure true) (hrev : ∃ v, typeLookup (.type "int") (dunderR op.info.2) = pure v)
    (hrun : wpAny (model pr wo) B (call (.ref me) [.ref a, n]) (PySem.W.CmpBack Q) Er st) : wpAny (model pr wo) B (binaryOp op (.ref a) n) Q Er st := by
  have one := first_int fr kin at_ hn hself hme hfn hback hb2 hno hfill hrev hrun
  unfold binaryOp
  refine wpAny_holding (wpAny_bind (wpAny_mono one (fun r s' hr => ?_) fun _ _ z => z))
  obtain ⟨v, rfl, q⟩ := hr
  exact wpAny_pure q
end
end My2

set_option Elab.async false
set_option linter.all false
set_option maxRecDepth 100000
set_option maxHeartbeats 4000000
/-! HC: == and != by an own __eq__. -/
namespace My2
open PySem PySem.W PyProof.Rows Builtin
section
variable {pr : Program} {wo : World} {B : Around} {Er : Value → Shared → Prop} {st : Shared} {K : Frag} {a cl lo me : Addr} {base : Heap} {nsm : Str → Option Value} {oa : Obj} {da : Option Obj}
/-- what is looked at before a slot of object runs on an instance -/
theorem slot_let {M : Model} {id own_ n : String} {more : List Value} {Q : Unit → Shared → Prop} (isSlot : builtinKind id = some .slot) (parts : splitId id = some (own_, n))
    (fit : argsOk id ⟨.ref a :: more, []⟩) (kin : K.In st.heap) (at_ : InstAt st.heap a oa cl da) (below : subIn K (.ref cl) (.type own_) = some true) (k : Q () st) : wpAny M B (checkBuiltinCall id ⟨.ref a :: more, []⟩) Q Er st := by
  unfold checkBuiltinCall
  rw [isSlot]
  dsimp only
  rw [parts]
  dsimp only
  refine wpAny_bind ?_
  unfold isInstance
  refine wpAny_bind (at_.type.here ((looks_subIn kin below).here ?_))
  rw [if_neg (by decide)]
  unfold argsOk at fit
  split
  · rename_i sg es
    rw [es] at fit
    have ok : Bind.checkArgs id sg ⟨.ref a :: more, []⟩ = pure () := fit
    rw [ok]
    exact wpAny_pure k
  · exact wpAny_pure k
/-- the body of object's __ne__: the own __eq__, turned about -/
theorem ne_body {b : Value} {Q : Value → Shared → Prop} (hu : B.units < cLine) (kin : K.In st.heap) (at_ : InstAt st.heap a oa cl da)
    (heq : findIn K (.ref cl) "__eq__" = some (some (.ref me))) (hfn : isFn K (.ref me) = true)
    (hrun : wpAny (model pr wo) B (call (.ref me) [.ref a, b]) (fun v s' => ∃ r : Bool, v = .bool r ∧ Q (.bool (!r)) s') Er st) :
    wpAny (model pr wo) B (Builtin.«object.__ne__» ⟨[.ref a, b], []⟩) (fun fin s' => ∃ r : Bool, fin = .done (.ret (.bool r)) ∧ Q (.bool r) s') Er st := by
  have asked := ifBound_K (args := [b]) (Q := fun r s' => ∃ q : Bool, r = some (.bool q) ∧ Q (.bool (!q)) s') kin at_ heq hfn (wpAny_mono hrun (fun v s' ⟨r, e, q⟩ => ⟨r, congrArg some e, q⟩) fun _ _ z => z)
  show wpAny _ _ (_ >>= _) _ _ _
  refine wpAny_bind (wpAny_pure (wpAny_bind (wpAny_cRoomFor hu (wpAny_bind (wpAny_mono asked (fun r s' hr => ?_) fun _ _ z => z)))))
  obtain ⟨q, rfl, hq⟩ := hr
  exact wpAny_bind (wpAny_pure (wpAny_pure ⟨!q, rfl, hq⟩))
theorem ne_called {b : Value} {Q : Value → Shared → Prop} (hu : B.in1.units < cLine) (kin : K.In st.heap) (at_ : InstAt st.heap a oa cl da)
    (heq : findIn K (.ref cl) "__eq__" = some (some (.ref me))) (hfn : isFn K (.ref me) = true) (below : subIn K (.ref cl) (.type "object") = some true)
    (hrun : wpAny (model pr wo) B.in1 (call (.ref me) [.ref a, b]) (fun v s' => ∃ r : Bool, v = .bool r ∧ Q (.bool (!r)) s') Er st) :
    wpAny (model pr wo) B (call (.builtin "object.__ne__") [.ref a, b]) (fun v s' => ∃ r : Bool, v = .bool r ∧ Q v s') Er st := by
  have body := ne_body (Q := Q) hu kin at_ heq hfn hrun
  refine wpAny_call (codeAny_call_builtin F.cmp_object.ne.plain F.cmpEntry_ne (slot_let F.cmpKind_ne F.cmpSplit_ne (F.cmpArgs_ne _ _) kin at_ below (wpAny_mono body (fun fn s' hr => ?_) fun _ _ z => z)))
  obtain ⟨r, rfl, q⟩ := hr
  exact ⟨r, rfl, q⟩
theorem ne_asked {b : Value} {Q : Value → Shared → Prop} (hu : B.in1.units < cLine) (kin : K.In st.heap) (at_ : InstAt st.heap a oa cl da)
    (heq : findIn K (.ref cl) "__eq__" = some (some (.ref me))) (hfn : isFn K (.ref me) = true) (hne : findIn K (.ref cl) "__ne__" = some (some (.builtin "object.__ne__"))) (below : subIn K (.ref cl) (.type "object") = some true)
    (hrun : wpAny (model pr wo) B.in1 (call (.ref me) [.ref a, b]) (fun v s' => ∃ r : Bool, v = .bool r ∧ Q (.bool (!r)) s') Er st) :
    wpAny (model pr wo) B (tryCompare (.ref a) "__ne__" b) (fun r s' => ∃ v, r = some v ∧ Q v s') Er st := by
  have got : wpAny (model pr wo) B (call (.builtin "object.__ne__") [.ref a, b] >>= fun v => pure (some v)) (fun r s' => ∃ q : Bool, r = some (.bool q) ∧ Q (.bool q) s') Er st :=
    wpAny_bind (wpAny_mono (ne_called hu kin at_ heq hfn below hrun) (fun v s' ⟨r, e, q⟩ => wpAny_pure ⟨r, congrArg some e, by rw [← e]; exact q⟩) fun _ _ z => z)
  have sp : wpAny (model pr wo) B (callSpecialIfBound? (.ref a) "__ne__" [b]) (fun r s' => ∃ q : Bool, r = some (.bool q) ∧ Q (.bool q) s') Er st := by
    unfold callSpecialIfBound? bindSpecialIfBound?
    refine wpAny_holding (wpAny_bind (wpAny_bind (wpAny_bind (at_.type.here ((looks_findIn kin hne).here ?_)))))
    dsimp only
    rw [F.cmp_object.ne.bind]
    refine wpAny_bind (wpAny_askSetting ?_)
    refine wpAny_ite ?_
    split
    · exact wpAny_bind (wpAny_pure (wpAny_pure got))
    · exact wpAny_tryCatch (wpAny_bind (wpAny_pure (wpAny_pure got)))
  unfold tryCompare
  refine wpAny_bind (wpAny_mono sp (fun r s' hr => ?_) fun _ _ z => z)
  obtain ⟨q, rfl, hq⟩ := hr
  exact wpAny_pure ⟨_, rfl, hq⟩
/-- a != b, C having an own __eq__ and object's __ne__ -/
theorem ne_inst {b tb : Value} {Q : Value → Shared → Prop} (hu : B.units < cLine) (hu1 : B.in1.units < cLine) (fr : Fr base lo st.heap nsm) (kin : K.In base) (at_ : InstAt st.heap a oa cl da) (hb : Looks (model pr wo) st.heap (typeOf b) tb) (hn : notFirst K cl tb = true)
    (heq : findIn K (.ref cl) "__eq__" = some (some (.ref me))) (hfn : isFn K (.ref me) = true) (hne : findIn K (.ref cl) "__ne__" = some (some (.builtin "object.__ne__"))) (below : subIn K (.ref cl) (.type "object") = some true)
    (hrun : wpAny (model pr wo) B.in1 (call (.ref me) [.ref a, b]) (fun v s' => ∃ r : Bool, v = .bool r ∧ Q (.bool (!r)) s') Er st) : wpAny (model pr wo) B (richCompare .NotEq (.ref a) b) Q Er st := by
  have kin2 := kin.keeps fr.keep
  have one := ne_asked hu1 kin2 at_ heq hfn hne below hrun
  unfold richCompare
  simp only [oneThing_ref]
  refine wpAny_holding (wpAny_bind (wpAny_cRoomFor hu (wpAny_bind (at_.type.here (wpAny_bind (hb.here ?_))))))
  have go : ∀ {k : Option Value → Sem Value}, (∀ v, k (some v) = pure v) → wpAny (model pr wo) B (tryCompare (.ref a) "__ne__" b >>= k) Q Er st := fun hk => wpAny_bind (wpAny_mono one (fun r s' ⟨v, er, q⟩ => by
    subst er
    rw [hk]
    exact wpAny_pure q) fun _ _ z => z)
  by_cases h : (Value.ref cl != tb) = true
  · rw [if_pos h]
    have no : subIn K tb (.ref cl) = some false := by
      unfold notFirst at hn
      cases eb : (tb == Value.ref cl) with
      | true =>
        rw [eq_of_beq eb] at h
        simp at h
      | false =>
        rw [eb, Bool.false_or] at hn
        exact eq_of_beq hn
    refine wpAny_bind ((looks_subIn kin2 no).here ?_)
    rw [if_neg Bool.false_ne_true]
    exact go fun _ => rfl
  · rw [if_neg h]
    refine wpAny_bind (wpAny_pure ?_)
    rw [if_neg Bool.false_ne_true]
    exact go fun _ => rfl
end
end My2

set_option Elab.async false
set_option linter.all false
set_option maxRecDepth 100000
set_option maxHeartbeats 4000000
/-! HD: the rules of own classes: operators, ==, !=, len, calls of instances, properties; over data. -/
namespace G
open PySem PySem.Spec PyProof.Rows L2
/-- what an operator asks of a class, besides its own def for it -/
def opB (K : PySem.W.Frag) (C : Addr) (nm : String) : Bool := PySem.W.selfFirst K C && ((match PySem.W.findIn K (.ref C) (dunderR nm) with
  | some none => true
  | some (some (.ref _)) => true
  | _ => false) && decide (PySem.W.subIn K (.type "int") (.ref C) = some false))
structure OpC (K : PySem.W.Frag) (C : Addr) (nm : String) : Prop where
  sf : PySem.W.selfFirst K C = true
  rr : ∃ q, PySem.W.findIn K (.ref C) (dunderR nm) = some q ∧ (q = none ∨ ∃ g : Addr, q = some (.ref g))
  sb : PySem.W.subIn K (.type "int") (.ref C) = some false
theorem opB_ok {K : PySem.W.Frag} {C : Addr} {nm : String} (h : opB K C nm = true) : OpC K C nm := by
  obtain ⟨h1, h⟩ := He.ba h
  obtain ⟨h2, h3⟩ := He.ba h
  refine ⟨h1, ?_, of_decide_eq_true h3⟩
  cases e : PySem.W.findIn K (.ref C) (dunderR nm) with
  | none =>
    rw [e] at h2
    cases h2
  | some q =>
    rw [e] at h2
    cases q with
    | none => exact ⟨none, rfl, .inl rfl⟩
    | some v =>
      cases v with
      | ref a => exact ⟨some (.ref a), rfl, .inr ⟨a, rfl⟩⟩
      | _ => cases h2
/-- what != asks of a class -/
def neB (K : PySem.W.Frag) (C : Addr) : Bool := He.eqO (PySem.W.findIn K (.ref C) "__ne__") (some (some (.builtin "object.__ne__"))) && decide (PySem.W.subIn K (.ref C) (.type "object") = some true)
structure NeC (K : PySem.W.Frag) (C : Addr) : Prop where
  ne : PySem.W.findIn K (.ref C) "__ne__" = some (some (.builtin "object.__ne__"))
  ob : PySem.W.subIn K (.ref C) (.type "object") = some true
theorem neB_ok {K : PySem.W.Frag} {C : Addr} (h : neB K C = true) : NeC K C := by
  obtain ⟨h1, h2⟩ := He.ba h
  exact ⟨He.eqO_ok h1, of_decide_eq_true h2⟩
/-- what a call of an instance asks of a class -/
def callB (K : PySem.W.Frag) (C : Addr) : Bool := PySem.W.fnIn K (He.ma K C "__call__")
/-- the integers' side of an operator -/
structure IntOp (nm : String) : Prop where
  fi : fillsNumberSlot (.type "int") nm = pure true
  ti : ∃ v, typeLookup (.type "int") (dunderR nm) = pure v
/-- an instance of the class at C, or an integer -/
def InsOrI (C : Addr) (y : V) (H : Hp) : Prop := (∃ i : Int, y = .int i) ∨ ∃ b dy gs, y = .ref b ∧ H b = some (.ins C dy gs)
def rOpO (C : Addr) (sp : Sp) (E : XK) : R2 := fun x y H Q => ∃ a dx fs, x = .ref a ∧ H a = some (.ins C dx fs) ∧ InsOrI C y H ∧ sp [x, y] H Q E
def rNeO (C : Addr) (sp : Sp) (E : XK) : R2 := fun x y H Q => ∃ a dx fs b dy gs, x = .ref a ∧ H a = some (.ins C dx fs) ∧ y = .ref b ∧ H b = some (.ins C dy gs) ∧ sp [x, y] H (fun v H' => ∃ r, v = .bl r ∧ Q (.bl (!r)) H') E
def rEqO (C : Addr) (sp : Sp) (E : XK) : R2 := fun x y H Q => ∃ a dx fs b dy gs, x = .ref a ∧ H a = some (.ins C dx fs) ∧ y = .ref b ∧ H b = some (.ins C dy gs) ∧ sp [x, y] H Q E
def rUnO (C : Addr) (sp : Sp) (E : XK) : V → Hp → VK → Prop := fun x H Q => ∃ a dx fs, x = .ref a ∧ H a = some (.ins C dx fs) ∧ sp [x] H Q E
def rLenO (C : Addr) (sp : Sp) (E : XK) : List V → Hp → VK → Prop := fun xs H Q => ∃ a dx fs, xs = [.ref a] ∧ H a = some (.ins C dx fs) ∧ sp xs H (fun v H' => ∃ n : Int, v = .int n ∧ 0 ≤ n ∧ n < 2 ^ 63 ∧ Q (.int n) H') E
def tCallI (C : Addr) (sp : Sp) (E : XK) (tf : TE) (t : TA) : TE := fun σ H Q => tf σ H fun y H1 => ∃ a, y = V.ref a ∧ t σ H1 fun vs H2 => (∃ dx fs, H2 a = some (.ins C dx fs)) ∧ sp (V.ref a :: vs) H2 Q E
section
variable {X : Cx} {CX : CXT} {k : Nat} {C g : Addr} {sp : Sp} {E : XK} {m : Str}
theorem inst_of {pins : List (Addr × Obj)} {σ : L2.St} {H : Hp} {s : Shared} {a dx : Addr} {fs : List (Str × V)} (I : Inv X pins σ H s) (e : H a = some (.ins C dx fs)) : ∃ ox od, PySem.W.InstAt s.heap a ox C od := by
  obtain ⟨_, z, _⟩ := ins_get I.hok e
  obtain ⟨od, at_, _⟩ := z.look
  exact ⟨_, _, at_⟩
theorem op_ownO {op : Operator} (M : Meth X.K C m g) (O : OpC X.K C op.info.2) (N : IntOp op.info.2) (em : PySem.dunder op.info.2 = m) (F : FnR X.prog X.w X.K X.mg X.base CX k g sp) (hr : Room k X.A) (hx : Passes CX X E) : OpR X (binaryOp op) (rOpO C sp E) := by
  intro pins s σ H x y v u Q I rx ry h
  subst em
  obtain ⟨a, dx, fs, rfl, ha, hy, q⟩ := h
  cases (show v = Value.ref a from rx)
  obtain ⟨_, _, ja⟩ := inst_of I ha
  obtain ⟨_, fr⟩ := I.fr
  obtain ⟨bk, e1, e2⟩ := O.rr
  have run := wpAny_mono (wpAny_call (SlX.run_at (us := [.ref a, u]) (ws := [.ref a, y]) F hr I.env0 hx I (.cons rfl (.cons ry .nil)) q)) (fun w s' z => show PySem.W.CmpBack (EP X pins σ Q) w s' from by
    obtain ⟨z', H', I', rz, qz⟩ := z
    exact SlX.cmpback rz ⟨z', H', I', rz, qz⟩) fun _ _ z => z
  rcases hy with ⟨i, rfl⟩ | ⟨b, dy, gs, rfl, hb⟩
  · obtain ⟨t, rfl⟩ := (show ∃ t, u = Value.int i t from ry)
    exact My2.op_int fr I.ok.mod.kin ja (fun _ _ _ _ _ q => wpAny_pure q) O.sf M.at_ M.fn e1 e2 O.sb N.fi N.ti run
  · cases (show u = Value.ref b from ry)
    obtain ⟨_, _, jb⟩ := inst_of I hb
    exact PySem.W.binop_K fr I.ok.mod.kin ja jb.type O.sf M.at_ M.fn run
theorem op_eqO (M : Meth X.K C "__eq__" g) (F : FnR X.prog X.w X.K X.mg X.base CX k g sp) (hr : Room k X.A) (hx : Passes CX X E) : OpR X (compareOp .Eq) (rEqO C sp E) := by
  intro pins s σ H x y v u Q I rx ry h
  obtain ⟨a, dx, fs, b, dy, gs, rfl, ha, rfl, hb, q⟩ := h
  cases (show v = Value.ref a from rx)
  cases (show u = Value.ref b from ry)
  obtain ⟨_, _, ja⟩ := inst_of I ha
  obtain ⟨_, _, jb⟩ := inst_of I hb
  obtain ⟨_, fr⟩ := I.fr
  have run := wpAny_mono (wpAny_call (SlX.run_at (us := [.ref a, .ref b]) (ws := [.ref a, .ref b]) F hr I.env0 hx I (.cons rfl (.cons rfl .nil)) q)) (fun w s' z => show PySem.W.CmpBack (EP X pins σ Q) w s' from by
    obtain ⟨z', H', I', rz, qz⟩ := z
    exact SlX.cmpback rz ⟨z', H', I', rz, qz⟩) fun _ _ z => z
  exact PySem.W.cmp_K (op := .Eq) (tb := .ref C) hr.units0 fr I.ok.mod.kin ja jb.type (by unfold PySem.W.notFirst; simp) M.at_ M.fn run
theorem op_neO (M : Meth X.K C "__eq__" g) (N : NeC X.K C) (F : FnR X.prog X.w X.K X.mg X.base CX k g sp) (hr : Room (k + 1) X.A) (hx : Passes CX X E) : OpR X (compareOp .NotEq) (rNeO C sp E) := by
  intro pins s σ H x y v u Q I rx ry h
  obtain ⟨a, dx, fs, b, dy, gs, rfl, ha, rfl, hb, q⟩ := h
  cases (show v = Value.ref a from rx)
  cases (show u = Value.ref b from ry)
  obtain ⟨_, _, ja⟩ := inst_of I ha
  obtain ⟨_, _, jb⟩ := inst_of I hb
  obtain ⟨_, fr⟩ := I.fr
  have hr2 : Room k X.A.in1 := Room.in1 hr
  have run := wpAny_mono (wpAny_call (SlX.run_at (us := [.ref a, .ref b]) (ws := [.ref a, .ref b]) F hr2 I.env0.in1 hx I (.cons rfl (.cons rfl .nil)) q)) (fun w s' z => show ∃ r : Bool, w = .bool r ∧ EP X pins σ Q (.bool (!r)) s' from by
    obtain ⟨z', H', I', rz, r, e, qz⟩ := z
    subst e
    cases (show w = Value.bool r from rz)
    exact ⟨r, rfl, .bl (!r), H', I', rfl, qz⟩) fun _ _ z => z
  exact My2.ne_inst hr.units0 hr2.units0 fr I.ok.mod.kin ja jb.type (by unfold PySem.W.notFirst; simp) M.at_ M.fn N.ne N.ob run
theorem un_invO (M : Meth X.K C "__invert__" g) (F : FnR X.prog X.w X.K X.mg X.base CX k g sp) (hr : Room k X.A) (hx : Passes CX X E) : UnR X (unaryOp .Invert) (rUnO C sp E) := by
  intro pins s σ H x v Q I rx h
  obtain ⟨a, dx, fs, rfl, ha, q⟩ := h
  cases (show v = Value.ref a from rx)
  obtain ⟨_, _, ja⟩ := inst_of I ha
  have run := wpAny_call (SlX.run_at (us := [.ref a]) (ws := [.ref a]) F hr I.env0 hx I (.cons rfl .nil) q)
  unfold unaryOp
  refine wpAny_holding ?_
  exact wpAny_bind (PySem.W.special_fn I.kIn ja M.at_ (beq_iff_eq.mp M.fn) (wpAny_mono run (fun w s' z => wpAny_pure z) fun _ _ z => z))
theorem un_negO (M : Meth X.K C "__neg__" g) (F : FnR X.prog X.w X.K X.mg X.base CX k g sp) (hr : Room k X.A) (hx : Passes CX X E) : UnR X (unaryOp .USub) (rUnO C sp E) := by
  intro pins s σ H x v Q I rx h
  obtain ⟨a, dx, fs, rfl, ha, q⟩ := h
  cases (show v = Value.ref a from rx)
  obtain ⟨_, _, ja⟩ := inst_of I ha
  have run := wpAny_call (SlX.run_at (us := [.ref a]) (ws := [.ref a]) F hr I.env0 hx I (.cons rfl .nil) q)
  unfold unaryOp
  refine wpAny_holding ?_
  exact wpAny_bind (PySem.W.special_fn I.kIn ja M.at_ (beq_iff_eq.mp M.fn) (wpAny_mono run (fun w s' z => wpAny_pure z) fun _ _ z => z))
theorem call_lenO (M : Meth X.K C "__len__" g) (F : FnR X.prog X.w X.K X.mg X.base CX k g sp) (hr : Room (k + 1) X.A) (hx : Passes CX X E) : CallR X (.builtin "len") (rLenO C sp E) := by
  intro pins s σ H xs us Q I r h
  obtain ⟨a, dx, fs, rfl, ha, q⟩ := h
  obtain ⟨u, rfl, ru⟩ := r.one
  cases (show u = Value.ref a from ru)
  obtain ⟨_, _, ja⟩ := inst_of I ha
  obtain ⟨_, fr⟩ := I.fr
  have hr2 : Room k X.A.in1 := Room.in1 hr
  refine PySem.W.len_K fr I.ok.mod.kin ja M.at_ M.fn (wpAny_mono (wpAny_call (SlX.run_at (us := [.ref a]) (ws := [.ref a]) F hr2 I.env0.in1 hx I (.cons rfl .nil) q)) (fun w s' z => ?_) fun _ _ z => z)
  obtain ⟨z', H', I', rz, n, e, n0, n1, qz⟩ := z
  subst e
  obtain ⟨t, rfl⟩ := (show ∃ t, w = Value.int n t from rz)
  exact ⟨⟨n0, n1⟩, .int n, H', I'.tok _, ⟨_, rfl⟩, qz⟩
/-- f(e, ..), f an expression that gives an instance of C -/
theorem pe_callI {fe e : Expr} {es : List Expr} {tf : TE} {t : TA} {pos : Pos} (hf : PE X fe tf) (M : Meth X.K C "__call__" g) (c : PySem.W.fnIn X.K g = true) (F : FnR X.prog X.w X.K X.mg X.base CX k g sp) (hr : Room k X.A) (hx : Passes CX X E) (ha : PA X (e :: es) t)
    (he : eval (.Call fe (e :: es) [] pos) X.env = (do callWith pos (← eval fe X.env) [] (backTo pos (starEach (e :: es) X.env)) (backToKw pos (keywordEach [] X.env))) := by rfl)
    (h1 : starEach (e :: es) X.env = (false, eval e X.env) :: starEach es X.env := by rfl) (h2 : (backTo pos (starEach es X.env)).any (·.1) = false := by rfl) : PE X (.Call fe (e :: es) [] pos) (tCallI C sp E tf t) := by
  constructor
  intro pins s σ H Q I h
  refine Call_ (thn (hf.run pins s σ H _ I h) fun u s1 ⟨y, H1, I1, ry, a, ey, q⟩ => ?_) he
  cases ey
  cases (show u = Value.ref a from ry)
  refine StX.callO_with (thn (ha.run pos pins s1 σ H1 _ I1 q) fun us s2 ⟨vs, H2, I2, r, ⟨dx, fs, hi⟩, q2⟩ => ?_) h1 h2
  have ins : StX.InsC X H2 a C := .inr ⟨dx, fs, hi⟩
  obtain ⟨ox, od, j, p⟩ := StX.insC_at I2 ins
  exact ⟨⟨C, ox, od, j, p⟩, StX.run_callO ⟨M.at_, M.fn, c⟩ F hr hx I2 ins r q2⟩
end
section
variable {K : PySem.W.Frag} {W : WX} {O : List OD} {ts : List T} {P : PT'} {X : XX} {sp : SpD} {tr : TA} {ta : TE} {C : Addr} {fs : List (Str × D)}
theorem rep_ins {b : Bs} {A : List Addr} {H : Hp} {v : V} (s : StO K b A O H) (r : RepT K (Fz b A O H) A (.v (.ins C fs)) (some v)) : ∃ a dx vs, v = .ref a ∧ H a = some (.ins C dx vs) := by
  obtain ⟨a, dx, vs, e, h, _⟩ := insD_at insD_v s r
  exact ⟨a, dx, vs, e, h⟩
/-- an instance of the class, or an integer -/
def IoI (C : Addr) (d : D) : Prop := (∃ i : Int, d = .int i) ∨ ∃ gs, d = .ins C gs
theorem rep_ioi {b : Bs} {A : List Addr} {H : Hp} {v : V} {d : D} (s : StO K b A O H) (r : RepT K (Fz b A O H) A (.v d) (some v)) (h : IoI C d) : InsOrI C v H := by
  rcases h with ⟨i, rfl⟩ | ⟨gs, rfl⟩
  · obtain ⟨_, e, e2⟩ := r
    cases e
    exact .inl ⟨i, e2⟩
  · obtain ⟨a, dx, vs, e, h⟩ := rep_ins s r
    exact .inr ⟨a, dx, vs, e, h⟩
theorem two_rep {F : Hp} {A : List Addr} {d e : D} {v u : V} (r1 : RepT K F A (.v d) (some v)) (r2 : RepT K F A (.v e) (some u)) : RepTs K F A [.v d, .v e] [v, u] := ⟨v, [u], rfl, r1, u, [], rfl, r2, rfl⟩
theorem one_rep {F : Hp} {A : List Addr} {d : D} {v : V} (r1 : RepT K F A (.v d) (some v)) : RepTs K F A [.v d] [v] := ⟨v, [], rfl, r1, rfl⟩
theorem w_opO {d : D} (hd : IoI C d) (h : sp [.v (.ins C fs), .v d] [] (fun t _ => (∃ d, t = .v d) ∧ P t O) (fun _ _ _ => False)) : WR K (rOpO C (lift K sp) E0) (.v (.ins C fs)) (.v d) O P := fun b A H Q v u s r1 r2 kv => by
  obtain ⟨a, dx, vs, e, ha⟩ := rep_ins s r1
  exact ⟨a, dx, vs, e, ha, rep_ioi s r2 hd, lift_p (W := fun _ _ _ _ => False) (X := fun _ _ _ => False) (σ := []) s (two_rep r1 r2) rfl (fun _ _ _ z => z) h kv fun _ _ _ _ _ _ z => z.elim⟩
theorem w_eqO {gs : List (Str × D)} (h : sp [.v (.ins C fs), .v (.ins C gs)] [] (fun t _ => (∃ d, t = .v d) ∧ P t O) (fun _ _ _ => False)) : WR K (rEqO C (lift K sp) E0) (.v (.ins C fs)) (.v (.ins C gs)) O P := fun b A H Q v u s r1 r2 kv => by
  obtain ⟨a, dx, vs, e, ha⟩ := rep_ins s r1
  obtain ⟨a', dx', vs', e', ha'⟩ := rep_ins s r2
  exact ⟨a, dx, vs, a', dx', vs', e, ha, e', ha', lift_p (W := fun _ _ _ _ => False) (X := fun _ _ _ => False) (σ := []) s (two_rep r1 r2) rfl (fun _ _ _ z => z) h kv fun _ _ _ _ _ _ z => z.elim⟩
theorem w_neO {gs : List (Str × D)} (h : sp [.v (.ins C fs), .v (.ins C gs)] [] (fun t _ => ∃ r, t = .v (.bl r) ∧ P (.v (.bl (!r))) O) (fun _ _ _ => False)) : WR K (rNeO C (lift K sp) E0) (.v (.ins C fs)) (.v (.ins C gs)) O P := fun b A H Q v u s r1 r2 kv => by
  obtain ⟨a, dx, vs, e, ha⟩ := rep_ins s r1
  obtain ⟨a', dx', vs', e', ha'⟩ := rep_ins s r2
  refine ⟨a, dx, vs, a', dx', vs', e, ha, e', ha', lift_p (W := fun _ _ _ _ => False) (X := fun _ _ _ => False) (σ := []) (P := fun t O' => ∃ r, t = .v (.bl r) ∧ P (.v (.bl (!r))) O') s (two_rep r1 r2) rfl (fun _ _ _ z => z) ?_ (fun t v A' O' H' p s' n' r => ?_) fun _ _ _ _ _ _ z => z.elim⟩
  · have ex : (fun (t : T) (_ : List OD) => (∃ d, t = .v d) ∧ ∃ r, t = .v (.bl r) ∧ P (.v (.bl (!r))) O) = fun t _ => ∃ r, t = .v (.bl r) ∧ P (.v (.bl (!r))) O := by
      funext t _
      refine propext ⟨fun z => z.2, fun ⟨r, e, p⟩ => ⟨⟨_, e⟩, r, e, p⟩⟩
    rw [ex]
    exact h
  · obtain ⟨q, rfl, p⟩ := p
    obtain ⟨_, e, e2⟩ := r
    cases e
    cases e2
    exact ⟨q, rfl, kv _ _ A' O' H' p s' n' ⟨_, rfl, rfl⟩⟩
theorem w_unO (h : sp [.v (.ins C fs)] [] (fun t _ => (∃ d, t = .v d) ∧ P t O) (fun _ _ _ => False)) : WU K (rUnO C (lift K sp) E0) (.v (.ins C fs)) O P := fun b A H Q v s r1 kv => by
  obtain ⟨a, dx, vs, e, ha⟩ := rep_ins s r1
  exact ⟨a, dx, vs, e, ha, lift_p (W := fun _ _ _ _ => False) (X := fun _ _ _ => False) (σ := []) s (one_rep r1) rfl (fun _ _ _ z => z) h kv fun _ _ _ _ _ _ z => z.elim⟩
theorem c_lenO (h : sp [.v (.ins C fs)] [] (fun t _ => ∃ n : Nat, t = .v (.int n) ∧ n < 1000000 ∧ P (.v (.int n)) O) (fun _ _ _ => False)) : WC K (rLenO C (lift K sp) E0) [.v (.ins C fs)] O P := fun b A H Q vs s r kv => by
  obtain ⟨v, _, rfl, r1, rfl⟩ := r
  obtain ⟨a, dx, us, rfl, ha⟩ := rep_ins s r1
  refine ⟨a, dx, us, rfl, ha, lift_p (W := fun _ _ _ _ => False) (X := fun _ _ _ => False) (σ := []) (P := fun t O' => ∃ n : Nat, t = .v (.int n) ∧ n < 1000000 ∧ P (.v (.int n)) O') s (one_rep r1) rfl (fun _ _ _ z => z) ?_ (fun t v A' O' H' p s' n' r => ?_) fun _ _ _ _ _ _ z => z.elim⟩
  · have ex : (fun (t : T) (_ : List OD) => (∃ d, t = .v d) ∧ ∃ n : Nat, t = .v (.int n) ∧ n < 1000000 ∧ P (.v (.int n)) O) = fun t _ => ∃ n : Nat, t = .v (.int n) ∧ n < 1000000 ∧ P (.v (.int n)) O := by
      funext t _
      refine propext ⟨fun z => z.2, fun ⟨r, e, p⟩ => ⟨⟨_, e⟩, r, e, p⟩⟩
    rw [ex]
    exact h
  · obtain ⟨n, rfl, hn, p⟩ := p
    obtain ⟨_, e, e2⟩ := r
    cases e
    cases e2
    exact ⟨n, rfl, Int.natCast_nonneg _, by omega, kv _ _ A' O' H' p s' n' ⟨_, rfl, rfl⟩⟩
/-- f(..), f an instance -/
theorem w_callI (h : WE K W ta O ts (fun x O1 => ∃ fs, x = .v (.ins C fs) ∧ WA K W tr O1 ts (fun xs O2 => ∃ ds, unv xs = some ds ∧ sp (.v (.ins C fs) :: xs) [] (fun t _ => (∃ d, t = .v d) ∧ P t O2) (fun _ _ _ => False)) X) X) :
    WE K W (tCallI C (lift K sp) E0 ta tr) O ts P X := fun b A σ H Q s rs kv kx =>
  h b A σ H _ s rs (fun x v A1 O1 H1 p1 s1 n1 r1 => by
    obtain ⟨fs, rfl, p⟩ := p1
    obtain ⟨a, dx, vs, rfl, h1⟩ := rep_ins s1 r1
    refine ⟨a, rfl, p b A1 σ H1 _ s1 (rs.nxt n1) (fun xs us A2 O2 H2 p2 s2 n2 r2 => ?_) (kx.nxt n1)⟩
    obtain ⟨ds, e, q⟩ := p2
    obtain ⟨a', dx', vs', e', h2⟩ := rep_ins s2 (r1.nxt n2)
    cases e'
    exact ⟨⟨dx', vs', h2⟩, lift_p (W := fun _ _ _ _ => False) (X := fun _ _ _ => False) (σ := σ) s2 (xs := .v (.ins C fs) :: xs) (ds := .ins C fs :: ds) ⟨.ref a, us, rfl, r1.nxt n2, r2⟩ (by show (unv xs).map _ = _; rw [e] <;> rfl) (fun _ _ _ z => z) q (kv.nxt (n1.trans n2)) fun _ _ _ _ _ _ z => z.elim⟩) kx
/-- e.f, a property -/
theorem w_prop (h : WE K W ta O ts (fun x O1 => ∃ fs, x = .v (.ins C fs) ∧ sp [.v (.ins C fs)] [] (fun t _ => (∃ d, t = .v d) ∧ P t O1) (fun _ _ _ => False)) X) :
    WE K W (tProp C (lift K sp) [] E0 ta) O ts P X := fun b A σ H Q s rs kv kx =>
  h b A σ H _ s rs (fun x v A1 O1 H1 p1 s1 n1 r1 => by
    obtain ⟨fs, rfl, p⟩ := p1
    obtain ⟨a, dx, vs, rfl, h1⟩ := rep_ins s1 r1
    exact ⟨a, dx, vs, rfl, h1, lift_p (W := fun _ _ _ _ => False) (X := fun _ _ _ => False) (σ := σ) s1 (one_rep r1) rfl (fun _ _ _ z => z) p (kv.nxt n1) fun _ _ _ _ _ _ z => z.elim⟩) kx
end
end G

set_option Elab.async false
set_option linter.all false
set_option maxRecDepth 100000
set_option maxHeartbeats 4000000
/-! HE: defs behind a property or a staticmethod. -/
namespace G
open PySem PySem.Spec PyProof.Rows L2
structure PrD where
  cls : Str
  name : Str
  kind : String
  qual : Str
  params : Arguments
  body : List Stmt
  scope : Scope
/-- the property, the staticmethod -/
def PrD.p (K : PySem.W.Frag) (d : PrD) : Addr := He.ma K (He.ga K d.cls) d.name
/-- the def behind it -/
def PrD.g (K : PySem.W.Frag) (d : PrD) : Addr := match PySem.W.recIn K (d.p K) d.kind with
  | some (.ref g :: _) => g
  | _ => 0
def PrD.val (d : PrD) : FnE := some (d.name, d.qual, d.params, .stmts d.body, d.scope, mainGlobals, [], builtinsNs)
def prB (K : PySem.W.Frag) (d : PrD) : Bool := match K.lookup (d.g K) with
  | some ⟨_, _, .func fd, _⟩ => PySem.W.codeIn K fd.code d.qual && (noneB fd.defaults && noneB fd.kwdefaults)
  | _ => false
def recB (K : PySem.W.Frag) (d : PrD) : Bool := match PySem.W.recIn K (d.p K) d.kind with
  | some (.ref _ :: _) => true
  | _ => false
def PrD.oks (K : PySem.W.Frag) (d : PrD) : Bool := PySem.W.keepIn K (.ref (d.g K)) && (prB K d && (recB K d && He.eqO (PySem.W.findIn K (.ref (He.ga K d.cls)) d.name) (some (some (.ref (d.p K))))))
theorem nilL {α : Type} {l : List (Str × α)} (h : l.map (·.1) = []) : l = [] := by
  cases l with
  | nil => rfl
  | cons _ _ => cases h
theorem PrD.funD {K : PySem.W.Frag} {d : PrD} (h : d.oks K = true) (e : fnE K (d.g K) = d.val) : ∃ fd, FunD K d.name d.qual d.params d.body d.scope [] [] (d.g K) fd := by
  obtain ⟨kp, h⟩ := He.ba h
  obtain ⟨c, _⟩ := He.ba h
  unfold fnE at e
  unfold prB at c
  cases q : K.lookup (d.g K) with
  | none =>
    rw [q] at c
    cases c
  | some o =>
    obtain ⟨o1, o2, o3, o4⟩ := o
    rw [q] at c e
    cases o3 with
    | func fd =>
      obtain ⟨z1, z2, z3, z4, z5, z6, z7, z8, z9, z10, z11, z12, z13, z14, z15⟩ := fd
      have e2 : (some (z1, z2, z3, z4, z5, z6, z7.map (·.1), z15) : FnE) = (some (d.name, d.qual, d.params, FuncBody.stmts d.body, d.scope, mainGlobals, [], builtinsNs) : FnE) := e
      simp only [Option.some.injEq, Prod.mk.injEq] at e2
      obtain ⟨a1, a2, a3, a4, a5, a6, a7, a8⟩ := e2
      have a9 := nilL a7
      subst a1 a2 a3 a4 a5 a6 a8 a9
      obtain ⟨k1, k2⟩ := He.ba (show (PySem.W.codeIn K z13 d.qual && (noneB z8 && noneB z9)) = true from c)
      obtain ⟨k3, k4⟩ := He.ba k2
      have k3 := noneB_ok k3
      have k4 := noneB_ok k4
      subst k3 k4
      exact ⟨_, ⟨o1, o2, _, _, z10, z11, z12, z13, z14, o4, rfl, q, k1, He.dflB_ok rfl, He.kwdB_ok rfl⟩, kp⟩
    | _ => cases c
theorem PrD.rec_ {K : PySem.W.Frag} {d : PrD} (h : d.oks K = true) : ∃ rest, PySem.W.recIn K (d.p K) d.kind = some (.ref (d.g K) :: rest) := by
  obtain ⟨_, h⟩ := He.ba h
  obtain ⟨_, h⟩ := He.ba h
  obtain ⟨h, _⟩ := He.ba h
  unfold recB at h
  unfold PrD.g
  split at h
  · rename_i g l e
    rw [e]
    exact ⟨l, rfl⟩
  · cases h
theorem PrD.at_ {K : PySem.W.Frag} {d : PrD} (h : d.oks K = true) : PySem.W.findIn K (.ref (He.ga K d.cls)) d.name = some (some (.ref (d.p K))) := by
  obtain ⟨_, h⟩ := He.ba h
  obtain ⟨_, h⟩ := He.ba h
  obtain ⟨_, h⟩ := He.ba h
  exact He.eqO_ok h
/-- what is asked of a property besides -/
def propB (K : PySem.W.Frag) (d : PrD) : Bool := He.eqO (PySem.W.specialIn K (.ref (d.p K)) "__get__") (some (some (.builtin "property.__get__"))) && decide (PySem.W.takesIn K (.ref (d.p K)) = some true)
theorem prop_of {K : PySem.W.Frag} {d : PrD} (h : d.oks K = true) (hk : d.kind = "property") (p : propB K d = true) : PropOf K (He.ga K d.cls) d.name (d.p K) (d.g K) := by
  obtain ⟨h1, h2⟩ := He.ba p
  refine ⟨d.at_ h, He.eqO_ok h1, of_decide_eq_true h2, ?_⟩
  have := d.rec_ h
  rw [hk] at this
  exact this
theorem rOf {P : Program} {w : World} {K : PySem.W.Frag} {mg : Str → Option Value} {base : Heap} {CX : CXT} {k : Nat} {f : Addr} {sp : Sp} {fd : FuncData} {ps : List Str} (F : FnOk P w K mg base CX k f fd ps sp) (b : Binds K fd ps []) : FnR P w K mg base CX k f sp :=
  (F.raw b .nil).imp fun _ _ _ _ h => by
    rw [List.append_nil]
    exact h
theorem io_add : IntOp "add" := ⟨PySem.F.fills_int_add, ⟨some (.builtin "int.__radd__"), by rw [typeLookup_type, builtinLookup_eq_fast]; kernel_rfl⟩⟩
theorem io_sub : IntOp "sub" := ⟨PySem.F.fills_int_sub, ⟨some (.builtin "int.__rsub__"), by rw [typeLookup_type, builtinLookup_eq_fast]; kernel_rfl⟩⟩
theorem io_mul : IntOp "mul" := ⟨PySem.F.fills_int_mul, ⟨some (.builtin "int.__rmul__"), by rw [typeLookup_type, builtinLookup_eq_fast]; kernel_rfl⟩⟩
theorem io_lshift : IntOp "lshift" := ⟨PySem.F.fills_int_lshift, ⟨some (.builtin "int.__rlshift__"), by rw [typeLookup_type, builtinLookup_eq_fast]; kernel_rfl⟩⟩
theorem io_rshift : IntOp "rshift" := ⟨PySem.F.fills_int_rshift, ⟨some (.builtin "int.__rrshift__"), by rw [typeLookup_type, builtinLookup_eq_fast]; kernel_rfl⟩⟩
theorem io_mod : IntOp "mod" := ⟨PySem.F.fills_int_mod, ⟨some (.builtin "int.__rmod__"), by rw [typeLookup_type, builtinLookup_eq_fast]; kernel_rfl⟩⟩
theorem io_floordiv : IntOp "floordiv" := ⟨PySem.F.fills_int_floordiv, ⟨some (.builtin "int.__rfloordiv__"), by rw [typeLookup_type, builtinLookup_eq_fast]; kernel_rfl⟩⟩
end G

set_option Elab.async false
set_option linter.all false
set_option maxRecDepth 100000
set_option maxHeartbeats 4000000
/-! HF: one of two readings; methods and instances whose call may raise; keywords of methods and instances. -/
namespace G
open PySem PySem.Spec PyProof.Rows L2
/-! ### one of two readings -/
def tOr (t u : TE) : TE := fun σ H Q => t σ H Q ∨ u σ H Q
def iOr (t u : TI) : TI := fun σ H R => t σ H R ∨ u σ H R
section
variable {X : Cx} {e tg : Expr} {t u : TE} {i j : TI}
theorem pe_or (h1 : PE X e t) (h2 : PE X e u) : PE X e (tOr t u) := ⟨fun pins s σ H Q I h => h.elim (h1.run pins s σ H Q I) (h2.run pins s σ H Q I)⟩
theorem pi_or (h1 : PI X tg e i) (h2 : PI X tg e j) : PI X tg e (iOr i j) := ⟨fun pins s σ H R I h => h.elim (h1.run pins s σ H R I) (h2.run pins s σ H R I)⟩
end
section
variable {K : PySem.W.Frag} {W : WX} {O : List OD} {ts : List T} {P : PT'} {X : XX} {t u : TE} {i j : TI} {S : (Nat → Option T) → List OD → Prop}
theorem w_or1 (h : WE K W t O ts P X) : WE K W (tOr t u) O ts P X := fun b A σ H Q s rs kv kx => .inl (h b A σ H Q s rs kv kx)
theorem w_or2 (h : WE K W u O ts P X) : WE K W (tOr t u) O ts P X := fun b A σ H Q s rs kv kx => .inr (h b A σ H Q s rs kv kx)
theorem i_or1 (h : WI K W i O ts S X) : WI K W (iOr i j) O ts S X := fun b A σ H R s rs k kx => .inl (h b A σ H R s rs k kx)
theorem i_or2 (h : WI K W j O ts S X) : WI K W (iOr i j) O ts S X := fun b A σ H R s rs k kx => .inr (h b A σ H R s rs k kx)
end
/-! ### a method that may raise -/
def tMethX (C : Addr) (m : Str) (sp : Sp) (E : L2.St → XK) (ta : TE) (t : TA) : TE := fun σ H Q => ta σ H fun x H1 => ∃ a dx fs, x = .ref a ∧ H1 a = some (.ins C dx fs) ∧ fs.lookup m = none ∧ t σ H1 fun vs H2 => sp (x :: vs) H2 Q (E σ)
def tCallX (C : Addr) (sp : Sp) (E : L2.St → XK) (tf : TE) (t : TA) : TE := fun σ H Q => tf σ H fun y H1 => ∃ a, y = V.ref a ∧ t σ H1 fun vs H2 => (∃ dx fs, H2 a = some (.ins C dx fs)) ∧ sp (V.ref a :: vs) H2 Q (E σ)
section
variable {X : Cx} {CX : CXT} {k : Nat} {C g : Addr} {sp : Sp} {m : Str} {E : L2.St → XK} {E1 : XK} {o e fe : Expr} {es : List Expr} {ta tf : TE} {t : TA} {pos apos : Pos} {pl : Sem Bool}
theorem code_at {pins : List (Addr × Obj)} {σ : L2.St} {H : Hp} {s : Shared} {Q : VK} {us : List Value} {vs : List V} (F : FnR X.prog X.w X.K X.mg X.base CX k g sp) (hr : Room k X.A) (hx : PassesAt CX X σ E1) (I : Inv X pins σ H s) (r : Vals vs us) (h : sp vs H Q E1) :
    codeAny (model X.prog X.w) X.A (.call (.ref g) ⟨us, []⟩) (fun r s' => match r with | .ok (.ret v) => EP X pins σ Q v s' | .ok _ => False | .error e => X.xe e s') s :=
  codeAny_mono (F X.A X.stack s H us vs Q E1 hr I.env0 r h) fun z s' hz => match z, hz with
    | .error e, hz => hx pins H s e s' I hz
    | .ok (.ret _), hz => I.after hz
theorem pe_methX (he : PE X o ta) (c : Cls X.K C) (M : Meth X.K C m g) (F : FnR X.prog X.w X.K X.mg X.base CX k g sp) (hr : Room k X.A) (hx : ∀ σ, PassesAt CX X σ (E σ)) (ha : PA X (e :: es) t)
    (h1 : starEach (e :: es) X.env = (false, eval e X.env) :: starEach es X.env := by rfl) (h2 : (backTo pos (starEach es X.env)).any (·.1) = false := by rfl)
    (h3 : eval (.Call (.Attribute o m apos) (e :: es) [] pos) X.env = (eval o X.env >>= fun ov => standAt apos.atName >>= fun _ => holding [ov] (getMethod ov m pl) >>= fun q => callWith pos q.1 q.2 (backTo pos (starEach (e :: es) X.env)) (backToKw pos (keywordEach [] X.env))) := by rfl) :
    PE X (.Call (.Attribute o m apos) (e :: es) [] pos) (tMethX C m sp E ta t) := by
  constructor
  intro pins s σ H Q I h
  refine PySem.W.methodCall_KW (pl := pl) (thn (he.run pins s σ H _ I h) fun u s1 z => ?_) h3
  obtain ⟨x, H1, I1, rx, a, dx, fs, ex, ea, l, q⟩ := z
  cases ex
  cases (show u = Value.ref a from rx)
  refine getmeth_ok I1 ea c M l (PySem.W.callWith_K (first := [.ref a]) (h₀ := X.base) I.ok.mod.kin M.kp (thn (ha.run pos pins s1 σ H1 _ I1 q) fun us s2 z2 => ?_) h1 h2)
  obtain ⟨vs, H2, I2, r, q2⟩ := z2
  exact ⟨I2.kIn, run_fnRS (us := .ref a :: us) (vs := .ref a :: vs) F hr (hx σ) I2 (.cons rfl r) q2⟩
theorem pe_callX (hf : PE X fe tf) (M : Meth X.K C "__call__" g) (c : PySem.W.fnIn X.K g = true) (F : FnR X.prog X.w X.K X.mg X.base CX k g sp) (hr : Room k X.A) (hx : ∀ σ, PassesAt CX X σ (E σ)) (ha : PA X (e :: es) t)
    (he : eval (.Call fe (e :: es) [] pos) X.env = (do callWith pos (← eval fe X.env) [] (backTo pos (starEach (e :: es) X.env)) (backToKw pos (keywordEach [] X.env))) := by rfl)
    (h1 : starEach (e :: es) X.env = (false, eval e X.env) :: starEach es X.env := by rfl) (h2 : (backTo pos (starEach es X.env)).any (·.1) = false := by rfl) : PE X (.Call fe (e :: es) [] pos) (tCallX C sp E tf t) := by
  constructor
  intro pins s σ H Q I h
  refine Call_ (thn (hf.run pins s σ H _ I h) fun u s1 z => ?_) he
  obtain ⟨y, H1, I1, ry, a, ey, q⟩ := z
  cases ey
  cases (show u = Value.ref a from ry)
  refine StX.callO_with (thn (ha.run pos pins s1 σ H1 _ I1 q) fun us s2 z2 => ?_) h1 h2
  obtain ⟨vs, H2, I2, r, ⟨dx, fs, hi⟩, q2⟩ := z2
  obtain ⟨ox, od, j, p⟩ := StX.insC_at I2 (.inr ⟨dx, fs, hi⟩)
  exact ⟨⟨C, ox, od, j, p⟩, wpAny_call (PySem.W.kco_code I2.kIn j p M.at_ M.fn c (code_at (us := .ref a :: us) (vs := .ref a :: vs) F hr (hx σ) I2 (.cons rfl r) q2))⟩
end
section
variable {K : PySem.W.Frag} {W : WX} {O : List OD} {ts : List T} {P : PT'} {X : XX} {sp : SpD} {tr : TA} {ta : TE} {C : Addr} {m : Str}
theorem w_methX (h : WE K W ta O ts (fun x O1 => ∃ fs, x = .v (.ins C fs) ∧ fs.lookup m = none ∧ WA K W tr O1 ts (fun xs O2 => ∃ ds, unv xs = some ds ∧ sp (.v (.ins C fs) :: xs) [] (fun t _ => (∃ d, t = .v d) ∧ P t O2) (fun C fs _ => X C fs O2)) X) X) :
    WE K W (tMethX C m (lift K sp) (L2.WE W) ta tr) O ts P X := fun b A σ H Q s rs kv kx =>
  h b A σ H _ s rs (fun x v A1 O1 H1 p1 s1 n1 r1 => by
    obtain ⟨fs, rfl, hm, p⟩ := p1
    obtain ⟨a, dx, vs, rfl, h1, h2⟩ := insD_at insD_v s1 r1
    refine ⟨a, dx, vs, rfl, h1, h2.none hm, p b A1 σ H1 _ s1 (rs.nxt n1) (fun xs us A2 O2 H2 p2 s2 n2 r2 => ?_) (kx.nxt n1)⟩
    obtain ⟨ds, e, q⟩ := p2
    exact lift_p (W := W) (σ := σ) s2 (xs := .v (.ins C fs) :: xs) (ds := .ins C fs :: ds) ⟨.ref a, us, rfl, r1.nxt n2, r2⟩ (by show (unv xs).map _ = _; rw [e] <;> rfl) (fun _ _ _ z => z) q (kv.nxt (n1.trans n2)) (kx.nxt (n1.trans n2))) kx
theorem w_callX (h : WE K W ta O ts (fun x O1 => ∃ fs, x = .v (.ins C fs) ∧ WA K W tr O1 ts (fun xs O2 => ∃ ds, unv xs = some ds ∧ sp (.v (.ins C fs) :: xs) [] (fun t _ => (∃ d, t = .v d) ∧ P t O2) (fun C fs _ => X C fs O2)) X) X) :
    WE K W (tCallX C (lift K sp) (L2.WE W) ta tr) O ts P X := fun b A σ H Q s rs kv kx =>
  h b A σ H _ s rs (fun x v A1 O1 H1 p1 s1 n1 r1 => by
    obtain ⟨fs, rfl, p⟩ := p1
    obtain ⟨a, dx, vs, rfl, h1⟩ := rep_ins s1 r1
    refine ⟨a, rfl, p b A1 σ H1 _ s1 (rs.nxt n1) (fun xs us A2 O2 H2 p2 s2 n2 r2 => ?_) (kx.nxt n1)⟩
    obtain ⟨ds, e, q⟩ := p2
    obtain ⟨a', dx', vs', e', h2⟩ := rep_ins s2 (r1.nxt n2)
    cases e'
    exact ⟨⟨dx', vs', h2⟩, lift_p (W := W) (σ := σ) s2 (xs := .v (.ins C fs) :: xs) (ds := .ins C fs :: ds) ⟨.ref a, us, rfl, r1.nxt n2, r2⟩ (by show (unv xs).map _ = _; rw [e] <;> rfl) (fun _ _ _ z => z) q (kv.nxt (n1.trans n2)) (kx.nxt (n1.trans n2))⟩) kx
end
/-! ### o.m(q = .., p = ..), o(p = .., q = ..) -/
def turnL {α : Type} (tw : Bool) (l : List α) : List α := if tw then l.reverse else l
theorem turn_vals {tw : Bool} {vs : List V} {us : List Value} (r : Vals vs us) : Vals (turnL tw vs) (turnL tw us) := by
  cases tw
  · exact r
  · show Vals vs.reverse us.reverse
    induction r with
    | nil => exact .nil
    | cons h _ ih =>
      rw [List.reverse_cons, List.reverse_cons]
      exact ih.append (.cons h .nil)
def KwM (K : PySem.W.Frag) (fd : FuncData) (ps ks : List Str) (tw : Bool) : Prop := ∀ (s : Shared) (a : Value) (ws : List Value), K.In s.heap → ws.length = ks.length → BindsTo s fd ⟨[a], ks.zip ws⟩ (ps.zip (a :: turnL tw ws))
theorem kwM {K : PySem.W.Frag} {x qual : Str} {params : Arguments} {body : List Stmt} {scope : Scope} {f : Addr} {fd fd2 : FuncData} {ps ks : List Str} {tw : Bool} (F : FunD K x qual params body scope [] [] f fd) (lk : LkF K f fd2)
    (h : ∀ (kV doc pm : Value) (an : Option Addr) (cdv ct a : Value) (ws : List Value), ws.length = ks.length → bindArgs (PySem.W.fnOf x qual params body scope .none kV doc pm an cdv ct) ⟨[a], ks.zip ws⟩ = pure (ps.zip (a :: turnL tw ws))) : KwM K fd2 ps ks tw := by
  obtain ⟨w1, w2, w3, e2⟩ := lk
  obtain ⟨v1, v2, dV, kV, doc, pm, an, cdv, ct, v3, rfl, lk, _, hD, _⟩ := F.ex
  rw [lk] at e2
  injection e2 with e2
  injection e2 with _ _ e2
  injection e2 with e2
  subst e2
  rcases hD with ⟨_, rfl⟩ | ⟨z, _⟩
  · exact fun s a ws _ hl => BindsTo.of_eq (h kV doc pm an cdv ct a ws hl)
  · exact absurd rfl z
def tMethK (C : Addr) (m : Str) (tw : Bool) (sp : Sp) (E : XK) (ta : TE) (tk : TA) : TE := fun σ H Q => ta σ H fun x H1 => ∃ a dx fs, x = .ref a ∧ H1 a = some (.ins C dx fs) ∧ fs.lookup m = none ∧ tk σ H1 fun zs H2 => sp (x :: turnL tw zs) H2 Q E
def tCallK2 (C : Addr) (tw : Bool) (sp : Sp) (E : XK) (tf : TE) (tk : TA) : TE := fun σ H Q => tf σ H fun y H1 => ∃ a, y = V.ref a ∧ tk σ H1 fun zs H2 => (∃ dx fs, H2 a = some (.ins C dx fs)) ∧ sp (V.ref a :: turnL tw zs) H2 Q E
section
variable {X : Cx} {CX : CXT} {k : Nat} {C g : Addr} {sp : Sp} {m : Str} {E : XK} {o fe : Expr} {kws : List Keyword} {ta tf : TE} {tk : TA} {pos apos : Pos} {pl : Sem Bool} {fd : FuncData} {ps ks : List Str} {tw : Bool}
theorem code_kw {pins : List (Addr × Obj)} {σ : L2.St} {H : Hp} {s : Shared} {Q : VK} {a : Addr} {ws : List Value} {zs : List V} (F : FnOk X.prog X.w X.K X.mg X.base CX k g fd ps sp) (hr : Room k X.A) (hb : KwM X.K fd ps ks tw) (hx : Passes CX X E) (I : Inv X pins σ H s) (r : Vals zs ws) (hl : ws.length = ks.length)
    (h : sp (V.ref a :: turnL tw zs) H Q E) : codeAny (model X.prog X.w) X.A (.call (.ref g) ⟨[.ref a], ks.zip ws⟩) (fun r s' => match r with | .ok (.ret v) => EP X pins σ Q v s' | .ok _ => False | .error e => X.xe e s') s :=
  codeAny_mono (F.run X.A X.stack s H ⟨[.ref a], ks.zip ws⟩ (.ref a :: turnL tw ws) (.ref a :: turnL tw zs) Q E hr I.env0 (hb s (.ref a) ws I.kIn hl) (.cons rfl (turn_vals r)) h) fun z s' hz => match z, hz with
    | .error e, hz => hx pins σ H s e s' I hz
    | .ok (.ret _), hz => I.after hz
theorem turn_len {α : Type} {tw : Bool} {l : List α} : (turnL tw l).length = l.length := by
  cases tw
  · rfl
  · exact List.length_reverse
theorem pe_methK (he : PE X o ta) (c : Cls X.K C) (M : Meth X.K C m g) (F : FnOk X.prog X.w X.K X.mg X.base CX k g fd ps sp) (hr : Room k X.A) (hb : KwM X.K fd ps ks tw) (hl : ps.length = ks.length + 1) (hx : Passes CX X E) (hkw : PK X kws tk)
    (hks : (backToKw pos (keywordEach kws X.env)).filterMap (·.1) = ks := by rfl) (hall : (backToKw pos (keywordEach kws X.env)).all (·.1.isSome) = true := by rfl)
    (hpl : ((backTo pos (starEach [] X.env)).any (·.1) || (backToKw pos (keywordEach kws X.env)).any (·.1.isNone)) = false := by rfl)
    (h3 : eval (.Call (.Attribute o m apos) [] kws pos) X.env = (eval o X.env >>= fun ov => standAt apos.atName >>= fun _ => holding [ov] (getMethod ov m pl) >>= fun q => callWith pos q.1 q.2 (backTo pos (starEach [] X.env)) (backToKw pos (keywordEach kws X.env))) := by rfl) :
    PE X (.Call (.Attribute o m apos) [] kws pos) (tMethK C m tw sp E ta tk) := by
  constructor
  intro pins s σ H Q I h
  subst hks
  refine PySem.W.methodCall_KW (pl := pl) (thn (he.run pins s σ H _ I h) fun u s1 z => ?_) h3
  obtain ⟨x, H1, I1, rx, a, dx, fs, ex, ea, l, q⟩ := z
  cases ex
  cases (show u = Value.ref a from rx)
  refine getmeth_ok I1 ea c M l (PySem.W.callWith_KW0 (first := [.ref a]) (h₀ := X.base) I.ok.mod.kin M.kp hall (thn (hkw.run pos pins s1 σ H1 _ I1 q) fun ws s2 z2 => ?_) hpl)
  obtain ⟨zs, H2, I2, rz, q2⟩ := z2
  have h0 := F.len _ _ _ _ q2
  rw [List.length_cons, turn_len, rz.length] at h0
  exact ⟨I2.kIn, wpAny_call (code_kw F hr hb hx I2 rz (by omega) q2)⟩
/-- the call of an instance, whatever it is handed -/
theorem callI_of {M : Model} {A : Around} {Er : Value → Shared → Prop} {s : Shared} {a : Addr} {Q : Value → Shared → Prop} {args : List (Bool × Sem Value)} {kw : List (Option Str × Sem Value)} (hp : (args.any (·.1) || kw.any (·.1.isNone)) = false)
    (h : wpAny M A (evalArgs (.ref a) true args kw) (fun z s₁ => (∃ C ox od, PySem.W.InstAt s₁.heap a ox C od ∧ ox.data = .plain) ∧ wpAny M A (call (.ref a) ([] ++ z.pos) z.kw) Q Er s₁) Er s) : wpAny M A (callWith pos (.ref a) [] args kw) Q Er s := by
  unfold callWith
  refine wpAny_bind (wpAny_holding (wpAny_mono h (fun z s₁ hz => ?_) fun _ _ y => y))
  obtain ⟨⟨C, ox, od, at_, pd⟩, go⟩ := hz
  refine wpAny_bind (wpAny_standAt ?_)
  simp only [hp]
  refine wpAny_bind ((PySem.W.kco_keeper (M := M) at_ pd).here ?_)
  exact wpAny_bind (wpAny_mono (wpAny_operateT go) (fun r s₂ hr => wpAny_bind (wpAny_holding (wpAny_point (wpAny_pure hr)))) fun _ _ y => y)
theorem pe_callK2 (hf : PE X fe tf) (M : Meth X.K C "__call__" g) (c : PySem.W.fnIn X.K g = true) (F : FnOk X.prog X.w X.K X.mg X.base CX k g fd ps sp) (hr : Room k X.A) (hb : KwM X.K fd ps ks tw) (hl : ps.length = ks.length + 1) (hx : Passes CX X E) (hkw : PK X kws tk)
    (hks : (backToKw pos (keywordEach kws X.env)).filterMap (·.1) = ks := by rfl) (hall : (backToKw pos (keywordEach kws X.env)).all (·.1.isSome) = true := by rfl)
    (hpl : ((backTo pos (starEach [] X.env)).any (·.1) || (backToKw pos (keywordEach kws X.env)).any (·.1.isNone)) = false := by rfl)
    (he : eval (.Call fe [] kws pos) X.env = (do callWith pos (← eval fe X.env) [] (backTo pos (starEach [] X.env)) (backToKw pos (keywordEach kws X.env))) := by rfl) : PE X (.Call fe [] kws pos) (tCallK2 C tw sp E tf tk) := by
  constructor
  intro pins s σ H Q I h
  subst hks
  rw [he]
  refine wpAny_bind (thn (hf.run pins s σ H _ I h) fun u s1 z => ?_)
  obtain ⟨y, H1, I1, ry, a, ey, q⟩ := z
  cases ey
  cases (show u = Value.ref a from ry)
  refine callI_of hpl (PyProof.Rows.evalArgs_kw2_nil hall (thn (hkw.run pos pins s1 σ H1 _ I1 q) fun ws s2 z2 => ?_))
  obtain ⟨zs, H2, I2, rz, ⟨dx, fs, hi⟩, q2⟩ := z2
  have h0 := F.len _ _ _ _ q2
  rw [List.length_cons, turn_len, rz.length] at h0
  obtain ⟨ox, od, j, p⟩ := StX.insC_at I2 (.inr ⟨dx, fs, hi⟩)
  exact ⟨⟨C, ox, od, j, p⟩, wpAny_call (PySem.W.kco_code I2.kIn j p M.at_ M.fn c (code_kw F hr hb hx I2 rz (by omega) q2))⟩
end
section
variable {K : PySem.W.Frag} {W : WX} {O : List OD} {ts : List T} {P : PT'} {X : XX} {sp : SpD} {tk : TA} {ta : TE} {C : Addr} {m : Str} {tw : Bool}
theorem turn_rep {F : Hp} {A : List Addr} {xs : List T} {us : List V} {ds : List D} (r : RepTs K F A xs us) (e : unv xs = some ds) : RepTs K F A ((turnL tw ds).map T.v) (turnL tw us) := by
  have p := r.plain e
  cases tw
  · exact repTs_v p
  · exact repTs_v (p.reverse)
theorem unv_map : ∀ {ds : List D}, unv (ds.map T.v) = some ds
  | [] => rfl
  | d :: ds => by
    show (unv (ds.map T.v)).map _ = _
    rw [unv_map] <;> rfl
theorem w_methK (h : WE K W ta O ts (fun x O1 => ∃ fs, x = .v (.ins C fs) ∧ fs.lookup m = none ∧ WA K W tk O1 ts (fun xs O2 => ∃ ds, unv xs = some ds ∧ sp (.v (.ins C fs) :: (turnL tw ds).map T.v) [] (fun t _ => (∃ d, t = .v d) ∧ P t O2) (fun _ _ _ => False)) X) X) :
    WE K W (tMethK C m tw (lift K sp) E0 ta tk) O ts P X := fun b A σ H Q s rs kv kx =>
  h b A σ H _ s rs (fun x v A1 O1 H1 p1 s1 n1 r1 => by
    obtain ⟨fs, rfl, hm, p⟩ := p1
    obtain ⟨a, dx, vs, rfl, h1, h2⟩ := insD_at insD_v s1 r1
    refine ⟨a, dx, vs, rfl, h1, h2.none hm, p b A1 σ H1 _ s1 (rs.nxt n1) (fun xs us A2 O2 H2 p2 s2 n2 r2 => ?_) (kx.nxt n1)⟩
    obtain ⟨ds, e, q⟩ := p2
    exact lift_p (W := fun _ _ _ _ => False) (X := fun _ _ _ => False) (σ := σ) s2 (xs := .v (.ins C fs) :: (turnL tw ds).map T.v) (ds := .ins C fs :: turnL tw ds) ⟨.ref a, _, rfl, r1.nxt n2, turn_rep r2 e⟩ (by show (unv ((turnL tw ds).map T.v)).map _ = _; rw [unv_map] <;> rfl) (fun _ _ _ z => z) q (kv.nxt (n1.trans n2)) fun _ _ _ _ _ _ z => z.elim) kx
theorem w_callK2 (h : WE K W ta O ts (fun x O1 => ∃ fs, x = .v (.ins C fs) ∧ WA K W tk O1 ts (fun xs O2 => ∃ ds, unv xs = some ds ∧ sp (.v (.ins C fs) :: (turnL tw ds).map T.v) [] (fun t _ => (∃ d, t = .v d) ∧ P t O2) (fun _ _ _ => False)) X) X) :
    WE K W (tCallK2 C tw (lift K sp) E0 ta tk) O ts P X := fun b A σ H Q s rs kv kx =>
  h b A σ H _ s rs (fun x v A1 O1 H1 p1 s1 n1 r1 => by
    obtain ⟨fs, rfl, p⟩ := p1
    obtain ⟨a, dx, vs, rfl, h1⟩ := rep_ins s1 r1
    refine ⟨a, rfl, p b A1 σ H1 _ s1 (rs.nxt n1) (fun xs us A2 O2 H2 p2 s2 n2 r2 => ?_) (kx.nxt n1)⟩
    obtain ⟨ds, e, q⟩ := p2
    obtain ⟨a', dx', vs', e', h2⟩ := rep_ins s2 (r1.nxt n2)
    cases e'
    exact ⟨⟨dx', vs', h2⟩, lift_p (W := fun _ _ _ _ => False) (X := fun _ _ _ => False) (σ := σ) s2 (xs := .v (.ins C fs) :: (turnL tw ds).map T.v) (ds := .ins C fs :: turnL tw ds) ⟨.ref a, _, rfl, r1.nxt n2, turn_rep r2 e⟩ (by show (unv ((turnL tw ds).map T.v)).map _ = _; rw [unv_map] <;> rfl) (fun _ _ _ z => z) q (kv.nxt (n1.trans n2)) fun _ _ _ _ _ _ z => z.elim⟩) kx
/-- 1 << k -/
theorem w_shl {i j : Int} (h : CPow i j) (k : P (.v (.int (i * 2 ^ j.toNat))) O) : WR K (rI CPow fun i j => .int (i * 2 ^ j.toNat)) (.v (.int i)) (.v (.int j)) O P := w_I (d := .int (i * 2 ^ j.toNat)) h (fun _ => rfl) k
end
theorem boot_ValueError : bootBuiltins "ValueError" = some (.type "ValueError") := by kernel_rfl
end G

set_option Elab.async false
set_option linter.all false
set_option maxRecDepth 100000
set_option maxHeartbeats 4000000
/-! HG: a tuple no times and once. -/
namespace G
open PySem PySem.Spec PyProof.Rows L2
theorem once (l : Addr) (items : Array Value) (n : Nat) (dd : Option Addr) (sl : Array (Option Value)) (u : Tok) :
    Meets (Builtin.«tuple.__mul__» ⟨[.ref l, .int 1 u], []⟩) (fun _ R s => s.heap.get? l = some { cls := .type "tuple", dict := dd, data := .seq items n, slots := sl } ∧ R (.ok (.ret (Value.ref l))) s) :=
  .of_wp fun prog w A R s h => by
    obtain ⟨h1, h2, h3, h4, h5⟩ := s
    obtain ⟨at_, go⟩ := h
    have ix := AutoSeq1.idx_int
    wp_walk using wpAny_loadPart' at_
    repeat (first
      | (refine wpAny_ite_false (by decide) ?_; wp_walk using wpAny_loadPart' at_)
      | (refine wpAny_ite_true (by simp) ?_; wp_walk using wpAny_loadPart' at_))
    exact ⟨_, rfl, go⟩
theorem none_of (l : Addr) (items : Array Value) (n : Nat) (dd : Option Addr) (sl : Array (Option Value)) (u : Tok) (ne : items.isEmpty = false) :
    Meets (Builtin.«tuple.__mul__» ⟨[.ref l, .int 0 u], []⟩) (fun _ R s => s.heap.get? l = some { cls := .type "tuple", dict := dd, data := .seq items n, slots := sl } ∧ R (.ok (.ret (Value.ref s.heap.objs.size))) { s with heap := s.heap.push { cls := Value.type "tuple", data := Data.seq #[] }, toks := s.toks }) :=
  .of_wp fun prog w A R s h => by
    obtain ⟨h1, h2, h3, h4, h5⟩ := s
    obtain ⟨at_, go⟩ := h
    have ix := AutoSeq1.idx_int
    wp_walk using wpAny_loadPart' at_
    repeat (first
      | (refine wpAny_ite_false (by decide) ?_; wp_walk using wpAny_loadPart' at_)
      | (refine wpAny_ite_false (by rw [ne]; decide) ?_; wp_walk using wpAny_loadPart' at_)
      | (refine wpAny_ite_true (by simp) ?_; wp_walk using wpAny_loadPart' at_))
    exact ⟨_, rfl, go⟩
def rOr (r q : R2) : R2 := fun x y H Q => r x y H Q ∨ q x y H Q
def rOnce (K : PySem.W.Frag) : R2 := fun x y H Q => ∃ l xs, x = .ref l ∧ y = .int 1 ∧ SqT K H l xs ∧ Q x H
def rNone (K : PySem.W.Frag) : R2 := fun x y H Q => ∃ l xs, x = .ref l ∧ y = .int 0 ∧ SqT K H l xs ∧ xs ≠ [] ∧ ∀ p, H p = none → Q (.ref p) (upd H p (.tup []))
section
variable {X : Cx}
theorem op_or {f : Value → Value → Sem Value} {r q : R2} (h1 : OpR X f r) (h2 : OpR X f q) : OpR X f (rOr r q) := fun pins s σ H x y v u Q I rx ry h => h.elim (h1 pins s σ H x y v u Q I rx ry) (h2 pins s σ H x y v u Q I rx ry)
theorem op_once : OpR X (binaryOp .Mult) (rOnce X.K) := by
  intro pins s σ H x y v u Q I rx ry h
  obtain ⟨l, xs, rfl, rfl, hT, q⟩ := h
  cases (show v = Value.ref l from rx)
  obtain ⟨t, rfl⟩ := (show ∃ t, u = Value.int 1 t from ry)
  obtain ⟨its, r, ⟨⟨c1, c2, c3, c4⟩, ho, hc, n, hd⟩, _⟩ := I.tuple hT
  cases hc
  cases hd
  exact wpAny_binaryOp_repeat_ref (T := "tuple") (U := "int") (by decide) ⟨_, ho, rfl⟩ (fun s' => typeIs_int s' 1 t) noFill_tuple_mul F.fills_int_mul F.slot_int_rmul repeat_tuple F.slot_int_index.lookup
    (call_meets F.slot_int_rmul (typeIs_int s 1 t) F.entry_int_rmul (F.args_int_rmul_2 _ _) (int_rmul_tuple 1 t l its.toArray n c2 c4)
      ⟨ho, rfl, ⟨_, ho, rfl⟩, call_meets F.slot_tuple_mul ⟨_, ho, rfl⟩ F.entry_tuple_mul (F.args_tuple_mul_2 _ _) (once l its.toArray n c2 c4 t) ⟨ho, .ref l, H, I, rfl, q⟩⟩)
theorem op_none_ : OpR X (binaryOp .Mult) (rNone X.K) := by
  intro pins s σ H x y v u Q I rx ry h
  obtain ⟨l, xs, rfl, rfl, hT, hne, q⟩ := h
  cases (show v = Value.ref l from rx)
  obtain ⟨t, rfl⟩ := (show ∃ t, u = Value.int 0 t from ry)
  obtain ⟨its, r, ⟨⟨c1, c2, c3, c4⟩, ho, hc, n, hd⟩, _⟩ := I.tuple hT
  cases hc
  cases hd
  have hi : its.toArray.isEmpty = false := by
    cases its with
    | nil => exact absurd (List.eq_nil_of_length_eq_zero r.length) hne
    | cons a b => rfl
  exact wpAny_binaryOp_repeat_ref (T := "tuple") (U := "int") (by decide) ⟨_, ho, rfl⟩ (fun s' => typeIs_int s' 0 t) noFill_tuple_mul F.fills_int_mul F.slot_int_rmul repeat_tuple F.slot_int_index.lookup
    (call_meets F.slot_int_rmul (typeIs_int s 0 t) F.entry_int_rmul (F.args_int_rmul_2 _ _) (int_rmul_tuple 0 t l its.toArray n c2 c4)
      ⟨ho, rfl, ⟨_, ho, rfl⟩, call_meets F.slot_tuple_mul ⟨_, ho, rfl⟩ F.entry_tuple_mul (F.args_tuple_mul_2 _ _) (none_of l its.toArray n c2 c4 t hi)
        ⟨ho, .ref s.heap.objs.size, _, I.laid (t' := s.toks) (o := .tup []) (fun b ob q => Heap.get?_push_of_some _ q) (Nat.le_refl _) ⟨Nat.zero_le _, [], .nil, IsTup.new _ _⟩, rfl, q _ (I.hok.fresh (Nat.le_refl _))⟩⟩)
def rRepAll (K : PySem.W.Frag) : R2 := rOr (rRepT K) (rOr (rOnce K) (rNone K))
theorem op_repAll (K : PySem.W.Frag) (h : X.K = K := by rfl) : OpR X (binaryOp .Mult) (rRepAll K) := h ▸ op_or op_repT (op_or op_once op_none_)
end
section
variable {K : PySem.W.Frag} {O : List OD} {P : PT'}
theorem repL_times {F : Hp} {ds : List D} {vs : List V} (h : RepL K F ds vs) : ∀ n : Nat, RepL K F (List.replicate n ds).flatten (List.replicate n vs).flatten
  | 0 => rfl
  | n + 1 => by
    rw [List.replicate_succ, List.flatten_cons, List.replicate_succ, List.flatten_cons]
    exact h.append (repL_times h n)
theorem w_repAll {ds : List D} {k : Int} (h0 : 0 ≤ k) (h1 : k ≤ 1000) (hne : ds ≠ []) (hz : ds.length ≤ 1000) (kk : P (.v (.tup (List.replicate k.toNat ds).flatten)) O) : WR K (rRepAll K) (.v (.tup ds)) (.v (.int k)) O P := fun b A H Q v u s r1 r2 kv => by
  obtain ⟨_, e1, a, vs, rfl, g1, g2⟩ := r1
  cases e1
  obtain ⟨_, e2, rfl⟩ := r2
  cases e2
  have hT : SqT K H a vs := (hid_ex : Ex (Fz b A O H) H).t g1
  have hlen : vs.length = ds.length := g2.length
  have hv : vs ≠ [] := fun z => by
    rw [z] at hlen
    exact hne (List.eq_nil_of_length_eq_zero hlen.symm)
  by_cases c1 : k = 1
  · subst c1
    refine .inr (.inl ⟨a, vs, rfl, rfl, hT, kv _ _ A O H kk s Nxt.refl ⟨_, rfl, a, vs, rfl, g1, ?_⟩⟩)
    show RepL K _ (List.replicate 1 ds).flatten vs
    rw [List.replicate_one, List.flatten_singleton]
    exact g2
  by_cases c0 : k = 0
  · subst c0
    refine .inr (.inr ⟨a, vs, rfl, rfl, hT, hv, fun p hp => ?_⟩)
    obtain ⟨s2, n2, f2⟩ := s.lay hp (.tup [])
    exact kv _ _ A O _ kk s2 n2 ⟨_, rfl, p, [], rfl, SqT.of f2, rfl⟩
  refine .inl ⟨a, k, vs, rfl, rfl, hT, hv, by omega, h1, by omega, fun p hp => ?_⟩
  obtain ⟨s2, n2, f2⟩ := s.lay hp (.tup (List.replicate k.toNat vs).flatten)
  refine kv _ _ A O _ kk s2 n2 ⟨_, rfl, p, _, rfl, SqT.of f2, ?_⟩
  exact repL_times (g2.ex n2.ext) _
end
section
variable {X : Cx} {T' name : Str} {id : String} {r : V → List V → Hp → VK → Prop} {o e : Expr} {es : List Expr} {to : TE} {t : TA} {cpos apos : Pos}
theorem pe_bmK (K : PySem.W.Frag) {T1 : String} (pa : PlainAttrs T1) (slot : Slot T1 name id) (hty : typeOf (.builtin id) = pure (.type "method_descriptor")) (hm : MtR X id r) (ho : PE X o to) (ha : PA X (e :: es) t)
    (h0 : X.K = K := by rfl) (h1 : attributeBase o name X.env (eval o X.env) = eval o X.env := by rfl)
    (h2 : ((backTo cpos (starEach (e :: es) X.env)).all (fun x => !x.1) && (backToKw cpos (keywordEach [] X.env)).all (fun x => x.1.isSome) && decide ((e :: es).length + ([] : List Keyword).length + (if ([] : List Keyword).isEmpty then 0 else 1) < 30)) = true := by rfl)
    (h3 : (apos.endLine == cpos.line) = true := by rfl) (h4 : starEach (e :: es) X.env = (false, eval e X.env) :: starEach es X.env := by rfl) (h5 : (backTo cpos (starEach es X.env)).any (·.1) = false := by rfl) :
    PE X (.Call (.Attribute o name apos) (e :: es) [] cpos) (tBM K T1 r to t) := h0 ▸ pe_bm pa slot hty hm ho ha h1 h2 h3 h4 h5
end
/-- lists of its own are let go where a suite hands back a value -/
theorem s_letgo {K : PySem.W.Frag} {W : WX} {O : List OD} {ts : List T} {E : DE} {t : TS}
    (h : WS K W t O ts { E with rt := fun x O2 => ∃ d O' R, x = .v d ∧ O2 = O' ++ R ∧ O'.length = O.length ∧ E.rt (.v d) O' }) : WS K W t O ts E := fun b A σ H D s rs ks => by
  refine h b A σ H D s rs ⟨ks.nx, fun x v A2 O2 H2 q s2 n2 r2 => ?_, ks.bk, ks.ct, ks.xe⟩
  obtain ⟨d, O', R, rfl, rfl, hl, q⟩ := q
  obtain ⟨M, rfl⟩ := n2.pre
  obtain ⟨s3, x3⟩ := s2.drop (A := A) (O := O') (by rw [s.len, hl]) s.pre
  obtain ⟨u, e, r⟩ := r2
  exact ks.rt _ v A O' H2 q s3 ⟨⟨[], (List.append_nil A).symm⟩, n2.ext.trans x3⟩ ⟨u, e, r.ex x3⟩
theorem at_end {α : Type} {l : List α} {x : α} : (l ++ [x])[l.length]? = some x := by
  rw [List.getElem?_append_right (Nat.le_refl _), Nat.sub_self]
  rfl
theorem set_end {α : Type} {l : List α} {x y : α} : (l ++ [x]).set l.length y = l ++ [y] := by
  rw [List.set_append_right _ _ (Nat.le_refl _), Nat.sub_self]
  rfl
end G

set_option Elab.async false
set_option linter.all false
set_option maxRecDepth 100000
/-! MI: rows of numbers below a bound. -/
namespace G
def InR (m : Int) (rs : List Int) : Prop := ∀ r ∈ rs, 0 ≤ r ∧ r < m
theorem InR.tail {m r : Int} {rs : List Int} (h : InR m (r :: rs)) : InR m rs := fun x hx => h x (List.mem_cons_of_mem _ hx)
theorem InR.head {m r : Int} {rs : List Int} (h : InR m (r :: rs)) : 0 ≤ r ∧ r < m := h r List.mem_cons_self
theorem InR.take {m : Int} {rs : List Int} (h : InR m rs) (n : Nat) : InR m (rs.take n) := fun x hx => h x (List.mem_of_mem_take hx)
theorem InR.at {m : Int} {rs : List Int} (h : InR m rs) {i : Nat} {r : Int} (e : rs[i]? = some r) : 0 ≤ r ∧ r < m := h r (List.mem_of_getElem? e)
theorem InR.mul {m k : Int} {rs : List Int} (h : InR m rs) (hk : 0 < k) : InR (m * k) (rs.map (· * k)) := fun x hx => by
  obtain ⟨r, hr, rfl⟩ := List.mem_map.mp hx
  obtain ⟨h1, h2⟩ := h r hr
  exact ⟨Int.mul_nonneg h1 (Int.le_of_lt hk), Int.mul_lt_mul_of_pos_right h2 hk⟩
theorem InR.nil {m : Int} : InR m [] := fun x hx => by cases hx
theorem InR.snoc {m x : Int} {rs : List Int} (h : InR m rs) (h0 : 0 ≤ x) (h1 : x < m) : InR m (rs ++ [x]) := fun y hy => by
  rcases List.mem_append.mp hy with hy | hy
  · exact h y hy
  · rw [List.mem_singleton.mp hy]
    exact ⟨h0, h1⟩
end G

/-! MN: numbers: powers in a number, common divisors, remainders put together, binomials, least divisors. -/
set_option linter.all false
set_option maxRecDepth 100000
namespace My
/-! ### powers of a prime in a number -/
def vlf (p : Nat) : Nat → Nat → Nat
  | 0, _ => 0
  | f + 1, n => if n % p = 0 then vlf p f (n / p) + 1 else 0
def vl (p n : Nat) : Nat := vlf p n n
theorem vlf_spec {p : Nat} (hp : 2 ≤ p) : ∀ (f n : Nat), 1 ≤ n → n ≤ f → ∃ q, n = p ^ vlf p f n * q ∧ q % p ≠ 0
  | 0, n, h1, h2 => by omega
  | f + 1, n, h1, h2 => by
    unfold vlf
    by_cases h : n % p = 0
    · rw [if_pos h]
      obtain ⟨k, rfl⟩ := Nat.dvd_of_mod_eq_zero h
      have hk : 1 ≤ k := by
        rcases Nat.eq_zero_or_pos k with rfl | hk
        · rw [Nat.mul_zero] at h1; omega
        · exact hk
      rw [Nat.mul_div_cancel_left k (by omega)]
      have : k < p * k := by
        have := Nat.mul_le_mul_right k hp
        omega
      obtain ⟨q, e, hq⟩ := vlf_spec hp f k hk (by omega)
      refine ⟨q, ?_, hq⟩
      rw [Nat.pow_succ, Nat.mul_comm _ p, Nat.mul_assoc, ← e]
    · rw [if_neg h]
      exact ⟨n, by rw [Nat.pow_zero, Nat.one_mul], h⟩
theorem vl_spec {p n : Nat} (hp : 2 ≤ p) (hn : 1 ≤ n) : ∃ q, n = p ^ vl p n * q ∧ q % p ≠ 0 := vlf_spec hp n n hn (Nat.le_refl n)
theorem vl_uniq {p : Nat} (hp : 2 ≤ p) : ∀ {s t q r : Nat}, p ^ s * q = p ^ t * r → q % p ≠ 0 → r % p ≠ 0 → s = t ∧ q = r
  | 0, 0, q, r, h, _, _ => by
    rw [Nat.pow_zero, Nat.one_mul, Nat.one_mul] at h
    exact ⟨rfl, h⟩
  | 0, t + 1, q, r, h, hq, _ => by
    rw [Nat.pow_zero, Nat.one_mul, Nat.pow_succ, Nat.mul_comm _ p, Nat.mul_assoc] at h
    rw [h, Nat.mul_mod_right] at hq
    exact absurd rfl hq
  | s + 1, 0, q, r, h, _, hr => by
    rw [Nat.pow_zero, Nat.one_mul, Nat.pow_succ, Nat.mul_comm _ p, Nat.mul_assoc] at h
    rw [← h, Nat.mul_mod_right] at hr
    exact absurd rfl hr
  | s + 1, t + 1, q, r, h, hq, hr => by
    rw [Nat.pow_succ, Nat.mul_comm _ p, Nat.mul_assoc, Nat.pow_succ, Nat.mul_comm _ p, Nat.mul_assoc] at h
    obtain ⟨a, b⟩ := vl_uniq hp (Nat.eq_of_mul_eq_mul_left (by omega) h) hq hr
    exact ⟨by rw [a], b⟩
theorem vl_eq {p n t q : Nat} (hp : 2 ≤ p) (hn : 1 ≤ n) (h : n = p ^ t * q) (hq : q % p ≠ 0) : vl p n = t := by
  obtain ⟨r, e, hr⟩ := vl_spec hp hn
  exact (vl_uniq hp (e.symm.trans h) hr hq).1
def PR : List Nat := [2, 3, 5, 7, 11]
def small (n most : Nat) : List (Nat × Nat) := (PR.filter fun p => decide (p ≤ most) && decide (n % p = 0)).map fun p => (p, vl p n)
def cutP (n : Nat) (x : Nat × Nat) : Nat := n / x.1 ^ x.2
def great (n most : Nat) : Nat := (small n most).foldl cutP n
def prodP (l : List (Nat × Nat)) : Nat := (l.map fun x => x.1 ^ x.2).foldl (· * ·) 1
theorem foldl_mul (l : List Nat) : ∀ a, l.foldl (· * ·) a = a * l.foldl (· * ·) 1 := by
  induction l with
  | nil => intro a; simp
  | cons x l ih =>
    intro a
    rw [List.foldl_cons, List.foldl_cons, ih, ih (1 * x), Nat.one_mul, Nat.mul_assoc]
def prodN (l : List Nat) : Nat := l.foldl (· * ·) 1
theorem prodN_cons (x : Nat) (l : List Nat) : prodN (x :: l) = x * prodN l := by
  unfold prodN
  rw [List.foldl_cons, foldl_mul, Nat.one_mul]
theorem prodN_nil : prodN [] = 1 := rfl
theorem prodN_app (l m : List Nat) : prodN (l ++ m) = prodN l * prodN m := by
  unfold prodN
  rw [List.foldl_append, foldl_mul]
/-- each one has no common divisor with the ones behind it -/
def Cop : List Nat → Prop
  | [] => True
  | x :: l => (∀ y ∈ l, Nat.Coprime x y) ∧ Cop l
theorem cop_prod {x : Nat} : ∀ {l : List Nat}, (∀ y ∈ l, Nat.Coprime x y) → Nat.Coprime x (prodN l)
  | [], _ => by rw [prodN_nil]; exact Nat.coprime_one_right x
  | y :: l, h => by
    rw [prodN_cons]
    exact Nat.Coprime.mul_right (h y List.mem_cons_self) (cop_prod fun z hz => h z (List.mem_cons_of_mem _ hz))
theorem foldl_cut : ∀ (l : List (Nat × Nat)) (n : Nat), Cop (l.map fun x => x.1 ^ x.2) → (∀ x ∈ l, 1 ≤ x.1 ^ x.2 ∧ x.1 ^ x.2 ∣ n) → n = l.foldl cutP n * prodN (l.map fun x => x.1 ^ x.2)
  | [], n, _, _ => by simp [prodN_nil]
  | x :: l, n, hc, hd => by
    obtain ⟨h1, h2⟩ := hd x List.mem_cons_self
    obtain ⟨k, hk⟩ := h2
    have hcut : cutP n x = k := by
      unfold cutP
      rw [hk, Nat.mul_div_cancel_left k h1]
    rw [List.foldl_cons, hcut, List.map_cons, prodN_cons]
    have ih := foldl_cut l k hc.2 fun y hy => by
      obtain ⟨a, b⟩ := hd y (List.mem_cons_of_mem _ hy)
      refine ⟨a, ?_⟩
      rw [hk] at b
      exact Nat.Coprime.dvd_of_dvd_mul_left (Nat.Coprime.symm (hc.1 _ (List.mem_map.mpr ⟨y, hy, rfl⟩))) b
    rw [hk, Nat.mul_left_comm, ← ih]
theorem pr_cop {p q : Nat} (hp : p ∈ PR) (hq : q ∈ PR) (h : p ≠ q) : Nat.Coprime p q := by
  simp only [PR, List.mem_cons, List.not_mem_nil, or_false] at hp hq
  rcases hp with rfl | rfl | rfl | rfl | rfl <;> rcases hq with rfl | rfl | rfl | rfl | rfl <;> first | exact absurd rfl h | (unfold Nat.Coprime; decide)
theorem pr_two {p : Nat} (hp : p ∈ PR) : 2 ≤ p ∧ p ≤ 11 := by
  simp only [PR, List.mem_cons, List.not_mem_nil, or_false] at hp
  omega
theorem pr_prime {p d : Nat} (hp : p ∈ PR) (h : d ∣ p) : d = 1 ∨ d = p := by
  have hl : d ≤ 11 := Nat.le_trans (Nat.le_of_dvd (by have := pr_two hp; omega) h) (pr_two hp).2
  simp only [PR, List.mem_cons, List.not_mem_nil, or_false] at hp
  have key : ∀ d : Nat, d ≤ 11 → ∀ p ∈ [2, 3, 5, 7, 11], d ∣ p → d = 1 ∨ d = p := by decide
  exact key d hl p (by simp only [List.mem_cons, List.not_mem_nil, or_false]; exact hp) h
theorem pr_no {p n : Nat} (hp : p ∈ PR) (h : n % p ≠ 0) : Nat.Coprime n p := by
  rcases pr_prime hp (Nat.gcd_dvd_right n p) with e | e
  · exact e
  · have hd := Nat.gcd_dvd_left n p
    rw [e] at hd
    exact absurd (Nat.mod_eq_zero_of_dvd hd) h
theorem cop_small (n : Nat) (most : Nat) : ∀ l : List Nat, l.Nodup → (∀ p ∈ l, p ∈ PR) → Cop ((l.map fun p => (p, vl p n)).map fun x => x.1 ^ x.2)
  | [], _, _ => trivial
  | p :: l, hn, hm => by
    refine ⟨fun y hy => ?_, cop_small n most l (List.nodup_cons.mp hn).2 fun q hq => hm q (List.mem_cons_of_mem _ hq)⟩
    obtain ⟨x, hx, rfl⟩ := List.mem_map.mp hy
    obtain ⟨q, hq, rfl⟩ := List.mem_map.mp hx
    exact Nat.Coprime.pow _ _ (pr_cop (hm p List.mem_cons_self) (hm q (List.mem_cons_of_mem _ hq)) fun z => (List.nodup_cons.mp hn).1 (by rw [show p = q from z]; exact hq))
theorem pr_nodup : PR.Nodup := by decide
theorem small_cop (n most : Nat) : Cop ((small n most).map fun x => x.1 ^ x.2) :=
  cop_small n most _ (List.Sublist.nodup List.filter_sublist pr_nodup) fun p hp => (List.mem_filter.mp hp).1
theorem small_mem {n most : Nat} {x : Nat × Nat} (h : x ∈ small n most) : x.1 ∈ PR ∧ x.1 ≤ most ∧ n % x.1 = 0 ∧ x.2 = vl x.1 n := by
  unfold small at h
  obtain ⟨p, hp, rfl⟩ := List.mem_map.mp h
  obtain ⟨h1, h2⟩ := List.mem_filter.mp hp
  obtain ⟨h3, h4⟩ := Bool.and_eq_true_iff.mp h2
  exact ⟨h1, of_decide_eq_true h3, of_decide_eq_true h4, rfl⟩
theorem small_dvd {n most : Nat} (hn : 1 ≤ n) {x : Nat × Nat} (h : x ∈ small n most) : 1 ≤ x.1 ^ x.2 ∧ x.1 ^ x.2 ∣ n := by
  obtain ⟨h1, _, _, h4⟩ := small_mem h
  have h2 := (pr_two h1).1
  obtain ⟨q, e, _⟩ := vl_spec (p := x.1) h2 hn
  refine ⟨Nat.pow_pos (by omega), ?_⟩
  rw [h4]
  exact ⟨q, e⟩
theorem great_mul {n : Nat} (most : Nat) (hn : 1 ≤ n) : n = great n most * prodN ((small n most).map fun x => x.1 ^ x.2) := foldl_cut _ n (small_cop n most) fun _ h => small_dvd hn h
theorem great_pos {n : Nat} (most : Nat) (hn : 1 ≤ n) : 1 ≤ great n most := by
  have e := great_mul most hn
  rcases Nat.eq_zero_or_pos (great n most) with h | h
  · rw [h, Nat.zero_mul] at e; omega
  · exact h
theorem prod_dvd {x : Nat} : ∀ {l : List Nat}, x ∈ l → x ∣ prodN l
  | [], h => by cases h
  | y :: l, h => by
    rw [prodN_cons]
    rcases List.mem_cons.mp h with rfl | h
    · exact Nat.dvd_mul_right _ _
    · exact Nat.dvd_trans (prod_dvd h) (Nat.dvd_mul_left _ _)
theorem great_no {n most : Nat} (hn : 1 ≤ n) {x : Nat × Nat} (h : x ∈ small n most) : great n most % x.1 ≠ 0 := fun z => by
  obtain ⟨h1, _, _, h4⟩ := small_mem h
  have h2 := (pr_two h1).1
  obtain ⟨q, e, hq⟩ := vl_spec (p := x.1) h2 hn
  obtain ⟨a, ha⟩ := Nat.dvd_of_mod_eq_zero z
  obtain ⟨c, hc⟩ := prod_dvd (x := x.1 ^ x.2) (l := (small n most).map fun x => x.1 ^ x.2) (List.mem_map.mpr ⟨x, h, rfl⟩)
  have em := great_mul most hn
  rw [hc, ha, h4] at em
  have : x.1 ^ vl x.1 n * q = x.1 ^ vl x.1 n * (x.1 * (a * c)) := by
    rw [← e]
    refine em.trans ?_
    ac_rfl
  have hp : 0 < x.1 ^ vl x.1 n := Nat.pow_pos (by omega)
  have := Nat.eq_of_mul_eq_mul_left hp this
  rw [this, Nat.mul_mod_right] at hq
  exact hq rfl
/-- the pieces of a number -/
def pieces (n most : Nat) : List Nat := great n most :: (small n most).map fun x => x.1 ^ x.2
theorem pieces_cop {n : Nat} (most : Nat) (hn : 1 ≤ n) : Cop (pieces n most) := by
  refine ⟨fun y hy => ?_, small_cop n most⟩
  obtain ⟨x, hx, rfl⟩ := List.mem_map.mp hy
  exact Nat.Coprime.pow_right _ (pr_no (small_mem hx).1 (great_no hn hx))
theorem pieces_prod {n : Nat} (most : Nat) (hn : 1 ≤ n) : prodN (pieces n most) = n := by
  unfold pieces
  rw [prodN_cons]
  exact (great_mul most hn).symm
theorem pieces_pos {n most : Nat} (hn : 1 ≤ n) {x : Nat} (h : x ∈ pieces n most) : 1 ≤ x ∧ x ≤ n := by
  have hd : x ∣ n := by
    have := prod_dvd h
    rw [pieces_prod most hn] at this
    exact this
  exact ⟨Nat.pos_of_dvd_of_pos hd hn, Nat.le_of_dvd hn hd⟩
theorem small_len (n most : Nat) : (small n most).length ≤ 5 := by
  unfold small
  rw [List.length_map]
  exact Nat.le_trans (List.length_filter_le _ _) (Nat.le_refl 5)

/-! ### common divisors -/
def gcdL (m : Nat) (ns : List Int) : Nat := ns.foldl (fun d n => Nat.gcd d n.natAbs) m
theorem gcdL_nil (m : Nat) : gcdL m [] = m := rfl
theorem gcdL_cons (m : Nat) (n : Int) (ns : List Int) : gcdL m (n :: ns) = gcdL (Nat.gcd m n.natAbs) ns := rfl
theorem gcdL_app (m : Nat) (ns ks : List Int) : gcdL m (ns ++ ks) = gcdL (gcdL m ns) ks := List.foldl_append
theorem gcdL_dvd : ∀ (ns : List Int) (m : Nat), gcdL m ns ∣ m
  | [], m => Nat.dvd_refl m
  | n :: ns, m => Nat.dvd_trans (gcdL_dvd ns _) (Nat.gcd_dvd_left m n.natAbs)
theorem gcdL_pos {m : Nat} (h : 1 ≤ m) (ns : List Int) : 1 ≤ gcdL m ns := Nat.pos_of_dvd_of_pos (gcdL_dvd ns m) h
theorem gcdL_le {m : Nat} (h : 1 ≤ m) (ns : List Int) : gcdL m ns ≤ m := Nat.le_of_dvd h (gcdL_dvd ns m)
/-- the common divisor of all -/
def gcdA (ns : List Int) : Nat := gcdL 0 ns
theorem gcdL_A : ∀ (ns : List Int) (m : Nat), gcdL m ns = Nat.gcd m (gcdA ns)
  | [], m => (Nat.gcd_zero_right m).symm
  | n :: ns, m => by
    have e : gcdA (n :: ns) = Nat.gcd n.natAbs (gcdA ns) := by
      unfold gcdA
      rw [gcdL_cons, Nat.gcd_zero_left, gcdL_A ns n.natAbs]
      rfl
    rw [gcdL_cons, gcdL_A ns, e, Nat.gcd_assoc]
theorem gcdA_app (ns ks : List Int) : gcdA (ns ++ ks) = Nat.gcd (gcdA ns) (gcdA ks) := by
  unfold gcdA
  rw [gcdL_app, gcdL_A]
  rfl
theorem gcdA_rev : ∀ ns : List Int, gcdA ns.reverse = gcdA ns
  | [] => rfl
  | n :: ns => by
    rw [List.reverse_cons, gcdA_app, gcdA_rev ns, Nat.gcd_comm]
    show _ = gcdL _ ns
    rw [gcdL_A]
    rfl
theorem gcdL_rev (m : Nat) (ns : List Int) : gcdL m ns.reverse = gcdL m ns := by rw [gcdL_A, gcdA_rev, ← gcdL_A]
theorem gcdL_again (m : Nat) (ns : List Int) : gcdL m (ns ++ [((gcdL m ns : Nat) : Int)]) = gcdL m ns := by
  rw [gcdL_app, gcdL_cons, gcdL_nil]
  exact Nat.gcd_self _
theorem gcdL_one {m : Nat} (ns : List Int) : gcdL m [((gcdL m ns : Nat) : Int)] = gcdL m ns := by
  rw [gcdL_cons, gcdL_nil]
  exact Nat.gcd_eq_right (gcdL_dvd ns m)
theorem gcd_prod (g : Nat) : ∀ l : List Nat, Cop l → Nat.gcd (prodN l) g = prodN (l.map fun x => Nat.gcd x g)
  | [], _ => by rw [prodN_nil, List.map_nil, prodN_nil, Nat.gcd_one_left]
  | x :: l, h => by
    rw [prodN_cons, List.map_cons, prodN_cons, ← gcd_prod g l h.2, Nat.gcd_comm, Nat.Coprime.gcd_mul g (cop_prod h.1), Nat.gcd_comm g x, Nat.gcd_comm g (prodN l)]
theorem gcdL_prod {l : List Nat} (h : Cop l) (ns : List Int) : gcdL (prodN l) ns = prodN (l.map fun x => gcdL x ns) := by
  rw [gcdL_A, gcd_prod _ l h]
  congr 1
  exact List.map_congr_left fun x _ => (gcdL_A ns x).symm
/-! the way by remainders, with multipliers -/
structure Bz (a0 b0 a b : Nat) (s t u v : Int) : Prop where
  e1 : (a : Int) = s * a0 + t * b0
  e2 : (b : Int) = u * a0 + v * b0
  g : Nat.gcd a b = Nat.gcd a0 b0
  k1 : s.natAbs * b + u.natAbs * a = b0
  k2 : t.natAbs * b + v.natAbs * a = a0
  s1 : 0 ≤ s ∧ u ≤ 0 ∧ t ≤ 0 ∧ 0 ≤ v ∨ s ≤ 0 ∧ 0 ≤ u ∧ 0 ≤ t ∧ v ≤ 0
  m1 : s.natAbs ≤ b0 + 1 ∧ t.natAbs ≤ a0 + 1 ∧ u.natAbs ≤ b0 + 1 ∧ v.natAbs ≤ a0 + 1
theorem Bz.start (a0 b0 : Nat) : Bz a0 b0 a0 b0 1 0 0 1 :=
  ⟨by omega, by omega, rfl, by simp, by simp, .inl ⟨by omega, by omega, by omega, by omega⟩, ⟨by simp, by simp, by simp, by simp⟩⟩
theorem mul_le_of {x b n : Nat} (h : x * b ≤ n) (hb : 1 ≤ b) : x ≤ n := Nat.le_trans (Nat.le_mul_of_pos_right x hb) h
theorem Bz.step {a0 b0 a b : Nat} {s t u v : Int} (z : Bz a0 b0 a b s t u v) (hb : 1 ≤ b) : Bz a0 b0 b (a % b) u v (s - (a / b : Nat) * u) (t - (a / b : Nat) * v) := by
  obtain ⟨e1, e2, g, k1, k2, s1, m1⟩ := z
  have hd := Nat.div_add_mod a b
  have hdI : (b : Int) * (a / b : Nat) + (a % b : Nat) = a := by
    rw [← hd]
    simp [hd]
    exact_mod_cast hd
  have neg : ∀ {x y : Int} {q : Nat}, (0 ≤ x ∧ y ≤ 0 ∨ x ≤ 0 ∧ 0 ≤ y) → (x - q * y).natAbs = x.natAbs + q * y.natAbs := fun {x y q} h => by
    rcases h with ⟨h1, h2⟩ | ⟨h1, h2⟩
    · have : (q : Int) * y ≤ 0 := Int.mul_nonpos_of_nonneg_of_nonpos (by omega) h2
      have e : ((q * y.natAbs : Nat) : Int) = -(q * y) := by
        rw [Int.natCast_mul, show ((y.natAbs : Nat) : Int) = -y by omega, Int.mul_neg]
      omega
    · have : 0 ≤ (q : Int) * y := Int.mul_nonneg (by omega) h2
      have e : ((q * y.natAbs : Nat) : Int) = q * y := by
        rw [Int.natCast_mul, show ((y.natAbs : Nat) : Int) = y by omega]
      omega
  have n1 : (s - (a / b : Nat) * u).natAbs = s.natAbs + (a / b) * u.natAbs := neg (s1.imp (fun h => ⟨h.1, h.2.1⟩) (fun h => ⟨h.1, h.2.1⟩))
  have n2 : (t - (a / b : Nat) * v).natAbs = t.natAbs + (a / b) * v.natAbs := neg (s1.symm.imp (fun h => ⟨h.2.2.1, h.2.2.2⟩) (fun h => ⟨h.2.2.1, h.2.2.2⟩))
  have kk : ∀ x y c : Nat, x * b + y * a = c → y * (a % b) + (x + a / b * y) * b = c := fun x y c h => by
    rw [← h, Nat.add_mul]
    have : y * a = y * (b * (a / b) + a % b) := by rw [hd]
    rw [this, Nat.mul_add]
    have : a / b * y * b = y * (b * (a / b)) := by ac_rfl
    omega
  have l1 := kk _ _ _ k1
  have l2 := kk _ _ _ k2
  refine ⟨e2, ?_, ?_, ?_, ?_, ?_, ⟨m1.2.2.1, m1.2.2.2, ?_, ?_⟩⟩
  · have : ((a % b : Nat) : Int) = a - b * (a / b : Nat) := by omega
    rw [this, e1, e2]
    simp only [Int.sub_mul, Int.add_mul]
    have x1 : (a / b : Nat) * u * (a0 : Int) = u * a0 * (a / b : Nat) := by ac_rfl
    have x2 : (a / b : Nat) * v * (b0 : Int) = v * b0 * (a / b : Nat) := by ac_rfl
    rw [x1, x2]
    omega
  · rw [← g, Nat.gcd_comm b, ← Nat.gcd_rec, Nat.gcd_comm]
  · rw [n1]; exact l1
  · rw [n2]; exact l2
  · have q0 : (0 : Int) ≤ (a / b : Nat) := Int.natCast_nonneg _
    rcases s1 with ⟨h1, h2, h3, h4⟩ | ⟨h1, h2, h3, h4⟩
    · have : ((a / b : Nat) : Int) * u ≤ 0 := Int.mul_nonpos_of_nonneg_of_nonpos q0 h2
      have : 0 ≤ ((a / b : Nat) : Int) * v := Int.mul_nonneg q0 h4
      exact .inr ⟨h2, by omega, h4, by omega⟩
    · have : 0 ≤ ((a / b : Nat) : Int) * u := Int.mul_nonneg q0 h2
      have : ((a / b : Nat) : Int) * v ≤ 0 := Int.mul_nonpos_of_nonneg_of_nonpos q0 h4
      exact .inl ⟨h2, by omega, h4, by omega⟩
  · rw [n1]
    have := mul_le_of (x := s.natAbs + a / b * u.natAbs) (b := b) (n := b0) (by omega) hb
    omega
  · rw [n2]
    have := mul_le_of (x := t.natAbs + a / b * v.natAbs) (b := b) (n := a0) (by omega) hb
    omega
theorem Bz.end_ {a0 b0 a b : Nat} {s t u v : Int} (z : Bz a0 b0 a b s t u v) (hb : b = 0) : a = Nat.gcd a0 b0 := by
  rw [← z.g, hb, Nat.gcd_zero_right]

/-! ### remainders put together -/
/-- x leaves the remainders r by the divisors d -/
def Lvs (x : Int) (ps : List (Int × Nat)) : Prop := ∀ p ∈ ps, ((p.2 : Nat) : Int) ∣ x - p.1
theorem dvd_prod {y : Int} : ∀ {l : List Nat}, Cop l → (∀ d ∈ l, ((d : Nat) : Int) ∣ y) → ((prodN l : Nat) : Int) ∣ y
  | [], _, _ => by rw [prodN_nil]; exact Int.one_dvd y
  | d :: l, h, q => by
    rw [prodN_cons]
    have h1 := Int.natAbs_dvd_natAbs.mpr (q d List.mem_cons_self)
    have h2 := Int.natAbs_dvd_natAbs.mpr (dvd_prod h.2 fun z hz => q z (List.mem_cons_of_mem _ hz))
    rw [Int.natAbs_natCast] at h1 h2
    refine Int.natAbs_dvd_natAbs.mp ?_
    rw [Int.natAbs_natCast]
    exact Nat.Coprime.mul_dvd_of_dvd_of_dvd (cop_prod h.1) h1 h2
/-- the only one below the product -/
theorem lvs_uniq {x y : Int} {ps : List (Int × Nat)} (hc : Cop (ps.map (·.2))) (hx : Lvs x ps) (hy : Lvs y ps) (x0 : 0 ≤ x) (x1 : x < (prodN (ps.map (·.2)) : Nat)) (y0 : 0 ≤ y) (y1 : y < (prodN (ps.map (·.2)) : Nat)) : x = y := by
  have h : ((prodN (ps.map (·.2)) : Nat) : Int) ∣ x - y := dvd_prod hc fun d hd => by
    obtain ⟨p, hp, rfl⟩ := List.mem_map.mp hd
    have := Int.dvd_sub (hx p hp) (hy p hp)
    rwa [show x - p.1 - (y - p.1) = x - y by omega] at this
  obtain ⟨k, hk⟩ := h
  have hP : (0 : Int) < (prodN (ps.map (·.2)) : Nat) := by omega
  rcases Int.lt_trichotomy k 0 with h | h | h
  · have : ((prodN (ps.map (·.2)) : Nat) : Int) * k ≤ ((prodN (ps.map (·.2)) : Nat) : Int) * (-1) := Int.mul_le_mul_of_nonneg_left (by omega) (by omega)
    omega
  · subst h
    omega
  · have : ((prodN (ps.map (·.2)) : Nat) : Int) * 1 ≤ ((prodN (ps.map (·.2)) : Nat) : Int) * k := Int.mul_le_mul_of_nonneg_left (by omega) (by omega)
    omega
/-- one step -/
theorem put_step {x : Int} {w : Nat} {ps : List (Int × Nat)} {r : Int} {d : Nat} {i : Int} (hw : w = prodN (ps.map (·.2))) (hx : Lvs x ps) (x0 : 0 ≤ x) (x1 : x < (w : Nat)) (hd : 1 ≤ d) (hi : (d : Int) ∣ i * w - 1) :
    Lvs (x + w * ((r - x) * i % d)) (ps ++ [(r, d)]) ∧ 0 ≤ x + w * ((r - x) * i % d) ∧ x + w * ((r - x) * i % d) < ((w * d : Nat) : Int) := by
  have hdI : (0 : Int) < d := by omega
  have m0 := Int.emod_nonneg ((r - x) * i) (show (d : Int) ≠ 0 by omega)
  have m1 := Int.emod_lt_of_pos ((r - x) * i) hdI
  have p0 : 0 ≤ (w : Int) * ((r - x) * i % d) := Int.mul_nonneg (by omega) m0
  have p1 : (w : Int) * ((r - x) * i % d) ≤ (w : Int) * (d - 1) := Int.mul_le_mul_of_nonneg_left (by omega) (by omega)
  refine ⟨fun p hp => ?_, by omega, ?_⟩
  · rcases List.mem_append.mp hp with hp | hp
    · have h1 := hx p hp
      have h2 : ((p.2 : Nat) : Int) ∣ (w : Int) := by
        rw [hw]
        exact Int.natCast_dvd_natCast.mpr (prod_dvd (List.mem_map.mpr ⟨p, hp, rfl⟩))
      have h3 := Int.dvd_add h1 (Int.dvd_mul_of_dvd_left (c := (r - x) * i % d) h2)
      rwa [show x - p.1 + (w : Int) * ((r - x) * i % d) = x + w * ((r - x) * i % d) - p.1 by omega] at h3
    · obtain rfl := List.mem_singleton.mp hp
      show (d : Int) ∣ x + w * ((r - x) * i % d) - r
      have e : (r - x) * i % d = (r - x) * i - d * ((r - x) * i / d) := Int.emod_def _ _
      rw [e]
      obtain ⟨k, hk⟩ := hi
      refine ⟨(r - x) * k - w * ((r - x) * i / d), ?_⟩
      have e2 : (w : Int) * ((r - x) * i - d * ((r - x) * i / d)) = (r - x) * (i * w) - d * (w * ((r - x) * i / d)) := by
        rw [Int.mul_sub]
        congr 1 <;> ac_rfl
      have e3 : i * (w : Int) = 1 + d * k := by omega
      rw [e2, e3, Int.mul_add, Int.mul_one, Int.mul_sub]
      have e4 : (r - x) * (d * k) = d * ((r - x) * k) := by ac_rfl
      rw [e4]
      omega
  · rw [Int.natCast_mul]
    have e5 : (w : Int) * (d - 1) = w * d - w := by rw [Int.mul_sub, Int.mul_one]
    omega

/-! ### binomials -/
def bin (n : Int) : Nat → Int
  | 0 => 1
  | k + 1 => bin n k * (n - k) / (k + 1)
theorem ediv_natAbs_le (x : Int) {c : Int} (hc : 1 ≤ c) : (x / c).natAbs ≤ x.natAbs := by
  have h := Int.emod_add_mul_ediv x c
  have h0 := Int.emod_nonneg x (show c ≠ 0 by omega)
  have h1 := Int.emod_lt_of_pos x (show 0 < c by omega)
  rcases Int.lt_or_le (x / c) 0 with hq | hq
  · have : c * (x / c) ≤ c * (-1) := Int.mul_le_mul_of_nonneg_left (by omega) (by omega)
    have h2 : 1 * -(x / c + 1) ≤ c * -(x / c + 1) := Int.mul_le_mul_of_nonneg_right hc (by omega)
    have h3 : c * -(x / c + 1) = -(c * (x / c)) - c := by rw [Int.mul_neg, Int.mul_add, Int.mul_one]; omega
    omega
  · have : 1 * (x / c) ≤ c * (x / c) := Int.mul_le_mul_of_nonneg_right hc hq
    omega
theorem bin_bd {n : Int} {a : Nat} (h : n.natAbs + 12 < 2 ^ a) : ∀ k : Nat, k ≤ 12 → (bin n k).natAbs < 2 ^ (a * k + 1)
  | 0, _ => by
    show (1 : Int).natAbs < _
    rw [Nat.mul_zero, Nat.zero_add]
    decide
  | k + 1, hk => by
    have ih := bin_bd h k (by omega)
    show (bin n k * (n - k) / (k + 1)).natAbs < _
    refine Nat.lt_of_le_of_lt (ediv_natAbs_le _ (by omega)) ?_
    rw [Int.natAbs_mul, show a * (k + 1) + 1 = (a * k + 1) + a by rw [Nat.mul_add, Nat.mul_one]; omega, Nat.pow_add]
    exact Nat.mul_lt_mul'' ih (by omega)

/-! ### the least divisor -/
def IsLeast (n p : Nat) : Prop := 2 ≤ p ∧ p ∣ n ∧ ∀ d, 2 ≤ d → d < p → ¬ d ∣ n
theorem least_uniq {n p q : Nat} (a : IsLeast n p) (b : IsLeast n q) : p = q := by
  rcases Nat.lt_trichotomy p q with h | h | h
  · exact absurd a.2.1 (b.2.2 p a.1 h)
  · exact h
  · exact absurd b.2.1 (a.2.2 q b.1 h)
theorem least_self {n b : Nat} (hn : 2 ≤ n) (hb : n < b * b) (h : ∀ d, 2 ≤ d → d < b → ¬ d ∣ n) : IsLeast n n := by
  refine ⟨hn, Nat.dvd_refl n, fun d h2 hd hdv => ?_⟩
  obtain ⟨k, hk⟩ := hdv
  have hdb : b ≤ d := Nat.le_of_not_lt fun z => h d h2 z ⟨k, hk⟩
  have hk2 : 2 ≤ k := by
    rcases k with _ | _ | k
    · omega
    · omega
    · omega
  have hkb : b ≤ k := Nat.le_of_not_lt fun z => h k hk2 z ⟨d, by rw [Nat.mul_comm]; exact hk⟩
  have := Nat.mul_le_mul hdb hkb
  omega
theorem small_first {n : Nat} {x : Nat × Nat} {l : List (Nat × Nat)} (h : small n 12 = x :: l) : IsLeast n x.1 := by
  have key : ∀ p : Nat, (decide (p ≤ 12) && decide (n % p = 0)) = true ↔ p ≤ 12 ∧ n % p = 0 := fun p => by
    rw [Bool.and_eq_true, decide_eq_true_iff, decide_eq_true_iff]
  unfold small PR at h
  have fin : ∀ p : Nat, 2 ≤ p → n % p = 0 → p ≤ 11 → (∀ q ∈ [2, 3, 5, 7, 11], q < p → n % q ≠ 0) → IsLeast n p := fun p h2 h0 h11 hq => by
    refine ⟨h2, Nat.dvd_of_mod_eq_zero h0, fun d hd hdp hdv => ?_⟩
    have hm := Nat.mod_eq_zero_of_dvd hdv
    have q2 := hq 2 (by simp)
    have q3 := hq 3 (by simp)
    have q5 := hq 5 (by simp)
    have q7 := hq 7 (by simp)
    have : d = 2 ∨ d = 3 ∨ d = 4 ∨ d = 5 ∨ d = 6 ∨ d = 7 ∨ d = 8 ∨ d = 9 ∨ d = 10 := by omega
    rcases this with rfl | rfl | rfl | rfl | rfl | rfl | rfl | rfl | rfl <;> omega
  have cons : ∀ (p : Nat) (r : List Nat), ((p :: r).filter fun p => decide (p ≤ 12) && decide (n % p = 0)) = if p ≤ 12 ∧ n % p = 0 then p :: r.filter (fun p => decide (p ≤ 12) && decide (n % p = 0)) else r.filter (fun p => decide (p ≤ 12) && decide (n % p = 0)) := fun p r => by
    by_cases hp : p ≤ 12 ∧ n % p = 0
    · rw [if_pos hp, List.filter_cons_of_pos (p := fun p => decide (p ≤ 12) && decide (n % p = 0)) ((key p).mpr hp)]
    · rw [if_neg hp, List.filter_cons_of_neg (p := fun p => decide (p ≤ 12) && decide (n % p = 0)) (fun z => hp ((key p).mp z))]
  rw [cons 2] at h
  split at h
  · rename_i c
    injection h with h1 _
    subst h1
    exact fin 2 (by omega) c.2 (by omega) (by simp)
  rename_i c2
  rw [cons 3] at h
  split at h
  · rename_i c
    injection h with h1 _
    subst h1
    exact fin 3 (by omega) c.2 (by omega) (by simp; omega)
  rename_i c3
  rw [cons 5] at h
  split at h
  · rename_i c
    injection h with h1 _
    subst h1
    exact fin 5 (by omega) c.2 (by omega) (by simp; omega)
  rename_i c5
  rw [cons 7] at h
  split at h
  · rename_i c
    injection h with h1 _
    subst h1
    exact fin 7 (by omega) c.2 (by omega) (by simp; omega)
  rename_i c7
  rw [cons 11] at h
  split at h
  · rename_i c
    injection h with h1 _
    subst h1
    exact fin 11 (by omega) c.2 (by omega) (by simp; omega)
  · cases h
end My
namespace My
theorem pow_lt2 {b a : Nat} (h : b < 2 ^ a) (i : Nat) : b ^ i < 2 ^ (a * i + 1) := by
  have h1 : b ^ i ≤ (2 ^ a) ^ i := Nat.pow_le_pow_left (by omega) i
  rw [← Nat.pow_mul] at h1
  rw [Nat.pow_succ]
  have : 0 < 2 ^ (a * i) := Nat.pow_pos (by omega)
  omega
theorem natAbs_if (r : Int) : (if r < 0 then -r else r) = (r.natAbs : Int) := by
  split <;> omega
theorem gcd_mod {g m k : Nat} {r : Int} (h : g ∣ m) (hk : r % (m : Int) = k) : Nat.gcd g k = Nat.gcd g r.natAbs := by
  have e : (k : Int) = r - m * (r / m) := by rw [← hk, Int.emod_def]
  have h1 : (g : Int) ∣ (m : Int) * (r / m) := Int.dvd_mul_of_dvd_left (Int.natCast_dvd_natCast.mpr h)
  refine Nat.dvd_antisymm ?_ ?_
  · refine Nat.dvd_gcd (Nat.gcd_dvd_left g k) ?_
    have a1 : ((Nat.gcd g k : Nat) : Int) ∣ (k : Int) := Int.natCast_dvd_natCast.mpr (Nat.gcd_dvd_right g k)
    have a2 : ((Nat.gcd g k : Nat) : Int) ∣ (m : Int) * (r / m) := Int.dvd_trans (Int.natCast_dvd_natCast.mpr (Nat.gcd_dvd_left g k)) h1
    have a3 := Int.dvd_add a1 a2
    rw [e, Int.sub_add_cancel] at a3
    have a4 := Int.natAbs_dvd_natAbs.mpr a3
    rwa [Int.natAbs_natCast] at a4
  · refine Nat.dvd_gcd (Nat.gcd_dvd_left g _) ?_
    have a1 : ((Nat.gcd g r.natAbs : Nat) : Int) ∣ r := by
      refine Int.natAbs_dvd_natAbs.mp ?_
      rw [Int.natAbs_natCast]
      exact Nat.gcd_dvd_right g _
    have a2 : ((Nat.gcd g r.natAbs : Nat) : Int) ∣ (m : Int) * (r / m) := Int.dvd_trans (Int.natCast_dvd_natCast.mpr (Nat.gcd_dvd_left g _)) h1
    have a3 := Int.dvd_sub a1 a2
    rw [← e] at a3
    exact Int.natCast_dvd_natCast.mp a3
theorem cop_app {d : Nat} : ∀ {l m : List Nat}, Cop (l ++ d :: m) → Nat.Coprime (prodN l) d
  | [], _, _ => by rw [prodN_nil]; exact Nat.coprime_one_left d
  | x :: l, m, h => by
    rw [prodN_cons]
    exact Nat.Coprime.mul_left (h.1 d (List.mem_append_right _ List.mem_cons_self)) (cop_app h.2)
theorem cop_at {ps : List (Int × Nat)} {i : Nat} {x : Int × Nat} (h : Cop (ps.map (·.2))) (hx : ps[i]? = some x) : Nat.gcd (prodN ((ps.map (·.2)).take i)) x.2 = 1 := by
  obtain ⟨hi, e⟩ := List.getElem?_eq_some_iff.mp hx
  have e2 : ps = ps.take i ++ x :: ps.drop (i + 1) := by
    rw [← e, List.getElem_cons_drop, List.take_append_drop]
  rw [e2, List.map_append, List.map_cons] at h
  rw [← List.map_take]
  exact cop_app h
theorem prod_bd {B : Nat} : ∀ {ps : List (Int × Nat)}, (∀ x ∈ ps, x.2 ≤ B) → prodN (ps.map (·.2)) ≤ B ^ ps.length
  | [], _ => by rw [List.map_nil, prodN_nil, List.length_nil, Nat.pow_zero]; exact Nat.le_refl 1
  | x :: ps, h => by
    rw [List.map_cons, prodN_cons, List.length_cons, Nat.pow_succ, Nat.mul_comm]
    exact Nat.mul_le_mul (prod_bd fun y hy => h y (List.mem_cons_of_mem _ hy)) (h x List.mem_cons_self)
theorem pw_lt {n : Nat} (h : n ≤ 19) : (1000000000000000000000000000000 : Nat) ^ n < 2 ^ 2000 :=
  Nat.lt_of_le_of_lt (Nat.pow_le_pow_left (show 1000000000000000000000000000000 ≤ 2 ^ 100 by decide) n) (by rw [← Nat.pow_mul]; exact Nat.pow_lt_pow_right (by decide) (by omega))
theorem inv_ok {d w : Nat} {s t : Int} (h : ((Nat.gcd d (w % d) : Nat) : Int) = s * d + t * (w % d : Nat)) (hc : Nat.gcd d (w % d) = 1) : (d : Int) ∣ t * w - 1 := by
  rw [hc] at h
  have e : (w : Int) = d * (w / d : Nat) + (w % d : Nat) := by
    have := Nat.div_add_mod w d
    exact_mod_cast this.symm
  refine ⟨t * (w / d : Nat) - s, ?_⟩
  rw [e, Int.mul_add, Int.mul_sub]
  have e2 : t * ((d : Int) * (w / d : Nat)) = d * (t * (w / d : Nat)) := by ac_rfl
  have e3 : s * (d : Int) = d * s := Int.mul_comm _ _
  rw [e2]
  omega
end My

namespace My
open G (InR)
/-- multipliers for some numbers, below m -/
def sumM (ms ns : List Int) : Int := (List.zipWith (· * ·) ms ns).sum
def MulOk (m : Nat) (ns ms : List Int) (g : Nat) : Prop := ms.length = ns.length ∧ InR m ms ∧ (m : Int) ∣ sumM ms ns - g
theorem sumM_app : ∀ {ms ns : List Int} {a b : Int}, ms.length = ns.length → sumM (ms ++ [a]) (ns ++ [b]) = sumM ms ns + a * b
  | [], [], a, b, _ => by simp [sumM]
  | [], _ :: _, _, _, h => by simp at h
  | _ :: _, [], _, _, h => by simp at h
  | x :: ms, y :: ns, a, b, h => by
    have ih := sumM_app (ms := ms) (ns := ns) (a := a) (b := b) (by simpa using h)
    unfold sumM at ih ⊢
    rw [List.cons_append, List.cons_append, List.zipWith_cons_cons, List.zipWith_cons_cons, List.sum_cons, List.sum_cons, ih]
    omega
theorem sumM_mul {m : Nat} {s : Int} : ∀ {ms ns : List Int}, (m : Int) ∣ sumM (ms.map fun x => x * s % m) ns - s * sumM ms ns
  | [], _ => by simp [sumM]
  | _ :: _, [] => by simp [sumM]
  | x :: ms, y :: ns => by
    have ih := sumM_mul (m := m) (s := s) (ms := ms) (ns := ns)
    unfold sumM at ih ⊢
    rw [List.map_cons, List.zipWith_cons_cons, List.zipWith_cons_cons, List.sum_cons, List.sum_cons]
    have e : x * s % (m : Int) = x * s - m * (x * s / m) := Int.emod_def _ _
    have h1 : (m : Int) ∣ (x * s % m) * y - s * (x * y) := by
      refine ⟨-(x * s / m * y), ?_⟩
      rw [e, Int.sub_mul]
      have e1 : x * s * y = s * (x * y) := by ac_rfl
      have e2 : (m : Int) * (x * s / m) * y = m * (x * s / m * y) := by ac_rfl
      rw [e1, e2, Int.mul_neg]
      omega
    have h2 := Int.dvd_add h1 ih
    rw [Int.mul_add]
    refine (show ∀ a b : Int, a = b → (m : Int) ∣ a → (m : Int) ∣ b from fun a b e h => e ▸ h) _ _ ?_ h2
    omega
theorem mulOk_step {m : Nat} {ns ms : List Int} {g k : Nat} {r s t : Int} (hm : 1 ≤ m) (h1 : ms.length = ns.length) (h2 : InR m ms) (h3 : (m : Int) ∣ sumM ms ns - g) (hst : ((Nat.gcd g k : Nat) : Int) = s * g + t * k) (hk : r % (m : Int) = k) :
    MulOk m (ns ++ [r]) (ms.map (fun x => x * s % m) ++ [t % m]) (Nat.gcd g k) := by
  have hm0 : (m : Int) ≠ 0 := by omega
  have hm1 : (0 : Int) < m := by omega
  refine ⟨by rw [List.length_append, List.length_append, List.length_map, h1] <;> rfl, fun x hx => ?_, ?_⟩
  · rcases List.mem_append.mp hx with hx | hx
    · obtain ⟨y, _, rfl⟩ := List.mem_map.mp hx
      exact ⟨Int.emod_nonneg _ hm0, Int.emod_lt_of_pos _ hm1⟩
    · rw [List.mem_singleton.mp hx]
      exact ⟨Int.emod_nonneg _ hm0, Int.emod_lt_of_pos _ hm1⟩
  · rw [sumM_app (by rw [List.length_map]; exact h1)]
    have a1 := sumM_mul (m := m) (s := s) (ms := ms) (ns := ns)
    have a2 : (m : Int) ∣ s * (sumM ms ns - g) := Int.dvd_mul_of_dvd_right h3
    have a3 : (m : Int) ∣ t % m * r - t * k := by
      have e1 : t % (m : Int) = t - m * (t / m) := Int.emod_def _ _
      have e2 : (k : Int) = r - m * (r / m) := by rw [← hk, Int.emod_def]
      refine ⟨t * (r / m) - t / m * r, ?_⟩
      rw [e1, e2, Int.sub_mul, Int.mul_sub, Int.mul_sub]
      have x1 : (m : Int) * (t / m) * r = m * (t / m * r) := by ac_rfl
      have x2 : t * ((m : Int) * (r / m)) = m * (t * (r / m)) := by ac_rfl
      rw [x1, x2]
      omega
    have a4 := Int.dvd_add (Int.dvd_add a1 a2) a3
    refine (show ∀ a b : Int, a = b → (m : Int) ∣ a → (m : Int) ∣ b from fun a b e h => e ▸ h) _ _ ?_ a4
    rw [hst, Int.mul_sub]
    omega
end My

namespace My
theorem emod_sub {d m : Nat} {v : Int} (h : d ∣ m) : (d : Int) ∣ v % (m : Int) - v := by
  rw [Int.emod_def, show v - (m : Int) * (v / m) - v = -((m : Int) * (v / m)) by omega]
  exact Int.dvd_neg.mpr (Int.dvd_mul_of_dvd_left (Int.natCast_dvd_natCast.mpr h))
theorem emod_sub2 {d m : Nat} {v : Int} (h : d ∣ m) : (d : Int) ∣ v % (m : Int) - v % (d : Int) := by
  have h1 := emod_sub (v := v) h
  have h2 := emod_sub (d := d) (m := d) (v := v) (Nat.dvd_refl d)
  have := Int.dvd_sub h1 h2
  rwa [show v % (m : Int) - v - (v % (d : Int) - v) = v % (m : Int) - v % (d : Int) by omega] at this
theorem prod_le {f : Nat → Nat} : ∀ {l : List Nat}, (∀ d ∈ l, f d ≤ d) → prodN (l.map f) ≤ prodN l
  | [], _ => Nat.le_refl _
  | x :: l, h => by
    rw [List.map_cons, prodN_cons, prodN_cons]
    exact Nat.mul_le_mul (h x List.mem_cons_self) (prod_le fun d hd => h d (List.mem_cons_of_mem _ hd))
end My

set_option Elab.async false
set_option linter.all false
set_option maxRecDepth 100000
set_option maxHeartbeats 4000000
/-! HI: what repr shows of tuples of integers. -/
namespace G
open PySem PySem.Spec PyProof.Rows L2
def Sm (n : Int) : Prop := n.natAbs < 2 ^ 200
theorem sm_log {n : Int} (h : Sm n) : n.natAbs.log2 < 200 := by
  by_cases z : n.natAbs = 0
  · rw [z]
    decide
  · exact (Nat.log2_lt z).mpr h
theorem py_ints : ∀ ns : List Int, pyL (nums ns) = some (ns.map PyData.int)
  | [] => rfl
  | n :: ns => by
    have ih := py_ints ns
    show (match pyD (.int n), pyL (nums ns) with
      | some a, some b => some (a :: b)
      | _, _ => none) = _
    rw [ih]
    rfl
theorem sh_ints : ∀ ns : List Int, (∀ n ∈ ns, Sm n) → PyData.showableAll (ns.map PyData.int) = true
  | [], _ => rfl
  | n :: ns, h => by
    have ih := sh_ints ns fun y hy => h y (List.mem_cons_of_mem _ hy)
    rw [List.map_cons, PyData.showableAll, ih, Bool.and_true]
    simp [PyData.showable]
    exact Nat.lt_trans (sm_log (h n List.mem_cons_self)) (by decide)
theorem dp_ints : ∀ ns : List Int, PyData.depthAll (ns.map PyData.int) ≤ 3
  | [] => by simp [PyData.depthAll]
  | n :: ns => by
    have ih := dp_ints ns
    rw [List.map_cons, PyData.depthAll]
    simp [PyData.depth]
    omega
theorem ln_int {n : Int} (h : Sm n) : (PyData.int n).shown.length ≤ 201 := by
  have k := int_text_length_le (k := 200) (by decide) (sm_log h)
  have e : (PyData.int n).shown.length = (toString n).length := by
    show (Str.ofString (toString n)).length = _
    rw [PySem.ofString_length]
  omega
theorem ln_ints : ∀ ns : List Int, (∀ n ∈ ns, Sm n) → ((PyData.shownAll (ns.map PyData.int)).map (·.length)).sum ≤ 201 * ns.length ∧ (PyData.shownAll (ns.map PyData.int)).length = ns.length
  | [], _ => ⟨by simp [PyData.shownAll], rfl⟩
  | n :: ns, h => by
    obtain ⟨i1, i2⟩ := ln_ints ns fun y hy => h y (List.mem_cons_of_mem _ hy)
    have k := ln_int (h n List.mem_cons_self)
    rw [List.map_cons, PyData.shownAll]
    refine ⟨?_, by rw [List.length_cons, List.length_cons, i2]⟩
    rw [List.map_cons, List.sum_cons, List.length_cons]
    omega
theorem ln_tup {ns : List Int} (h : ∀ n ∈ ns, Sm n) (hl : ns.length ≤ 100) : (PyData.tuple (ns.map PyData.int)).shown.length ≤ 40000 := by
  rw [PyData.shown]
  obtain ⟨k1, k2⟩ := ln_ints ns h
  have := tupleText_len_le (PyData.shownAll (ns.map PyData.int))
  rw [k2] at this
  omega
theorem shows_tup {ns : List Int} (h : ∀ n ∈ ns, Sm n) (hl : ns.length ≤ 100) : Shows (.tup (nums ns)) (.tuple (ns.map PyData.int)) := by
  refine ⟨?_, ?_, ?_, ?_⟩
  · show (pyL (nums ns)).map PyData.tuple = _
    rw [py_ints]
    rfl
  · rw [PyData.showable]
    exact sh_ints ns h
  · rw [PyData.depth]
    have := dp_ints ns
    omega
  · have := ln_tup h hl
    rw [sizeLine_eq]
    omega
theorem shows_two {ns ms : List Int} (h : ∀ n ∈ ns, Sm n) (hl : ns.length ≤ 100) (h2 : ∀ n ∈ ms, Sm n) (hl2 : ms.length ≤ 100) : Shows (.tup [.tup (nums ns), .tup (nums ms)]) (.tuple [.tuple (ns.map PyData.int), .tuple (ms.map PyData.int)]) := by
  refine ⟨?_, ?_, ?_, ?_⟩
  · show (match (pyL (nums ns)).map PyData.tuple, (match (pyL (nums ms)).map PyData.tuple, some [] with
      | some a, some b => some (a :: b)
      | _, _ => none) with
      | some a, some b => some (a :: b)
      | _, _ => none).map PyData.tuple = _
    rw [py_ints, py_ints]
    rfl
  · simp [PyData.showable, PyData.showableAll]
    exact ⟨sh_ints ns h, sh_ints ms h2⟩
  · simp [PyData.depth, PyData.depthAll]
    have := dp_ints ns
    have := dp_ints ms
    omega
  · have a := ln_tup h hl
    have b := ln_tup h2 hl2
    have c := tupleText_len_le [(PyData.tuple (ns.map PyData.int)).shown, (PyData.tuple (ms.map PyData.int)).shown]
    simp only [List.map_cons, List.map_nil, List.sum_cons, List.sum_nil, List.length_cons, List.length_nil] at c
    rw [PyData.shown, PyData.shownAll, PyData.shownAll, PyData.shownAll, sizeLine_eq]
    omega
theorem strOk_of (s : String) : PyData.strOk (Str.ofString s) = true := by
  unfold PyData.strOk
  rw [Str.ofString_eq_toList, List.all_toArray, List.all_eq_true]
  intro c hc
  obtain ⟨ch, _, rfl⟩ := List.mem_map.mp hc
  have h := ch.valid
  have e : ch.toNat = ch.val.toNat := rfl
  unfold UInt32.isValidChar Nat.isValidChar at h
  rw [e]
  exact decide_eq_true (by omega)
theorem pl_int_shown (k : Nat) (n : Int) : pl k (.str (PyData.int n).shown) = true := by
  have e : (PyData.int n).shown = Str.ofString (toString n) := rfl
  rw [e]
  cases k <;> (simp only [pl, PyData.canLay0]; exact strOk_of _)
theorem shows_int {n : Int} (h : Sm n) : Shows (.int n) (.int n) := by
  have h2 : n.natAbs.log2 < 1920 := Nat.lt_trans (sm_log h) (by decide)
  exact ⟨rfl, decide_eq_true h2, Nat.le_of_ble_eq_true rfl, int_text_fits h2⟩
end G

set_option Elab.async false
set_option linter.all false
set_option maxRecDepth 100000
set_option maxHeartbeats 4000000
/-! HJ: loops over an instance whose __iter__ gives iter(a tuple it holds). -/
namespace G
open PySem PySem.Spec PyProof.Rows L2
/-- a tuple's iterator, tracked -/
def ItT (l it : Addr) (i : Nat) : HO := .ext fun h => h.IsTupleIter it l i
theorem itT_ok {P : Program} {w : World} {H : Hp} {h : Heap} {l it : Addr} {i : Nat} (e : h.IsTupleIter it l i) : ObjOk P w H h it (ItT l it i) :=
  ⟨e, e.imp fun _ z => z.1, fun _ _ q k => q.at fun _ z => k _ z⟩
/-- iter(a tuple) -/
def rIterT (K : PySem.W.Frag) (n : Nat) : List V → Hp → VK → Prop := fun vs H Q => ∃ l zs, vs = [V.ref l] ∧ SqT K H l zs ∧ ∀ it, H it = none → n ≤ it → Q (.ref it) (upd H it (ItT l it 0))
theorem call_iterT (K : PySem.W.Frag) {X : Cx} {n : Nat} (hn : X.s_0.heap.objs.size = n) (hK : X.K = K := by rfl) : CallR X (.builtin "iter") (rIterT K n) := by
  subst hK hn
  rintro pins s σ H vs us Q I r ⟨l, zs, rfl, sq, q⟩
  obtain ⟨u, rfl, ru⟩ := r.one
  cases (show u = Value.ref l from ru)
  obtain ⟨its, _, at_, _⟩ := I.tuple sq
  refine Calls.call_function_entry (by decide +kernel) (by decide +kernel) PySem.W.kdk_entry_iter (PySem.W.kdk_args_iter _) ?_
  show wpAny _ _ (someArgs "iter" 1 2 _ >>= _) _ _ _
  refine wpAny_bind (wpAny_of_eq (a := [Value.ref l]) (by first | rfl | kernel_rfl!) ?_)
  refine wpAny_bind (m := pyIter (.ref l)) (wpAny_pyIter_tuple (items := its.toArray) at_ (wpAny_pure ⟨_, rfl, ?_⟩))
  have new : Heap.IsTupleIter (s.heap.push { cls := .type "tuple_iterator", data := .fields #[.ref l, .int 0 0] }) s.heap.objs.size l 0 := ⟨_, Heap.get?_push_size _ rfl, rfl, rfl⟩
  exact ⟨.ref s.heap.objs.size, upd H s.heap.objs.size (ItT l s.heap.objs.size 0), I.laid (t' := s.toks) (fun _ _ z => Heap.get?_push_of_some _ z) (Nat.le_refl _) (itT_ok new), rfl, q _ (I.hok.fresh (Nat.le_refl _)) I.sz⟩
/-- the field that __iter__ walks -/
def spIt (K : PySem.W.Frag) (C : Addr) (f : Str) (n : Nat) : Sp := fun vs H Q _ => ∃ x dx fs l zs, vs = [V.ref x] ∧ H x = some (.ins C dx fs) ∧ fs.lookup f = some (.ref l) ∧ SqT K H l zs ∧ ∀ it, H it = none → n ≤ it → Q (.ref it) (upd H it (ItT l it 0))
/-- what __iter__ promises: a new iterator of the tuple that the field holds -/
def FnIt (P : Program) (w : World) (K : PySem.W.Frag) (mg : Str → Option Value) (base : Heap) (k : Nat) (g C : Addr) (f : Str) : Prop :=
  ∀ (A : Around) (outer : List Env) (s : Shared) (H : Hp) (us : List Value) (vs : List V) (Q : VK) (E : XK), Room k A → Env0 P w K mg base A outer s H → Vals vs us → spIt K C f s.heap.objs.size vs H Q E →
    codeAny (model P w) A (.call (.ref g) ⟨us, []⟩) (CR (L2.CX P w) outer P w H s Q E) s
theorem fnIt {P : Program} {w : World} {K : PySem.W.Frag} {mg : Str → Option Value} {base : Heap} {k : Nat} {x qual a : Str} {params : Arguments} {body : List Stmt} {scope : Scope} {g C : Addr} {fd : FuncData} {f : Str}
    (F : FunD K x qual params body scope [] [] g fd) (S : FnScope [a] [a] scope) (hb : Binds K fd [a] [])
    (h : ∀ (cdv : Value) (A : Around) (outer : List Env) (s : Shared) (H : Hp) (Q : VK) (E : XK), Room k (A.deeper (envOfC qual scope s.heap.objs.size g cdv)) →
      ∃ t, PSs (cxOf (L2.CX P w) P w K mg base [a] qual scope g cdv A outer s H E) body t ∧ ∀ v, spIt K C f s.heap.objs.size [v] H Q E → t { nx := fun _ H' => Q .non H', rt := Q } (L2.start [a] [v]) H) :
    FnIt P w K mg base (k + 1) g C f := by
  obtain ⟨⟨oc, od, dV, kV, doc, pm, an, cdv, ct, osl, rfl, lk, hcd, _⟩, _⟩ := F
  intro A outer s H us vs Q E hr e0 r hs
  obtain ⟨v, rfl⟩ : ∃ v, vs = [v] := by
    obtain ⟨x, _, _, _, _, e, _⟩ := hs
    exact ⟨_, e⟩
  have hb1 := hb s us (e0.mod.kin.keeps fun b o e => (e0.bs b o e).1) (by rw [List.append_nil, ← r.length]; rfl)
  rw [List.append_nil] at hb1
  refine LamX.run_ofS lk hcd S hr e0 hb1 r rfl fun hr1 => ?_
  obtain ⟨t, t1, t2⟩ := h cdv A outer s H Q E hr1
  exact ⟨t, t1, t2 v hs⟩
/-- the field of an instance of C -/
def tFldC (C : Addr) (ta : TE) (f : Str) : TE := fun σ H Q => ta σ H fun x H1 => ∃ a dx fs v, x = V.ref a ∧ H1 a = some (.ins C dx fs) ∧ fs.lookup f = some v ∧ Q v H1
/-- for x in e, e an instance of C -/
theorem pi_ins {X : Cx} {tg e : Expr} {te : TE} {k : Nat} {g C : Addr} {f : Str} (K : PySem.W.Frag) (he : PE X e te) (M : Meth X.K C "__iter__" g) (F : FnIt X.prog X.w X.K X.mg X.base k g C f) (hr : Room k X.A) (hx : Passes (L2.CX X.prog X.w) X E0) (hK : X.K = K := by rfl) :
    PI X tg e (iTup K (tFldC C te f)) := by
  subst hK
  refine ⟨fun pins s σ H R I h => thn (he.run pins s σ H _ I h) fun v s1 z => ?_⟩
  obtain ⟨y, H1, I1, rv, a, dx, fs, w, rfl, ha, hf, l, rfl, ⟨zs, sq⟩, q⟩ := z
  cases (show v = Value.ref a from rv)
  obtain ⟨ox, od, ja⟩ := inst_of I1 ha
  obtain ⟨_, fr⟩ := I1.fr
  refine PySem.W.owit_iter fr I1.ok.mod.kin ja M.at_ M.fn (wpAny_call (codeAny_mono (F X.A X.stack s1 H1 [.ref a] [.ref a] (fun u H2 => ∃ it, u = .ref it ∧ H1 it = none ∧ s1.heap.objs.size ≤ it ∧ H2 = upd H1 it (ItT l it 0)) E0 hr I1.env0 (.cons rfl .nil)
    ⟨a, dx, fs, l, zs, rfl, ha, hf, sq, fun it i1 i2 => ⟨it, rfl, i1, i2, rfl⟩⟩) fun r s2 hq => ?_))
  cases r with
  | error e => exact hx pins σ H1 s1 e s2 I1 hq
  | ok fl => cases fl with
    | next => exact hq.elim
    | brk => exact hq.elim
    | cont => exact hq.elim
    | ret u =>
      obtain ⟨u', H2, I2, ru, it, rfl, i1, i2, rfl⟩ := I1.after hq
      cases (show u = Value.ref it from ru)
      have tr : upd H1 it (ItT l it 0) it = some (ItT l it 0) := upd_same
      have st : s2.heap.IsTupleIter it l 0 := (I2.hok it _ tr).1
      have fp := ItX.inv_fp I2 tr (Nat.le_trans I1.sz i2)
      have I3 := ItX.inv_drop I2 tr
      rw [ItX.dropH_upd i1] at fp I3
      refine wpAny_specialOf (name := Str.ofString "__next__") st.typeIs slot_tupleiter_next.lookup ?_
      exact ⟨it, [it], _, _, H1, rfl, I3, turn_tuple l it, st, fun b hb => (by rw [List.mem_singleton.mp hb]; exact fp), q⟩
section
variable {K : PySem.W.Frag} {W : WX} {O : List OD} {ts : List T} {P : PT'} {X : XX} {ta : TE} {C : Addr} {f : Str}
theorem w_fldC (h : WE K W ta O ts (fun x O1 => ∃ fs d, InsD x O1 C fs ∧ fs.lookup f = some d ∧ P (.v d) O1) X) : WE K W (tFldC C ta f) O ts P X := fun b A σ H Q s rs kv kx =>
  h b A σ H _ s rs (fun x v A1 O1 H1 ⟨fs, d, hi, hl, p⟩ s1 n1 r1 => by
    obtain ⟨a, dx, vs, e1, e2, e3⟩ := insD_at hi s1 r1
    obtain ⟨u, e4, e5⟩ := e3.look hl
    exact ⟨a, dx, vs, u, e1, e2, e4, kv _ u A1 O1 H1 p s1 n1 ⟨u, rfl, e5⟩⟩) kx
end
end G

set_option Elab.async false
set_option linter.all false
set_option maxRecDepth 100000
set_option maxHeartbeats 4000000
/-! MS: sums of binomials: their values, moved, by a modulus, differences of values. -/
namespace My
open G (InR)
/-- what holds at one integer and from each to its neighbours holds at all -/
theorem int_ind {P : Int → Prop} (k : Int) (h0 : P k) (up : ∀ n, P n → P (n + 1)) (dn : ∀ n, P (n + 1) → P n) (n : Int) : P n := by
  have a : ∀ d : Nat, P (k + d) := fun d => by
    induction d with
    | zero => rw [Int.natCast_zero, Int.add_zero]; exact h0
    | succ d ih => rw [show k + ((d + 1 : Nat) : Int) = k + d + 1 by omega]; exact up _ ih
  have b : ∀ d : Nat, P (k - d) := fun d => by
    induction d with
    | zero => rw [Int.natCast_zero, Int.sub_zero]; exact h0
    | succ d ih => exact dn _ (by rw [show k - ((d + 1 : Nat) : Int) + 1 = k - d by omega]; exact ih)
  rcases Int.le_total k n with h | h
  · have := a (n - k).toNat
    rwa [show k + ((n - k).toNat : Int) = n by omega] at this
  · have := b (k - n).toNat
    rwa [show k - ((k - n).toNat : Int) = n by omega] at this
theorem bin_both : ∀ k : Nat, (∀ n : Int, ((k : Int) + 1) * bin n (k + 1) = bin n k * (n - k)) ∧ ∀ n : Int, bin (n + 1) (k + 1) = bin n (k + 1) + bin n k
  | 0 => by
    have e : ∀ n : Int, bin n 1 = n := fun n => by
      show 1 * (n - ((0 : Nat) : Int)) / (((0 : Nat) : Int) + 1) = n
      rw [Int.natCast_zero, Int.sub_zero, Int.one_mul, Int.zero_add, Int.ediv_one]
    refine ⟨fun n => ?_, fun n => ?_⟩
    · rw [e]
      show (((0 : Nat) : Int) + 1) * n = 1 * (n - ((0 : Nat) : Int))
      omega
    · rw [e, e]
      rfl
  | k + 1 => by
    obtain ⟨ex, pa⟩ := bin_both k
    have st : ∀ n : Int, bin (n + 1) (k + 1) * ((n + 1) - ((k + 1 : Nat) : Int)) = bin n (k + 1) * (n - ((k + 1 : Nat) : Int)) + (((k + 1 : Nat) : Int) + 1) * bin n (k + 1) := fun n => by
      have h1 := ex n
      rw [pa n, Int.natCast_add]
      grind
    have dv : ∀ n : Int, (((k + 1 : Nat) : Int) + 1) ∣ bin n (k + 1) * (n - ((k + 1 : Nat) : Int)) := by
      refine int_ind ((k + 1 : Nat) : Int) ?_ (fun n h => ?_) fun n h => ?_
      · rw [Int.sub_self, Int.mul_zero]
        exact Int.dvd_zero _
      · rw [st n]
        exact Int.dvd_add h (Int.dvd_mul_right _ _)
      · rw [st n] at h
        exact (Int.dvd_iff_dvd_of_dvd_add h).mpr (Int.dvd_mul_right _ _)
    have e2 : ∀ n : Int, (((k + 1 : Nat) : Int) + 1) * bin n (k + 1 + 1) = bin n (k + 1) * (n - ((k + 1 : Nat) : Int)) := fun n => Int.mul_ediv_cancel' (dv n)
    refine ⟨e2, fun n => ?_⟩
    refine Int.eq_of_mul_eq_mul_left (a := ((k + 1 : Nat) : Int) + 1) (by omega) ?_
    rw [Int.mul_add, e2, e2, st n]
theorem bin_at0 : ∀ k : Nat, bin 0 (k + 1) = 0
  | 0 => rfl
  | k + 1 => by
    show bin 0 (k + 1) * (0 - ((k + 1 : Nat) : Int)) / (((k + 1 : Nat) : Int) + 1) = 0
    rw [bin_at0 k, Int.zero_mul, Int.zero_ediv]
theorem bin_less (n : Int) : ∀ j : Nat, ((j : Int) + 1) * bin n (j + 1) = n * bin (n - 1) j
  | 0 => by
    rw [(bin_both 0).1]
    show 1 * (n - ((0 : Nat) : Int)) = n * 1
    omega
  | j + 1 => by
    refine Int.eq_of_mul_eq_mul_left (a := (j : Int) + 1) (by omega) ?_
    have h1 := (bin_both (j + 1)).1 n
    have h2 := bin_less n j
    have h3 := (bin_both j).1 (n - 1)
    rw [h1]
    have h4 : ((j + 1 : Nat) : Int) = (j : Int) + 1 := by omega
    rw [h4]
    grind
/-- the sum of some coefficients times the binomials from an index on -/
def VK : Nat → List Int → Int → Int
  | _, [], _ => 0
  | k, c :: cs, n => c * bin n k + VK (k + 1) cs n
def V (cs : List Int) (n : Int) : Int := VK 0 cs n
theorem VK_up (n : Int) : ∀ (k : Nat) (cs : List Int), VK (k + 1) cs (n + 1) = VK (k + 1) cs n + VK k cs n
  | _, [] => rfl
  | k, c :: cs => by
    show c * bin (n + 1) (k + 1) + VK (k + 1 + 1) cs (n + 1) = c * bin n (k + 1) + VK (k + 1 + 1) cs n + (c * bin n k + VK (k + 1) cs n)
    rw [VK_up n (k + 1) cs, (bin_both k).2, Int.mul_add]
    omega
theorem VK_at0 : ∀ (k : Nat) (cs : List Int), VK (k + 1) cs 0 = 0
  | _, [] => rfl
  | k, c :: cs => by
    show c * bin 0 (k + 1) + VK (k + 1 + 1) cs 0 = 0
    rw [bin_at0, VK_at0 (k + 1) cs, Int.mul_zero]
    rfl
theorem V_cons (c : Int) (cs : List Int) (n : Int) : V (c :: cs) n = c + VK 1 cs n := by
  show c * 1 + VK 1 cs n = _
  rw [Int.mul_one]
theorem V_at0 (c : Int) (cs : List Int) : V (c :: cs) 0 = c := by rw [V_cons, VK_at0, Int.add_zero]
theorem V_up (c : Int) (cs : List Int) (n : Int) : V (c :: cs) (n + 1) = V (c :: cs) n + V cs n := by
  rw [V_cons, V_cons, VK_up]
  exact (Int.add_assoc c (VK 1 cs n) (VK 0 cs n)).symm
theorem V_nil (n : Int) : V [] n = 0 := rfl
theorem V_one (c n : Int) : V [c] n = c := by
  rw [V_cons]
  exact Int.add_zero c
/-- two rows that begin alike and change alike -/
theorem rows_eq {f g : Int → Int} (h0 : f 0 = g 0) (h : ∀ n, f (n + 1) - f n = g (n + 1) - g n) : ∀ n, f n = g n := by
  refine int_ind 0 h0 (fun n e => ?_) fun n e => ?_
  · have := h n
    omega
  · have := h n
    omega
/-! ### moved -/
def mv : List Int → Int → List Int
  | [], _ => []
  | c :: cs, b => V (c :: cs) b :: mv cs b
theorem mv_len (b : Int) : ∀ cs : List Int, (mv cs b).length = cs.length
  | [] => rfl
  | c :: cs => congrArg (· + 1) (mv_len b cs)
theorem mv_val (b : Int) : ∀ (cs : List Int) (n : Int), V (mv cs b) n = V cs (b + n)
  | [], _ => rfl
  | c :: cs, n => by
    refine rows_eq (f := fun n => V (mv (c :: cs) b) n) (g := fun n => V (c :: cs) (b + n)) ?_ (fun n => ?_) n
    · show V (V (c :: cs) b :: mv cs b) 0 = _
      rw [V_at0, Int.add_zero]
    · show V (V (c :: cs) b :: mv cs b) (n + 1) - V (V (c :: cs) b :: mv cs b) n = V (c :: cs) (b + (n + 1)) - V (c :: cs) (b + n)
      rw [V_up, mv_val b cs n, show b + (n + 1) = b + n + 1 by omega, V_up]
      omega
theorem mv_at (b : Int) : ∀ (cs : List Int) (i : Nat), (mv cs b).getD i 0 = V (cs.drop i) b
  | [], _ => by simp [mv, V_nil]
  | c :: cs, 0 => rfl
  | c :: cs, i + 1 => mv_at b cs i
/-! ### by a modulus -/
def Cg (m : Int) (xs ys : List Int) : Prop := ∀ i : Nat, m ∣ xs.getD i 0 - ys.getD i 0
theorem Cg.refl (m : Int) (xs : List Int) : Cg m xs xs := fun i => by rw [Int.sub_self]; exact Int.dvd_zero _
theorem Cg.symm {m : Int} {xs ys : List Int} (h : Cg m xs ys) : Cg m ys xs := fun i => by
  have := Int.dvd_neg.mpr (h i)
  rwa [Int.neg_sub] at this
theorem Cg.trans {m : Int} {xs ys zs : List Int} (h : Cg m xs ys) (k : Cg m ys zs) : Cg m xs zs := fun i => by
  have := Int.dvd_add (h i) (k i)
  rwa [show xs.getD i 0 - ys.getD i 0 + (ys.getD i 0 - zs.getD i 0) = xs.getD i 0 - zs.getD i 0 by omega] at this
theorem Cg.mono {m M : Int} {xs ys : List Int} (h : Cg M xs ys) (d : m ∣ M) : Cg m xs ys := fun i => Int.dvd_trans d (h i)
theorem VK_cg {m : Int} (n : Int) : ∀ (xs ys : List Int) (k : Nat), Cg m xs ys → m ∣ VK k xs n - VK k ys n
  | [], [], _, _ => by exact ⟨0, by show (0 : Int) - 0 = m * 0; rw [Int.mul_zero]; rfl⟩
  | [], y :: ys, k, h => by
    have h1 : m ∣ 0 - y := h 0
    have h2 := VK_cg n [] ys (k + 1) fun i => h (i + 1)
    show m ∣ 0 - (y * bin n k + VK (k + 1) ys n)
    have e : (0 : Int) - (y * bin n k + VK (k + 1) ys n) = (0 - y) * bin n k + (VK (k + 1) [] n - VK (k + 1) ys n) := by
      show _ = _ + (0 - VK (k + 1) ys n)
      grind
    rw [e]
    exact Int.dvd_add (Int.dvd_mul_of_dvd_left h1) h2
  | x :: xs, [], k, h => by
    have h1 : m ∣ x - 0 := h 0
    have h2 := VK_cg n xs [] (k + 1) fun i => h (i + 1)
    show m ∣ (x * bin n k + VK (k + 1) xs n) - 0
    have e : (x * bin n k + VK (k + 1) xs n) - 0 = (x - 0) * bin n k + (VK (k + 1) xs n - VK (k + 1) [] n) := by
      show _ = _ + (VK (k + 1) xs n - 0)
      grind
    rw [e]
    exact Int.dvd_add (Int.dvd_mul_of_dvd_left h1) h2
  | x :: xs, y :: ys, k, h => by
    have h1 : m ∣ x - y := h 0
    have h2 := VK_cg n xs ys (k + 1) fun i => h (i + 1)
    show m ∣ (x * bin n k + VK (k + 1) xs n) - (y * bin n k + VK (k + 1) ys n)
    have e : (x * bin n k + VK (k + 1) xs n) - (y * bin n k + VK (k + 1) ys n) = (x - y) * bin n k + (VK (k + 1) xs n - VK (k + 1) ys n) := by grind
    rw [e]
    exact Int.dvd_add (Int.dvd_mul_of_dvd_left h1) h2
theorem emod_of_dvd {m a b : Int} (h : m ∣ a - b) : a % m = b % m := by
  obtain ⟨k, hk⟩ := h
  have : a = b + m * k := by omega
  rw [this, Int.add_mul_emod_self_left]
theorem V_cg {m : Int} {xs ys : List Int} (h : Cg m xs ys) (n : Int) : V xs n % m = V ys n % m := emod_of_dvd (VK_cg n xs ys 0 h)
def cut : List Int → List Int
  | [] => []
  | x :: xs => if cut xs = [] ∧ x = 0 then [] else x :: cut xs
def tr (m : Int) (xs : List Int) : List Int := cut (xs.map (· % m))
theorem cut_at : ∀ (xs : List Int) (i : Nat), (cut xs).getD i 0 = xs.getD i 0
  | [], _ => rfl
  | x :: xs, i => by
    unfold cut
    by_cases h : cut xs = [] ∧ x = 0
    · rw [if_pos h, h.2]
      cases i with
      | zero => rfl
      | succ i =>
        have := cut_at xs i
        rw [h.1] at this
        exact this
    · rw [if_neg h]
      cases i with
      | zero => rfl
      | succ i => exact cut_at xs i
theorem cut_nil : ∀ {xs : List Int}, cut xs = [] ↔ ∀ i : Nat, xs.getD i 0 = 0
  | [] => by simp [cut]
  | x :: xs => by
    unfold cut
    by_cases h : cut xs = [] ∧ x = 0
    · rw [if_pos h]
      refine ⟨fun _ i => ?_, fun _ => rfl⟩
      cases i with
      | zero => exact h.2
      | succ i => exact cut_nil.mp h.1 i
    · rw [if_neg h]
      refine ⟨fun z => (by cases z), fun z => absurd ⟨cut_nil.mpr fun i => z (i + 1), z 0⟩ h⟩
theorem cut_ext : ∀ {xs ys : List Int}, (∀ i : Nat, xs.getD i 0 = ys.getD i 0) → cut xs = cut ys
  | [], ys, h => ((cut_nil (xs := ys)).mpr fun i => (h i).symm.trans (by simp)).symm
  | x :: xs, [], h => (cut_nil (xs := x :: xs)).mpr fun i => (h i).trans (by simp)
  | x :: xs, y :: ys, h => by
    have e : x = y := h 0
    have e2 : cut xs = cut ys := cut_ext fun i => h (i + 1)
    unfold cut
    rw [e, e2]
theorem cut_cut (xs : List Int) : cut (cut xs) = cut xs := cut_ext (cut_at xs)
theorem cut_len : ∀ xs : List Int, (cut xs).length ≤ xs.length
  | [] => Nat.le_refl _
  | x :: xs => by
    have := cut_len xs
    unfold cut
    by_cases h : cut xs = [] ∧ x = 0
    · rw [if_pos h]
      exact Nat.zero_le _
    · rw [if_neg h, List.length_cons, List.length_cons]
      omega
theorem cut_mem : ∀ {xs : List Int} {x : Int}, x ∈ cut xs → x ∈ xs
  | [], _, h => h
  | y :: ys, x, h => by
    unfold cut at h
    by_cases g : cut ys = [] ∧ y = 0
    · rw [if_pos g] at h
      cases h
    · rw [if_neg g] at h
      rcases List.mem_cons.mp h with rfl | h
      · exact List.mem_cons_self
      · exact List.mem_cons_of_mem _ (cut_mem h)
theorem cut_snoc0 (xs : List Int) : cut (xs ++ [0]) = cut xs := cut_ext fun i => by
  rw [List.getD_eq_getElem?_getD, List.getD_eq_getElem?_getD, List.getElem?_append]
  by_cases h : i < xs.length
  · rw [if_pos h]
  · rw [if_neg h, List.getElem?_eq_none (by omega : xs.length ≤ i)]
    cases i - xs.length with
    | zero => rfl
    | succ j => rfl
theorem cut_snoc {x : Int} (hx : x ≠ 0) : ∀ xs : List Int, cut (xs ++ [x]) = xs ++ [x]
  | [] => by
    show (if cut [] = [] ∧ x = 0 then [] else x :: cut []) = [x]
    rw [if_neg (fun z => hx z.2)]
    rfl
  | y :: ys => by
    show (if cut (ys ++ [x]) = [] ∧ y = 0 then [] else y :: cut (ys ++ [x])) = y :: (ys ++ [x])
    rw [cut_snoc hx ys, if_neg (fun z => by simp at z)]
theorem getD_map {f : Int → Int} (h0 : f 0 = 0) : ∀ (xs : List Int) (i : Nat), (xs.map f).getD i 0 = f (xs.getD i 0)
  | [], _ => h0.symm
  | x :: xs, 0 => rfl
  | x :: xs, i + 1 => getD_map h0 xs i
theorem tr_at (m : Int) (xs : List Int) (i : Nat) : (tr m xs).getD i 0 = xs.getD i 0 % m := by
  unfold tr
  rw [cut_at, getD_map (f := (· % m)) (Int.zero_emod m)]
theorem tr_cg (m : Int) (xs : List Int) : Cg m (tr m xs) xs := fun i => by
  rw [tr_at]
  exact ⟨-(xs.getD i 0 / m), by have := Int.emod_add_mul_ediv (xs.getD i 0) m; rw [Int.mul_neg]; omega⟩
theorem tr_ext {m : Int} {xs ys : List Int} (h : Cg m xs ys) : tr m xs = tr m ys := cut_ext fun i => by
  rw [getD_map (f := (· % m)) (Int.zero_emod m), getD_map (f := (· % m)) (Int.zero_emod m)]
  exact emod_of_dvd (h i)
theorem tr_tr {m M : Int} (d : m ∣ M) (xs : List Int) : tr m (tr M xs) = tr m xs := tr_ext ((tr_cg M xs).mono d)
theorem tr_len (m : Int) (xs : List Int) : (tr m xs).length ≤ xs.length := by
  have := cut_len (xs.map (· % m))
  rwa [List.length_map] at this
theorem tr_in {m : Int} (hm : 0 < m) (xs : List Int) : InR m (tr m xs) := fun x hx => by
  obtain ⟨y, _, rfl⟩ := List.mem_map.mp (cut_mem hx)
  exact ⟨Int.emod_nonneg _ (by omega), Int.emod_lt_of_pos _ hm⟩
theorem tr_cut (m : Int) (xs : List Int) : cut (tr m xs) = tr m xs := cut_cut _
theorem tr_nil {m : Int} {xs : List Int} : tr m xs = [] ↔ ∀ i : Nat, m ∣ xs.getD i 0 := by
  unfold tr
  rw [cut_nil]
  refine ⟨fun h i => ?_, fun h i => ?_⟩
  · have := h i
    rw [getD_map (f := (· % m)) (Int.zero_emod m)] at this
    exact Int.dvd_of_emod_eq_zero this
  · rw [getD_map (f := (· % m)) (Int.zero_emod m)]
    exact Int.emod_eq_zero_of_dvd (h i)
theorem tr_zeros (m : Int) (xs : List Int) : ∀ k : Nat, tr m (xs ++ List.replicate k 0) = tr m xs
  | 0 => by rw [List.replicate_zero, List.append_nil]
  | k + 1 => by
    have e : xs ++ List.replicate (k + 1) 0 = (xs ++ List.replicate k 0) ++ [0] := by rw [List.replicate_succ', List.append_assoc]
    rw [e]
    unfold tr
    rw [List.map_append, List.map_singleton, Int.zero_emod, cut_snoc0]
    exact tr_zeros m xs k
theorem tr_val {m M : Int} (d : m ∣ M) (xs : List Int) (n : Int) : V (tr M xs) n % m = V xs n % m := V_cg ((tr_cg M xs).mono d) n
theorem cut_map {f : Int → Int} (h : ∀ x, f x = 0 ↔ x = 0) : ∀ xs : List Int, cut (xs.map f) = (cut xs).map f
  | [] => rfl
  | x :: xs => by
    show (if cut (xs.map f) = [] ∧ f x = 0 then [] else f x :: cut (xs.map f)) = (if cut xs = [] ∧ x = 0 then [] else x :: cut xs).map f
    rw [cut_map h xs]
    by_cases g : cut xs = [] ∧ x = 0
    · rw [if_pos g, if_pos ⟨by rw [g.1]; rfl, (h x).mpr g.2⟩]
      rfl
    · rw [if_neg g, if_neg (fun z => g ⟨List.map_eq_nil_iff.mp z.1, (h x).mp z.2⟩)]
      rfl
theorem tr_mul {m k : Int} (hk : 0 < k) (xs : List Int) : tr (m * k) (xs.map (· * k)) = (tr m xs).map (· * k) := by
  unfold tr
  rw [← cut_map (f := (· * k)) (fun x => ⟨fun z => (Int.mul_eq_zero.mp z).resolve_right (by omega), fun z => by show x * k = 0; rw [z, Int.zero_mul]⟩), List.map_map, List.map_map]
  refine congrArg cut (List.map_congr_left fun x _ => ?_)
  show x * k % (m * k) = x % m * k
  rw [Int.mul_comm x k, Int.mul_comm m k, Int.mul_emod_mul_of_pos _ _ hk, Int.mul_comm]
theorem VK_mul (k n : Int) : ∀ (j : Nat) (xs : List Int), VK j (xs.map (· * k)) n = VK j xs n * k
  | _, [] => (Int.zero_mul k).symm
  | j, x :: xs => by
    show x * k * bin n j + VK (j + 1) (xs.map (· * k)) n = (x * bin n j + VK (j + 1) xs n) * k
    rw [VK_mul k n (j + 1) xs]
    grind
theorem V_mul (k n : Int) (xs : List Int) : V (xs.map (· * k)) n = V xs n * k := VK_mul k n 0 xs
theorem map_div_mul {k : Int} (hk : k ≠ 0) (xs : List Int) : (xs.map (· * k)).map (· / k) = xs := by
  rw [List.map_map]
  have : ((· / k) ∘ (· * k) : Int → Int) = id := funext fun x => Int.mul_ediv_cancel x hk
  rw [this, List.map_id]
/-! ### 27720 times the modulus is a period -/
theorem bin_per {m t : Int} {j : Nat} (h1 : 1 ≤ j) (h2 : j ≤ 12) : m ∣ bin (27720 * m * t) j := by
  obtain ⟨i, rfl⟩ : ∃ i, j = i + 1 := ⟨j - 1, by omega⟩
  obtain ⟨q, hq⟩ : ∃ q : Int, ((i : Int) + 1) * q = 27720 := by
    have : i = 0 ∨ i = 1 ∨ i = 2 ∨ i = 3 ∨ i = 4 ∨ i = 5 ∨ i = 6 ∨ i = 7 ∨ i = 8 ∨ i = 9 ∨ i = 10 ∨ i = 11 := by omega
    rcases this with rfl | rfl | rfl | rfl | rfl | rfl | rfl | rfl | rfl | rfl | rfl | rfl
    · exact ⟨27720, rfl⟩
    · exact ⟨13860, rfl⟩
    · exact ⟨9240, rfl⟩
    · exact ⟨6930, rfl⟩
    · exact ⟨5544, rfl⟩
    · exact ⟨4620, rfl⟩
    · exact ⟨3960, rfl⟩
    · exact ⟨3465, rfl⟩
    · exact ⟨3080, rfl⟩
    · exact ⟨2772, rfl⟩
    · exact ⟨2520, rfl⟩
    · exact ⟨2310, rfl⟩
  have e := bin_less (27720 * m * t) i
  have e2 : bin (27720 * m * t) (i + 1) = m * (q * t * bin (27720 * m * t - 1) i) := by
    refine Int.eq_of_mul_eq_mul_left (a := (i : Int) + 1) (by omega) ?_
    rw [e]
    generalize bin (27720 * m * t - 1) i = z
    rw [← hq]
    grind
  rw [e2]
  exact Int.dvd_mul_right _ _
theorem VK_dvd {m n : Int} : ∀ (k : Nat) (cs : List Int), (∀ j : Nat, k ≤ j → j < k + cs.length → m ∣ bin n j) → m ∣ VK k cs n
  | _, [], _ => Int.dvd_zero m
  | k, c :: cs, h => Int.dvd_add (Int.dvd_mul_of_dvd_right (h k (Nat.le_refl _) (by rw [List.length_cons]; omega))) (VK_dvd (k + 1) cs fun j h1 h2 => h j (by omega) (by rw [List.length_cons]; omega))
theorem mv_per {m t : Int} {cs : List Int} (h : cs.length ≤ 13) : Cg m (mv cs (27720 * m * t)) cs := fun i => by
  rw [mv_at]
  have hl : (cs.drop i).length ≤ 13 := by rw [List.length_drop]; omega
  have e : cs.getD i 0 = (cs.drop i).getD 0 0 := by
    rw [List.getD_eq_getElem?_getD, List.getD_eq_getElem?_getD, List.getElem?_drop]
    rfl
  rw [e]
  cases hc : cs.drop i with
  | nil => exact ⟨0, by show V [] _ - 0 = _; rw [V_nil, Int.mul_zero]; rfl⟩
  | cons c r =>
    rw [hc, List.length_cons] at hl
    rw [V_cons]
    show m ∣ c + VK 1 r _ - c
    rw [show c + VK 1 r (27720 * m * t) - c = VK 1 r (27720 * m * t) by omega]
    exact VK_dvd 1 r fun j h1 h2 => bin_per h1 (by omega)
theorem V_per {m t : Int} {cs : List Int} (h : cs.length ≤ 13) (n : Int) : V cs (n + 27720 * m * t) % m = V cs n % m := by
  rw [Int.add_comm, ← mv_val]
  exact V_cg (mv_per h) n
/-! ### differences -/
def diff : List Int → List Int
  | a :: b :: r => (b - a) :: diff (b :: r)
  | _ => []
theorem diff_len : ∀ xs : List Int, (diff xs).length = xs.length - 1
  | [] => rfl
  | [_] => rfl
  | a :: b :: r => by
    show (diff (b :: r)).length + 1 = _
    rw [diff_len (b :: r)]
    simp only [List.length_cons]
    omega
def dvN : Nat → List Int → List Int
  | n + 1, x :: xs => x :: dvN n (diff (x :: xs))
  | _, _ => []
def dv (xs : List Int) : List Int := dvN xs.length xs
theorem dv_nil : dv [] = [] := rfl
theorem dv_cons (x : Int) (xs : List Int) : dv (x :: xs) = x :: dv (diff (x :: xs)) := by
  show x :: dvN xs.length (diff (x :: xs)) = _
  unfold dv
  rw [diff_len] <;> rfl
theorem dv_len : ∀ (n : Nat) (xs : List Int), xs.length = n → (dv xs).length = n
  | 0, [], _ => rfl
  | n + 1, x :: xs, h => by
    rw [dv_cons, List.length_cons, dv_len n (diff (x :: xs)) (by rw [diff_len]; exact Nat.succ.inj h)]
/-- the first values of a row -/
def row (f : Int → Int) (n : Nat) : List Int := (List.range n).map fun i : Nat => f (i : Int)
theorem row_succ (f : Int → Int) (n : Nat) : row f (n + 1) = f 0 :: row (fun x => f (x + 1)) n := by
  unfold row
  rw [List.range_succ_eq_map, List.map_cons, List.map_map]
  rfl
theorem diff_row : ∀ (n : Nat) (f : Int → Int), diff (row f (n + 1)) = row (fun x => f (x + 1) - f x) n
  | 0, f => rfl
  | n + 1, f => by
    have e := row_succ (fun x => f (x + 1)) n
    rw [row_succ f (n + 1), e]
    show (f (0 + 1) - f 0) :: diff (f (0 + 1) :: row (fun x => f (x + 1 + 1)) n) = _
    rw [← e, diff_row n fun x => f (x + 1), row_succ (fun x => f (x + 1) - f x) n]
theorem dv_row (f : Int → Int) (n : Nat) : dv (row f (n + 1)) = f 0 :: dv (row (fun x => f (x + 1) - f x) n) := by
  rw [← diff_row, row_succ f n, dv_cons]
theorem dv_V : ∀ cs : List Int, dv (row (V cs) cs.length) = cs
  | [] => rfl
  | c :: cs => by
    rw [List.length_cons, dv_row, V_at0]
    have e : (fun x => V (c :: cs) (x + 1) - V (c :: cs) x) = V cs := funext fun x => by rw [V_up]; omega
    rw [e, dv_V cs]
theorem row_len (f : Int → Int) (n : Nat) : (row f n).length = n := by
  unfold row
  rw [List.length_map, List.length_range]
/-- a sum times an integer, by its values -/
theorem dv_times (m k : Int) (cs : List Int) : tr m (dv (row (fun b => V cs b * V [k] b) (cs.length - 1 + 1))) = tr m (cs.map (· * k)) := by
  have e : (fun b => V cs b * V [k] b) = V (cs.map (· * k)) := funext fun b => by rw [V_one, V_mul]
  rw [e]
  cases cs with
  | nil =>
    show tr m (dv (row (V []) 1)) = tr m []
    show tr m [0] = tr m []
    exact tr_zeros m [] 1
  | cons c r =>
    have := dv_V ((c :: r).map (· * k))
    rw [List.length_map] at this
    exact congrArg (tr m) this
/-! ### sizes -/
theorem V_bd {n : Int} {a b : Nat} (h : n.natAbs + 12 < 2 ^ a) : ∀ (k : Nat) (cs : List Int), k + cs.length ≤ 13 → (∀ c ∈ cs, c.natAbs < 2 ^ b) → (VK k cs n).natAbs ≤ cs.length * 2 ^ (b + (a * 12 + 1))
  | _, [], _, _ => Nat.le_of_eq (by show (0 : Int).natAbs = 0 * _; rw [Nat.zero_mul]; rfl)
  | k, c :: cs, hl, hc => by
    rw [List.length_cons] at hl
    have h1 := bin_bd h k (by omega)
    have h2 : (bin n k).natAbs < 2 ^ (a * 12 + 1) := Nat.lt_of_lt_of_le h1 (Nat.pow_le_pow_right (by decide) (by have := Nat.mul_le_mul_left a (show k ≤ 12 by omega); omega))
    have h3 := hc c List.mem_cons_self
    have h4 : (c * bin n k).natAbs < 2 ^ (b + (a * 12 + 1)) := by
      rw [Int.natAbs_mul, Nat.pow_add]
      exact Nat.mul_lt_mul'' h3 h2
    have ih := V_bd h (k + 1) cs (by omega) fun x hx => hc x (List.mem_cons_of_mem _ hx)
    have h5 := Int.natAbs_add_le (c * bin n k) (VK (k + 1) cs n)
    show (c * bin n k + VK (k + 1) cs n).natAbs ≤ (cs.length + 1) * _
    rw [Nat.add_mul, Nat.one_mul]
    omega
end My

set_option Elab.async false
set_option linter.all false
set_option maxRecDepth 100000
set_option maxHeartbeats 4000000
/-! HK: comprehensions whose list stays owned; with places; differences of neighbours; max, min. -/
namespace G
open PySem PySem.Spec PyProof.Rows L2
section
variable {K : PySem.W.Frag} {W : WX} {O : List OD} {ts : List T} {P : PT'} {X : XX} {te : TE} {tt : TT}
theorem w_lcO {wi : TI} {g : TG} {vs : List Nat} (hg : Tgt g vs) (h : WI K W wi O ts (fun f O1 => ∃ (n : Nat) (I : Nat → List D → List OD → Prop), (∀ i, i < n → f i ≠ none) ∧ f n = none ∧ I 0 [] O1 ∧ (∀ i acc O', I i acc O' → O'.length = O1.length) ∧
      (∀ i t acc O', i < n → f i = some t → I i acc O' → WG K W g t (O' ++ [.lst acc]) (wipeT ts vs) (fun ts2 O2 => WT K W tt O2 ts2 (fun c O3 =>
        (c = true → WE K W te O3 ts2 (fun y O4 => ∃ d O5, y = .v d ∧ O4 = O5 ++ [.lst acc] ∧ acc.length < sizeLine ∧ I (i + 1) (acc ++ [d]) O5) X0) ∧ (c = false → ∃ O5, O3 = O5 ++ [.lst acc] ∧ I (i + 1) acc O5)) X0)) ∧
      (∀ acc O', I n acc O' → P (.own O1.length) (O' ++ [.lst acc]))) X) : WE K W (tLc wi g tt te vs) O ts P X := fun b A σ H Q s rs kv kx =>
  h b A σ H _ s rs (fun J f A1 O1 H1 p s1 n1 fc => by
    obtain ⟨n, I, hf, hn, h0, hlen, hs, hd⟩ := p
    intro Dl hD
    obtain ⟨s2, n2⟩ := s1.own (u := .lst []) (o := .lst []) hD ⟨[], upd_same, rfl⟩
    have at_ : ∀ {O' : List OD} {acc : List D}, O'.length = O1.length → (O' ++ [OD.lst acc])[A1.length]? = some (.lst acc) := fun {O' acc} e => by
      rw [s1.len, List.getElem?_append_right (by omega), e, Nat.sub_self]
      exact rfl
    have atA : (A1 ++ [Dl])[A1.length]? = some Dl := by
      rw [List.getElem?_append_right (Nat.le_refl _), Nat.sub_self]
      exact rfl
    refine ⟨fun i m H' => m = n - i ∧ i ≤ n ∧ ∃ acc O', I i acc O' ∧ StO K b (A1 ++ [Dl]) (O' ++ [.lst acc]) H' ∧ Nxt b A1 O1 H1 (A1 ++ [Dl]) (O' ++ [.lst acc]) H', ⟨n, by omega, Nat.zero_le _, [], O1, h0, s2, n2⟩, ?_⟩
    rintro i m H' ⟨rfl, hi, acc, O', hI, s', n'⟩
    have hl := hlen i acc O' hI
    obtain ⟨c1, c2⟩ := fc i _ _ H' s' n'
    by_cases hlt : i < n
    · right
      obtain ⟨t, ht⟩ := Option.ne_none_iff_exists'.mp (hf i hlt)
      obtain ⟨hgo, hy⟩ := c2 t ht
      refine ⟨hgo, fun H2 => ∃ acc2 O2, I (i + 1) acc2 O2 ∧ StO K b (A1 ++ [Dl]) (O2 ++ [.lst acc2]) H2 ∧ Nxt b A1 O1 H1 (A1 ++ [Dl]) (O2 ++ [.lst acc2]) H2, fun H2 q => ⟨n - (i + 1), by omega, rfl, hlt, q⟩, fun x H3 y => ?_⟩
      obtain ⟨s3, n3, r3⟩ := hy x H3 y
      have rsw : RepS K (Fz b (A1 ++ [Dl]) (O' ++ [.lst acc]) H3) (A1 ++ [Dl]) (wipeT ts vs) (wipe σ vs) := repS_wipe (rs.nxt ((n1.trans n').trans n3)) vs
      have key := hs i t acc O' hlt ht hI b (A1 ++ [Dl]) (wipe σ vs) H3 (fun σ2 H2 => tt σ2 H2 fun c H4 => if c = true then te σ2 H4 fun y H5 => ∃ acc, H5 Dl = some (.lst acc) ∧ acc.length < sizeLine ∧ ∃ acc2 O2, I (i + 1) acc2 O2 ∧ StO K b (A1 ++ [Dl]) (O2 ++ [.lst acc2]) (upd H5 Dl (.lst (acc ++ [y]))) ∧ Nxt b A1 O1 H1 (A1 ++ [Dl]) (O2 ++ [.lst acc2]) (upd H5 Dl (.lst (acc ++ [y])))
        else ∃ acc2 O2, I (i + 1) acc2 O2 ∧ StO K b (A1 ++ [Dl]) (O2 ++ [.lst acc2]) H4 ∧ Nxt b A1 O1 H1 (A1 ++ [Dl]) (O2 ++ [.lst acc2]) H4) x s3 rsw r3 fun ts4 σ4 A4 O4 H4 p4 s4 n4 rs4 => ?_
      · have k2 := hg x (wipe σ vs) H3 _ key
        have ww : wipe (wipe σ vs) vs = wipe σ vs := by
          refine List.ext_getElem? fun i => ?_
          rw [wipe_get, wipe_get]
          by_cases hi : i ∈ vs
          · rw [if_pos hi, if_pos hi]
            cases σ[i]? <;> rfl
          · rw [if_neg hi, if_neg hi]
        rw [ww] at k2
        exact k2
      · have n14 := (n'.trans n3).trans n4
        refine p4 b A4 σ4 H4 _ s4 rs4 (fun c A5 O5 H5 p5 s5 n5 => ?_) (fun C fs A' O' H' d z => z.elim)
        have n15 := n14.trans n5
        have prefixA : ∀ {A6 O6 H6}, Nxt b A1 O1 H1 A6 O6 H6 → Nxt b (A1 ++ [Dl]) (O' ++ [.lst acc]) H' A6 O6 H6 → StO K b A6 O6 H6 → O6.length = O1.length + 1 → A6 = A1 ++ [Dl] := fun {A6 O6 H6} n6 m6 s6 l6 => by
          obtain ⟨M, e⟩ := m6.pre
          have l7 := s6.len
          rw [e, List.length_append, List.length_append, s1.len] at l7
          have : M.length = 0 := by
            simp only [List.length_singleton] at l7
            omega
          rw [e, List.length_eq_zero_iff.mp this, List.append_nil]
        cases c with
        | true =>
          refine iteT (p5.1 rfl b A5 σ4 H5 _ s5 (rs4.nxt n5) (fun y v A6 O6 H6 p6 s6 n6 r6 => ?_) (fun C fs A' O' H' d z => z.elim))
          obtain ⟨d, O7, rfl, rfl, hz, hI2⟩ := p6
          have hl7 := hlen _ _ _ hI2
          have eA := prefixA (n'.trans (((n3.trans n4).trans n5).trans n6)) (((n3.trans n4).trans n5).trans n6) s6 (by rw [List.length_append, hl7] <;> rfl)
          subst eA
          obtain ⟨us, h1, h2⟩ := s6.cell A1.length Dl _ atA (at_ hl7)
          obtain ⟨w, e2, rd⟩ := r6
          cases e2
          refine ⟨us, h1, by rw [h2.length]; exact hz, acc ++ [d], O7, hI2, ?_⟩
          obtain ⟨s8, n8⟩ := s6.put (w := .lst (us ++ [v])) (o := .lst (acc ++ [d])) atA (at_ hl7) (fun z => by cases z) (fun z => by cases z) ⟨_, upd_same, h2.append ⟨v, [], rfl, rd, rfl⟩⟩
          have es : (O7 ++ [OD.lst acc]).set A1.length (.lst (acc ++ [d])) = O7 ++ [.lst (acc ++ [d])] := by
            rw [s1.len, ← hl7, List.set_append_right _ _ (Nat.le_refl _), Nat.sub_self]
            exact rfl
          rw [es] at s8 n8
          exact ⟨s8, n'.trans ((((n3.trans n4).trans n5).trans n6).trans n8)⟩
        | false =>
          refine iteF ?_
          obtain ⟨O7, rfl, hI2⟩ := p5.2 rfl
          have hl7 := hlen _ _ _ hI2
          have eA := prefixA (n'.trans ((n3.trans n4).trans n5)) ((n3.trans n4).trans n5) s5 (by rw [List.length_append, hl7] <;> rfl)
          subst eA
          exact ⟨acc, O7, hI2, s5, n'.trans ((n3.trans n4).trans n5)⟩
    · left
      have e : i = n := by omega
      subst e
      refine ⟨c1 hn hf, ?_⟩
      exact kv _ _ (A1 ++ [Dl]) _ H' (hd acc O' hI) s' (n1.trans n') ⟨Dl, by rw [← s1.len]; exact atA, rfl⟩) kx

def LcExO (K : PySem.W.Frag) (g : TG) (te : TE) (vs : List Nat) (P : PT') (ts : List T) (f : Nat → Option T) (O1 : List OD) (W : WX) : Prop :=
  ∃ (n : Nat) (I : Nat → List D → List OD → Prop), (∀ i, i < n → f i ≠ none) ∧ f n = none ∧ I 0 [] O1 ∧ (∀ i acc O', I i acc O' → O'.length = O1.length) ∧
      (∀ i t acc O', i < n → f i = some t → I i acc O' → WG K W g t (O' ++ [.lst acc]) (wipeT ts vs) (fun ts2 O2 => WT K W tYes O2 ts2 (fun c O3 =>
        (c = true → WE K W te O3 ts2 (fun y O4 => ∃ d O5, y = .v d ∧ O4 = O5 ++ [.lst acc] ∧ acc.length < sizeLine ∧ I (i + 1) (acc ++ [d]) O5) X0) ∧ (c = false → ∃ O5, O3 = O5 ++ [.lst acc] ∧ I (i + 1) acc O5)) X0)) ∧
      (∀ acc O', I n acc O' → P (.own O1.length) (O' ++ [.lst acc]))
theorem w_lcO1 {wi : TI} {i : Nat} {vs : List Nat} (h : WI K W wi O ts (fun f O1 => LcExO K (gName i) te vs P ts f O1 W) X) (hm : i ∈ vs) : WE K W (tLc wi (gName i) tYes te vs) O ts P X := w_lcO (tgt_name hm) h
theorem lcO_A {g : TG} {vs : List Nat} {α : Type} (xs : List α) (e f : α → D) (hz : xs.length ≤ 1000000)
    (hs : ∀ x acc, x ∈ xs → WG K W g (.v (e x)) (O ++ [.lst acc]) (wipeT ts vs) (fun ts2 O2 => WE K W te O2 ts2 (fun y O4 => y = .v (f x) ∧ O4 = O ++ [.lst acc]) X0))
    (hd : P (.own O.length) (O ++ [.lst (xs.map f)])) : LcExO K g te vs P ts (itD (xs.map e)) O W := by
  have at_ : ∀ i, i < xs.length → ∃ x, xs[i]? = some x ∧ x ∈ xs ∧ itD (xs.map e) i = some (.v (e x)) := fun i hi => by
    refine ⟨xs[i], List.getElem?_eq_getElem hi, List.getElem_mem hi, ?_⟩
    unfold itD
    rw [List.getElem?_map, List.getElem?_eq_getElem hi] <;> rfl
  refine ⟨xs.length, fun i acc O' => O' = O ∧ acc = (xs.take i).map f ∧ i ≤ xs.length, fun i hi z => ?_, ?_, ⟨rfl, by rw [List.take_zero]; rfl, Nat.zero_le _⟩, fun i acc O' z => by rw [z.1], fun i t acc O' hi ht z => ?_, fun acc O' z => ?_⟩
  · obtain ⟨x, _, _, q⟩ := at_ i hi
    rw [q] at z
    cases z
  · unfold itD
    rw [List.getElem?_eq_none (by rw [List.length_map]; exact Nat.le_refl _)] <;> rfl
  · obtain ⟨x, hx, hm, q⟩ := at_ i hi
    rw [q] at ht
    cases ht
    obtain ⟨rfl, rfl, _⟩ := z
    refine (hs x _ hm).imp fun ts2 O2 k => w_yes ⟨fun _ => k.imp fun y O4 p => ?_, fun z => by cases z⟩
    obtain ⟨rfl, rfl⟩ := p
    have hl : ((xs.take i).map f).length < sizeLine := by
      rw [List.length_map, List.length_take]
      exact Nat.lt_of_lt_of_le (show min i xs.length < 1000000 by omega) (Nat.le_of_ble_eq_true rfl)
    exact ⟨_, _, rfl, rfl, hl, rfl, by rw [List.take_succ, hx, List.map_append]; rfl, hi⟩
  · obtain ⟨rfl, rfl, _⟩ := z
    rw [List.take_length]
    exact hd
/-- [f at c for at, c in enumerate(ns)] -/
theorem lc_EN {g : TG} {vs : List Nat} (ns : List Int) (f : Nat → Int → Int) (hz : ns.length ≤ 1000000)
    (hs : ∀ (i : Nat) (c : Int) acc, ns[i]? = some c → WG K W g (.v (.tup [.int (i : Nat), .int c])) (O ++ [.lst acc]) (wipeT ts vs) (fun ts2 O2 => WE K W te O2 ts2 (fun y O4 => y = .v (.int (f i c)) ∧ O4 = O ++ [.lst acc]) X0))
    (hd : P (.v (.lst (nums (ns.mapIdx f)))) O) : LcEx K W g te vs P ts (itE (nums ns)) O := by
  have at_ : ∀ i, i < ns.length → ∃ c, ns[i]? = some c := fun i hi => ⟨_, List.getElem?_eq_getElem hi⟩
  refine lc_P (n := ns.length) (item := fun i => match ns[i]? with | some c => .v (.tup [.int (i : Nat), .int c]) | none => .no) (fun i => match ns[i]? with | some c => .int (f i c) | none => .non) (fun i hi => ?_) ?_ hz (fun i acc hi => ?_) ?_
  · obtain ⟨c, hc⟩ := at_ i hi
    unfold itE nums
    rw [List.getElem?_map, hc] <;> rfl
  · unfold itE nums
    rw [List.getElem?_map, List.getElem?_eq_none (Nat.le_refl _)] <;> rfl
  · obtain ⟨c, hc⟩ := at_ i hi
    have k := hs i c acc hc
    rw [hc]
    exact k
  · have e : (List.range ns.length).map (fun i => match ns[i]? with | some c => D.int (f i c) | none => D.non) = nums (ns.mapIdx f) := by
      refine List.ext_getElem? fun i => ?_
      unfold nums
      rw [List.getElem?_map, List.getElem?_map, List.getElem?_mapIdx]
      by_cases hi : i < ns.length
      · obtain ⟨c, hc⟩ := at_ i hi
        rw [List.getElem?_range hi, hc]
        show some (match ns[i]? with | some c => D.int (f i c) | none => D.non) = _
        rw [hc] <;> rfl
      · rw [List.getElem?_eq_none (by rw [List.length_range]; omega), List.getElem?_eq_none (show ns.length ≤ i by omega)] <;> rfl
    rw [e]
    exact hd
/-- [after - before for before, after in zip(xs, xs[1:])] -/
theorem diff_get : ∀ {xs : List Int} {i : Nat} {x y : Int}, xs[i]? = some x → xs[i + 1]? = some y → (My.diff xs)[i]? = some (y - x)
  | [], _, _, _, h, _ => by cases h
  | [_], _, _, _, _, h => by cases h
  | a :: b :: r, 0, _, _, h, k => by
    cases h
    cases k
    rfl
  | a :: b :: r, i + 1, _, _, h, k => diff_get (xs := b :: r) (i := i) h k
theorem lc_D {g : TG} {vs : List Nat} (xs : List Int) (hz : xs.length ≤ 1000000)
    (hs : ∀ (x y : Int) acc, WG K W g (.v (.tup [.int x, .int y])) (O ++ [.lst acc]) (wipeT ts vs) (fun ts2 O2 => WE K W te O2 ts2 (fun z O4 => z = .v (.int (y - x)) ∧ O4 = O ++ [.lst acc]) X0))
    (hd : P (.v (.lst (nums (My.diff xs)))) O) : LcEx K W g te vs P ts (itZ (nums xs) ((nums xs).drop 1)) O := by
  have hl := My.diff_len xs
  have at_ : ∀ i, i < (My.diff xs).length → ∃ x y, xs[i]? = some x ∧ xs[i + 1]? = some y := fun i hi => ⟨_, _, List.getElem?_eq_getElem (by omega), List.getElem?_eq_getElem (by omega)⟩
  refine lc_P (n := (My.diff xs).length) (item := fun i => match xs[i]?, xs[i + 1]? with | some x, some y => .v (.tup [.int x, .int y]) | _, _ => .no) (fun i => ((My.diff xs)[i]?.map D.int).getD .non) (fun i hi => ?_) ?_ (by omega) (fun i acc hi => ?_) ?_
  · obtain ⟨x, y, hx, hy⟩ := at_ i hi
    unfold itZ nums
    rw [List.getElem?_drop, List.getElem?_map, List.getElem?_map, Nat.add_comm 1 i, hx, hy] <;> rfl
  · unfold itZ nums
    rw [List.getElem?_drop, List.getElem?_map, List.getElem?_map, List.getElem?_eq_none (show xs.length ≤ 1 + (My.diff xs).length by omega)]
    cases Option.map D.int xs[(My.diff xs).length]? <;> rfl
  · obtain ⟨x, y, hx, hy⟩ := at_ i hi
    have k := hs x y acc
    rw [diff_get hx hy, hx, hy]
    exact k
  · have e : (List.range (My.diff xs).length).map (fun i => ((My.diff xs)[i]?.map D.int).getD .non) = nums (My.diff xs) := by
      unfold nums
      exact map_range (f := D.int) (xs := My.diff xs) fun i x hx => by rw [hx] <;> rfl
    rw [e]
    exact hd
theorem c_max2 {i j : Int} (k : P (.v (.int (if j > i then j else i))) O) : WC K (fun xs H Q => ∃ i j, xs = [.int i, .int j] ∧ Q (.int (if j > i then j else i)) H) [.v (.int i), .v (.int j)] O P := fun b A H Q vs s r kv => by
  obtain ⟨_, _, rfl, ⟨_, e1, r1⟩, _, _, rfl, ⟨_, e2, r2⟩, rfl⟩ := r
  cases e1
  cases e2
  exact ⟨i, j, by rw [r1, r2], kv _ _ A O H k s Nxt.refl ⟨_, rfl, rfl⟩⟩
end
end G
namespace My
open G (InR)
/-- the terms of a value -/
theorem terms_sum (n : Int) : ∀ (k : Nat) (cs : List Int), (cs.mapIdx fun i c => c * bin n (k + i)).sum = VK k cs n
  | _, [] => rfl
  | k, c :: cs => by
    rw [List.mapIdx_cons, List.sum_cons]
    show c * bin n (k + 0) + _ = c * bin n k + VK (k + 1) cs n
    rw [Nat.add_zero, ← terms_sum n (k + 1) cs]
    have e : (fun (i : Nat) (c : Int) => c * bin n (k + (i + 1))) = fun i c => c * bin n (k + 1 + i) := funext fun i => funext fun c => by rw [show k + (i + 1) = k + 1 + i by omega]
    rw [e]
theorem terms_V (n : Int) (cs : List Int) : (cs.mapIdx fun i c => c * bin n i).sum = V cs n := by
  have := terms_sum n 0 cs
  have e : (fun (i : Nat) (c : Int) => c * bin n (0 + i)) = fun i c => c * bin n i := funext fun i => funext fun c => by rw [Nat.zero_add]
  rw [e] at this
  exact this
end My

set_option Elab.async false
set_option linter.all false
set_option maxRecDepth 100000
set_option maxHeartbeats 4000000
/-! MT: what a sum holds. -/
namespace My
open G (InR)
structure SumOk (m : Int) (cs : List Int) : Prop where
  two : 2 ≤ m
  most : m ≤ 1000000000000000000000000000000
  inr : InR m cs
  len : cs.length ≤ 13
  fin : cut cs = cs
theorem SumOk.sml {m : Int} {cs : List Int} (h : SumOk m cs) : ∀ x ∈ cs, x.natAbs < 2 ^ 100 := fun x hx => by
  have h1 := h.inr x hx
  have h2 := h.most
  omega
theorem SumOk.of {m : Int} {xs : List Int} (h1 : 2 ≤ m) (h2 : m ≤ 1000000000000000000000000000000) (h3 : xs.length ≤ 13) : SumOk m (tr m xs) :=
  ⟨h1, h2, tr_in (by omega) xs, Nat.le_trans (tr_len m xs) h3, tr_cut m xs⟩
theorem SumOk.same {m : Int} {cs : List Int} (h : SumOk m cs) : tr m cs = cs := by
  unfold tr
  have e : cs.map (· % m) = cs := by
    have : cs.map (· % m) = cs.map id := List.map_congr_left fun x hx => Int.emod_eq_of_lt (h.inr x hx).1 (h.inr x hx).2
    rw [this, List.map_id]
  rw [e, h.fin]
/-- how great a value is -/
theorem V_lt {n : Int} {a b : Nat} {cs : List Int} (h : n.natAbs + 12 < 2 ^ a) (hl : cs.length ≤ 13) (hc : ∀ c ∈ cs, c.natAbs < 2 ^ b) : (V cs n).natAbs < 2 ^ (b + (a * 12 + 1) + 4) := by
  have h1 := V_bd h 0 cs (by omega) hc
  have h2 : cs.length * 2 ^ (b + (a * 12 + 1)) ≤ 13 * 2 ^ (b + (a * 12 + 1)) := Nat.mul_le_mul_right _ hl
  have h3 : 13 * 2 ^ (b + (a * 12 + 1)) < 2 ^ (b + (a * 12 + 1) + 4) := by
    have h4 : 0 < 2 ^ (b + (a * 12 + 1)) := Nat.two_pow_pos _
    rw [Nat.pow_add 2 (b + (a * 12 + 1)) 4]
    generalize 2 ^ (b + (a * 12 + 1)) = z at h4 ⊢
    omega
  exact Nat.lt_of_le_of_lt h1 (Nat.lt_of_le_of_lt h2 h3)
theorem Sml_drop {b : Nat} {cs : List Int} (h : ∀ x ∈ cs, x.natAbs < 2 ^ b) (n : Nat) : ∀ x ∈ cs.drop n, x.natAbs < 2 ^ b := fun x hx => h x (List.mem_of_mem_drop hx)
theorem mv_take {xs : List Int} {n : Int} {i : Nat} (hi : i < xs.length) : (mv xs n).take i ++ [V (xs.drop i) n] = (mv xs n).take (i + 1) := by
  have h := mv_at n xs i
  rw [List.getD_eq_getElem?_getD, List.getElem?_eq_getElem (by rw [mv_len]; exact hi), Option.getD_some] at h
  rw [List.take_succ, List.getElem?_eq_getElem (by rw [mv_len]; exact hi), h] <;> rfl
end My

set_option Elab.async false
set_option linter.all false
set_option maxRecDepth 100000
set_option maxHeartbeats 4000000
/-! HL: C(e, .., *row); a, b, .. = a list. -/
namespace G
open PySem PySem.Spec PyProof.Rows L2
theorem pe_makeZ {X : Cx} {CX : CXT} {k : Nat} {f C : Addr} {sp : Sp} {E : XK} {x : Str} {e : Expr} {es : List Expr} {t : TA} {p pos : Pos} (M : Mk X.K C f) (F : FnR X.prog X.w X.K X.mg X.base CX k f sp) (hr : Room (k + 1) X.A) (hg : Gl X x)
    (hm : X.mg x = some (.ref C)) (hx : Passes CX X E) (ha : PA X (e :: es) t) (hdb : (x == ("__debug__" : Str)) = false := by decide) (h1 : starEach (e :: es) X.env = (false, eval e X.env) :: starEach es X.env := by rfl)
    (h2 : (backTo pos (starEach es X.env)).any (·.1) = true := by rfl) : PE X (.Call (.Name x p) (e :: es) [] pos) (StX.tMakeR C sp E t) :=
  ⟨fun pins s σ H Q I h => wpAny_Call_Name_kw (ld_glob I hg hm (PySem.W.callWith_S2 (h₀ := X.base) I.ok.mod.kin M.kp (thn (ha.run pos pins s σ H _ I h) fun us s1 z => by
    obtain ⟨vs, H1, I1, r, q⟩ := z
    exact ⟨I1.kIn, StX.run_makeR M F hr hx I1 r q⟩) h1 h2) hdb)⟩
theorem pg_lstK (K : PySem.W.Frag) {X : Cx} {pos : Pos} {es : List Expr} {k : Nat} {t : TGs} {n : Nat} (hc : X.calm = true) (h : PGs X es t) (hn : (assignEach es X.env).length = n := by rfl) (hst : (assignEach es X.env).findIdx? (·.1) = none := by rfl) (hK : X.K = K := by rfl) :
    PG X (.Tuple es k pos) (gLst K n t) := hK ▸ pg_lst hc h hn hst
theorem g_lst {K : PySem.W.Frag} {W : WX} {O : List OD} {ts : List T} {n : Nat} {gs : TGs} {ds : List D} {N : List T → List OD → Prop} (hl : ds.length = n) (h : WGs K W gs (ds.map T.v) O ts N) : WG K W (gLst K n gs) (.v (.lst ds)) O ts N := fun b A σ H Q v s rs r kn => by
  obtain ⟨a, vs, e, sq, rl⟩ := lstD_at lstD_v s r
  exact ⟨a, vs, e, sq, rl.length.trans hl, h b A σ H Q vs s rs (repTs_v rl) kn⟩
end G

set_option Elab.async false
set_option linter.all false
set_option maxRecDepth 100000
set_option maxHeartbeats 4000000
/-! HN: x op= n where x is an instance whose class has no op of its own in place. -/
namespace My2
open PySem PySem.W PyProof.Rows
section
variable {pr : Program} {wo : World} {B : Around} {Er : Value → Shared → Prop} {st : Shared} {K : Frag} {a cl lo me : Addr} {base : Heap} {nsm : Str → Option Value} {oa : Obj} {da : Option Obj}
theorem no_slot {M : Model} {h : Heap} {nm : String} {add : Bool} {cd : ClassData} (kin : K.In h) (ec : clsIn K cl = some cd) (em : cd.mro = [.ref cl, .type "object"]) (en : findIn K (.ref cl) (dunderI nm) = some none) (eo : typeLookup (.type "object") (dunderI nm) = pure none) :
    Looks M h (fillsInplaceSlot (.ref cl) nm add) false := by
  intro A Q E s k q
  unfold fillsInplaceSlot
  refine wpAny_bind ((looks_clsIn kin ec).andThen (f := fun cd => pure cd.mro) .now A _ E s k ?_)
  rw [em, List.anyM_cons]
  refine wpAny_bind (wpAny_bind (looks_findIn kin en A _ E s k ?_))
  refine wpAny_pure ?_
  rw [if_neg Bool.false_ne_true, List.anyM_cons]
  refine wpAny_bind (wpAny_bind (wpAny_of_eq eo (wpAny_pure ?_)))
  rw [if_neg Bool.false_ne_true]
  exact wpAny_pure q
theorem in_place {op : Operator} {n : Value} {Q : Value → Shared → Prop} (at_ : InstAt st.heap a oa cl da) (hs : ∀ add, Looks (model pr wo) st.heap (fillsInplaceSlot (.ref cl) op.info.2 add) false)
    (one : wpAny (model pr wo) B (binaryOp1 op.info.2 (.ref a) n) (fun r s' => ∃ v, r = some v ∧ Q v s') Er st) : wpAny (model pr wo) B (inplaceOp op (.ref a) n) Q Er st := by
  unfold inplaceOp
  refine wpAny_holding (wpAny_bind (at_.type.here (wpAny_bind ((hs _).here ?_))))
  rw [if_neg Bool.false_ne_true]
  refine wpAny_bind (wpAny_mono one (fun r s' hr => ?_) fun _ _ z => z)
  obtain ⟨v, rfl, q⟩ := hr
  exact wpAny_pure q
end
theorem ob_lshift : typeLookup (.type "object") (dunderI "lshift") = pure none := by rw [typeLookup_type, builtinLookup_eq_fast]; kernel_rfl
theorem ob_rshift : typeLookup (.type "object") (dunderI "rshift") = pure none := by rw [typeLookup_type, builtinLookup_eq_fast]; kernel_rfl
theorem ob_mod : typeLookup (.type "object") (dunderI "mod") = pure none := by rw [typeLookup_type, builtinLookup_eq_fast]; kernel_rfl
theorem ob_floordiv : typeLookup (.type "object") (dunderI "floordiv") = pure none := by rw [typeLookup_type, builtinLookup_eq_fast]; kernel_rfl
theorem ob_add : typeLookup (.type "object") (dunderI "add") = pure none := by rw [typeLookup_type, builtinLookup_eq_fast]; kernel_rfl
theorem ob_sub : typeLookup (.type "object") (dunderI "sub") = pure none := by rw [typeLookup_type, builtinLookup_eq_fast]; kernel_rfl
theorem ob_mul : typeLookup (.type "object") (dunderI "mul") = pure none := by rw [typeLookup_type, builtinLookup_eq_fast]; kernel_rfl
end My2
namespace G
open PySem PySem.Spec PyProof.Rows L2
/-- the class has no op of its own in place -/
def ipB (K : PySem.W.Frag) (C : Addr) (nm : String) : Bool := (match PySem.W.clsIn K C with
  | some cd => cd.mro == [.ref C, .type "object"]
  | none => false) && He.eqO (PySem.W.findIn K (.ref C) (dunderI nm)) (some none)
structure IpC (K : PySem.W.Frag) (C : Addr) (nm : String) : Prop where
  cd : ∃ cd, PySem.W.clsIn K C = some cd ∧ cd.mro = [.ref C, .type "object"]
  no : PySem.W.findIn K (.ref C) (dunderI nm) = some none
theorem ipB_ok {K : PySem.W.Frag} {C : Addr} {nm : String} (h : ipB K C nm = true) : IpC K C nm := by
  obtain ⟨h1, h2⟩ := He.ba h
  refine ⟨?_, He.eqO_ok h2⟩
  cases e : PySem.W.clsIn K C with
  | none =>
    rw [e] at h1
    cases h1
  | some cd =>
    rw [e] at h1
    exact ⟨cd, rfl, beq_iff_eq.mp h1⟩
def rIpO (C : Addr) (sp : Sp) (E : XK) : TIp := fun x y H Q => ∃ a dx fs i, x = .ref a ∧ H a = some (.ins C dx fs) ∧ y = .int i ∧ sp [x, y] H Q E
theorem ip_ownO {X : Cx} {CX : CXT} {k : Nat} {C g : Addr} {sp : Sp} {E : XK} {m : Str} {op : Operator} (M : Meth X.K C m g) (O : OpC X.K C op.info.2) (P : IpC X.K C op.info.2) (N : IntOp op.info.2) (eo : typeLookup (.type "object") (dunderI op.info.2) = pure none) (em : PySem.dunder op.info.2 = m)
    (F : FnR X.prog X.w X.K X.mg X.base CX k g sp) (hr : Room k X.A) (hx : Passes CX X E) : PIp X op (rIpO C sp E) := by
  intro pins s σ H x y v u Q I rx ry h
  subst em
  obtain ⟨a, dx, fs, i, rfl, ha, rfl, q⟩ := h
  cases (show v = Value.ref a from rx)
  obtain ⟨t, rfl⟩ := (show ∃ t, u = Value.int i t from ry)
  obtain ⟨_, _, ja⟩ := inst_of I ha
  obtain ⟨_, fr⟩ := I.fr
  obtain ⟨bk, e1, e2⟩ := O.rr
  obtain ⟨cd, c1, c2⟩ := P.cd
  have run := wpAny_mono (wpAny_call (SlX.run_at (us := [.ref a, .int i t]) (ws := [.ref a, .int i]) F hr I.env0 hx I (.cons rfl (.cons ⟨t, rfl⟩ .nil)) q)) (fun w s' z => show PySem.W.CmpBack (EP X pins σ Q) w s' from by
    obtain ⟨z', H', I', rz, qz⟩ := z
    exact SlX.cmpback rz ⟨z', H', I', rz, qz⟩) fun _ _ z => z
  exact My2.in_place ja (fun add => My2.no_slot (I.ok.mod.kin.keeps fr.keep) c1 c2 P.no eo) (My2.first_int fr I.ok.mod.kin ja (fun _ _ _ _ _ q => wpAny_pure q) O.sf M.at_ M.fn e1 e2 O.sb N.fi N.ti run)
theorem s_augO {K : PySem.W.Frag} {W : WX} {te : TE} {O : List OD} {ts : List T} {E : DE} {sp : SpD} {C : Addr} {fs : List (Str × D)} {i : Nat} (hi : ts[i]? = some (.v (.ins C fs)))
    (h : WE K W te O ts (fun t O' => ∃ k : Int, t = .v (.int k) ∧ sp [.v (.ins C fs), .v (.int k)] [] (fun t _ => (∃ d, t = .v d) ∧ E.nx (ts.set i t) O') (fun _ _ _ => False)) (fun C fs O' => E.xe C fs ts O')) : WS K W (tAug i te (rIpO C (lift K sp) E0)) O ts E := fun b A σ H D s rs ks => by
  obtain ⟨o, e, r⟩ := rs.2 i _ hi
  obtain ⟨v, rfl, _⟩ := id r
  refine ⟨v, e, h b A σ H _ s rs (fun t y A1 O1 H1 p s1 n1 r1 => ?_) (ks.kx rs)⟩
  obtain ⟨k, rfl, p⟩ := p
  have r0 := r.nxt n1
  obtain ⟨a, dx, vs, e1, ha⟩ := rep_ins s1 r0
  obtain ⟨_, e2, e3⟩ := id r1
  cases e2
  refine ⟨a, dx, vs, k, e1, ha, e3, lift_p (W := fun _ _ _ _ => False) (X := fun _ _ _ => False) (σ := []) (P := fun t O2 => E.nx (ts.set i t) O2) s1 (two_rep r0 r1) rfl (fun _ _ _ z => z) p (fun t z A2 O2 H2 q s2 n2 r2 => ?_) fun _ _ _ _ _ _ z => z.elim⟩
  exact ks.nx _ _ A2 O2 H2 q s2 (n1.trans n2) ((rs.nxt (n1.trans n2)).set r2 i)
end G

set_option Elab.async false
set_option linter.all false
set_option maxRecDepth 100000
set_option maxHeartbeats 4000000
/-! HO: an operator of a class of its own that may raise. -/
namespace G
open PySem PySem.Spec PyProof.Rows L2
def tOpX (C : Addr) (sp : Sp) (E : L2.St → XK) (ta tb : TE) : TE := fun σ H Q => ta σ H fun x H1 => tb σ H1 fun y H2 => ∃ a dx fs, x = V.ref a ∧ H2 a = some (.ins C dx fs) ∧ InsOrI C y H2 ∧ sp [x, y] H2 Q (E σ)
theorem pe_opX {X : Cx} {CX : CXT} {k : Nat} {C g : Addr} {sp : Sp} {E : L2.St → XK} {m : Str} {op : Operator} {l r : Expr} {ta tb : TE} {pos : Pos} (M : Meth X.K C m g) (O : OpC X.K C op.info.2) (N : IntOp op.info.2) (em : PySem.dunder op.info.2 = m)
    (F : FnR X.prog X.w X.K X.mg X.base CX k g sp) (hr : Room k X.A) (hx : ∀ σ, PassesAt CX X σ (E σ)) (ha : PE X l ta) (hb : PE X r tb) : PE X (.BinOp l op r pos) (tOpX C sp E ta tb) := by
  constructor
  intro pins s σ H Q I h
  refine wpAny_BinOp (binT ha hb I h fun v u s2 x y H2 I2 rx ry z => ?_)
  subst em
  obtain ⟨a, dx, fs, rfl, e, hy, q⟩ := z
  cases (show v = Value.ref a from rx)
  obtain ⟨_, _, ja⟩ := inst_of I2 e
  obtain ⟨_, fr⟩ := I2.fr
  obtain ⟨bk, e1, e2⟩ := O.rr
  have run := wpAny_mono (wpAny_call (code_at (us := [.ref a, u]) (vs := [.ref a, y]) F hr (hx σ) I2 (.cons rfl (.cons ry .nil)) q)) (fun w s' z => show PySem.W.CmpBack (EP X pins σ Q) w s' from by
    obtain ⟨z', H', I', rz, qz⟩ := z
    exact SlX.cmpback rz ⟨z', H', I', rz, qz⟩) fun _ _ z => z
  rcases hy with ⟨i, rfl⟩ | ⟨b, dy, gs, rfl, hb⟩
  · obtain ⟨t, rfl⟩ := (show ∃ t, u = Value.int i t from ry)
    exact My2.op_int fr I2.ok.mod.kin ja (fun _ _ _ _ _ q => wpAny_pure q) O.sf M.at_ M.fn e1 e2 O.sb N.fi N.ti run
  · cases (show u = Value.ref b from ry)
    obtain ⟨_, _, jb⟩ := inst_of I2 hb
    exact PySem.W.binop_K fr I2.ok.mod.kin ja jb.type O.sf M.at_ M.fn run
theorem w_opX {K : PySem.W.Frag} {W : WX} {ta tb : TE} {O : List OD} {ts : List T} {P : PT'} {X : XX} {sp : SpD} {C : Addr}
    (h : WE K W ta O ts (fun x O1 => WE K W tb O1 ts (fun y O2 => ∃ fs d, x = .v (.ins C fs) ∧ y = .v d ∧ IoI C d ∧ sp [.v (.ins C fs), .v d] [] (fun t _ => (∃ d, t = .v d) ∧ P t O2) (fun C fs _ => X C fs O2)) X) X) :
    WE K W (tOpX C (lift K sp) (L2.WE W) ta tb) O ts P X := fun b A σ H Q s rs kv kx =>
  h b A σ H _ s rs (fun x v A1 O1 H1 p1 s1 n1 r1 => p1 b A1 σ H1 _ s1 (rs.nxt n1) (fun y u A2 O2 H2 p2 s2 n2 r2 => by
    obtain ⟨fs, d, rfl, rfl, hd, q⟩ := p2
    obtain ⟨a, dx, vs, e, ha⟩ := rep_ins s2 (r1.nxt n2)
    exact ⟨a, dx, vs, e, ha, rep_ioi s2 r2 hd, lift_p (W := W) (σ := σ) s2 (two_rep (r1.nxt n2) r2) rfl (fun _ _ _ z => z) q (kv.nxt (n1.trans n2)) (kx.nxt (n1.trans n2))⟩) (kx.nxt n1)) kx
end G

set_option Elab.async false
set_option linter.all false
set_option maxRecDepth 100000
set_option maxHeartbeats 4000000
/-! HP: a method without arguments that may raise; list(range(a, b)); comprehensions over range(a, b), over rows of unlike lengths. -/
namespace G
open PySem PySem.Spec PyProof.Rows L2
theorem pe_methX0 {X : Cx} {CX : CXT} {k : Nat} {C g : Addr} {sp : Sp} {m : Str} {E : L2.St → XK} {o : Expr} {ta : TE} {pos apos : Pos} {pl : Sem Bool} (he : PE X o ta) (c : Cls X.K C) (M : Meth X.K C m g) (F : FnR X.prog X.w X.K X.mg X.base CX k g sp) (hr : Room k X.A)
    (hx : ∀ σ, PassesAt CX X σ (E σ))
    (h3 : eval (.Call (.Attribute o m apos) [] [] pos) X.env = (eval o X.env >>= fun ov => standAt apos.atName >>= fun _ => holding [ov] (getMethod ov m pl) >>= fun q => callWith pos q.1 q.2 (backTo pos (starEach [] X.env)) (backToKw pos (keywordEach [] X.env))) := by rfl) :
    PE X (.Call (.Attribute o m apos) [] [] pos) (tMethX C m sp E ta tNil) := by
  constructor
  intro pins s σ H Q I h
  refine PySem.W.methodCall_KW (pl := pl) (thn (he.run pins s σ H _ I h) fun u s1 z => ?_) h3
  obtain ⟨x, H1, I1, rx, a, dx, fs, ex, ea, l, q⟩ := z
  cases ex
  cases (show u = Value.ref a from rx)
  exact getmeth_ok I1 ea c M l (PySem.W.callWith_K0 I1.kIn M.kp (run_fnRS (us := [.ref a]) (vs := [.ref a]) F hr (hx σ) I1 (.cons rfl .nil) q))
/-- the integers from a on below b -/
def rgI (a b : Int) : List Int := (List.range (b - a).toNat).map fun i : Nat => a + (i : Int)
theorem rgI_len (a b : Int) : (rgI a b).length = (b - a).toNat := by
  unfold rgI
  rw [List.length_map, List.length_range]
theorem repL_nums {K : PySem.W.Frag} {F : Hp} : ∀ ns : List Int, RepL K F (nums ns) (ns.map V.int)
  | [] => rfl
  | n :: ns => ⟨.int n, _, rfl, rfl, repL_nums ns⟩
section
variable {K : PySem.W.Frag} {W : WX} {O : List OD} {ts : List T} {P : PT'} {X : XX} {ta tb : TE}
theorem w_listRg (h : WE K W ta O ts (fun x O1 => WE K W tb O1 ts (fun y O2 => ∃ i j : Int, x = .v (.int i) ∧ y = .v (.int j) ∧ RgOk i j ∧ P (.v (.lst (nums (rgI i j)))) O2) X) X) : WE K W (tLstRg (tRg2 ta tb)) O ts P X := fun b A σ H Q s rs kv kx =>
  h b A σ H _ s rs (fun x v A1 O1 H1 p1 s1 n1 r1 => p1 b A1 σ H1 _ s1 (rs.nxt n1) (fun y u A2 O2 H2 p2 s2 n2 r2 => by
    obtain ⟨i, j, rfl, rfl, ok, p⟩ := p2
    obtain ⟨_, e1, e2⟩ := r1
    obtain ⟨_, e3, e4⟩ := r2
    cases e1
    cases e3
    refine ⟨i, j, e2, e4, ok, fun q hq => ?_⟩
    obtain ⟨s3, n3, hz⟩ := s2.lay hq (.lst (rgV i j))
    exact kv _ _ A2 O2 _ p s3 ((n1.trans n2).trans n3) ⟨_, rfl, q, _, rfl, hz, by
      have e : rgV i j = (rgI i j).map V.int := by
        unfold rgV rgI
        rw [List.map_map]
        exact List.map_congr_left fun _ _ => rfl
      rw [e]
      exact repL_nums _⟩) (kx.nxt n1)) kx
variable {g : TG} {te : TE} {vs : List Nat}
/-- [e for x in range(lo, hi)] -/
theorem lc_R2 {lo : Int} {n : Nat} (r : Int → D) (hz : n ≤ 1000000)
    (hs : ∀ (i : Nat) acc, i < n → WG K W g (.v (.int (lo + i))) (O ++ [.lst acc]) (wipeT ts vs) (fun ts2 O2 => WE K W te O2 ts2 (fun y O4 => y = .v (r (lo + i)) ∧ O4 = O ++ [.lst acc]) X0))
    (hd : P (.v (.lst ((List.range n).map fun i : Nat => r (lo + i)))) O) : LcEx K W g te vs P ts (itR lo 1 n) O :=
  lc_P (item := fun i : Nat => .v (.int (lo + i))) (fun i : Nat => r (lo + i)) (fun i hi => by
    unfold itR
    rw [if_pos hi, Int.mul_one]) (by unfold itR; rw [if_neg (Nat.lt_irrefl n)]) hz hs hd
/-- the shorter row ahead -/
theorem lc_ZL {α β : Type} (xs : List α) (ys : List β) (e1 : α → D) (e2 : β → D) (f : α → β → D) (hl : xs.length ≤ ys.length) (hz : xs.length ≤ 1000000)
    (hs : ∀ x y acc, x ∈ xs → y ∈ ys → WG K W g (.v (.tup [e1 x, e2 y])) (O ++ [.lst acc]) (wipeT ts vs) (fun ts2 O2 => WE K W te O2 ts2 (fun y' O4 => y' = .v (f x y) ∧ O4 = O ++ [.lst acc]) X0))
    (hd : P (.v (.lst (List.zipWith f xs ys))) O) : LcEx K W g te vs P ts (itZ (xs.map e1) (ys.map e2)) O := by
  have e : itZ (xs.map e1) (ys.map e2) = itZ (xs.map e1) ((ys.take xs.length).map e2) := by
    funext i
    unfold itZ
    rw [List.getElem?_map, List.getElem?_map, List.getElem?_map]
    by_cases hi : i < xs.length
    · rw [List.getElem?_take_of_lt hi]
    · rw [List.getElem?_eq_none (by omega : xs.length ≤ i)]
      rfl
  rw [e]
  refine lc_Z xs (ys.take xs.length) e1 e2 f (by rw [List.length_take]; omega) hz (fun x y acc hx hy => hs x y acc hx (List.mem_of_mem_take hy)) ?_
  have e3 : List.zipWith f xs (ys.take xs.length) = List.zipWith f xs ys := by
    refine List.ext_getElem? fun i => ?_
    rw [List.getElem?_zipWith, List.getElem?_zipWith]
    by_cases hi : i < xs.length
    · rw [List.getElem?_take_of_lt hi]
    · rw [List.getElem?_eq_none (by omega : xs.length ≤ i)]
  rw [e3]
  exact hd
end
end G

set_option Elab.async false
set_option linter.all false
set_option maxRecDepth 100000
set_option maxHeartbeats 4000000
/-! HQ: texts: str(n), str(x) by an own __str__, f-strings, join. -/
namespace G
open PySem PySem.Spec PyProof.Rows L2
/-- str(x), x an instance of C -/
def rStrO (C : Addr) (sp : Sp) (E : XK) : List V → Hp → VK → Prop := fun xs H Q => ∃ a dx fs, xs = [V.ref a] ∧ H a = some (.ins C dx fs) ∧ sp xs H (fun v H' => ∃ y : Str, v = .str y ∧ Q (.str y) H') E
theorem call_strO {X : Cx} {CX : CXT} {k : Nat} {C g : Addr} {sp : Sp} {E : XK} (M : Meth X.K C "__str__" g) (F : FnR X.prog X.w X.K X.mg X.base CX k g sp) (hr : Room (k + 2) X.A) (hx : Passes CX X E) : CallR X (.type "str") (rStrO C sp E) := by
  intro pins s σ H xs us Q I r h
  obtain ⟨a, dx, fs, rfl, ha, q⟩ := h
  obtain ⟨u, rfl, ru⟩ := r.one
  cases (show u = Value.ref a from ru)
  obtain ⟨_, _, ja⟩ := inst_of I ha
  have hr1 : Room (k + 1) X.A.in1 := Room.in1 hr
  have hr2 : Room k X.A.in1.in1 := Room.in1 hr1
  refine PySem.W.kso_call (show X.A.in1.in1.units < cLine by have := hr2.units; omega) I.kIn ja M.at_ M.fn (wpAny_mono (wpAny_call (SlX.run_at (us := [.ref a]) (ws := [.ref a]) F hr2 I.env0.in1.in1 hx I (.cons rfl .nil) q)) (fun w s' z => ?_) fun _ _ z => z)
  obtain ⟨z', H', I', rz, y, e, qz⟩ := z
  subst e
  obtain ⟨t, rfl⟩ := (show ∃ t, w = Value.str y t from rz)
  exact ⟨.str y, H', I', ⟨t, rfl⟩, qz⟩
/-- the texts one behind the other -/
def tJn (tes : List TE) (acc : Str) : TE := fun σ H Q => tJs tes acc σ H fun out H1 => Q (.str out) H1
theorem pe_join2 {X : Cx} {v1 v2 : Expr} {rest : List Expr} {tes : List TE} {pos : Pos} (h : PJ X (v1 :: v2 :: rest) tes) : PE X (.JoinedStr (v1 :: v2 :: rest) pos) (tJn tes Str.empty) := pe_joined h
def rJoin (K : PySem.W.Frag) : V → List V → Hp → VK → Prop := fun x xs H Q => ∃ a p, ∃ ys : List Str, x = .str a ∧ xs = [.ref p] ∧ (SqL K H p (ys.map V.str) ∨ SqT K H p (ys.map V.str)) ∧ (ys.map (·.length)).sum + ys.length * a.length ≤ 16777216 ∧ Q (.str (Txt.join a ys)) H
theorem pe_joinK (K : PySem.W.Frag) {X : Cx} {o e : Expr} {to te : TE} {apos pos : Pos} (ho : PE X o to) (he : PE X e te) (hs : starEach [e] X.env = [(false, eval e X.env)] := by rfl) (hb : attributeBase o "join" X.env (eval o X.env) = eval o X.env := by rfl) (hl : (apos.endLine == pos.line) = true := by rfl) (hK : X.K = K := by rfl) :
    PE X (.Call (.Attribute o "join" apos) [e] [] pos) (tM1 (rJoin K) to te) := hK ▸ pe_join ho he hs hb hl
theorem repL_strs {K : PySem.W.Frag} {F : Hp} : ∀ {ys : List Str} {vs : List V}, RepL K F (ys.map D.str) vs → vs = ys.map V.str
  | [], _, h => h
  | y :: ys, _, h => by
    obtain ⟨v, r, rfl, h1, h2⟩ := h
    rw [show v = V.str y from h1, repL_strs h2]
    rfl
section
variable {K : PySem.W.Frag} {W : WX} {O : List OD} {ts : List T} {P : PT'} {X : XX} {ta tb : TE} {sp : SpD} {C : Addr} {fs : List (Str × D)}
theorem c_strO (h : sp [.v (.ins C fs)] [] (fun t _ => ∃ y : Str, t = .v (.str y) ∧ P (.v (.str y)) O) (fun _ _ _ => False)) : WC K (rStrO C (lift K sp) E0) [.v (.ins C fs)] O P := fun b A H Q vs s r kv => by
  obtain ⟨v, _, rfl, r1, rfl⟩ := r
  obtain ⟨a, dx, us, rfl, ha⟩ := rep_ins s r1
  refine ⟨a, dx, us, rfl, ha, lift_p (W := fun _ _ _ _ => False) (X := fun _ _ _ => False) (σ := []) (P := fun t O' => ∃ y : Str, t = .v (.str y) ∧ P (.v (.str y)) O') s (one_rep r1) rfl (fun _ _ _ z => z) ?_ (fun t v A' O' H' p s' n' r => ?_) fun _ _ _ _ _ _ z => z.elim⟩
  · have ex : (fun (t : T) (_ : List OD) => (∃ d, t = .v d) ∧ ∃ y : Str, t = .v (.str y) ∧ P (.v (.str y)) O) = fun t _ => ∃ y : Str, t = .v (.str y) ∧ P (.v (.str y)) O := by
      funext t _
      exact propext ⟨fun z => z.2, fun ⟨r, e, p⟩ => ⟨⟨_, e⟩, r, e, p⟩⟩
    rw [ex]
    exact h
  · obtain ⟨y, rfl, p⟩ := p
    obtain ⟨_, e1, e2⟩ := id r
    cases e1
    exact ⟨y, e2, kv _ _ A' O' H' p s' n' ⟨_, rfl, rfl⟩⟩
theorem c_strI {i : Int} (hz : i.natAbs.log2 < 1920) (k : P (.v (.str (toString i))) O) : WC K (fun xs H Q => ∃ i : Int, xs = [.int i] ∧ i.natAbs.log2 < 1920 ∧ Q (.str (toString i)) H) [.v (.int i)] O P := fun b A H Q vs s r kv => by
  obtain ⟨_, _, rfl, ⟨_, e1, r1⟩, rfl⟩ := r
  cases e1
  exact ⟨i, by rw [r1], hz, kv _ _ A O H k s Nxt.refl ⟨_, rfl, rfl⟩⟩
theorem w_fmtS (h : WE K W ta O ts (fun x O1 => ∃ y : Str, x = .v (.str y) ∧ y.length ≤ sizeLine ∧ P (.v (.str y)) O1) X) : WE K W (tFmt ta) O ts P X := fun b A σ H Q s rs kv kx =>
  h b A σ H _ s rs (fun x v A1 O1 H1 p s1 n1 r1 => by
    obtain ⟨y, rfl, hz, q⟩ := p
    obtain ⟨_, e1, e2⟩ := id r1
    cases e1
    exact .inl ⟨y, e2, hz, kv _ _ A1 O1 H1 q s1 n1 ⟨_, rfl, rfl⟩⟩) kx
theorem w_fmtI (h : WE K W ta O ts (fun x O1 => ∃ i : Int, x = .v (.int i) ∧ i.natAbs.log2 < 1920 ∧ P (.v (.str (toString i))) O1) X) : WE K W (tFmt ta) O ts P X := fun b A σ H Q s rs kv kx =>
  h b A σ H _ s rs (fun x v A1 O1 H1 p s1 n1 r1 => by
    obtain ⟨y, rfl, hz, q⟩ := p
    obtain ⟨_, e1, e2⟩ := id r1
    cases e1
    exact .inr ⟨y, e2, hz, kv _ _ A1 O1 H1 q s1 n1 ⟨_, rfl, rfl⟩⟩) kx
theorem w_jnil {acc : Str} (k : P (.v (.str acc)) O) : WE K W (tJn [] acc) O ts P X := fun b A σ H Q s rs kv kx => kv _ _ A O H k s Nxt.refl ⟨_, rfl, rfl⟩
theorem w_jcons {acc : Str} {tes : List TE} (h : WE K W ta O ts (fun x O1 => ∃ y : Str, x = .v (.str y) ∧ (acc ++ y).length ≤ sizeLine ∧ WE K W (tJn tes (acc ++ y)) O1 ts P X) X) : WE K W (tJn (ta :: tes) acc) O ts P X := fun b A σ H Q s rs kv kx =>
  h b A σ H _ s rs (fun x v A1 O1 H1 p s1 n1 r1 => by
    obtain ⟨y, rfl, hz, q⟩ := p
    obtain ⟨_, e1, e2⟩ := id r1
    cases e1
    exact ⟨y, e2, hz, q b A1 σ H1 Q s1 (rs.nxt n1) (kv.nxt n1) (kx.nxt n1)⟩) kx
theorem w_join (h : WE K W ta O ts (fun x O1 => ∃ a : Str, x = .v (.str a) ∧ WE K W tb O1 ts (fun y O2 => ∃ ys : List Str, LstD y O2 (ys.map D.str) ∧ (ys.map (·.length)).sum + ys.length * a.length ≤ 16777216 ∧ P (.v (.str (Txt.join a ys))) O2) X) X) : WE K W (tM1 (rJoin K) ta tb) O ts P X := fun b A σ H Q s rs kv kx =>
  h b A σ H _ s rs (fun x v A1 O1 H1 p s1 n1 r1 => by
    obtain ⟨a, rfl, q⟩ := p
    obtain ⟨_, e1, e2⟩ := id r1
    cases e1
    refine ⟨⟨a, e2⟩, q b A1 σ H1 _ s1 (rs.nxt n1) (fun y u A2 O2 H2 p2 s2 n2 r2 => ?_) (kx.nxt n1)⟩
    obtain ⟨ys, hl, hz, k⟩ := p2
    obtain ⟨p', vs, rfl, sq, rl⟩ := lstD_at hl s2 r2
    rw [repL_strs rl] at sq
    exact ⟨a, p', ys, e2, rfl, .inl sq, hz, kv _ _ A2 O2 H2 k s2 (n1.trans n2) ⟨_, rfl, rfl⟩⟩) kx
end
/-- how long the text of an integer is -/
theorem text_len {n : Int} (h : Sm n) : (Str.ofString (toString n)).length ≤ 201 := by
  rw [PySem.ofString_length]
  exact int_text_length_le (k := 200) (by decide) (sm_log h)
theorem sm_1920 {n : Int} (h : Sm n) : n.natAbs.log2 < 1920 := Nat.lt_trans (sm_log h) (by decide)
theorem texts_len {ns : List Int} (h : ∀ n ∈ ns, Sm n) : ((ns.map fun n => Str.ofString (toString n)).map (·.length)).sum ≤ 201 * ns.length := by
  induction ns with
  | nil => exact Nat.le_refl _
  | cons n ns ih =>
    have k := text_len (h n List.mem_cons_self)
    have i := ih fun y hy => h y (List.mem_cons_of_mem _ hy)
    rw [List.map_cons, List.map_cons, List.sum_cons, List.length_cons]
    omega
end G
namespace G
open PySem PySem.Spec PyProof.Rows L2
theorem shows_lst {ns : List Int} (h : ∀ n ∈ ns, Sm n) (hl : ns.length ≤ 100) : Shows (.lst (nums ns)) (.list (ns.map PyData.int)) := by
  refine ⟨?_, ?_, ?_, ?_⟩
  · show (pyL (nums ns)).map PyData.list = _
    rw [py_ints]
    rfl
  · rw [PyData.showable]
    exact sh_ints ns h
  · rw [PyData.depth]
    have := dp_ints ns
    omega
  · obtain ⟨k1, k2⟩ := ln_ints ns h
    rw [PyData.shown]
    have k3 := listText_len_le (PyData.shownAll (ns.map PyData.int))
    rw [k2] at k3
    rw [sizeLine_eq]
    omega
end G

set_option Elab.async false
set_option linter.all false
set_option maxRecDepth 100000
set_option maxHeartbeats 4000000
/-! HR: staticmethods; instances that stay owned: made, asked, changed. -/
namespace G
open PySem PySem.Spec PyProof.Rows L2
/-! ### C.m(..), m a staticmethod -/
structure SMet (K : PySem.W.Frag) (C : Addr) (m : Str) (g : Addr) : Prop where
  rd : PySem.W.readsIn K C (.type "type") = true
  ga : PySem.W.specialIn K (.ref C) "__getattribute__" = some (some (.builtin "type.__getattribute__"))
  wr : PySem.W.findCls K (.ref C) (.type "type") m = some (.get (.builtin "staticmethod.__get__") (.ref (He.ma K C m)) .none (.ref C)) ∧ ∃ rest, PySem.W.recIn K (He.ma K C m) "staticmethod" = some (.ref g :: rest)
  kp : PySem.W.keepIn K (.ref g) = true
def smB (K : PySem.W.Frag) (d : PrD) : Bool := PySem.W.readsIn K (He.ga K d.cls) (.type "type") && (He.eqO (PySem.W.specialIn K (.ref (He.ga K d.cls)) "__getattribute__") (some (some (.builtin "type.__getattribute__"))) && He5.wrapB K (He.ga K d.cls) "staticmethod" "staticmethod.__get__" d.name)
theorem smet_of {K : PySem.W.Frag} {d : PrD} (h : d.oks K = true) (hk : d.kind = "staticmethod") (p : smB K d = true) : SMet K (He.ga K d.cls) d.name (d.g K) := by
  obtain ⟨h1, p2⟩ := He.ba p
  obtain ⟨h2, h3⟩ := He.ba p2
  refine ⟨h1, He.eqO_ok h2, ⟨(He5.wrapB_ok h3).1, ?_⟩, (He.ba h).1⟩
  have := d.rec_ h
  rw [hk] at this
  exact this
def tSMeth (C : Addr) (sp : Sp) (E : XK) (ta : TE) (t : TA) : TE := fun σ H Q => ta σ H fun x H1 => x = .ref C ∧ t σ H1 fun vs H2 => sp vs H2 Q E
theorem get_static {X : Cx} {pins : List (Addr × Obj)} {σ : L2.St} {H : Hp} {s : Shared} {A : Around} {Er : Value → Shared → Prop} {C g : Addr} {m : Str} {pl : Sem Bool} {Q : Value × List Value → Shared → Prop} (I : Inv X pins σ H s) (M : SMet X.K C m g)
    (h : ∀ s', Inv X pins σ H s' → Q (.ref g, []) s') : wpAny (model X.prog X.w) A (getMethod (.ref C) m pl) Q Er s := by
  obtain ⟨e, rest, hp⟩ := M.wr
  exact PySem.W.method_cls I.kIn M.ga (PySem.W.cls_bind I.kIn M.rd e (wpAny_call (PySem.W.sm_get (s := { s with toks := s.toks + 1 }) I.kIn hp (PySem.W.handed_on rfl (h _ (I.tok _))))))
theorem pe_smeth {X : Cx} {CX : CXT} {k : Nat} {C g : Addr} {sp : Sp} {m : Str} {E : XK} {o e : Expr} {es : List Expr} {ta : TE} {t : TA} {pos apos : Pos} {pl : Sem Bool} (he : PE X o ta) (M : SMet X.K C m g) (F : FnR X.prog X.w X.K X.mg X.base CX k g sp) (hr : Room k X.A) (hx : Passes CX X E) (ha : PA X (e :: es) t)
    (h1 : starEach (e :: es) X.env = (false, eval e X.env) :: starEach es X.env := by rfl) (h2 : (backTo pos (starEach es X.env)).any (·.1) = false := by rfl)
    (h3 : eval (.Call (.Attribute o m apos) (e :: es) [] pos) X.env = (eval o X.env >>= fun ov => standAt apos.atName >>= fun _ => holding [ov] (getMethod ov m pl) >>= fun q => callWith pos q.1 q.2 (backTo pos (starEach (e :: es) X.env)) (backToKw pos (keywordEach [] X.env))) := by rfl) :
    PE X (.Call (.Attribute o m apos) (e :: es) [] pos) (tSMeth C sp E ta t) := by
  constructor
  intro pins s σ H Q I h
  refine PySem.W.methodCall_KW (pl := pl) (thn (he.run pins s σ H _ I h) fun u s1 z => ?_) h3
  obtain ⟨x, H1, I1, rx, ex, q⟩ := z
  cases ex
  cases (show u = Value.ref C from rx)
  refine get_static I1 M fun s2 I2 => ?_
  refine PySem.W.callWith_K (first := []) (h₀ := X.base) I2.ok.mod.kin M.kp (thn (ha.run pos pins s2 σ H1 _ I2 q) fun us s3 z2 => ?_) h1 h2
  obtain ⟨vs, H2, I3, r, q2⟩ := z2
  exact ⟨I3.kIn, wpAny_call (run_fnR (us := us) (vs := vs) F hr hx I3 r q2)⟩
section
variable {K : PySem.W.Frag} {W : WX} {O : List OD} {ts : List T} {P : PT'} {X : XX} {sp : SpD} {tr : TA} {ta tv : TE} {C : Addr} {m f : Str}
theorem w_smeth (h : WE K W ta O ts (fun x O1 => x = .v (.ref C) ∧ WA K W tr O1 ts (fun xs O2 => ∃ ds, unv xs = some ds ∧ sp xs [] (fun t _ => (∃ d, t = .v d) ∧ P t O2) (fun _ _ _ => False)) X) X) :
    WE K W (tSMeth C (lift K sp) E0 ta tr) O ts P X := fun b A σ H Q s rs kv kx =>
  h b A σ H _ s rs (fun x v A1 O1 H1 p1 s1 n1 r1 => by
    obtain ⟨rfl, p⟩ := p1
    obtain ⟨_, e1, e2⟩ := id r1
    cases e1
    refine ⟨e2, p b A1 σ H1 _ s1 (rs.nxt n1) (fun xs us A2 O2 H2 p2 s2 n2 r2 => ?_) (kx.nxt n1)⟩
    obtain ⟨ds, e, q⟩ := p2
    exact lift_p (W := fun _ _ _ _ => False) (X := fun _ _ _ => False) (σ := σ) s2 r2 e (fun _ _ _ z => z) q (kv.nxt (n1.trans n2)) fun _ _ _ _ _ _ z => z.elim) kx
/-! ### a method of an owned instance -/
theorem own_ins {b : Bs} {A : List Addr} {H : Hp} {i : Nat} {v : V} {fs : List (Str × D)} (s : StO K b A O H) (r : RepT K (Fz b A O H) A (.own i) (some v)) (ho : O[i]? = some (.ins C fs)) : ∃ a dx vs, v = .ref a ∧ A[i]? = some a ∧ H a = some (.ins C dx vs) ∧ RepF K (Fz b A O H) fs vs := by
  obtain ⟨a, ha, e⟩ := r
  cases e
  obtain ⟨dx, vs, h1, h2⟩ := s.cell i a _ ha ho
  exact ⟨a, dx, vs, rfl, ha, h1, h2⟩
theorem w_methO (i : Nat) (h : WE K W ta O ts (fun x O1 => ∃ fs, x = .own i ∧ O1[i]? = some (.ins C fs) ∧ fs.lookup m = none ∧ WA K W tr O1 ts (fun xs O2 => ∃ ys o, tr1 i xs = some ys ∧ O2[i]? = some o ∧ okG [o] = true ∧
    sp (.own 0 :: ys) [o] (fun t O' => ∃ o', O' = [o'] ∧ okR t = true ∧ P (un1 i t) (O2.set i o')) (fun _ _ _ => False)) X) X) : WE K W (tMeth C m (lift K sp) [] E0 ta tr) O ts P X := fun b A σ H Q s rs kv kx =>
  h b A σ H _ s rs (fun x v A1 O1 H1 p1 s1 n1 r1 => by
    obtain ⟨fs, rfl, ho, hm, p⟩ := p1
    obtain ⟨a, dx, vs, rfl, ha, h1, h2⟩ := own_ins s1 r1 ho
    refine ⟨a, dx, vs, rfl, h1, h2.none hm, p b A1 σ H1 _ s1 (rs.nxt n1) (fun xs us A2 O2 H2 p2 s2 n2 r2 => ?_) (kx.nxt n1)⟩
    obtain ⟨ys, o, e, ho2, ng, q⟩ := p2
    rw [List.append_nil]
    have x0 : (fun (C : Value) (fs : Option (List (Str × D))) (O' : List OD) => ∃ o', O' = [o'] ∧ (fun _ _ _ => False : XX) C fs (O2.set i o')) = fun _ _ _ => False := by
      funext C fs O'
      exact propext ⟨fun ⟨_, _, z⟩ => z, fun z => z.elim⟩
    refine lift_1 (W := fun _ _ _ _ => False) (X := fun _ _ _ => False) (σ := σ) (xs := .own i :: xs) (ys := .own 0 :: ys) s2 ⟨.ref a, us, rfl, r1.nxt n2, r2⟩ ?_ ho2 ng (fun _ _ _ z => z) (by rw [x0]; exact q) (kv.nxt (n1.trans n2)) fun _ _ _ _ _ _ z => z.elim
    show (if i = i then (tr1 i xs).map (.own 0 :: ·) else none) = _
    rw [if_pos rfl, e] <;> rfl) kx
theorem tr1_v {i : Nat} : ∀ {xs : List T} {ds : List D}, unv xs = some ds → tr1 i xs = some xs
  | [], _, _ => rfl
  | .v d :: xs, ds, e => by
    have e3 : (unv xs).map (d :: ·) = some ds := e
    cases q : unv xs with
    | none =>
      rw [q] at e3
      cases e3
    | some es =>
      show (tr1 i xs).map (T.v d :: ·) = _
      rw [tr1_v q] <;> rfl
  | .own _ :: _, _, e => by cases e
  | .no :: _, _, e => by cases e
  | .clo _ _ :: _, _, e => by cases e
/-- C(..), the new instance stays owned -/
theorem w_makeO (h : WA K W tr O ts (fun xs O1 => ∃ ds, unv xs = some ds ∧ sp (.own 0 :: xs) [.ins C []] (fun t O' => t = .v .non ∧ ∃ fs, O' = [.ins C fs] ∧ P (.own O1.length) (O1 ++ [.ins C fs])) (fun _ _ _ => False)) X) :
    WE K W (tMake C (lift K sp) [] E0 tr) O ts P X := fun b A σ H Q s rs kv kx =>
  h b A σ H _ s rs (fun xs vs A1 O1 H1 p1 s1 n1 r1 x dx hx hdx hne => by
    obtain ⟨ds, e, p⟩ := p1
    rw [List.append_nil]
    obtain ⟨s2, n2⟩ := s1.lay2 hdx (.own x)
    have hx2 : upd H1 dx (.own x) x = none := by
      rw [upd_ne hne.symm]
      exact hx
    obtain ⟨s3, n3⟩ := s2.own (u := .ins C dx []) (o := .ins C []) hx2 ⟨dx, [], upd_same, rfl⟩
    have n13 := n2.trans n3
    have hat : (A1 ++ [x])[O1.length]? = some x := by
      rw [← s1.len, List.getElem?_append_right (Nat.le_refl _), Nat.sub_self] <;> rfl
    have hoat : (O1 ++ [OD.ins C []])[O1.length]? = some (.ins C []) := by
      rw [List.getElem?_append_right (Nat.le_refl _), Nat.sub_self] <;> rfl
    have es : ∀ o' : OD, (O1 ++ [OD.ins C []]).set O1.length o' = O1 ++ [o'] := fun o' => by
      rw [List.set_append_right _ _ (Nat.le_refl _), Nat.sub_self] <;> rfl
    refine lift_1 (W := fun _ _ _ _ => False) (X := fun _ _ _ => False) (σ := σ) (P := fun t O' => t = .v .non ∧ ∃ fs, O' = O1 ++ [.ins C fs] ∧ P (.own O1.length) O') s3 (xs := .own O1.length :: xs) (ys := .own 0 :: xs) ⟨.ref x, vs, rfl, ⟨x, hat, rfl⟩, r1.nxt n13⟩ ?_ hoat rfl (fun C d H z => z) ?_
      (fun t v A' O' H' q s' n' rt => ?_) (fun C fs A' O' H' d z => z.elim)
    · show (if O1.length = O1.length then (tr1 O1.length xs).map (T.own 0 :: ·) else none) = _
      rw [if_pos rfl, tr1_v e] <;> rfl
    · have x0 : (fun (C' : Value) (fs : Option (List (Str × D))) (O' : List OD) => ∃ o', O' = [o'] ∧ (fun _ _ _ => False : XX) C' fs ((O1 ++ [OD.ins C []]).set O1.length o')) = fun _ _ _ => False := by
        funext C fs O'
        exact propext ⟨fun ⟨_, _, z⟩ => z, fun z => z.elim⟩
      have pq : (fun (t : T) (O' : List OD) => ∃ o', O' = [o'] ∧ okR t = true ∧ (un1 O1.length t = .v .non ∧ ∃ fs, (O1 ++ [OD.ins C []]).set O1.length o' = O1 ++ [.ins C fs] ∧ P (.own O1.length) ((O1 ++ [OD.ins C []]).set O1.length o'))) = fun t O' => t = .v .non ∧ ∃ fs, O' = [.ins C fs] ∧ P (.own O1.length) (O1 ++ [.ins C fs]) := by
        funext t O'
        refine propext ⟨?_, ?_⟩
        · rintro ⟨o', rfl, hn, hu, fs, e1, q⟩
          rw [es] at e1 q
          have e2 : o' = .ins C fs := by
            have := List.append_cancel_left e1
            injection this
          subst e2
          refine ⟨?_, fs, rfl, q⟩
          cases t with
          | v d => exact hu
          | own j => cases hu
          | no => cases hn
          | clo R f => cases hn
        · rintro ⟨rfl, fs, rfl, q⟩
          exact ⟨_, rfl, rfl, rfl, fs, es _, by rw [es]; exact q⟩
      rw [x0, pq]
      exact p
    · obtain ⟨rfl, fs, rfl, q⟩ := q
      obtain ⟨_, e1, e2⟩ := rt
      cases e1
      exact ⟨e2, kv _ _ A' _ H' q s' (n1.trans (n13.trans n')) ⟨x, n'.at_ hat, rfl⟩⟩) kx
/-- e.f += n, e an owned instance -/
theorem s_fldaug {DE' : DE} (n : NoAttr K C f) (c : Cls K C) (h : WE K W ta O ts (fun x O1 => ∃ i fs j, x = .own i ∧ O1[i]? = some (.ins C fs) ∧ fs.lookup f = some (.int j) ∧ WE K W tv O1 ts (fun y O2 => ∃ gs k, y = .v (.int k) ∧ O2[i]? = some (.ins C gs) ∧ gs.length < 1000 ∧ DE'.nx ts (O2.set i (.ins C (putD f (.int (j + k)) gs)))) (fun C fs O' => DE'.xe C fs ts O')) (fun C fs O' => DE'.xe C fs ts O')) :
    WS K W (sFldAug K ta tv rAdd f) O ts DE' := fun b A σ H D s rs ks =>
  h b A σ H _ s rs (fun x v A1 O1 H1 p1 s1 n1 r1 => by
    obtain ⟨i, fs, j, rfl, ho, hj, p⟩ := p1
    obtain ⟨a, dx, vs, rfl, ha, h1, h2⟩ := own_ins s1 r1 ho
    obtain ⟨w, e1, e2⟩ := h2.look hj
    refine ⟨a, C, dx, vs, w, rfl, h1, c, n, e1, p b A1 σ H1 _ s1 (rs.nxt n1) (fun y u A2 O2 H2 p2 s2 n2 r2 => ?_) ((ks.kx rs).nxt n1)⟩
    obtain ⟨gs, k, rfl, ho2, hz, q⟩ := p2
    obtain ⟨_, e3, e4⟩ := id r2
    cases e3
    have ha2 := n2.at_ ha
    obtain ⟨dx', us, g1, g2⟩ := s2.cell i a _ ha2 ho2
    refine ⟨j, k, e2, e4, dx', us, g1, by rw [g2.length]; exact hz, ?_⟩
    obtain ⟨s3, n3⟩ := s2.put (w := .ins C dx' (putF f (V.int (j + k)) us)) (o := .ins C (putD f (.int (j + k)) gs)) ha2 ho2 (fun z => by cases z) (fun z => by cases z) ⟨dx', _, upd_same, repF_put (d := .int (j + k)) rfl g2⟩
    exact ks.nx ts σ A2 _ _ q s3 ((n1.trans n2).trans n3) (rs.nxt ((n1.trans n2).trans n3))) (ks.kx rs)
end
end G

set_option Elab.async false
set_option linter.all false
set_option maxRecDepth 100000
set_option maxHeartbeats 4000000
/-! HS: the signs of a text, one by one; texts split; numbers read. -/
namespace G
open PySem PySem.Spec PyProof.Rows L2 TL
def rSplit : V → List V → Hp → VK → Prop := fun x xs H Q => ∃ a b, x = .str a ∧ xs = [.str b] ∧ (b.length == 0) = false ∧ a.length + 2 ≤ sizeLine ∧ rNewStrs (Txt.split a b) H Q
theorem pe_splitK {X : Cx} {o e : Expr} {to te : TE} {apos pos : Pos} (ho : PE X o to) (he : PE X e te) (hs : starEach [e] X.env = [(false, eval e X.env)] := by rfl) (hb : attributeBase o "split" X.env (eval o X.env) = eval o X.env := by rfl) (hl : (apos.endLine == pos.line) = true := by rfl) :
    PE X (.Call (.Attribute o "split" apos) [e] [] pos) (tM1 rSplit to te) := pe_split ho he hs hb hl
def rSign : R2 := fun x y H Q => ∃ (c : Nat) (z : Str), x = .str ⟨#[c]⟩ ∧ y = .str z ∧ Q (.bl (decide (c ∈ z.cps.toList))) H
theorem op_inSign {X : Cx} : OpR X (compareOp .In) rSign := op_in_sign
def rIntS : List V → Hp → VK → Prop := fun xs H Q => ∃ a n, xs = [V.str a] ∧ PySem.intText? a = some n ∧ a.length ≤ 640 ∧ Q (.int n) H
theorem call_intS {X : Cx} : CallR X (.type "int") rIntS := call_int_str
theorem op_inK (K : PySem.W.Frag) {X : Cx} (hK : X.K = K := by rfl) : OpR X (compareOp .In) (rIn K false) := hK ▸ op_in_seq
theorem op_notInK (K : PySem.W.Frag) {X : Cx} (hK : X.K = K := by rfl) : OpR X (compareOp .NotIn) (rIn K true) := hK ▸ op_notIn_seq
theorem repL_of_strs {K : PySem.W.Frag} {F : Hp} : ∀ ys : List Str, RepL K F (ys.map D.str) (ys.map V.str)
  | [] => rfl
  | y :: ys => ⟨.str y, _, rfl, rfl, repL_of_strs ys⟩
theorem flat_strs : ∀ ys : List Str, (ys.map V.str).all flatV = true
  | [] => rfl
  | y :: ys => flat_strs ys
section
variable {K : PySem.W.Frag} {W : WX} {O : List OD} {ts : List T} {P : PT'} {X : XX} {ta tb : TE}
/-- the signs of a text -/
theorem i_str {S : (Nat → Option T) → List OD → Prop} (h : WE K W ta O ts (fun t O' => ∃ z : Str, t = .v (.str z) ∧ S (itD (z.cps.toList.map fun c => D.str ⟨#[c]⟩)) O') X) : WI K W (iStr ta) O ts S X := fun b A σ H R s rs k kx =>
  h b A σ H _ s rs (fun t v A' O' H' p s' n' r' => by
    obtain ⟨z, rfl, q⟩ := p
    obtain ⟨_, e, e2⟩ := r'
    cases e
    refine ⟨z, e2, k (Its z) _ A' O' H' q s' n' fun i A2 O2 H2 s2 n2 => ⟨fun hn _ => ?_, fun t ht => ?_⟩⟩
    · have := itD_none hn
      rw [List.length_map, Array.length_toList] at this
      exact this
    · obtain ⟨d, e1, rfl⟩ := itD_some ht
      rw [List.getElem?_map] at e1
      cases q : z.cps.toList[i]? with
      | none =>
        rw [q] at e1
        cases e1
      | some c =>
        rw [q] at e1
        have ed : D.str ⟨#[c]⟩ = d := Option.some.inj e1
        subst ed
        have hi := (List.getElem?_eq_some_iff.mp q).1
        rw [Array.length_toList] at hi
        refine ⟨hi, fun x H3 y => ?_⟩
        obtain ⟨rfl, c', hc, rfl⟩ := y
        rw [Array.getElem?_toList, hc] at q
        have ec : c' = c := Option.some.inj q
        subst ec
        exact ⟨s2, Nxt.refl, ⟨_, rfl, rfl⟩⟩) kx
theorem w_split (h : WE K W ta O ts (fun x O1 => ∃ a : Str, x = .v (.str a) ∧ WE K W tb O1 ts (fun y O2 => ∃ c : Str, y = .v (.str c) ∧ (c.length == 0) = false ∧ a.length + 2 ≤ sizeLine ∧ P (.v (.lst ((Txt.split a c).map D.str))) O2) X) X) : WE K W (tM1 rSplit ta tb) O ts P X := fun b A σ H Q s rs kv kx =>
  h b A σ H _ s rs (fun x v A1 O1 H1 p s1 n1 r1 => by
    obtain ⟨a, rfl, q⟩ := p
    obtain ⟨_, e1, e2⟩ := id r1
    cases e1
    refine ⟨⟨a, e2⟩, q b A1 σ H1 _ s1 (rs.nxt n1) (fun y u A2 O2 H2 p2 s2 n2 r2 => ?_) (kx.nxt n1)⟩
    obtain ⟨c, rfl, hc, hz, k⟩ := p2
    obtain ⟨_, e3, e4⟩ := id r2
    cases e3
    refine ⟨a, c, e2, by rw [e4], hc, hz, fun p' hp => ?_⟩
    obtain ⟨s3, n3, q3⟩ := s2.lay hp (.lst ((Txt.split a c).map V.str))
    exact kv _ _ A2 O2 _ k s3 ((n1.trans n2).trans n3) ⟨_, rfl, p', _, rfl, q3, repL_of_strs _⟩) kx
theorem w_inSign {c : Nat} {z : Str} (k : P (.v (.bl (decide (c ∈ z.cps.toList)))) O) : WR K rSign (.v (.str ⟨#[c]⟩)) (.v (.str z)) O P := fun b A H Q v u s r1 r2 kv => by
  obtain ⟨_, e1, e2⟩ := r1
  obtain ⟨_, e3, e4⟩ := r2
  cases e1
  cases e3
  exact ⟨c, z, e2, e4, kv _ _ A O H k s Nxt.refl ⟨_, rfl, rfl⟩⟩
theorem w_inT {neg : Bool} {x : Str} {ys : List Str} (k : P (.v (.bl (if neg then !inV (.str x) (ys.map V.str) else inV (.str x) (ys.map V.str)))) O) : WR K (rIn K neg) (.v (.str x)) (.v (.tup (ys.map D.str))) O P := fun b A H Q v u s r1 r2 kv => by
  obtain ⟨_, e1, e2⟩ := r1
  cases e1
  obtain ⟨a, vs, rfl, h1, h2⟩ := tupD_at (hid_ex : Ex (Fz b A O H) H) r2
  rw [repL_strs h2] at h1
  cases (show v = V.str x from e2)
  exact ⟨a, _, rfl, .inr h1, rfl, flat_strs ys, kv _ _ A O H k s Nxt.refl ⟨_, rfl, rfl⟩⟩
theorem w_ixS {z : Str} {i : Int} {c : Nat} (hz : z.length ≤ sizeLine) (h : atI z.cps.toList i = some c) (k : P (.v (.str ⟨#[c]⟩)) O) : WR K rIxS (.v (.str z)) (.v (.int i)) O P := fun b A H Q v u s r1 r2 kv => by
  obtain ⟨_, e1, e2⟩ := r1
  obtain ⟨_, e3, e4⟩ := r2
  cases e1
  cases e3
  exact ⟨z, i, c, e2, e4, hz, h, kv _ _ A O H k s Nxt.refl ⟨_, rfl, rfl⟩⟩
theorem c_intS {a : Str} {n : Int} (h : PySem.intText? a = some n) (hl : a.length ≤ 640) (k : P (.v (.int n)) O) : WC K rIntS [.v (.str a)] O P := fun b A H Q vs s r kv => by
  obtain ⟨_, _, rfl, ⟨_, e1, r1⟩, rfl⟩ := r
  cases e1
  exact ⟨a, n, by rw [r1], h, hl, kv _ _ A O H k s Nxt.refl ⟨_, rfl, rfl⟩⟩
end
/-! ### the texts of numbers -/
/-- the text of an integer from 0 on -/
def numS (n : Nat) : Str := Str.ofString (toString ((n : Nat) : Int))
theorem numS_tl (n : Nat) : (numS n).cps.toList = numL n := tl_num n
theorem numS_len {n : Nat} (h : n < 10 ^ 40) : (numS n).length ≤ 40 ∧ 1 ≤ (numS n).length := by
  rw [len_tl (numS n), show tl (numS n) = numL n from tl_num n]
  refine ⟨numL_len (by decide) h, ?_⟩
  cases e : numL n with
  | nil => exact absurd e (numL_ne n)
  | cons a r => exact Nat.le_add_left 1 _
theorem numS_int {n : Nat} (h : n < 10 ^ 40) : PySem.intText? (numS n) = some (n : Int) := int_num (Nat.le_trans (numL_len (by decide) h) (by decide))
theorem numS_free (n : Nat) : 32 ∉ tl (numS n) := by
  rw [show tl (numS n) = numL n from tl_num n]
  exact numL_free (.inl (by decide))
theorem digit_in {c : Nat} (h1 : 48 ≤ c) (h2 : c ≤ 57) : c ∈ ("0123456789" : Str).cps.toList := by
  have e : ("0123456789" : Str).cps.toList = [48, 49, 50, 51, 52, 53, 54, 55, 56, 57] := by decide +kernel
  rw [e]
  simp only [List.mem_cons, List.not_mem_nil, or_false]
  omega
theorem numS_signs (n : Nat) : ∀ c ∈ (numS n).cps.toList, c ∈ ("0123456789" : Str).cps.toList := fun c hc => by
  rw [numS_tl] at hc
  have := numL_digits n c hc
  exact digit_in (by omega) (by omega)
/-- no sign 0 ahead, but of 0 itself -/
theorem numL_head : ∀ n : Nat, n ≠ 0 → ∃ c r, numL n = c :: r ∧ c ≠ 48 := fun n => by
  induction n using Nat.strongRecOn with
  | _ n ih =>
    intro h0
    by_cases h : n < 10
    · rw [numL_lt h]
      exact ⟨_, _, rfl, by omega⟩
    · obtain ⟨c, r, e, hc⟩ := ih (n / 10) (by omega) (by omega)
      rw [numL_step (by omega), e]
      exact ⟨c, _, rfl, hc⟩
theorem numS_zero : numS 0 = "0" := ext_tl (by rw [show tl (numS 0) = numL 0 from tl_num 0, numL_lt (by decide)]; decide +kernel)
theorem numS_ne {n : Nat} (h : n ≠ 0) : numS n ≠ "0" := fun z => by
  obtain ⟨c, r, e, hc⟩ := numL_head n h
  have e2 := numS_tl n
  rw [z, e, show ("0" : Str).cps.toList = [48] by decide +kernel] at e2
  injection e2 with e3 e4
  exact hc e3.symm
end G

set_option Elab.async false
set_option linter.all false
set_option maxRecDepth 100000
set_option maxHeartbeats 4000000
/-! HT: a def called by all its parameters' names, the last one first. -/
namespace G
open PySem PySem.Spec PyProof.Rows L2
def tCallKr (sp : Sp) (E : XK) (t : TA) : TE := fun σ H Q => t σ H fun zs H1 => sp zs.reverse H1 Q E
theorem vals_rev {vs : List V} {us : List Value} (r : Vals vs us) : Vals vs.reverse us.reverse := turn_vals (tw := true) r
theorem pe_callKn {X : Cx} {CX : CXT} {k : Nat} {f : Addr} {fd : FuncData} {ps : List Str} {sp : Sp} {E : XK} {x : Str} {kws : List Keyword} {tk : TA} {p pos : Pos} (F : FnOk X.prog X.w X.K X.mg X.base CX k f fd ps sp) (hr : Room k X.A) (hg : Gl X x) (hm : X.mg x = some (.ref f)) (hk : PySem.W.keepIn X.K (.ref f) = true) (hb : KwR X.K fd ps) (hx : Passes CX X E)
    (hkw : PK X kws tk) (hall : (backToKw pos (keywordEach kws X.env)).all (·.1.isSome) = true := by rfl) (hks : (backToKw pos (keywordEach kws X.env)).filterMap (·.1) = ps.reverse := by rfl)
    (hdb : (x == ("__debug__" : Str)) = false := by decide)
    (hpl : ((backTo pos (starEach [] X.env)).any (·.1) || (backToKw pos (keywordEach kws X.env)).any (·.1.isNone)) = false := by rfl) :
    PE X (.Call (.Name x p) [] kws pos) (tCallKr sp E tk) := by
  constructor
  intro pins s σ H Q I h
  refine wpAny_Call_Name_kw (ld_glob I hg hm ?_ hdb)
  refine PySem.W.callWith_KW0 (h₀ := X.base) I.ok.mod.kin hk hall (thn (hkw.run pos pins s σ H _ I h) fun ws s2 z => ?_) hpl
  obtain ⟨zs, H2, I2, rz, q2⟩ := z
  refine ⟨I2.kIn, ?_⟩
  rw [hks]
  have l0 := F.len _ _ _ _ q2
  rw [List.length_reverse, rz.length] at l0
  refine wpAny_call (codeAny_mono (F.run X.A X.stack s2 H2 ⟨[], ps.reverse.zip ws⟩ ws.reverse zs.reverse Q E hr I2.env0 (hb s2 ws I2.kIn l0) (vals_rev rz) q2) fun r s' hq => ?_)
  exact match r, hq with
    | .error e, hq => hx pins σ H2 s2 e s' I2 hq
    | .ok (.ret _), hq => I2.after hq
theorem w_fnKr {K : PySem.W.Frag} {W : WX} {O : List OD} {ts : List T} {P : PT'} {X : XX} {sp : SpD} {tk : TA} (h : WA K W tk O ts (fun xs O1 => ∃ ds, unv xs = some ds ∧ sp (ds.reverse.map T.v) [] (fun t _ => (∃ d, t = .v d) ∧ P t O1) (fun _ _ _ => False)) X) :
    WE K W (tCallKr (lift K sp) E0 tk) O ts P X := fun b A σ H Q s rs kv kx =>
  h b A σ H _ s rs (fun xs vs A1 O1 H1 p1 s1 n1 r1 => by
    obtain ⟨ds, e, p⟩ := p1
    exact lift_p (W := fun _ _ _ _ => False) (X := fun _ _ _ => False) (σ := σ) s1 (xs := ds.reverse.map T.v) (ds := ds.reverse) (turn_rep (tw := true) r1 e) unv_map (fun _ _ _ z => z) p (kv.nxt n1) fun _ _ _ _ _ _ z => z.elim) kx
end G
namespace G
open PySem PySem.Spec PyProof.Rows L2
def rAddStr : R2 := fun x y H Q => ∃ a b, x = .str a ∧ y = .str b ∧ a.length + b.length ≤ sizeLine ∧ Q (.str (a ++ b)) H
theorem op_addS {X : Cx} : OpR X (binaryOp .Add) rAddStr := op_add_str
theorem w_addS {K : PySem.W.Frag} {O : List OD} {P : PT'} {a c : Str} (hz : a.length + c.length ≤ sizeLine) (k : P (.v (.str (a ++ c))) O) : WR K rAddStr (.v (.str a)) (.v (.str c)) O P := fun b A H Q v u s r1 r2 kv => by
  obtain ⟨_, e1, e2⟩ := r1
  obtain ⟨_, e3, e4⟩ := r2
  cases e1
  cases e3
  exact ⟨a, c, e2, e4, hz, kv _ _ A O H k s Nxt.refl ⟨_, rfl, rfl⟩⟩
end G

set_option Elab.async false
set_option linter.all false
set_option maxRecDepth 100000
set_option maxHeartbeats 4000000
/-! HU: list(x) that stays owned; comprehensions with a test over range(a, b); slices of numbers. -/
namespace G
open PySem PySem.Spec PyProof.Rows L2
section
variable {K : PySem.W.Frag} {W : WX} {O : List OD} {ts : List T} {P : PT'} {X : XX} {g : TG} {te : TE} {vs : List Nat}
theorem c_listLO {x : T} {ds : List D} (hx : LstD x O ds) (k : P (.own O.length) (O ++ [.lst ds])) : WC K (rListOf K) [x] O P := fun b A H Q vs s r kv => by
  obtain ⟨v, _, rfl, r1, rfl⟩ := r
  obtain ⟨a, us, rfl, h1, h2⟩ := lstD_at hx s r1
  refine ⟨a, us, rfl, .inl h1, fun p hp => ?_⟩
  have hn := s.fresh hp
  obtain ⟨s2, n2⟩ := s.own (u := .lst us) (o := .lst ds) hp ⟨us, upd_same, h2⟩
  refine kv _ _ (A ++ [p]) _ _ k s2 n2 ⟨p, ?_, rfl⟩
  rw [← s.len, List.getElem?_append_right (Nat.le_refl _), Nat.sub_self] <;> rfl
theorem c_listTO {ds : List D} (k : P (.own O.length) (O ++ [.lst ds])) : WC K (rListOf K) [.v (.tup ds)] O P := fun b A H Q vs s r kv => by
  obtain ⟨v, _, rfl, r1, rfl⟩ := r
  obtain ⟨a, us, rfl, h1, h2⟩ := tupD_at (hid_ex : Ex (Fz b A O H) H) r1
  refine ⟨a, us, rfl, .inr h1, fun p hp => ?_⟩
  obtain ⟨s2, n2⟩ := s.own (u := .lst us) (o := .lst ds) hp ⟨us, upd_same, h2⟩
  refine kv _ _ (A ++ [p]) _ _ k s2 n2 ⟨p, ?_, rfl⟩
  rw [← s.len, List.getElem?_append_right (Nat.le_refl _), Nat.sub_self] <;> rfl
/-- [f x for x in range(lo, hi) if p x] -/
theorem lcF_R2 {tt : TT} {lo : Int} {n : Nat} (p : Int → Bool) (f : Int → D) (hz : n ≤ 1000000)
    (hs : ∀ (i : Nat) acc, i < n → WG K W g (.v (.int (lo + i))) (O ++ [.lst acc]) (wipeT ts vs) (fun ts2 O2 => WT K W tt O2 ts2 (fun c O3 => c = p (lo + i) ∧ O3 = O ++ [.lst acc] ∧ (p (lo + i) = true → WE K W te (O ++ [.lst acc]) ts2 (fun y O4 => y = .v (f (lo + i)) ∧ O4 = O ++ [.lst acc]) X0)) X0))
    (hd : P (.v (.lst (((rgI lo (lo + n)).filter p).map f))) O) : LcExT K W g tt te vs P ts (itR lo 1 n) O := by
  have e : itR lo 1 n = itD ((rgI lo (lo + n)).map D.int) := by
    funext i
    unfold itR itD rgI
    rw [List.map_map, List.getElem?_map, show (lo + (n : Int) - lo).toNat = n by omega]
    by_cases hi : i < n
    · rw [if_pos hi, List.getElem?_range hi, Int.mul_one]
      rfl
    · rw [if_neg hi, List.getElem?_eq_none (by rw [List.length_range]; omega)]
      rfl
  rw [e]
  refine lcF_A (rgI lo (lo + n)) D.int p f (by rw [rgI_len]; omega) (fun x acc hx => ?_) hd
  unfold rgI at hx
  obtain ⟨i, hi, rfl⟩ := List.mem_map.mp hx
  rw [List.mem_range] at hi
  exact hs i acc (by omega)
end
theorem cut_mid {xs : List Int} {a b : Nat} (h1 : a ≤ xs.length) (h2 : b ≤ xs.length) : cutD (nums xs) (some (a : Int)) (some (b : Int)) = nums ((xs.drop a).take (b - a)) := by
  unfold cutD
  rw [HT.sIx_nat, HT.sIx_nat, nums_len, Nat.min_eq_left h1, Nat.min_eq_left h2]
  unfold nums
  rw [List.map_take, List.map_drop]
end G

set_option Elab.async false
set_option linter.all false
set_option maxRecDepth 100000
set_option maxHeartbeats 4000000
/-! HV: zip of a tuple and a list, by the library's GoesN.zip2. -/
namespace RZ
open PySem PySem.Spec PyProof.Rows L2
/-- a tuple at a, a list at b, as they stand at each turn -/
def ItzM (K : PySem.W.Frag) (a b : Addr) : It :=
  ⟨fun i H => ∃ (xs ys : List V) (x y : V), SqT K H a xs ∧ SqL K H b ys ∧ xs[i]? = some x ∧ ys[i]? = some y,
    fun i H v H' => ∃ T x y, v = .ref T ∧ H T = none ∧ H' = upd H T (.tup [x, y]) ∧ (∀ xs, SqT K H a xs → xs[i]? = some x) ∧ ∀ ys, SqL K H b ys → ys[i]? = some y,
    fun i H => ∃ xs ys : List V, SqT K H a xs ∧ SqL K H b ys ∧ i = min xs.length ys.length⟩
theorem turn_zipM {P : Program} {w : World} {K : PySem.W.Frag} {elts : List Expr} {kk : Nat} {tpos : Pos} {a b z TI TO i1 i2 : Addr} (S : ZipSep2 z TI TO i1 i2 [i1, a] [i2, b]) (n1 : a ≠ i1) (n2 : b ≠ i2) :
    Turn P w K (.Tuple elts kk tpos) (ItzM K a b) [z, TI, TO, i1, i2] z (fun i h => IsZip h z TI TO .none ∧ IsTupOf2 h TI (.ref i1) (.ref i2) ∧ (∃ x y, IsTupOf2 h TO x y) ∧ h.IsTupleIter i1 a i ∧ h.IsListIter i2 b i) where
  mem := by simp
  obj := fun i h st c hc => by
    obtain ⟨hz, hTI, ⟨x, y, hTO⟩, ⟨o1, e1, _, d1⟩, ⟨o2, e2, _, d2⟩⟩ := st
    simp only [List.mem_cons, List.not_mem_nil, or_false] at hc
    rcases hc with rfl | rfl | rfl | rfl | rfl
    · exact ⟨_, hz, fun v q => nomatch q⟩
    · exact ⟨_, hTI, fun v q => nomatch q⟩
    · exact ⟨_, hTO, fun v q => nomatch q⟩
    · exact ⟨o1, e1, fun v q => by rw [d1] at q; cases q⟩
    · exact ⟨o2, e2, fun v q => by rw [d2] at q; cases q⟩
  keep := fun i h h' st k => by
    obtain ⟨hz, hTI, ⟨x, y, hTO⟩, h1, h2⟩ := st
    exact ⟨k z (by simp) _ hz, k TI (by simp) _ hTI, ⟨x, y, k TO (by simp) _ hTO⟩, h1.at fun o q => k i1 (by simp) o q, h2.at fun o q => k i2 (by simp) o q⟩
  item := by
    intro X hP hw hK hc i pins s σ H E I hf st hg
    subst hP hw hK
    obtain ⟨hz, hTI, hTO, h1, h2⟩ := st
    obtain ⟨xs, ys, x, y, hqx, hqy, hx, hy⟩ := hg
    obtain ⟨its, rv, p, _⟩ := I.tuple hqx
    obtain ⟨its2, rv2, p2, _⟩ := I.list hqy
    obtain ⟨u, hu, ru⟩ := rv.get hx
    obtain ⟨u2, hu2, ru2⟩ := rv2.get hy
    have g := GoesN.zip2 (elts := elts) (x1 := kk) (pos := tpos) S (Draws.tuple (prog := X.prog) (w := X.w) (A := X.A.in1) (I.ok.hd hc) i1 a n1 its.toArray) (Draws.list (prog := X.prog) (w := X.w) (A := X.A.in1) (I.ok.hd hc) i2 b n2 its2.toArray)
    have l1 : i < its.length := (List.getElem?_eq_some_iff.mp hu).1
    have l2 : i < its2.length := (List.getElem?_eq_some_iff.mp hu2).1
    refine g.goes i s _ E (by simp; omega) ⟨hz, hTI, hTO, ⟨h1, p⟩, h2, p2.isList⟩ fun v h' tk y1 st' k htk => ?_
    obtain ⟨T, v1, v2, rfl, hT, e1, e2, t1⟩ := y1
    have e1' : u = v1 := Option.some.inj ((by simpa using hu : its.toArray[i]? = some u).symm.trans e1)
    have e2' : u2 = v2 := Option.some.inj ((by simpa using hu2 : its2.toArray[i]? = some u2).symm.trans e2)
    subst e1' e2'
    obtain ⟨q1, q2, q3, ⟨q4, _⟩, q5, _⟩ := st'
    have new : ObjOk X.prog X.w (upd H T (.tup [x, y])) h' T (.tup [x, y]) :=
      ⟨by show 2 ≤ sizeLine; decide, [u, u2], .cons ru (.cons ru2 .nil), t1⟩
    have fz : ∀ c ∈ [z, TO, i1, i2], FpOk X pins H c := fun c hc2 => hf c (by
      simp only [List.mem_cons, List.not_mem_nil, or_false] at hc2 ⊢
      rcases hc2 with q | q | q | q <;> simp [q])
    refine ⟨.ref T, _, I.turnedNew (t' := tk) (ch := [z, TO, i1, i2]) k fz hT new, rfl, ⟨_, x, y, rfl, I.hok.fresh hT, rfl, fun l hl => by rw [I.tuple_inj hl hqx]; exact hx, fun l hl => by rw [I.list_inj hl hqy]; exact hy⟩, ⟨q1, q2, q3, q4, q5⟩, fun c hcm => ?_⟩
    have hlt : c < s.heap.objs.size := by
      simp only [List.mem_cons, List.not_mem_nil, or_false] at hcm
      obtain ⟨_, _, hTO⟩ := hTO
      rcases hcm with rfl | rfl | rfl | rfl | rfl
      · exact Heap.lt_size hz
      · exact Heap.lt_size hTI
      · exact Heap.lt_size hTO
      · obtain ⟨_, e1, _⟩ := h1; exact Heap.lt_size e1
      · obtain ⟨_, e2, _⟩ := h2; exact Heap.lt_size e2
    rw [upd_ne (Nat.ne_of_lt (Nat.lt_of_lt_of_le hlt hT))]
    exact (hf c hcm).1
  done := by
    intro X hP hw hK hc i pins s σ H E I hf st hg
    subst hP hw hK
    obtain ⟨hz, hTI, hTO, h1, h2⟩ := st
    obtain ⟨xs, ys, hqx, hqy, hend⟩ := hg
    obtain ⟨its, rv, p, _⟩ := I.tuple hqx
    obtain ⟨its2, rv2, p2, _⟩ := I.list hqy
    have l1 := rv.length
    have l2 := rv2.length
    have g := GoesN.zip2 (elts := elts) (x1 := kk) (pos := tpos) S (Draws.tuple (prog := X.prog) (w := X.w) (A := X.A.in1) (I.ok.hd hc) i1 a n1 its.toArray) (Draws.list (prog := X.prog) (w := X.w) (A := X.A.in1) (I.ok.hd hc) i2 b n2 its2.toArray)
    have ei : i = min its.toArray.size its2.toArray.size := by simp; omega
    subst ei
    have fz : ∀ c ∈ [z, TO, i1, i2], FpOk X pins H c := fun c hc2 => hf c (by
      simp only [List.mem_cons, List.not_mem_nil, or_false] at hc2 ⊢
      rcases hc2 with q | q | q | q <;> simp [q])
    exact g.stops s _ E ⟨hz, hTI, hTO, ⟨h1, p⟩, h2, p2.isList⟩ fun h' tk k htk => I.turnedL (t' := tk) (ch := [z, TO, i1, i2]) k fz
  self := fun A i s Q E st h => wpAny_pyIter_zip st.1 h
def iZipM (K : PySem.W.Frag) (ta : TA) : TI := fun σ H R => ta σ H fun vs H1 => ∃ a b xs ys, vs = [.ref a, .ref b] ∧ SqT K H1 a xs ∧ SqL K H1 b ys ∧ R (ItzM K a b) H1
theorem pi_zipM {X : Cx} {e e2 : Expr} {ta : TA} {p pos tpos : Pos} {elts : List Expr} {kk : Nat} (hg : Gl X "zip") (hm : X.mg "zip" = none) (ha : PA X [e, e2] ta)
    (hs : starEach [e, e2] X.env = (false, eval e X.env) :: starEach [e2] X.env := by rfl) (hpl : (backTo pos (starEach [e2] X.env)).any (·.1) = false := by rfl) :
    PI X (.Tuple elts kk tpos) (.Call (.Name "zip" p) [e, e2] [] pos) (iZipM X.K ta) := by
  refine ⟨fun pins s σ H R I h => ?_⟩
  refine Call_ (ld_blt I hg hm PyProof.Rows.boot_zip (PyProof.Rows.callWith_type1 (thn (ha.run pos pins s σ H _ I h) fun us s1 ⟨vs, H1, I1, r1, q1⟩ => ?_) hs hpl))
  obtain ⟨a, b, xs, ys, ex, hqx, hqy, q⟩ := q1
  subst ex
  obtain ⟨its, rv, p1, _⟩ := I1.tuple hqx
  obtain ⟨its2, rv2, p2, _⟩ := I1.list hqy
  obtain ⟨o1, ho1, _⟩ := id p1
  have la := Heap.lt_size ho1
  have lb := p2.lt
  cases r1 with
  | cons r rr =>
    cases rr with
    | cons r' rr =>
      cases rr
      cases r
      cases r'
      refine zip_begins2 (begins_tuple a its.toArray) (begins_list b its2.toArray) p1 p2.isList fun h' hz hTI hTO h1 h2 hsz hk => wpAny_pyIter_zip hz ?_
      refine ⟨s1.heap.objs.size + 4, [s1.heap.objs.size + 4, s1.heap.objs.size + 2, s1.heap.objs.size + 3, s1.heap.objs.size, s1.heap.objs.size + 1], _, _, H1, rfl, I1.kept (t' := s1.toks) hk, turn_zipM (zip_sep2 (fp1 := [a]) (fp2 := [b]) (by simpa using la) (by simpa using lb)) (Nat.ne_of_lt la) (Nat.ne_of_lt (Nat.lt_succ_of_lt lb)), ⟨hz, hTI, ⟨_, _, hTO⟩, ⟨_, h1, rfl, rfl⟩, ⟨_, h2, rfl, rfl⟩⟩, fun c hcm => ?_, q⟩
      have hle : s1.heap.objs.size ≤ c := by
        simp only [List.mem_cons, List.not_mem_nil, or_false] at hcm
        rcases hcm with rfl | rfl | rfl | rfl | rfl
        · exact Nat.le_add_right _ _
        · exact Nat.le_add_right _ _
        · exact Nat.le_add_right _ _
        · exact Nat.le_refl _
        · exact Nat.le_add_right _ _
      exact I1.fpOk hle (I1.hok.fresh hle)
end RZ
namespace G
open PySem PySem.Spec PyProof.Rows L2
section
variable {K : PySem.W.Frag} {W : WX} {O : List OD} {ts : List T} {X : XX} {ta : TA}
theorem i_zipM {S : (Nat → Option T) → List OD → Prop} (h : WA K W ta O ts (fun xs O' => ∃ ds es, xs = [.v (.tup ds), .v (.lst es)] ∧ S (itZ ds es) O') X) : WI K W (RZ.iZipM K ta) O ts S X := fun b A σ H R s rs k kx =>
  h b A σ H _ s rs (fun xs vs A' O' H' p s' n' r' => by
    obtain ⟨ds, es, rfl, q⟩ := p
    obtain ⟨v, _, rfl, ⟨_, e, a, us, rfl, h1, h2⟩, v', _, rfl, ⟨_, e', c, ws, rfl, h3, h4⟩, rfl⟩ := r'
    replace h3 := SqL.of (K := K) h3
    cases e
    cases e'
    refine ⟨a, c, us, ws, rfl, hid_ex.t h1, hid_ex.l h3, k _ _ A' O' H' q s' n' fun i A2 O2 H2 s2 n2 => ⟨fun hn hp => ⟨us, ws, hid_ex.t (n2.ext.t h1), hid_ex.l (n2.ext.l h3), ?_⟩, fun t ht => ?_⟩⟩
    · rw [h2.length, h4.length]
      have le := itZ_none hn
      refine Nat.le_antisymm (Nat.le_of_not_lt fun z => ?_) (by omega)
      refine hp (min ds.length es.length) z ?_
      unfold itZ
      by_cases hd : ds.length ≤ es.length
      · rw [Nat.min_eq_left hd, List.getElem?_eq_none (Nat.le_refl _)]
      · rw [Nat.min_eq_right (by omega), List.getElem?_eq_none (l := es) (Nat.le_refl _)]
        cases ds[es.length]? <;> rfl
    · obtain ⟨d, e, e1, e2, rfl⟩ := itZ_some ht
      obtain ⟨v, e3, r3⟩ := h2.get e1
      obtain ⟨v', e4, r4⟩ := h4.get e2
      have k1 : SqT K H2 a us := hid_ex.t (n2.ext.t h1)
      have k2 : SqL K H2 c ws := hid_ex.l (n2.ext.l h3)
      refine ⟨⟨us, ws, v, v', k1, k2, e3, e4⟩, fun x H3 y => ?_⟩
      obtain ⟨p, w, w', rfl, hp, rfl, y1, y2⟩ := y
      have e5 : w = v := Option.some.inj ((y1 us k1).symm.trans e3)
      have e6 : w' = v' := Option.some.inj ((y2 ws k2).symm.trans e4)
      subst e5 e6
      exact pair_laid s2 hp (r3.ex n2.ext) (r4.ex n2.ext)) kx
end
end G

set_option Elab.async false
set_option linter.all false
set_option maxRecDepth 100000
set_option maxHeartbeats 4000000
/-! HW: an integer on the left of an operator, an own instance on the right: the class's turned def answers. -/
namespace My3
open PySem PySem.W PyProof.Rows
/-- what an instance holds is no integer -/
def NoInt (a : Addr) (s : Shared) : Prop := ∃ o, s.heap.get? a = some o ∧ ∀ i t, o.data ≠ .prim (.int i t)
/-- the integers' own def for an operator gives way to what is no integer -/
structure Gives0 (nm : String) : Prop where
  ex : ∃ (id n : String) (f : Int → Int → Sem Fin), Slot "int" (PySem.dunder nm) id ∧ entryFor table id = some (Builtin.Int.intBinary n f false) ∧ (∀ a b, argsOk id ⟨[a, b], []⟩)
theorem g0_sub : Gives0 "sub" := ⟨⟨_, _, _, F.slot_int_sub, F.entry_int_sub, F.args_int_sub_2⟩⟩
theorem g0_add : Gives0 "add" := ⟨⟨_, _, _, F.slot_int_add, F.entry_int_add, F.args_int_add_2⟩⟩
theorem g0_mul : Gives0 "mul" := ⟨⟨_, _, _, F.slot_int_mul, F.entry_int_mul, F.args_int_mul_2⟩⟩
theorem way {n : String} {f : Int → Int → Sem Fin} {i : Int} {t : Tok} {a : Addr} : GivesAt (NoInt a) (Builtin.Int.intBinary n f false ⟨[.int i t, .ref a], []⟩) (.val .notImplemented) := fun prog w A R s hP h => by
  obtain ⟨o, h1, h2⟩ := hP
  unfold Builtin.Int.intBinary slotArgs Builtin.Int.intOfSelf
  refine wpAny_bind ?_
  refine wpAny_pure ?_
  refine wpAny_bind ?_
  refine wpAny_bind ?_
  refine wpAny_pure ?_
  refine wpAny_pure ?_
  refine wpAny_bind ?_
  show wpAny _ _ (asInt? (.ref a)) _ _ _
  unfold asInt?
  refine wpAny_bind (wpAny_load h1 ?_)
  obtain ⟨oc, odi, oda, osl⟩ := o
  dsimp only at h2 ⊢
  split
  · rename_i i t; exact absurd rfl (h2 i t)
  · refine wpAny_pure ?_
    refine wpAny_bind (wpAny_rule ?_)
    exact wpAny_pure h
section
variable {pr : Program} {wo : World} {B : Around} {Er : Value → Shared → Prop} {st : Shared} {K : Frag} {a cl lo me fw : Addr} {base : Heap} {nsm : Str → Option Value} {oa : Obj} {da : Option Obj}
theorem back_int {nm : String} {i : Int} {t : Tok} {Q : Value → Shared → Prop} (fr : Fr base lo st.heap nsm) (kin : K.In base) (at_ : InstAt st.heap a oa cl da) (ni : NoInt a st) (hself : selfFirst K cl = true)
    (hfw : findIn K (.ref cl) (PySem.dunder nm) = some (some (.ref fw))) (hme : findIn K (.ref cl) (dunderR nm) = some (some (.ref me))) (hfn : isFn K (.ref me) = true) (hno : subIn K (.ref cl) (.type "int") = some false)
    (hfill : fillsNumberSlot (.type "int") nm = pure true) (g : Gives0 nm)
    (hrun : wpAny (model pr wo) B (call (.ref me) [.ref a, .int i t]) (PySem.W.CmpBack Q) Er st) : wpAny (model pr wo) B (binaryOp1 nm (.int i t) (.ref a)) (fun r s' => ∃ v, r = some v ∧ Q v s') Er st := by
  have kin2 := kin.keeps fr.keep
  obtain ⟨cd, more, ecd, emro⟩ := My2.own_line hself
  obtain ⟨id, n, f, g1, g2, g3⟩ := g
  have declined : wpAny (model pr wo) B (tryMethod (.int i t) (PySem.dunder nm) (.ref a)) (fun r s' => r = none ∧ s' = st) Er st :=
    wpAny_tryMethod_declines (typeIs_int st i t) g1 (call_givesAt g1 (typeIs_int st i t) g2 (g3 _ _) way ni ⟨rfl, rfl, rfl⟩)
  have tried : wpAny (model pr wo) B (tryMethod (.ref a) (dunderR nm) (.int i t)) (fun r s' => ∃ v, r = some v ∧ Q v s') Er st := by
    unfold tryMethod
    refine wpAny_bind (special_fn kin2 at_ hme (beq_iff_eq.mp hfn) (wpAny_mono hrun (fun r s' hr => ?_) fun _ _ z => z))
    cases r
    all_goals first
      | exact False.elim hr
      | exact wpAny_pure ⟨_, rfl, hr⟩
  unfold binaryOp1
  refine wpAny_bind (wpAny_pure (wpAny_bind (at_.type.here (wpAny_bind ?_))))
  rw [hfill]
  refine wpAny_pure ?_
  rw [show (Value.type "int" == Value.ref cl) = false from rfl, if_neg Bool.false_ne_true]
  refine wpAny_bind ((fills_K kin2 ecd emro hfw).here ?_)
  simp only [show (true && true) = true from rfl, ite_true]
  refine wpAny_bind ((looks_subIn kin2 hno).here ?_)
  simp only [show (false = true) = False from eq_false Bool.false_ne_true, ite_false, show (true && true && !false) = true from rfl, ite_true]
  refine wpAny_bind (wpAny_pure ?_)
  simp only [show (false = true) = False from eq_false Bool.false_ne_true, ite_false, ite_true]
  refine wpAny_bind (wpAny_mono declined (fun r s' hr => ?_) fun _ _ z => z)
  obtain ⟨rfl, rfl⟩ := hr
  simp only [show (true && !false) = true from rfl, ite_true]
  refine wpAny_bind (wpAny_mono tried (fun r s' hr => ?_) fun _ _ z => z)
  obtain ⟨v, rfl, q⟩ := hr
  exact wpAny_bind (wpAny_rule (wpAny_pure ⟨v, rfl, q⟩))
theorem rop_int {op : Operator} {i : Int} {t : Tok} {Q : Value → Shared → Prop} (fr : Fr base lo st.heap nsm) (kin : K.In base) (at_ : InstAt st.heap a oa cl da) (ni : NoInt a st) (hself : selfFirst K cl = true)
    (hfw : findIn K (.ref cl) (PySem.dunder op.info.2) = some (some (.ref fw))) (hme : findIn K (.ref cl) (dunderR op.info.2) = some (some (.ref me))) (hfn : isFn K (.ref me) = true) (hno : subIn K (.ref cl) (.type "int") = some false)
    (hfill : fillsNumberSlot (.type "int") op.info.2 = pure true) (g : Gives0 op.info.2)
    (hrun : wpAny (model pr wo) B (call (.ref me) [.ref a, .int i t]) (PySem.W.CmpBack Q) Er st) : wpAny (model pr wo) B (binaryOp op (.int i t) (.ref a)) Q Er st := by
  have one := back_int fr kin at_ ni hself hfw hme hfn hno hfill g hrun
  unfold binaryOp
  refine wpAny_holding (wpAny_bind (wpAny_mono one (fun r s' hr => ?_) fun _ _ z => z))
  obtain ⟨v, rfl, q⟩ := hr
  exact wpAny_pure q
end
end My3
namespace G
open PySem PySem.Spec PyProof.Rows L2
/-- what an operator with an integer on the left asks of a class -/
def ropB (K : PySem.W.Frag) (C : Addr) (nm : String) : Bool := PySem.W.selfFirst K C && ((match PySem.W.findIn K (.ref C) (PySem.dunder nm) with
  | some (some (.ref _)) => true
  | _ => false) && decide (PySem.W.subIn K (.ref C) (.type "int") = some false))
structure RopC (K : PySem.W.Frag) (C : Addr) (nm : String) : Prop where
  sf : PySem.W.selfFirst K C = true
  fw : ∃ f : Addr, PySem.W.findIn K (.ref C) (PySem.dunder nm) = some (some (.ref f))
  sb : PySem.W.subIn K (.ref C) (.type "int") = some false
theorem ropB_ok {K : PySem.W.Frag} {C : Addr} {nm : String} (h : ropB K C nm = true) : RopC K C nm := by
  obtain ⟨h1, h⟩ := He.ba h
  obtain ⟨h2, h3⟩ := He.ba h
  refine ⟨h1, ?_, of_decide_eq_true h3⟩
  cases e : PySem.W.findIn K (.ref C) (PySem.dunder nm) with
  | none =>
    rw [e] at h2
    cases h2
  | some q =>
    rw [e] at h2
    cases q with
    | none => cases h2
    | some v =>
      cases v with
      | ref a => exact ⟨a, rfl⟩
      | _ => cases h2
def rRopO (C : Addr) (sp : Sp) (E : XK) : R2 := fun x y H Q => ∃ i a dx fs, x = .int i ∧ y = .ref a ∧ H a = some (.ins C dx fs) ∧ sp [y, x] H Q E
section
variable {X : Cx} {CX : CXT} {k : Nat} {C g : Addr} {sp : Sp} {E : XK} {m : Str}
theorem op_ropO {op : Operator} (M : Meth X.K C m g) (O : RopC X.K C op.info.2) (N : IntOp op.info.2) (G0 : My3.Gives0 op.info.2) (em : dunderR op.info.2 = m) (F : FnR X.prog X.w X.K X.mg X.base CX k g sp) (hr : Room k X.A) (hx : Passes CX X E) : OpR X (binaryOp op) (rRopO C sp E) := by
  intro pins s σ H x y v u Q I rx ry h
  subst em
  obtain ⟨i, a, dx, fs, rfl, rfl, ha, q⟩ := h
  cases (show u = Value.ref a from ry)
  obtain ⟨t, rfl⟩ := (show ∃ t, v = Value.int i t from rx)
  obtain ⟨_, _, ja⟩ := inst_of I ha
  obtain ⟨_, fr⟩ := I.fr
  obtain ⟨f, ef⟩ := O.fw
  have run := wpAny_mono (wpAny_call (SlX.run_at (us := [.ref a, .int i t]) (ws := [.ref a, .int i]) F hr I.env0 hx I (.cons rfl (.cons ⟨t, rfl⟩ .nil)) q)) (fun w s' z => show PySem.W.CmpBack (EP X pins σ Q) w s' from by
    obtain ⟨z', H', I', rz, qz⟩ := z
    exact SlX.cmpback rz ⟨z', H', I', rz, qz⟩) fun _ _ z => z
  have ni : My3.NoInt a s := by
    obtain ⟨_, _, _, e, _⟩ := (show ObjOk X.prog X.w H s.heap a (.ins C dx fs) from I.hok a _ ha)
    exact ⟨_, e, fun i t z => by cases z⟩
  exact My3.rop_int fr I.ok.mod.kin ja ni O.sf ef M.at_ M.fn O.sb N.fi G0 run
end
theorem w_ropO {K : PySem.W.Frag} {O : List OD} {P : PT'} {C : Addr} {fs : List (Str × D)} {sp : SpD} {i : Int} (h : sp [.v (.ins C fs), .v (.int i)] [] (fun t _ => (∃ d, t = .v d) ∧ P t O) (fun _ _ _ => False)) : WR K (rRopO C (lift K sp) E0) (.v (.int i)) (.v (.ins C fs)) O P := fun b A H Q v u s r1 r2 kv => by
  obtain ⟨a, dx, vs, rfl, ha⟩ := rep_ins s r2
  obtain ⟨_, e, rfl⟩ := id r1
  cases e
  exact ⟨i, a, dx, vs, rfl, rfl, ha, lift_p (W := fun _ _ _ _ => False) (X := fun _ _ _ => False) (σ := []) s (two_rep r2 r1) rfl (fun _ _ _ z => z) h kv fun _ _ _ _ _ _ z => z.elim⟩
end G

set_option Elab.async false
set_option linter.all false
set_option maxRecDepth 100000
set_option maxHeartbeats 4000000
/-! HX: comprehensions over a list, with effects. -/
namespace G
open PySem PySem.Spec PyProof.Rows L2
section
variable {K : PySem.W.Frag} {W : WX} {O : List OD} {ts : List T} {P : PT'} {g : TG} {te : TE} {vs : List Nat}
theorem lc_AI {α : Type} (xs : List α) (e : α → D) (hz : xs.length ≤ 1000000) (I : Nat → List D → List OD → Prop) (h0 : I 0 [] O)
    (hlen : ∀ i acc O', I i acc O' → O'.length = O.length ∧ acc.length = i)
    (hs : ∀ i x acc O', xs[i]? = some x → I i acc O' → WG K W g (.v (e x)) (O' ++ [.lst acc]) (wipeT ts vs) (fun ts2 O2 => WE K W te O2 ts2 (fun y O4 => ∃ d O5, y = .v d ∧ O4 = O5 ++ [.lst acc] ∧ I (i + 1) (acc ++ [d]) O5) X0))
    (hd : ∀ acc O', I xs.length acc O' → P (.v (.lst acc)) O') : LcEx K W g te vs P ts (itD (xs.map e)) O :=
  lc_I (n := xs.length) (item := fun i => match xs[i]? with | some x => .v (e x) | none => .no) (fun i hi => by
    unfold itD
    rw [List.getElem?_map, List.getElem?_eq_getElem hi] <;> rfl) (by
    unfold itD
    rw [List.getElem?_eq_none (by rw [List.length_map]; exact Nat.le_refl _)] <;> rfl) hz I h0 hlen (fun i acc O' hi hI => by
    have h := hs i xs[i] acc O' (List.getElem?_eq_getElem hi) hI
    rw [List.getElem?_eq_getElem hi]
    exact h) hd
end
end G

set_option Elab.async false
set_option linter.all false
set_option maxRecDepth 100000
set_option maxHeartbeats 4000000
/-! HY: == and != of lists of own instances that are equal pair by pair. -/
namespace My4
open PySem PySem.SeqAt GQ
open AutoSeq1 (wpAny_loadPart')
open MeetsSeq MeetsSeq2 MeetsSeq3 SeqRoads2
section
variable {prog : Program} {w : World} {A : Around} {R : Result → Shared → Prop}
/-- the walk of !=, every pair being equal -/
theorem ne_turns {l b : Addr} {N : Nat} {I : Nat → Shared → Prop} (hl : ListI prog w A (fun e s' => R (.error e) s') l b N I)
    (fin : ∀ s, I N s → R (.ok (.ret (.bool false))) s) : ∀ (k i : Nat), N - i = k → i ≤ N → ∀ s, I i s →
      wpAny (model prog w) A.in1 (Builtin.«list.__eq__.loop» ⟨[.ref l, .ref b, rawInt i, rawInt 3], []⟩) (FinOf prog w A R) (fun e s' => R (.error e) s') s
  | 0, i, hk, hi, s, h => by
    have last : R (.ok (.ret (.bool false))) s := fin s ((show i = N by omega) ▸ h)
    obtain ⟨xs, ys, n, n2, ex, ey, sx, sy, _⟩ := hl _ _ h
    obtain ⟨hp, g, d, tk, os⟩ := s
    wp_walk using wpAny_loadPart' ex, wpAny_loadPart' ey
    rw [show xs[((i : Nat) : Int).toNat]? = none by simp; omega, show ys[((i : Nat) : Int).toNat]? = none by simp; omega]
    wp_walk using wpAny_loadPart' ex, wpAny_loadPart' ey
    show R (.ok (.ret (.bool (xs.size != ys.size)))) _
    rw [sx, sy]
    simpa using last
  | k + 1, i, hk, hi, s, h => by
    obtain ⟨xs, ys, n, n2, ex, ey, sx, sy, turn⟩ := hl _ _ h
    have ix : i < xs.size := by omega
    have iy : i < ys.size := by omega
    have one := turn ix iy
    obtain ⟨hp, g, d, tk, os⟩ := s
    wp_walk using wpAny_loadPart' ex, wpAny_loadPart' ey
    rw [show xs[((i : Nat) : Int).toNat]? = some xs[i] by simp [ix], show ys[((i : Nat) : Int).toNat]? = some ys[i] by simp [iy]]
    refine wpAny_bind (wpAny_mono one (fun r s2 q => ?_) fun _ _ x => x)
    obtain ⟨rfl, q⟩ := q
    have more := ne_turns hl fin k (i + 1) (by omega) (by omega) s2 q
    obtain ⟨hp2, g2, d2, tk2, os2⟩ := s2
    wp_walk
    rw [show ((i : Int) + 1) = ((i + 1 : Nat) : Int) by omega]
    exact ⟨plainId_quiet plain_eq_loop _, codeAny_builtin entry_eq_loop (by
      rw [Around.under_plainId plain_eq_loop _]
      exact more)⟩
theorem rc_ne {E : Value → Shared → Prop} {l b : Addr} {N : Nat} {s : Shared} {Q : Value → Shared → Prop} (hu : A.units < cLine) (I : Nat → Shared → Prop) (hl : ListI prog w A E l b N I)
    (fin : ∀ s, I N s → Q (.bool false) s) (h : I 0 s) : wpAny (model prog w) A (richCompare .NotEq (.ref l) (.ref b)) Q E s := by
  obtain ⟨xs, ys, n, n2, ex, ey, sx, sy, _⟩ := hl _ _ h
  refine wpAny_richCompare_same_room (op := .NotEq) ⟨_, ex, rfl⟩ ⟨_, ey, rfl⟩ F.slot_list_ne (call_here F.slot_list_ne ⟨_, ex, rfl⟩ F.entry_list_ne (F.args_list_ne_2 _ _) ?_) hu
  have more := ne_turns (A := A) (R := wants (fun v s' => v ≠ .notImplemented ∧ Q v s') E) hl (fun s' q => ⟨(fun x => nomatch x), fin s' q⟩) _ 0 rfl (Nat.zero_le _) s h
  obtain ⟨hp, g, d, tk, os⟩ := s
  have f3 := AutoSeq1.sub_list_list
  have hne : ¬ (xs.size != ys.size) = true := by simp [sx, sy]
  wp_walk using wpAny_loadPart' ex, wpAny_loadPart' ey
  exact ⟨plainId_quiet plain_eq_loop _, codeAny_builtin entry_eq_loop (by
    rw [Around.under_plainId plain_eq_loop _]
    exact more)⟩
end
end My4
namespace G
open PySem PySem.Spec PyProof.Rows L2
/-- what the class's own == says of each pair -/
def PairsI (sp : SpD) (C : Addr) (fs gs : List (List (Str × D))) : Prop := fs.length = gs.length ∧ ∀ (i : Nat) f g, fs[i]? = some f → gs[i]? = some g → ∀ O : List OD, sp [.v (.ins C f), .v (.ins C g)] [] (fun t _ => (∃ d, t = .v d) ∧ (t = .v (.bl true) ∧ O = O)) (fun _ _ _ => False)
def rEqIL (K : PySem.W.Frag) (C : Addr) (sp : SpD) (r : Bool) : R2 := fun x y H Q => ∃ (bs : Bs) (A : List Addr) (O : List OD) (tx ty : T) (fs gs : List (List (Str × D))),
  StO K bs A O H ∧ LstD tx O (fs.map (D.ins C)) ∧ LstD ty O (gs.map (D.ins C)) ∧ RepT K (Fz bs A O H) A tx (some x) ∧ RepT K (Fz bs A O H) A ty (some y) ∧ PairsI sp C fs gs ∧
  ∀ H', StO K bs A O H' → Nxt bs A O H A O H' → Q (.bl r) H'
section
variable {X : Cx} {CX : CXT} {k : Nat} {C g : Addr} {sp : SpD}
theorem pairs_run (M : Meth X.K C "__eq__" g) (F : FnR X.prog X.w X.K X.mg X.base CX k g (lift X.K sp)) (hr : Room (k + 1) X.A) (hx : Passes CX X E0) {bs : Bs} {A : List Addr} {O : List OD} {tx ty : T} {fs gs : List (List (Str × D))}
    {pins : List (Addr × Obj)} {σ : L2.St} {H0 : Hp} {a b : Addr} (hX : LstD tx O (fs.map (D.ins C))) (hY : LstD ty O (gs.map (D.ins C))) (rx : RepT X.K (Fz bs A O H0) A tx (some (.ref a))) (ry : RepT X.K (Fz bs A O H0) A ty (some (.ref b))) (hp : PairsI sp C fs gs) :
    GQ.ListI X.prog X.w X.A X.xe a b fs.length (fun _ s' => ∃ H', Inv X pins σ H' s' ∧ StO X.K bs A O H' ∧ Nxt bs A O H0 A O H') := by
  rintro i s' ⟨H1, I1, s1, n1⟩
  have hr2 : Room k X.A.in1 := Room.in1 hr
  obtain ⟨a', vs, ea, ha, hv⟩ := lstD_atH hX s1 (rx.nxt n1)
  obtain ⟨b', us, eb, hb, hu⟩ := lstD_atH hY s1 (ry.nxt n1)
  cases ea
  cases eb
  obtain ⟨_, its, kk, r, e⟩ := (show ObjOk X.prog X.w H1 s'.heap a (.lst vs) from I1.hok a _ ha)
  obtain ⟨_, its2, kk2, r2, e2⟩ := (show ObjOk X.prog X.w H1 s'.heap b (.lst us) from I1.hok b _ hb)
  have lv : vs.length = fs.length := by rw [hv.length, List.length_map]
  have lu : us.length = fs.length := by rw [hu.length, List.length_map, ← hp.1]
  refine ⟨its.toArray, its2.toArray, kk, kk2, e, e2, by rw [List.size_toArray, ← r.length, lv], by rw [List.size_toArray, ← r2.length, lu], fun h1 h2 => ?_⟩
  have i1 : i < its.length := by simpa using h1
  have i2 : i < its2.length := by simpa using h2
  have if_ : i < fs.length := by rw [← lv, r.length]; exact i1
  have ig : i < gs.length := by rw [← hp.1]; exact if_
  obtain ⟨x, ex, qx⟩ := hv.get (i := i) (d := .ins C fs[i]) (by rw [List.getElem?_map, List.getElem?_eq_getElem if_] <;> rfl)
  obtain ⟨y, ey, qy⟩ := hu.get (i := i) (d := .ins C gs[i]) (by rw [List.getElem?_map, List.getElem?_eq_getElem ig] <;> rfl)
  obtain ⟨p, dx, ws, rfl, px, qx2⟩ := id qx
  obtain ⟨q, dy, zs, rfl, py, qy2⟩ := id qy
  have g1 : its.toArray[i] = .ref p := by
    obtain ⟨u, eu, ru⟩ := r.get ex
    have : its[i]? = some its.toArray[i] := by rw [List.getElem?_eq_getElem i1] <;> simp
    rw [eu] at this
    cases this
    exact ru
  have g2 : its2.toArray[i] = .ref q := by
    obtain ⟨u, eu, ru⟩ := r2.get ey
    have : its2[i]? = some its2.toArray[i] := by rw [List.getElem?_eq_getElem i2] <;> simp
    rw [eu] at this
    cases this
    exact ru
  rw [g1, g2]
  by_cases hpq : p = q
  · subst hpq
    exact SeqAt.EqAt.same (A := X.A.in1) (s := s') (.ref p) X.prog X.w X.xe _ ⟨rfl, H1, I1, s1, n1⟩
  have pxH : H1 p = some (.ins C dx ws) := (hid_some.mp px).2
  have pyH : H1 q = some (.ins C dy zs) := (hid_some.mp py).2
  obtain ⟨_, _, ja⟩ := inst_of I1 pxH
  obtain ⟨_, _, jb⟩ := inst_of I1 pyH
  obtain ⟨_, fr⟩ := I1.fr
  have prom : lift X.K sp [.ref p, .ref q] H1 (fun v H' => v = .bl true ∧ StO X.K bs A O H' ∧ Nxt bs A O H1 A O H') E0 :=
    lift_p (W := fun _ _ _ _ => False) (X := fun _ _ _ => False) (σ := []) (P := fun t O' => t = .v (.bl true) ∧ O' = O) s1 (two_rep ⟨_, rfl, qx⟩ ⟨_, rfl, qy⟩) rfl (fun _ _ _ z => z)
      (hp.2 i fs[i] gs[i] (List.getElem?_eq_getElem if_) (List.getElem?_eq_getElem ig) O)
      (fun t v A' O' H' ⟨e1, e2⟩ s2 n2 rt => by
        subst e1 e2
        obtain ⟨M', eM⟩ := n2.pre
        have hl := s2.len
        rw [eM, List.length_append, s1.len] at hl
        have : M' = [] := List.length_eq_zero_iff.mp (by omega)
        rw [this, List.append_nil] at eM
        subst eM
        obtain ⟨_, ev, rfl⟩ := rt
        cases ev
        exact ⟨rfl, s2, n2⟩) fun _ _ _ _ _ _ z => z.elim
  have run := wpAny_mono (wpAny_call (SlX.run_at (us := [.ref p, .ref q]) (ws := [.ref p, .ref q]) F hr2 I1.env0.in1 hx I1 (.cons rfl (.cons rfl .nil)) prom)) (fun w s2 z => show PySem.W.CmpBack (fun v s3 => ∃ r, v = .bool r ∧ r = true ∧ ∃ H', Inv X pins σ H' s3 ∧ StO X.K bs A O H' ∧ Nxt bs A O H0 A O H') w s2 from by
    obtain ⟨z', H', I', rz, rfl, s2', n2'⟩ := z
    cases (show w = Value.bool true from rz)
    exact ⟨true, rfl, rfl, H', I', s2', n1.trans n2'⟩) fun _ _ z => z
  exact GQ.eqBool_refG hpq (PySem.W.cmp_K (op := .Eq) (tb := .ref C) hr2.units0 fr I1.ok.mod.kin ja jb.type (by unfold PySem.W.notFirst; simp) M.at_ M.fn run)
theorem op_eqIL (M : Meth X.K C "__eq__" g) (F : FnR X.prog X.w X.K X.mg X.base CX k g (lift X.K sp)) (hr : Room (k + 1) X.A) (hx : Passes CX X E0) : OpR X (compareOp .Eq) (rEqIL X.K C sp true) := by
  intro pins s σ H x y v u Q I rx ry h
  obtain ⟨bs, A, O, tx, ty, fs, gs, s0, hX, hY, r1, r2, hp, q⟩ := h
  obtain ⟨a, _, rfl, _, _⟩ := lstD_atH hX s0 r1
  obtain ⟨b, _, rfl, _, _⟩ := lstD_atH hY s0 r2
  cases (show v = Value.ref a from rx)
  cases (show u = Value.ref b from ry)
  exact GQ.rc_listG hr.units0 _ (pairs_run M F hr hx hX hY r1 r2 hp) (fun s' ⟨H', I', s1, n1⟩ => ⟨.bl true, H', I', rfl, q H' s1 n1⟩) ⟨H, I, s0, Nxt.refl⟩
theorem op_neIL (M : Meth X.K C "__eq__" g) (F : FnR X.prog X.w X.K X.mg X.base CX k g (lift X.K sp)) (hr : Room (k + 1) X.A) (hx : Passes CX X E0) : OpR X (compareOp .NotEq) (rEqIL X.K C sp false) := by
  intro pins s σ H x y v u Q I rx ry h
  obtain ⟨bs, A, O, tx, ty, fs, gs, s0, hX, hY, r1, r2, hp, q⟩ := h
  obtain ⟨a, _, rfl, _, _⟩ := lstD_atH hX s0 r1
  obtain ⟨b, _, rfl, _, _⟩ := lstD_atH hY s0 r2
  cases (show v = Value.ref a from rx)
  cases (show u = Value.ref b from ry)
  exact My4.rc_ne hr.units0 _ (pairs_run M F hr hx hX hY r1 r2 hp) (fun s' ⟨H', I', s1, n1⟩ => ⟨.bl false, H', I', rfl, q H' s1 n1⟩) ⟨H, I, s0, Nxt.refl⟩
end
section
variable {X : Cx} {CX : CXT} {k : Nat} {C g : Addr} {sp : SpD}
theorem op_eqILK (K : PySem.W.Frag) (M : Meth K C "__eq__" g) (F : FnR X.prog X.w K X.mg X.base CX k g (lift K sp)) (hr : Room (k + 1) X.A) (hx : Passes CX X E0) (hK : X.K = K := by rfl) : OpR X (compareOp .Eq) (rEqIL K C sp true) := by
  subst hK
  exact op_eqIL M F hr hx
theorem op_neILK (K : PySem.W.Frag) (M : Meth K C "__eq__" g) (F : FnR X.prog X.w K X.mg X.base CX k g (lift K sp)) (hr : Room (k + 1) X.A) (hx : Passes CX X E0) (hK : X.K = K := by rfl) : OpR X (compareOp .NotEq) (rEqIL K C sp false) := by
  subst hK
  exact op_neIL M F hr hx
end
theorem w_eqIL {K : PySem.W.Frag} {O : List OD} {P : PT'} {C : Addr} {sp : SpD} {x y : T} {fs gs : List (List (Str × D))} {r : Bool} (hx : LstD x O (fs.map (D.ins C))) (hy : LstD y O (gs.map (D.ins C))) (h : PairsI sp C fs gs) (k : P (.v (.bl r)) O) : WR K (rEqIL K C sp r) x y O P :=
  fun b A H Q v u s r1 r2 kv => ⟨b, A, O, x, y, fs, gs, s, hx, hy, r1, r2, h, fun H' s' n' => kv _ _ A O H' k s' n' ⟨_, rfl, rfl⟩⟩
end G

set_option Elab.async false
set_option linter.all false
set_option maxRecDepth 100000
set_option maxHeartbeats 4000000
/-! HZ: instances made by keywords. -/
namespace G
open PySem PySem.Spec PyProof.Rows L2
section
variable {K : PySem.W.Frag} {P : PT'} {sp : SpD} {b : Bs} {A1 : List Addr} {O1 : List OD} {H1 : Hp} {xs : List T} {vs : List V} {ds : List D} {Q : VK} {σ : L2.St}
theorem make_core {C : Addr} (s1 : StO K b A1 O1 H1) (r1 : RepTs K (Fz b A1 O1 H1) A1 xs vs) (e : unv xs = some ds) (p : sp (.own 0 :: xs) [.ins C []] (fun t O' => t = .v .non ∧ ∃ fs, O' = [.ins C fs] ∧ P (.v (.ins C fs)) O1) (fun _ _ _ => False))
    (kv : KV' K b A1 O1 H1 P Q) (x dx : Addr) (hx : H1 x = none) (hdx : H1 dx = none) (hne : dx ≠ x) : lift K sp (.ref x :: vs) (upd (upd H1 dx (.own x)) x (.ins C dx [])) (fun v H3 => v = .non ∧ Q (.ref x) H3) E0 := by
  have σ : L2.St := []
  obtain ⟨s2, n2⟩ := s1.lay2 hdx (.own x)
  have hx2 : upd H1 dx (.own x) x = none := by
    rw [upd_ne hne.symm]
    exact hx
  obtain ⟨s3, n3⟩ := s2.own (u := .ins C dx []) (o := .ins C []) hx2 ⟨dx, [], upd_same, rfl⟩
  have n13 := n2.trans n3
  have hat : (A1 ++ [x])[A1.length]? = some x := by
    rw [List.getElem?_append_right (Nat.le_refl _), Nat.sub_self]
    exact rfl
  have hoat : (O1 ++ [OD.ins C []])[A1.length]? = some (.ins C []) := by
    rw [s1.len, List.getElem?_append_right (Nat.le_refl _), Nat.sub_self]
    exact rfl
  have tr : tr1 A1.length (.own A1.length :: xs) = some (.own 0 :: xs) := by
    have z : ∀ {xs : List T} {ds : List D}, unv xs = some ds → tr1 A1.length xs = some xs := fun {xs} => by
      induction xs with
      | nil => exact fun _ => rfl
      | cons t xs ih =>
        intro ds e
        cases t with
        | v d =>
          have e3 : (unv xs).map (d :: ·) = some ds := e
          cases q : unv xs with
          | none =>
            rw [q] at e3
            cases e3
          | some es =>
            show (tr1 A1.length xs).map (T.v d :: ·) = _
            rw [ih q]
            exact rfl
        | own j => cases e
        | no => cases e
        | clo R f => cases e
    show (if A1.length = A1.length then (tr1 A1.length xs).map (T.own 0 :: ·) else none) = _
    rw [if_pos rfl, z e]
    exact rfl
  refine lift_1 (W := fun _ _ _ _ => False) (X := fun _ _ _ => False) (σ := σ) (P := fun t O' => t = .v .non ∧ ∃ fs, O' = O1 ++ [.ins C fs] ∧ P (.v (.ins C fs)) O1) s3 (xs := .own A1.length :: xs) ⟨.ref x, vs, rfl, ⟨x, hat, rfl⟩, r1.nxt n13⟩ tr hoat rfl (fun C d H z => z) ?_
    (fun t v A' O' H' q s' n' rt => ?_) (fun C fs A' O' H' d z => z.elim)
  · have x0 : (fun (C' : Value) (fs : Option (List (Str × D))) (O' : List OD) => ∃ o', O' = [o'] ∧ (fun _ _ _ => False : XX) C' fs ((O1 ++ [OD.ins C []]).set A1.length o')) = fun _ _ _ => False := by
      funext C fs O'
      exact propext ⟨fun ⟨_, _, z⟩ => z, fun z => z.elim⟩
    rw [x0]
    have pq : (fun (t : T) (O' : List OD) => ∃ o', O' = [o'] ∧ okR t = true ∧ (un1 A1.length t = .v .non ∧ ∃ fs, (O1 ++ [OD.ins C []]).set A1.length o' = O1 ++ [.ins C fs] ∧ P (.v (.ins C fs)) O1)) = fun t O' => t = .v .non ∧ ∃ fs, O' = [.ins C fs] ∧ P (.v (.ins C fs)) O1 := by
      have es : ∀ o' : OD, (O1 ++ [OD.ins C []]).set A1.length o' = O1 ++ [o'] := fun o' => by
        rw [s1.len, List.set_append_right _ _ (Nat.le_refl _), Nat.sub_self]
        exact rfl
      funext t O'
      refine propext ⟨?_, ?_⟩
      · rintro ⟨o', rfl, hn, hu, fs, e1, q⟩
        rw [es] at e1
        have e2 : o' = .ins C fs := by
          have := List.append_cancel_left e1
          injection this
        subst e2
        refine ⟨?_, fs, rfl, q⟩
        cases t with
        | v d => exact hu
        | own j => cases hu
        | no => cases hn
        | clo R f => cases hn
      · rintro ⟨rfl, fs, rfl, q⟩
        exact ⟨_, rfl, rfl, rfl, fs, es _, q⟩
    rw [pq]
    exact p
  · obtain ⟨rfl, fs, rfl, q⟩ := q
    obtain ⟨_, e1, e2⟩ := rt
    cases e1
    obtain ⟨M, eM⟩ := n'.pre
    have l2 := s'.len
    have eM0 : M = [] := by
      have l3 : A'.length = (A1 ++ [x] ++ M).length := by rw [eM]
      rw [List.length_append, List.length_append] at l3
      rw [List.length_append] at l2
      have l4 := s1.len
      refine List.length_eq_zero_iff.mp ?_
      simp only [List.length_singleton] at l2 l3
      omega
    subst eM0
    rw [List.append_nil] at eM
    subst eM
    have c := s'.cell A1.length x (.ins C fs) hat (by rw [s1.len, List.getElem?_append_right (Nat.le_refl _), Nat.sub_self]; exact rfl)
    obtain ⟨s4, x4⟩ := s'.drop s1.len s1.pre
    obtain ⟨dx', us, c1, c2⟩ := c
    have nA : x ∉ A1 := fun hm => (List.nodup_append.mp s'.nd).2.2 x hm x (List.mem_singleton.mpr rfl) rfl
    have nz : x ∉ live A1 O1 ++ b.Z := fun z => by
      rcases List.mem_append.mp z with z | z
      · obtain ⟨j, o, z1, _, _⟩ := live_mem z
        exact nA (List.mem_of_getElem? z1)
      · have zz := s1.z_at (a := x) z
        obtain ⟨o, zz, _⟩ := zz.2
        rw [hx] at zz
        cases zz
    have fz : Fz b A1 O1 H' x = some (.ins C dx' us) := hid_some.mpr ⟨nz, c1⟩
    refine ⟨e2, kv _ _ A1 O1 H' q s4 ⟨⟨[], (List.append_nil A1).symm⟩, ?_⟩ ⟨_, rfl, x, dx', us, rfl, fz, c2.ex x4⟩⟩
    exact (n13.ext.trans n'.ext).trans x4
end
theorem KwM.kbn {K : PySem.W.Frag} {fd : FuncData} {ps ks : List Str} {tw : Bool} (h : KwM K fd ps ks tw) : KBn K fd ps 1 ks (fun us ws => us ++ turnL tw ws) (fun vs zs => vs ++ turnL tw zs) where
  to := fun s us ws X l1 l2 => by
    match us, l1 with
    | [a], _ => exact h s a ws X l2
  rel := fun r1 r2 => r1.append (turn_vals r2)
section
variable {K : PySem.W.Frag} {W : WX} {O : List OD} {ts : List T} {P : PT'} {X : XX} {sp : SpD} {tk : TA} {C : Addr} {tw : Bool} {m : Nat}
theorem w_makeK (h : WA K W tk O ts (fun xs O1 => xs.length = m ∧ ∃ ds, unv xs = some ds ∧ sp (.own 0 :: (turnL tw ds).map T.v) [.ins C []] (fun t O' => t = .v .non ∧ ∃ fs, O' = [.ins C fs] ∧ P (.v (.ins C fs)) O1) (fun _ _ _ => False)) X) :
    WE K W (tMakeK C 0 m (lift K sp) (fun vs zs => vs ++ turnL tw zs) E0 tNil tk) O ts P X := fun b A σ H Q s rs kv kx =>
  h b A σ H _ s rs (fun xs vs A1 O1 H1 p1 s1 n1 r1 => by
    obtain ⟨hl, ds, e, p⟩ := p1
    refine ⟨rfl, by rw [r1.length, hl], fun x dx hx hdx hne => ?_⟩
    exact make_core s1 (turn_rep r1 e) unv_map p (kv.nxt n1) x dx hx hdx hne) kx
end
end G

set_option Elab.async false
set_option linter.all false
set_option maxRecDepth 100000
set_option maxHeartbeats 4000000
/-! IA: owned dicts with keys that are integers; `in` of an integer; == and != of tuples of own instances. -/
namespace G
open PySem PySem.Spec PyProof.Rows L2
/-! ### dicts -/
def dAt : List (Key × D) → Key → Option D
  | [], _ => none
  | p :: r, k => if p.1 = k then some p.2 else dAt r k
theorem dAt_snoc {k j : Key} {d : D} : ∀ {kvs : List (Key × D)}, dAt kvs k = none → dAt (kvs ++ [(k, d)]) j = if j = k then some d else dAt kvs j
  | [], _ => by
    show (if k = j then some d else none) = if j = k then some d else none
    by_cases e : k = j
    · rw [if_pos e, if_pos e.symm]
    · rw [if_neg e, if_neg (fun z => e z.symm)]
  | p :: r, h => by
    have h' : (if p.1 = k then some p.2 else dAt r k) = none := h
    have hk : ¬ p.1 = k := fun z => by rw [if_pos z] at h'; cases h'
    rw [if_neg hk] at h'
    show (if p.1 = j then some p.2 else dAt (r ++ [(k, d)]) j) = if j = k then some d else (if p.1 = j then some p.2 else dAt r j)
    rw [dAt_snoc h']
    by_cases e : p.1 = j
    · rw [if_pos e, if_pos e, if_neg (fun z => hk (e.trans z))]
    · rw [if_neg e, if_neg e]
theorem RepK.at_ {K : PySem.W.Frag} {F : Hp} : ∀ {kvs : List (Key × D)} {ws : List (Key × V)}, RepK K F kvs ws → ∀ {k : Key} {d : D}, dAt kvs k = some d → ∃ v, valV ws k = some v ∧ Rep K F d v
  | [], _, _, _, _, h => nomatch h
  | p :: r, ws, h, k, d, e => by
    obtain ⟨v, r', rfl, hv, hr⟩ := h
    have e' : (if p.1 = k then some p.2 else dAt r k) = some d := e
    by_cases q : p.1 = k
    · rw [if_pos q] at e'
      cases e'
      exact ⟨v, valV_pos (p := (p.1, v)) q, hv⟩
    · rw [if_neg q] at e'
      obtain ⟨w, e1, e2⟩ := hr.at_ e'
      exact ⟨w, (valV_neg (p := (p.1, v)) q).trans e1, e2⟩
theorem RepK.none_ {K : PySem.W.Frag} {F : Hp} : ∀ {kvs : List (Key × D)} {ws : List (Key × V)}, RepK K F kvs ws → ∀ {k : Key}, dAt kvs k = none → valV ws k = none
  | [], ws, h, k, _ => by
    cases (show ws = [] from h)
    rfl
  | p :: r, ws, h, k, e => by
    obtain ⟨v, r', rfl, hv, hr⟩ := h
    have e' : (if p.1 = k then some p.2 else dAt r k) = none := e
    have q : ¬ p.1 = k := fun z => by rw [if_pos z] at e'; cases e'
    rw [if_neg q] at e'
    exact (valV_neg (p := (p.1, v)) q).trans (hr.none_ e')
theorem RepK.len {K : PySem.W.Frag} {F : Hp} : ∀ {kvs : List (Key × D)} {ws : List (Key × V)}, RepK K F kvs ws → ws.length = kvs.length
  | [], ws, h => by
    cases (show ws = [] from h)
    rfl
  | p :: r, ws, h => by
    obtain ⟨v, r', rfl, hv, hr⟩ := h
    rw [List.length_cons, List.length_cons, hr.len]
theorem RepK.snoc {K : PySem.W.Frag} {F : Hp} {k : Key} {d : D} {v : V} (hv : Rep K F d v) : ∀ {kvs : List (Key × D)} {ws : List (Key × V)}, RepK K F kvs ws → RepK K F (kvs ++ [(k, d)]) (ws ++ [(k, v)])
  | [], ws, h => by
    cases (show ws = [] from h)
    exact ⟨v, [], rfl, hv, rfl⟩
  | p :: r, ws, h => by
    obtain ⟨u, r', rfl, hu, hr⟩ := h
    exact ⟨u, r' ++ [(k, v)], rfl, hu, hr.snoc hv⟩
/-- a dict: frozen, or an own thing -/
def DicD (x : T) (O : List OD) (kvs : List (Key × D)) : Prop := x = .v (.dic kvs) ∨ ∃ i, x = .own i ∧ O[i]? = some (.dic kvs)
theorem dicD_v {O : List OD} {kvs : List (Key × D)} : DicD (.v (.dic kvs)) O kvs := .inl rfl
theorem dicD_o {O : List OD} {kvs : List (Key × D)} {i : Nat} (h : O[i]? = some (.dic kvs)) : DicD (.own i) O kvs := .inr ⟨i, rfl, h⟩
section
variable {K : PySem.W.Frag} {W : WX} {O : List OD} {ts : List T} {P : PT'} {X : XX} {td ty : TE}
theorem w_dicO (k : P (.own O.length) (O ++ [.dic []])) : WE K W tDNewK O ts P X := fun b A σ H Q s rs kv kx => fun p' hp => by
  obtain ⟨s2, n2⟩ := s.own (o := .dic []) hp ⟨[], upd_same, rfl⟩
  refine kv _ _ _ _ _ k s2 n2 ⟨p', ?_, rfl⟩
  rw [← s.len, List.getElem?_append_right (Nat.le_refl _), Nat.sub_self]
  exact rfl
theorem w_dget (h : WE K W td O ts (fun x O1 => WE K W ty O1 ts (fun z O2 => ∃ (kvs : List (Key × D)) (i : Int) (d : D), z = .v (.int i) ∧ DicD x O2 kvs ∧ dAt kvs (.inl i) = some d ∧ P (.v d) O2) X) X) : WE K W (tDGet td ty) O ts P X := fun b A σ H Q s rs kv kx =>
  h b A σ H _ s rs (fun x v A1 O1 H1 p1 s1 n1 r1 => p1 b A1 σ H1 _ s1 (rs.nxt n1) (fun z w A2 O2 H2 p2 s2 n2 r2 => by
    obtain ⟨kvs, i, d, rfl, hx, hd, q⟩ := p2
    obtain ⟨_, e2, rfl⟩ := r2
    cases e2
    have key : ∃ a ws, v = .ref a ∧ H2 a = some (.dK ws) ∧ RepK K (Fz b A2 O2 H2) kvs ws := by
      rcases hx with rfl | ⟨j, rfl, ho⟩
      · obtain ⟨_, e, a, ws, rfl, h1, h2⟩ := r1.nxt n2
        cases e
        exact ⟨a, ws, rfl, (hid_some.mp h1).2, h2⟩
      · obtain ⟨a, ha, e⟩ := r1.nxt n2
        cases e
        obtain ⟨ws, h1, h2⟩ := s2.cell j a _ ha ho
        exact ⟨a, ws, rfl, h1, h2⟩
    obtain ⟨a, ws, rfl, h1, h2⟩ := key
    obtain ⟨w, ew, rw_⟩ := h2.at_ hd
    refine ⟨a, w, rfl, ?_, kv _ w A2 O2 H2 q s2 (n1.trans n2) ⟨w, rfl, rw_⟩⟩
    rw [← ew]
    exact DGet.k (k := .inl i) h1) (kx.nxt n1)) kx
/-- found[i] = d, the key being new -/
theorem g_setD {te ti : TE} {x : T} {N : List T → List OD → Prop} (h : WE K W te O ts (fun y O1 => WE K W ti O1 ts (fun z O2 => ∃ (i : Nat) (kvs : List (Key × D)) (k : Int) (d : D), y = .own i ∧ z = .v (.int k) ∧ x = .v d ∧ O2[i]? = some (.dic kvs) ∧ dAt kvs (.inl k) = none ∧ kvs.length < sizeLine ∧ N ts (O2.set i (.dic (kvs ++ [(.inl k, d)])))) (fun _ _ _ => False)) (fun _ _ _ => False)) :
    WG K W (gSub te ti rSetD) x O ts N := fun b A σ H Q v s rs r kn => by
  refine h b A σ H _ s rs (fun y u A1 O1 H1 p1 s1 n1 r1 => ?_) (fun C fs A' O' H' d z => z.elim)
  refine p1 b A1 σ H1 _ s1 (rs.nxt n1) (fun z w A2 O2 H2 p2 s2 n2 r2 => ?_) (fun C fs A' O' H' d z => z.elim)
  obtain ⟨i, kvs, k, d, rfl, rfl, rfl, ho, hk, hl, q⟩ := p2
  obtain ⟨a, ha, e⟩ := r1.nxt n2
  cases e
  obtain ⟨_, e2, rfl⟩ := r2
  cases e2
  obtain ⟨ws, h1, h2⟩ := s2.cell i a _ ha ho
  obtain ⟨v', e3, rd⟩ := r.nxt (n1.trans n2)
  cases e3
  have pn := putK_new v (h2.none_ hk)
  obtain ⟨s3, n3⟩ := s2.put (w := .dK (putK ws (.inl k) v)) (o := .dic (kvs ++ [(.inl k, d)])) ha ho (fun z => by cases z) (fun z => by cases z) ⟨_, upd_same, by rw [pn]; exact h2.snoc rd⟩
  exact ⟨a, _, rfl, DPut.k (k := .inl k) h1 (by rw [h2.len]; exact hl), kn ts σ A2 _ _ q s3 ((n1.trans n2).trans n3) (rs.nxt ((n1.trans n2).trans n3))⟩
end
/-! ### in, of integers -/
theorem flat_ints : ∀ ys : List Int, (ys.map V.int).all flatV = true
  | [] => rfl
  | y :: r => by
    rw [List.map_cons, List.all_cons, flat_ints r]
    rfl
theorem ints_of {K : PySem.W.Frag} {F : Hp} : ∀ {ys : List Int} {vs : List V}, RepL K F (ys.map D.int) vs → vs = ys.map V.int
  | [], _, h => h
  | y :: r, vs, h => by
    obtain ⟨v, r', rfl, hv, hr⟩ := h
    cases (show v = V.int y from hv)
    rw [ints_of hr, List.map_cons]
theorem inV_ints {x : Int} : ∀ {ys : List Int}, inV (.int x) (ys.map V.int) = ys.any (fun y => decide (x = y))
  | [] => rfl
  | y :: r => by
    have ih := @inV_ints x r
    unfold inV at ih ⊢
    rw [List.map_cons, List.any_cons, List.any_cons, ih]
    congr 1
    show decide (y = x) = decide (x = y)
    exact decide_eq_decide.mpr ⟨Eq.symm, Eq.symm⟩
theorem w_inI {K : PySem.W.Frag} {O : List OD} {P : PT'} {neg : Bool} {x : Int} {ys : List Int} (k : P (.v (.bl (if neg then !ys.any (fun y => decide (x = y)) else ys.any (fun y => decide (x = y))))) O) : WR K (rIn K neg) (.v (.int x)) (.v (.tup (ys.map D.int))) O P := fun b A H Q v u s r1 r2 kv => by
  obtain ⟨_, e1, e2⟩ := r1
  cases e1
  obtain ⟨a, vs, rfl, h1, h2⟩ := tupD_at (hid_ex : Ex (Fz b A O H) H) r2
  rw [ints_of h2] at h1
  cases (show v = V.int x from e2)
  exact ⟨a, _, rfl, .inr h1, rfl, flat_ints ys, by rw [inV_ints]; exact kv _ _ A O H k s Nxt.refl ⟨_, rfl, rfl⟩⟩
end G

set_option Elab.async false
set_option linter.all false
set_option maxRecDepth 100000
set_option maxHeartbeats 4000000
/-! IB: == and != of tuples of own instances that are equal pair by pair. -/
namespace My6
open PySem PySem.SeqAt GQ
open AutoSeq1 (wpAny_loadPart')
open MeetsSeq MeetsSeq2 MeetsSeq3 SeqRoads2
section
variable {prog : Program} {w : World} {A : Around} {R : Result → Shared → Prop}
/-- the walk of != over two tuples, every pair being equal -/
theorem tup_ne {l b : Addr} {xs ys : Array Value} {n n2 : Nat} {dd dd2 : Option Addr} {sl sl2 : Array (Option Value)} (hsz : xs.size = ys.size) {I : Nat → Shared → Prop}
    (turn : ∀ i (h1 : i < xs.size) (h2 : i < ys.size) s, I i s → wpAny (model prog w) A.in1 (eqBool xs[i] ys[i]) (fun r s' => r = true ∧ I (i + 1) s') (fun e s' => R (.error e) s') s)
    (fin : ∀ s, I xs.size s → R (.ok (.ret (.bool false))) s) {s : Shared} (ex : s.heap.get? l = some { cls := .type "tuple", dict := dd, data := .seq xs n, slots := sl }) (ey : s.heap.get? b = some { cls := .type "tuple", dict := dd2, data := .seq ys n2, slots := sl2 }) (h : I 0 s) :
    wpAny (model prog w) A.in1 (Builtin.«tuple.__ne__» ⟨[.ref l, .ref b], []⟩) (FinOf prog w A R) (fun e s' => R (.error e) s') s := by
  have sub := AutoSeq1.sub_tuple_tuple
  have lz : (xs.toList.zip ys.toList).length = xs.size := by simp [hsz]
  have first := h
  obtain ⟨hp, g, d, tk, os⟩ := s
  wp_walk using wpAny_loadPart' ex, wpAny_loadPart' ey, wpAny_forIn_list _ (fun left c s' => c.1 = none ∧ ∃ i, i ≤ xs.size ∧ left = (xs.toList.zip ys.toList).drop i ∧ I i s') _
  case h => exact ⟨rfl, 0, Nat.zero_le _, rfl, first⟩
  case turn =>
    rintro ⟨u, v⟩ left c s' ⟨none', i, le, e, q⟩
    rcases Nat.lt_or_ge i xs.size with lt | ge
    · have e2 : (xs.toList.zip ys.toList).drop i = (xs[i], ys[i]'(hsz ▸ lt)) :: (xs.toList.zip ys.toList).drop (i + 1) := by
        rw [List.drop_eq_getElem_cons (lz.symm ▸ lt)]
        simp
      rw [e2] at e
      injection e with e3 e4
      injection e3 with e5 e6
      subst e5 e6
      refine wpAny_bind (wpAny_mono (turn i lt (hsz ▸ lt) s' q) (fun r s2 z => ?_) fun _ _ z => z)
      obtain ⟨rfl, z⟩ := z
      wp_walk
      exact ⟨rfl, i + 1, lt, e4, z⟩
    · rw [List.drop_of_length_le (by omega)] at e
      cases e
  case fin =>
    rintro ⟨c1, c2⟩ s' ⟨none', i, le, e, q⟩
    cases (show c1 = none from none')
    have last : i = xs.size := by
      rcases Nat.lt_or_ge i xs.size with lt | ge
      · rw [List.drop_eq_getElem_cons (lz.symm ▸ lt)] at e
        cases e
      · omega
    have done := fin s' (last ▸ q)
    wp_walk
    simpa [Builtin.Tuple.tupleCompareSizes, hsz] using done
theorem rc_tupNe {E : Value → Shared → Prop} {s : Shared} {l b : Addr} {xs ys : Array Value} {Q : Value → Shared → Prop} (hsz : xs.size = ys.size) (hu : A.units < cLine) (I : Nat → Shared → Prop)
    (hl : s.heap.IsTuple l xs) (hb : s.heap.IsTuple b ys)
    (turn : ∀ i (h1 : i < xs.size) (h2 : i < ys.size) s, I i s → wpAny (model prog w) A.in1 (eqBool xs[i] ys[i]) (fun r s' => r = true ∧ I (i + 1) s') E s)
    (fin : ∀ s, I xs.size s → Q (.bool false) s) (h : I 0 s) : wpAny (model prog w) A (richCompare .NotEq (.ref l) (.ref b)) Q E s := by
  obtain ⟨⟨c1, dd, d1, sl⟩, o1, rfl, n, rfl⟩ := id hl
  obtain ⟨⟨c2, dd2, d2, sl2⟩, o2, rfl, n2, rfl⟩ := id hb
  refine wpAny_richCompare_same_room (op := .NotEq) ⟨_, o1, rfl⟩ ⟨_, o2, rfl⟩ F.slot_tuple_ne (call_here F.slot_tuple_ne ⟨_, o1, rfl⟩ F.entry_tuple_ne (F.args_tuple_ne_2 _ _) ?_) hu
  exact tup_ne (R := wants (fun v s' => v ≠ .notImplemented ∧ Q v s') E) hsz turn (fun s' q => ⟨(fun z => nomatch z), fin s' q⟩) o1 o2 h
end
end My6
namespace G
open PySem PySem.Spec PyProof.Rows L2
def rEqIT (K : PySem.W.Frag) (C : Addr) (sp : SpD) (r : Bool) : R2 := fun x y H Q => ∃ (bs : Bs) (A : List Addr) (O : List OD) (fs gs : List (List (Str × D))),
  StO K bs A O H ∧ RepT K (Fz bs A O H) A (.v (.tup (fs.map (D.ins C)))) (some x) ∧ RepT K (Fz bs A O H) A (.v (.tup (gs.map (D.ins C)))) (some y) ∧ PairsI sp C fs gs ∧
  ∀ H', StO K bs A O H' → Nxt bs A O H A O H' → Q (.bl r) H'
section
variable {X : Cx} {CX : CXT} {k : Nat} {C g : Addr} {sp : SpD}
/-- two items, held by what stays -/
theorem pairT_run (M : Meth X.K C "__eq__" g) (F : FnR X.prog X.w X.K X.mg X.base CX k g (lift X.K sp)) (hr : Room (k + 1) X.A) (hx : Passes CX X E0) {bs : Bs} {A : List Addr} {O : List OD} {fs gs : List (List (Str × D))}
    {pins : List (Addr × Obj)} {σ : L2.St} {H0 : Hp} {vs us : List V} {its its2 : List Value} (hv : RepL X.K (Fz bs A O H0) (fs.map (D.ins C)) vs) (hu : RepL X.K (Fz bs A O H0) (gs.map (D.ins C)) us) (r : Vals vs its) (r2 : Vals us its2) (hp : PairsI sp C fs gs)
    (i : Nat) (h1 : i < its.toArray.size) (h2 : i < its2.toArray.size) (s' : Shared) (hI : ∃ H', Inv X pins σ H' s' ∧ StO X.K bs A O H' ∧ Nxt bs A O H0 A O H') :
    wpAny (model X.prog X.w) X.A.in1 (eqBool its.toArray[i] its2.toArray[i]) (fun z s3 => z = true ∧ ∃ H', Inv X pins σ H' s3 ∧ StO X.K bs A O H' ∧ Nxt bs A O H0 A O H') X.xe s' := by
  obtain ⟨H1, I1, s1, n1⟩ := hI
  have hr2 : Room k X.A.in1 := Room.in1 hr
  have i1 : i < its.length := by simpa using h1
  have i2 : i < its2.length := by simpa using h2
  have if_ : i < fs.length := by
    have := hv.length
    rw [List.length_map] at this
    rw [← this, r.length]
    exact i1
  have ig : i < gs.length := hp.1 ▸ if_
  obtain ⟨x, ex, qx⟩ := hv.get (i := i) (d := .ins C fs[i]) (by rw [List.getElem?_map, List.getElem?_eq_getElem if_] <;> rfl)
  obtain ⟨y, ey, qy⟩ := hu.get (i := i) (d := .ins C gs[i]) (by rw [List.getElem?_map, List.getElem?_eq_getElem ig] <;> rfl)
  have qx := qx.ex n1.ext
  have qy := qy.ex n1.ext
  obtain ⟨p, dx, ws, rfl, px, qx2⟩ := id qx
  obtain ⟨q, dy, zs, rfl, py, qy2⟩ := id qy
  have at_of : ∀ {l : List V} {m : List Value} {a : Addr}, Vals l m → l[i]? = some (.ref a) → ∀ h : i < m.toArray.size, m.toArray[i] = .ref a := fun {l m a} rr e h => by
    obtain ⟨u, eu, ru⟩ := rr.get e
    have : m[i]? = some m.toArray[i] := by rw [List.getElem?_eq_getElem (by simpa using h)] <;> simp
    rw [eu] at this
    cases this
    exact ru
  rw [at_of r ex h1, at_of r2 ey h2]
  by_cases hpq : p = q
  · subst hpq
    exact SeqAt.EqAt.same (A := X.A.in1) (s := s') (.ref p) X.prog X.w X.xe _ ⟨rfl, H1, I1, s1, n1⟩
  have pxH : H1 p = some (.ins C dx ws) := (hid_some.mp px).2
  have pyH : H1 q = some (.ins C dy zs) := (hid_some.mp py).2
  obtain ⟨_, _, ja⟩ := inst_of I1 pxH
  obtain ⟨_, _, jb⟩ := inst_of I1 pyH
  obtain ⟨_, fr⟩ := I1.fr
  have prom : lift X.K sp [.ref p, .ref q] H1 (fun v H' => v = .bl true ∧ StO X.K bs A O H' ∧ Nxt bs A O H1 A O H') E0 :=
    lift_p (W := fun _ _ _ _ => False) (X := fun _ _ _ => False) (σ := []) (P := fun t O' => t = .v (.bl true) ∧ O' = O) s1 (two_rep ⟨_, rfl, qx⟩ ⟨_, rfl, qy⟩) rfl (fun _ _ _ z => z)
      (hp.2 i fs[i] gs[i] (List.getElem?_eq_getElem if_) (List.getElem?_eq_getElem ig) O)
      (fun t v A' O' H' ⟨e1, e2⟩ s2 n2 rt => by
        subst e1 e2
        obtain ⟨M', eM⟩ := n2.pre
        have hl := s2.len
        rw [eM, List.length_append, s1.len] at hl
        have : M' = [] := List.length_eq_zero_iff.mp (by omega)
        rw [this, List.append_nil] at eM
        subst eM
        obtain ⟨_, ev, rfl⟩ := rt
        cases ev
        exact ⟨rfl, s2, n2⟩) fun _ _ _ _ _ _ z => z.elim
  have run := wpAny_mono (wpAny_call (SlX.run_at (us := [.ref p, .ref q]) (ws := [.ref p, .ref q]) F hr2 I1.env0.in1 hx I1 (.cons rfl (.cons rfl .nil)) prom)) (fun w s2 z => show PySem.W.CmpBack (fun v s3 => ∃ r, v = .bool r ∧ r = true ∧ ∃ H', Inv X pins σ H' s3 ∧ StO X.K bs A O H' ∧ Nxt bs A O H0 A O H') w s2 from by
    obtain ⟨z', H', I', rz, rfl, s2', n2'⟩ := z
    cases (show w = Value.bool true from rz)
    exact ⟨true, rfl, rfl, H', I', s2', n1.trans n2'⟩) fun _ _ z => z
  exact GQ.eqBool_refG hpq (PySem.W.cmp_K (op := .Eq) (tb := .ref C) hr2.units0 fr I1.ok.mod.kin ja jb.type (by unfold PySem.W.notFirst; simp) M.at_ M.fn run)
theorem op_eqIT (M : Meth X.K C "__eq__" g) (F : FnR X.prog X.w X.K X.mg X.base CX k g (lift X.K sp)) (hr : Room (k + 1) X.A) (hx : Passes CX X E0) : OpR X (compareOp .Eq) (rEqIT X.K C sp true) := by
  intro pins s σ H x y v u Q I rx ry h
  obtain ⟨bs, A, O, fs, gs, s0, r1, r2, hp, q⟩ := h
  obtain ⟨a, vs, rfl, h1, h2⟩ := tupD_at (hid_ex : Ex (Fz bs A O H) H) r1
  obtain ⟨b, us, rfl, h3, h4⟩ := tupD_at (hid_ex : Ex (Fz bs A O H) H) r2
  cases (show v = Value.ref a from rx)
  cases (show u = Value.ref b from ry)
  obtain ⟨its, e1, t1, z1⟩ := I.tuple h1
  obtain ⟨its2, e2, t2, z2⟩ := I.tuple h3
  have hsz : its.toArray.size = its2.toArray.size := by
    have l1 := h2.length
    have l2 := h4.length
    rw [List.length_map] at l1 l2
    rw [List.size_toArray, List.size_toArray, ← e1.length, ← e2.length, l1, l2, hp.1]
  exact GQ.rc_tupG hsz hr.units0 (fun _ s' => ∃ H', Inv X pins σ H' s' ∧ StO X.K bs A O H' ∧ Nxt bs A O H A O H') t1 t2 (fun i h1 h2' s' z => pairT_run M F hr hx h2 h4 e1 e2 hp i h1 h2' s' z) (fun s' ⟨H', I', s1, n1⟩ => ⟨.bl true, H', I', rfl, q H' s1 n1⟩) ⟨H, I, s0, Nxt.refl⟩
theorem op_neIT (M : Meth X.K C "__eq__" g) (F : FnR X.prog X.w X.K X.mg X.base CX k g (lift X.K sp)) (hr : Room (k + 1) X.A) (hx : Passes CX X E0) : OpR X (compareOp .NotEq) (rEqIT X.K C sp false) := by
  intro pins s σ H x y v u Q I rx ry h
  obtain ⟨bs, A, O, fs, gs, s0, r1, r2, hp, q⟩ := h
  obtain ⟨a, vs, rfl, h1, h2⟩ := tupD_at (hid_ex : Ex (Fz bs A O H) H) r1
  obtain ⟨b, us, rfl, h3, h4⟩ := tupD_at (hid_ex : Ex (Fz bs A O H) H) r2
  cases (show v = Value.ref a from rx)
  cases (show u = Value.ref b from ry)
  obtain ⟨its, e1, t1, z1⟩ := I.tuple h1
  obtain ⟨its2, e2, t2, z2⟩ := I.tuple h3
  have hsz : its.toArray.size = its2.toArray.size := by
    have l1 := h2.length
    have l2 := h4.length
    rw [List.length_map] at l1 l2
    rw [List.size_toArray, List.size_toArray, ← e1.length, ← e2.length, l1, l2, hp.1]
  exact My6.rc_tupNe hsz hr.units0 (fun _ s' => ∃ H', Inv X pins σ H' s' ∧ StO X.K bs A O H' ∧ Nxt bs A O H A O H') t1 t2 (fun i h1 h2' s' z => pairT_run M F hr hx h2 h4 e1 e2 hp i h1 h2' s' z) (fun s' ⟨H', I', s1, n1⟩ => ⟨.bl false, H', I', rfl, q H' s1 n1⟩) ⟨H, I, s0, Nxt.refl⟩
end
section
variable {X : Cx} {CX : CXT} {k : Nat} {C g : Addr} {sp : SpD}
theorem op_eqITK (K : PySem.W.Frag) (M : Meth K C "__eq__" g) (F : FnR X.prog X.w K X.mg X.base CX k g (lift K sp)) (hr : Room (k + 1) X.A) (hx : Passes CX X E0) (hK : X.K = K := by rfl) : OpR X (compareOp .Eq) (rEqIT K C sp true) := by
  subst hK
  exact op_eqIT M F hr hx
theorem op_neITK (K : PySem.W.Frag) (M : Meth K C "__eq__" g) (F : FnR X.prog X.w K X.mg X.base CX k g (lift K sp)) (hr : Room (k + 1) X.A) (hx : Passes CX X E0) (hK : X.K = K := by rfl) : OpR X (compareOp .NotEq) (rEqIT K C sp false) := by
  subst hK
  exact op_neIT M F hr hx
end
theorem w_eqIT {K : PySem.W.Frag} {O : List OD} {P : PT'} {C : Addr} {sp : SpD} {fs gs : List (List (Str × D))} {r : Bool} (h : PairsI sp C fs gs) (k : P (.v (.bl r)) O) : WR K (rEqIT K C sp r) (.v (.tup (fs.map (D.ins C)))) (.v (.tup (gs.map (D.ins C)))) O P :=
  fun b A H Q v u s r1 r2 kv => ⟨b, A, O, fs, gs, s, r1, r2, h, fun H' s' n' => kv _ _ A O H' k s' n' ⟨_, rfl, rfl⟩⟩
end G

set_option Elab.async false
set_option linter.all false
set_option maxRecDepth 100000
set_option maxHeartbeats 4000000
/-! IC: C(*row), the row alone. -/
namespace G
open PySem PySem.Spec PyProof.Rows L2
theorem pe_makeY {X : Cx} {CX : CXT} {k : Nat} {f C : Addr} {sp : Sp} {E : XK} {x : Str} {e : Expr} {te : TE} {p p2 pos : Pos} (M : Mk X.K C f) (F : FnR X.prog X.w X.K X.mg X.base CX k f sp) (hr : Room (k + 1) X.A) (hg : Gl X x)
    (hm : X.mg x = some (.ref C)) (hx : Passes CX X E) (he : PE X e te) (hdb : (x == ("__debug__" : Str)) = false := by decide) (h1 : starEach [.Starred e p2] X.env = [(true, eval e X.env)] := by rfl) :
    PE X (.Call (.Name x p) [.Starred e p2] [] pos) (StX.tMakeR C sp E (StX.tStar X.K te tNil)) :=
  ⟨fun pins s σ H Q I h => wpAny_Call_Name_kw (ld_glob I hg hm (PySem.W.callWith_S (h₀ := X.base) I.ok.mod.kin M.kp (thn (he.run pins s σ H _ I h) fun v s1 z => by
    obtain ⟨y, H1, I1, ry, a, xs, ey, hx2, q⟩ := z
    subst ey
    obtain rfl : v = Value.ref a := ry
    refine StX.star_any I1 hx2 fun us s2 I2 rv => ?_
    exact ⟨I2.kIn, StX.run_makeR M F hr hx I2 (show Vals (xs ++ []) us by rw [List.append_nil]; exact rv) q⟩) h1) hdb)⟩
end G
namespace G
open PySem PySem.Spec PyProof.Rows L2
/-- x[i] by an own __getitem__ -/
def rIxO (C : Addr) (sp : Sp) (E : XK) : R2 := fun x y H Q => ∃ a dx fs, x = .ref a ∧ H a = some (.ins C dx fs) ∧ sp [x, y] H Q E
section
variable {X : Cx} {CX : CXT} {k : Nat} {C g : Addr} {sp : Sp} {E : XK} {a b : Expr} {ta tb : TE} {pos : Pos}
theorem pe_ixO (M : Meth X.K C "__getitem__" g) (c : PySem.W.fnIn X.K g = true) (F : FnR X.prog X.w X.K X.mg X.base CX k g sp) (hr : Room (k + 1) X.A) (hx : Passes CX X E) (ha : PE X a ta) (hb : PE X b tb)
    (hsl : ∀ (x : Addr) (i : Value), subscripted b true (.ref x) i = runValue (.builtin "lifetime.subscript" ⟨[.ref x, i], []⟩) := by intros; rfl) : PE X (.Subscript a b pos) (tOp (rIxO C sp E) ta tb) := by
  refine ⟨fun pins s σ H Q I h => ?_⟩
  refine Subscript_ (binT ha hb I h fun v u s2 x y H2 I2 rx ry q => ?_)
  obtain ⟨p, dx, fs, rfl, hp, q⟩ := q
  cases (show v = Value.ref p from rx)
  obtain ⟨_, _, ja⟩ := inst_of I2 hp
  obtain ⟨_, fr⟩ := I2.fr
  have hr2 : Room k X.A.in1 := Room.in1 hr
  exact PySem.W.sub_K fr I2.ok.mod.kin ja M.at_ c M.fn (wpAny_call (SlX.run_at (us := [.ref p, u]) (ws := [.ref p, y]) F hr2 I2.env0.in1 hx I2 (.cons rfl (.cons ry .nil)) q)) (hsl p u)
end
theorem w_ixO {K : PySem.W.Frag} {O : List OD} {P : PT'} {sp : SpD} {C : Addr} {fs : List (Str × D)} {d : D} (h : sp [.v (.ins C fs), .v d] [] (fun t _ => (∃ d, t = .v d) ∧ P t O) (fun _ _ _ => False)) : WR K (rIxO C (lift K sp) E0) (.v (.ins C fs)) (.v d) O P := fun b A H Q v u s r1 r2 kv => by
  obtain ⟨a, dx, vs, e, ha⟩ := rep_ins s r1
  exact ⟨a, dx, vs, e, ha, lift_p (W := fun _ _ _ _ => False) (X := fun _ _ _ => False) (σ := []) s (two_rep r1 r2) rfl (fun _ _ _ z => z) h kv fun _ _ _ _ _ _ z => z.elim⟩
end G

set_option Elab.async false
set_option linter.all false
set_option maxRecDepth 100000
set_option maxHeartbeats 4000000
/-! ID: == of an own instance with a value of any other kind. -/
namespace G
open PySem PySem.Spec PyProof.Rows L2
def rEqX (K : PySem.W.Frag) (C : Addr) (sp : Sp) (E : XK) : R2 := fun x y H Q => ∃ a dx fs t, x = .ref a ∧ H a = some (.ins C dx fs) ∧ TyX K H y t ∧ PySem.W.notFirst K C t = true ∧ sp [x, y] H Q E
section
variable {X : Cx} {CX : CXT} {k : Nat} {C g : Addr} {sp : Sp} {E : XK}
theorem op_eqX (M : Meth X.K C "__eq__" g) (F : FnR X.prog X.w X.K X.mg X.base CX k g sp) (hr : Room k X.A) (hx : Passes CX X E) : OpR X (compareOp .Eq) (rEqX X.K C sp E) := by
  intro pins s σ H x y v u Q I rx ry h
  obtain ⟨a, dx, fs, t, rfl, ha, ht, hn, q⟩ := h
  cases (show v = Value.ref a from rx)
  obtain ⟨_, _, ja⟩ := inst_of I ha
  obtain ⟨_, fr⟩ := I.fr
  obtain ⟨HP, Z, hp, _⟩ := kit_of I ry ht
  have run := wpAny_mono (wpAny_call (SlX.run_at (us := [.ref a, u]) (ws := [.ref a, y]) F hr I.env0 hx I (.cons rfl (.cons ry .nil)) q)) (fun w s' z => show PySem.W.CmpBack (EP X pins σ Q) w s' from by
    obtain ⟨z', H', I', rz, qz⟩ := z
    exact SlX.cmpback rz ⟨z', H', I', rz, qz⟩) fun _ _ z => z
  exact PySem.W.cmp_K (op := .Eq) hr.units0 fr I.ok.mod.kin ja (Z.ty _ _ I.kIn hp) hn M.at_ M.fn run
theorem op_eqXK (K : PySem.W.Frag) (M : Meth K C "__eq__" g) (F : FnR X.prog X.w K X.mg X.base CX k g sp) (hr : Room k X.A) (hx : Passes CX X E) (hK : X.K = K := by rfl) : OpR X (compareOp .Eq) (rEqX K C sp E) := by
  subst hK
  exact op_eqX M F hr hx
end
theorem w_eqX {K : PySem.W.Frag} {O : List OD} {P : PT'} {sp : SpD} {C : Addr} {fs : List (Str × D)} {d : D} {t : Value} (ht : TyD K d t) (hn : PySem.W.notFirst K C t = true) (h : sp [.v (.ins C fs), .v d] [] (fun t _ => (∃ d, t = .v d) ∧ P t O) (fun _ _ _ => False)) : WR K (rEqX K C (lift K sp) E0) (.v (.ins C fs)) (.v d) O P := fun b A H Q v u s r1 r2 kv => by
  obtain ⟨a, dx, vs, e, ha⟩ := rep_ins s r1
  obtain ⟨_, e2, r3⟩ := id r2
  cases e2
  exact ⟨a, dx, vs, t, e, ha, ht.tyX (r3.ex hid_ex), hn, lift_p (W := fun _ _ _ _ => False) (X := fun _ _ _ => False) (σ := []) s (two_rep r1 r2) rfl (fun _ _ _ z => z) h kv fun _ _ _ _ _ _ z => z.elim⟩
end G

set_option Elab.async false
set_option linter.all false
set_option maxRecDepth 100000
set_option maxHeartbeats 4000000
/-! IE: calls by keywords, new instances, staticmethods, subscripts that may raise. -/
namespace G
open PySem PySem.Spec PyProof.Rows L2
/-! ### a def called by all its parameters' names, in order or the last one first -/
def KwT (K : PySem.W.Frag) (fd : FuncData) (ps : List Str) (tw : Bool) : Prop := ∀ (s : Shared) (ws : List Value), K.In s.heap → ws.length = ps.length → BindsTo s fd ⟨[], (turnL tw ps).zip ws⟩ (ps.zip (turnL tw ws))
theorem KwB.t {K : PySem.W.Frag} {fd : FuncData} {ps : List Str} (h : KwB K fd ps) : KwT K fd ps false := h
theorem KwR.t {K : PySem.W.Frag} {fd : FuncData} {ps : List Str} (h : KwR K fd ps) : KwT K fd ps true := h
def tCallKX (tw : Bool) (sp : Sp) (E : L2.St → XK) (t : TA) : TE := fun σ H Q => t σ H fun zs H1 => sp (turnL tw zs) H1 Q (E σ)
section
variable {X : Cx} {CX : CXT} {k : Nat} {f C g : Addr} {fd : FuncData} {ps ks : List Str} {sp : Sp} {E : L2.St → XK} {E1 : XK} {x m : Str} {kws : List Keyword} {tk t : TA} {ta tb : TE} {tw : Bool} {p p2 pos apos : Pos} {e o a b : Expr} {es : List Expr} {pl : Sem Bool}
theorem pe_callKX (F : FnOk X.prog X.w X.K X.mg X.base CX k f fd ps sp) (hr : Room k X.A) (hg : Gl X x) (hm : X.mg x = some (.ref f)) (hk : PySem.W.keepIn X.K (.ref f) = true) (hb : KwT X.K fd ps tw) (hx : ∀ σ, PassesAt CX X σ (E σ))
    (hkw : PK X kws tk) (hall : (backToKw pos (keywordEach kws X.env)).all (·.1.isSome) = true := by rfl) (hks : (backToKw pos (keywordEach kws X.env)).filterMap (·.1) = turnL tw ps := by rfl)
    (hdb : (x == ("__debug__" : Str)) = false := by decide)
    (hpl : ((backTo pos (starEach [] X.env)).any (·.1) || (backToKw pos (keywordEach kws X.env)).any (·.1.isNone)) = false := by rfl) :
    PE X (.Call (.Name x p) [] kws pos) (tCallKX tw sp E tk) := by
  constructor
  intro pins s σ H Q I h
  refine wpAny_Call_Name_kw (ld_glob I hg hm ?_ hdb)
  refine PySem.W.callWith_KW0 (h₀ := X.base) I.ok.mod.kin hk hall (thn (hkw.run pos pins s σ H _ I h) fun ws s2 z => ?_) hpl
  obtain ⟨zs, H2, I2, rz, q2⟩ := z
  refine ⟨I2.kIn, ?_⟩
  rw [hks]
  have l0 := F.len _ _ _ _ q2
  rw [turn_len, rz.length] at l0
  refine wpAny_call (codeAny_mono (F.run X.A X.stack s2 H2 ⟨[], (turnL tw ps).zip ws⟩ (turnL tw ws) (turnL tw zs) Q (E σ) hr I2.env0 (hb s2 ws I2.kIn l0) (turn_vals rz) q2) fun r s' hq => ?_)
  exact match r, hq with
    | .error e, hq => hx σ pins H2 s2 e s' I2 hq
    | .ok (.ret _), hq => I2.after hq
/-! ### a new instance whose __init__ may raise -/
def tMakeX (C : Addr) (sp : Sp) (E : L2.St → XK) (t : TA) : TE := fun σ H Q => t σ H fun vs H1 => ∀ x dx, H1 x = Option.none → H1 dx = Option.none → dx ≠ x →
  sp (V.ref x :: vs) (upd (upd H1 dx (.own x)) x (.ins C dx [])) (fun v H2 => v = .non ∧ Q (.ref x) H2) (E σ)
theorem run_makeX {pins : List (Addr × Obj)} {σ : L2.St} {H : Hp} {s : Shared} {Q : VK} {us : List Value} {vs : List V} (M : Mk X.K C f) (F : FnR X.prog X.w X.K X.mg X.base CX k f sp) (hr : Room (k + 1) X.A) (hx : PassesAt CX X σ E1) (I : Inv X pins σ H s) (r : Vals vs us)
    (h : ∀ x dx, H x = Option.none → H dx = Option.none → dx ≠ x → sp (V.ref x :: vs) (upd (upd H dx (.own x)) x (.ins C dx [])) (fun v H2 => v = .non ∧ Q (.ref x) H2) E1) :
    wpAny (model X.prog X.w) X.A (call (.ref C) us) (EP X pins σ Q) X.xe s := by
  have I2 := Inv.made (C := C) I
  have q0 := h (s.heap.objs.size + 1) s.heap.objs.size (I.hok.fresh (Nat.le_succ _)) (I.hok.fresh (Nat.le_refl _)) (Nat.ne_of_lt (Nat.lt_succ_self _))
  have code := F _ X.stack _ _ (Value.ref (s.heap.objs.size + 1) :: us) (V.ref (s.heap.objs.size + 1) :: vs) _ E1 (hr.make C us []) (I2.env0.make C us []) (.cons rfl r) q0
  refine wpAny_call (make_map (f := f) I.kIn M.makes M.init (beq_iff_eq.mp M.fn) (codeAny_mono code fun z s' hz => ?_))
  exact match z, hz with
    | .error e, hz => hx pins _ _ e s' I2 hz
    | .ok (.ret u), hz => by
      obtain ⟨v, H', I3, rv, rfl, q3⟩ := I2.after hz
      exact ⟨rv, ⟨V.ref (s.heap.objs.size + 1), H', I3, rfl, q3⟩⟩
theorem pe_makeX (M : Mk X.K C f) (F : FnR X.prog X.w X.K X.mg X.base CX k f sp) (hr : Room (k + 1) X.A) (hg : Gl X x) (hm : X.mg x = some (.ref C)) (hx : ∀ σ, PassesAt CX X σ (E σ)) (ha : PA X (e :: es) t) (hdb : (x == ("__debug__" : Str)) = false := by decide)
    (he : starEach (e :: es) X.env = (false, eval e X.env) :: starEach es X.env := by rfl) (hpl : (backTo pos (starEach es X.env)).any (·.1) = false := by rfl) : PE X (.Call (.Name x p) (e :: es) [] pos) (tMakeX C sp E t) :=
  ⟨fun pins s σ H Q I h => wpAny_Call_Name_kw (ld_glob I hg hm (PySem.W.callWith_K (h₀ := X.base) I.ok.mod.kin M.kp (thn (ha.run pos pins s σ H _ I h) fun us s1 z => by
    obtain ⟨vs, H1, I1, r, q⟩ := z
    exact ⟨I1.kIn, run_makeX M F hr (hx σ) I1 r q⟩) he hpl) hdb)⟩
theorem pe_makeX0 (M : Mk X.K C f) (F : FnR X.prog X.w X.K X.mg X.base CX k f sp) (hr : Room (k + 1) X.A) (hg : Gl X x) (hm : X.mg x = some (.ref C)) (hx : ∀ σ, PassesAt CX X σ (E σ)) (hdb : (x == ("__debug__" : Str)) = false := by decide) : PE X (.Call (.Name x p) [] [] pos) (tMakeX C sp E tNil) :=
  ⟨fun pins s σ H Q I h => wpAny_Call_Name_kw (ld_glob I hg hm (PySem.W.callWith_K0 I.kIn M.kp (run_makeX (us := []) M F hr (hx σ) I .nil h)) hdb)⟩
/-! ### a staticmethod that may raise -/
def tSMethX (C : Addr) (sp : Sp) (E : L2.St → XK) (ta : TE) (t : TA) : TE := fun σ H Q => ta σ H fun x H1 => x = .ref C ∧ t σ H1 fun vs H2 => sp vs H2 Q (E σ)
theorem pe_smethX (he : PE X o ta) (M : SMet X.K C m g) (F : FnR X.prog X.w X.K X.mg X.base CX k g sp) (hr : Room k X.A) (hx : ∀ σ, PassesAt CX X σ (E σ)) (ha : PA X (e :: es) t)
    (h1 : starEach (e :: es) X.env = (false, eval e X.env) :: starEach es X.env := by rfl) (h2 : (backTo pos (starEach es X.env)).any (·.1) = false := by rfl)
    (h3 : eval (.Call (.Attribute o m apos) (e :: es) [] pos) X.env = (eval o X.env >>= fun ov => standAt apos.atName >>= fun _ => holding [ov] (getMethod ov m pl) >>= fun q => callWith pos q.1 q.2 (backTo pos (starEach (e :: es) X.env)) (backToKw pos (keywordEach [] X.env))) := by rfl) :
    PE X (.Call (.Attribute o m apos) (e :: es) [] pos) (tSMethX C sp E ta t) := by
  constructor
  intro pins s σ H Q I h
  refine PySem.W.methodCall_KW (pl := pl) (thn (he.run pins s σ H _ I h) fun u s1 z => ?_) h3
  obtain ⟨y, H1, I1, ry, rfl, q⟩ := z
  cases (show u = Value.ref C from ry)
  refine get_static I1 M fun s2 I2 => ?_
  refine PySem.W.callWith_K (first := []) (h₀ := X.base) I2.ok.mod.kin M.kp (thn (ha.run pos pins s2 σ H1 _ I2 q) fun us s3 z2 => ?_) h1 h2
  obtain ⟨vs, H2, I3, r, q2⟩ := z2
  exact ⟨I3.kIn, run_fnRS (us := us) (vs := vs) F hr (hx σ) I3 r q2⟩
/-- C.m(p = .., ..) by all the parameters' names -/
def tSMethK (C : Addr) (tw : Bool) (sp : Sp) (E : L2.St → XK) (ta : TE) (tk : TA) : TE := fun σ H Q => ta σ H fun x H1 => x = .ref C ∧ tk σ H1 fun zs H2 => sp (turnL tw zs) H2 Q (E σ)
theorem pe_smethK (he : PE X o ta) (M : SMet X.K C m g) (F : FnOk X.prog X.w X.K X.mg X.base CX k g fd ps sp) (hr : Room k X.A) (hb : KwT X.K fd ps tw) (hx : ∀ σ, PassesAt CX X σ (E σ)) (hkw : PK X kws tk)
    (hks : (backToKw pos (keywordEach kws X.env)).filterMap (·.1) = turnL tw ps := by rfl) (hall : (backToKw pos (keywordEach kws X.env)).all (·.1.isSome) = true := by rfl)
    (hpl : ((backTo pos (starEach [] X.env)).any (·.1) || (backToKw pos (keywordEach kws X.env)).any (·.1.isNone)) = false := by rfl)
    (h3 : eval (.Call (.Attribute o m apos) [] kws pos) X.env = (eval o X.env >>= fun ov => standAt apos.atName >>= fun _ => holding [ov] (getMethod ov m pl) >>= fun q => callWith pos q.1 q.2 (backTo pos (starEach [] X.env)) (backToKw pos (keywordEach kws X.env))) := by rfl) :
    PE X (.Call (.Attribute o m apos) [] kws pos) (tSMethK C tw sp E ta tk) := by
  constructor
  intro pins s σ H Q I h
  refine PySem.W.methodCall_KW (pl := pl) (thn (he.run pins s σ H _ I h) fun u s1 z => ?_) h3
  obtain ⟨y, H1, I1, ry, rfl, q⟩ := z
  cases (show u = Value.ref C from ry)
  refine get_static I1 M fun s2 I2 => ?_
  refine PySem.W.callWith_KW0 (first := []) (h₀ := X.base) I2.ok.mod.kin M.kp hall (thn (hkw.run pos pins s2 σ H1 _ I2 q) fun ws s3 z2 => ?_) hpl
  obtain ⟨zs, H2, I3, rz, q2⟩ := z2
  rw [hks]
  have l0 := F.len _ _ _ _ q2
  rw [turn_len, rz.length] at l0
  refine ⟨I3.kIn, wpAny_call (codeAny_mono (F.run X.A X.stack s3 H2 ⟨[], (turnL tw ps).zip ws⟩ (turnL tw ws) (turnL tw zs) Q (E σ) hr I3.env0 (hb s3 ws I3.kIn l0) (turn_vals rz) q2) fun r s' hq => ?_)⟩
  exact match r, hq with
    | .error e, hq => hx σ pins H2 s3 e s' I3 hq
    | .ok (.ret _), hq => I3.after hq
end
section
variable {K : PySem.W.Frag} {W : WX} {O : List OD} {ts : List T} {P : PT'} {X : XX} {sp : SpD} {tk tr : TA} {ta : TE} {C : Addr} {tw : Bool} {n : Nat}
theorem w_callKX (h : WA K W tk O ts (fun xs O1 => ∃ ds, unv xs = some ds ∧ sp ((turnL tw ds).map T.v) [] (fun t _ => (∃ d, t = .v d) ∧ P t O1) (fun C fs _ => X C fs O1)) X) :
    WE K W (tCallKX tw (lift K sp) (L2.WE W) tk) O ts P X := fun b A σ H Q s rs kv kx =>
  h b A σ H _ s rs (fun xs vs A1 O1 H1 p1 s1 n1 r1 => by
    obtain ⟨ds, e, p⟩ := p1
    exact lift_p (W := W) (σ := σ) s1 (xs := (turnL tw ds).map T.v) (ds := turnL tw ds) (turn_rep r1 e) unv_map (fun _ _ _ z => z) p (kv.nxt n1) (kx.nxt n1)) kx
theorem w_smethX (h : WE K W ta O ts (fun x O1 => x = .v (.ref C) ∧ WA K W tr O1 ts (fun xs O2 => ∃ ds, unv xs = some ds ∧ sp xs [] (fun t _ => (∃ d, t = .v d) ∧ P t O2) (fun C fs _ => X C fs O2)) X) X) :
    WE K W (tSMethX C (lift K sp) (L2.WE W) ta tr) O ts P X := fun b A σ H Q s rs kv kx =>
  h b A σ H _ s rs (fun x v A1 O1 H1 p1 s1 n1 r1 => by
    obtain ⟨rfl, p⟩ := p1
    obtain ⟨_, e1, e2⟩ := id r1
    cases e1
    refine ⟨e2, p b A1 σ H1 _ s1 (rs.nxt n1) (fun xs us A2 O2 H2 p2 s2 n2 r2 => ?_) (kx.nxt n1)⟩
    obtain ⟨ds, e, q⟩ := p2
    exact lift_p (W := W) (σ := σ) s2 r2 e (fun _ _ _ z => z) q (kv.nxt (n1.trans n2)) (kx.nxt (n1.trans n2))) kx
theorem w_smethK (h : WE K W ta O ts (fun x O1 => x = .v (.ref C) ∧ WA K W tk O1 ts (fun xs O2 => ∃ ds, unv xs = some ds ∧ sp ((turnL tw ds).map T.v) [] (fun t _ => (∃ d, t = .v d) ∧ P t O2) (fun C fs _ => X C fs O2)) X) X) :
    WE K W (tSMethK C tw (lift K sp) (L2.WE W) ta tk) O ts P X := fun b A σ H Q s rs kv kx =>
  h b A σ H _ s rs (fun x v A1 O1 H1 p1 s1 n1 r1 => by
    obtain ⟨rfl, p⟩ := p1
    obtain ⟨_, e1, e2⟩ := id r1
    cases e1
    refine ⟨e2, p b A1 σ H1 _ s1 (rs.nxt n1) (fun xs us A2 O2 H2 p2 s2 n2 r2 => ?_) (kx.nxt n1)⟩
    obtain ⟨ds, e, q⟩ := p2
    exact lift_p (W := W) (σ := σ) s2 (xs := (turnL tw ds).map T.v) (ds := turnL tw ds) (turn_rep r2 e) unv_map (fun _ _ _ z => z) q (kv.nxt (n1.trans n2)) (kx.nxt (n1.trans n2))) kx
end
/-! ### the new instance over data -/
theorem RepX.ex {K : PySem.W.Frag} {F F' H H' : Hp} {d : Option Addr} : ∀ {fs : Option (List (Str × D))}, RepX K F H fs d → Ex F F' → RepX K F' H' fs d
  | none, h, _ => h
  | some _, ⟨dx, vs, e, h1, h2⟩, x => ⟨dx, vs, e, x _ _ h1 (fun _ z => by cases z), h2.ex x⟩
section
variable {K : PySem.W.Frag} {W : WX} {P : PT'} {X : XX} {sp : SpD} {b : Bs} {A1 : List Addr} {O1 : List OD} {H1 H3 : Hp} {xs : List T} {vs : List V} {ds : List D} {Q : VK} {σ : L2.St}
theorem tail_nil {A1 A' M : List Addr} {O1 : List OD} {o : OD} {x : Addr} (h1 : A1.length = O1.length) (h2 : A'.length = (O1 ++ [o]).length) (e : A' = A1 ++ [x] ++ M) : M = [] := by
  rw [e, List.length_append, List.length_append, List.length_append] at h2
  exact List.length_eq_zero_iff.mp (by simp only [List.length_singleton] at h2; omega)
/-- what an __init__ is handed: the new instance as the owned thing 0 -/
theorem new_core {C x : Addr} (s1 : StO K b A1 O1 H1) (hx : H1 x = none) (s3 : StO K b (A1 ++ [x]) (O1 ++ [.ins C []]) H3) (n3 : Ex (Fz b A1 O1 H1) (Fz b (A1 ++ [x]) (O1 ++ [.ins C []]) H3)) (r3 : RepTs K (Fz b (A1 ++ [x]) (O1 ++ [.ins C []]) H3) (A1 ++ [x]) xs vs) (e : unv xs = some ds)
    (p : sp (.own 0 :: xs) [.ins C []] (fun t O' => t = .v .non ∧ ∃ fs, O' = [.ins C fs] ∧ P (.v (.ins C fs)) O1) (fun C' fs O' => (∃ o', O' = [o']) ∧ X C' fs O1)) (kv : KV' K b A1 O1 H1 P Q) (kx : KX K W b A1 O1 σ H1 X) :
    lift K sp (.ref x :: vs) H3 (fun v H => v = .non ∧ Q (.ref x) H) (L2.WE W σ) := by
  have hat : (A1 ++ [x])[O1.length]? = some x := by
    rw [← s1.len, List.getElem?_append_right (Nat.le_refl _), Nat.sub_self] <;> rfl
  have hoat : (O1 ++ [OD.ins C []])[O1.length]? = some (.ins C []) := by
    rw [List.getElem?_append_right (Nat.le_refl _), Nat.sub_self] <;> rfl
  have es : ∀ o' : OD, (O1 ++ [OD.ins C []]).set O1.length o' = O1 ++ [o'] := fun o' => by
    rw [List.set_append_right _ _ (Nat.le_refl _), Nat.sub_self] <;> rfl
  refine lift_1 (W := W) (X := fun C' fs O' => (∃ o', O' = O1 ++ [o']) ∧ X C' fs O1) (σ := σ) (P := fun t O' => t = .v .non ∧ ∃ fs, O' = O1 ++ [.ins C fs] ∧ P (.v (.ins C fs)) O1) s3 (xs := .own O1.length :: xs) (ys := .own 0 :: xs) ⟨.ref x, vs, rfl, ⟨x, hat, rfl⟩, r3⟩ ?_ hoat rfl (fun C d H z => z) ?_
    (fun t v A' O' H' q s' n' rt => ?_) (fun C' fs A' O' H' d q s' n' rx => ?_)
  · show (if O1.length = O1.length then (tr1 O1.length xs).map (T.own 0 :: ·) else none) = _
    rw [if_pos rfl, tr1_v e] <;> rfl
  · have x0 : (fun (C' : Value) (fs : Option (List (Str × D))) (O' : List OD) => ∃ o', O' = [o'] ∧ ((∃ o'', (O1 ++ [OD.ins C []]).set O1.length o' = O1 ++ [o'']) ∧ X C' fs O1)) = fun C' fs O' => (∃ o', O' = [o']) ∧ X C' fs O1 := by
      funext C' fs O'
      exact propext ⟨fun ⟨o', e1, _, q⟩ => ⟨⟨o', e1⟩, q⟩, fun ⟨⟨o', e1⟩, q⟩ => ⟨o', e1, ⟨o', es o'⟩, q⟩⟩
    have pq : (fun (t : T) (O' : List OD) => ∃ o', O' = [o'] ∧ okR t = true ∧ (un1 O1.length t = .v .non ∧ ∃ fs, (O1 ++ [OD.ins C []]).set O1.length o' = O1 ++ [.ins C fs] ∧ P (.v (.ins C fs)) O1)) = fun t O' => t = .v .non ∧ ∃ fs, O' = [.ins C fs] ∧ P (.v (.ins C fs)) O1 := by
      funext t O'
      refine propext ⟨?_, ?_⟩
      · rintro ⟨o', rfl, hn, hu, fs, e1, q⟩
        rw [es] at e1
        have e2 := List.append_cancel_left e1
        injection e2 with e2 _
        subst e2
        refine ⟨?_, fs, rfl, q⟩
        cases t with
        | v d => exact hu
        | own j => cases hu
        | no => cases hn
        | clo R f => cases hn
      · rintro ⟨rfl, fs, rfl, q⟩
        exact ⟨_, rfl, rfl, rfl, fs, es _, q⟩
    rw [x0, pq]
    exact p
  · obtain ⟨rfl, fs, rfl, q⟩ := q
    obtain ⟨_, e1, e2⟩ := rt
    cases e1
    obtain ⟨M, eM⟩ := n'.pre
    obtain rfl := tail_nil s1.len s'.len eM
    rw [List.append_nil] at eM
    subst eM
    obtain ⟨dx', us, c1, c2⟩ := s'.cell O1.length x (.ins C fs) hat (by rw [List.getElem?_append_right (Nat.le_refl _), Nat.sub_self] <;> rfl)
    obtain ⟨s4, x4⟩ := s'.drop s1.len s1.pre
    have nA : x ∉ A1 := fun hm => (List.nodup_append.mp s'.nd).2.2 x hm x (List.mem_singleton.mpr rfl) rfl
    have nz : x ∉ live A1 O1 ++ b.Z := fun z => by
      rcases List.mem_append.mp z with z | z
      · obtain ⟨j, o, z1, _, _⟩ := live_mem z
        exact nA (List.mem_of_getElem? z1)
      · obtain ⟨o, zz, _⟩ := (s1.z_at (a := x) z).2
        rw [hx] at zz
        cases zz
    have fz : Fz b A1 O1 H' x = some (.ins C dx' us) := hid_some.mpr ⟨nz, c1⟩
    exact ⟨e2, kv _ _ A1 O1 H' q s4 ⟨⟨[], (List.append_nil A1).symm⟩, (n3.trans n'.ext).trans x4⟩ ⟨_, rfl, x, dx', us, rfl, fz, c2.ex x4⟩⟩
  · obtain ⟨⟨o', rfl⟩, q⟩ := q
    obtain ⟨M, eM⟩ := n'.pre
    obtain rfl := tail_nil s1.len s'.len eM
    rw [List.append_nil] at eM
    subst eM
    obtain ⟨s4, x4⟩ := s'.drop s1.len s1.pre
    exact kx C' fs A1 O1 H' d q s4 ⟨⟨[], (List.append_nil A1).symm⟩, (n3.trans n'.ext).trans x4⟩ (rx.ex x4)
theorem new_at {C x dx : Addr} (s1 : StO K b A1 O1 H1) (hx : H1 x = none) (hdx : H1 dx = none) (hne : dx ≠ x) : StO K b (A1 ++ [x]) (O1 ++ [.ins C []]) (upd (upd H1 dx (.own x)) x (.ins C dx [])) ∧ Nxt b A1 O1 H1 (A1 ++ [x]) (O1 ++ [.ins C []]) (upd (upd H1 dx (.own x)) x (.ins C dx [])) := by
  obtain ⟨s2, n2⟩ := s1.lay2 hdx (.own x)
  obtain ⟨s3, n3⟩ := s2.own (u := .ins C dx []) (o := .ins C []) ((upd_ne hne.symm).trans hx) ⟨dx, [], upd_same, rfl⟩
  exact ⟨s3, n2.trans n3⟩
end
section
variable {K : PySem.W.Frag} {W : WX} {O : List OD} {ts : List T} {P : PT'} {X : XX} {sp : SpD} {tk tr : TA} {C : Addr} {tw : Bool} {m : Nat}
/-- C(..) -/
theorem w_makeX (h : WA K W tr O ts (fun xs O1 => ∃ ds, unv xs = some ds ∧ sp (.own 0 :: xs) [.ins C []] (fun t O' => t = .v .non ∧ ∃ fs, O' = [.ins C fs] ∧ P (.v (.ins C fs)) O1) (fun C' fs O' => (∃ o', O' = [o']) ∧ X C' fs O1)) X) :
    WE K W (tMakeX C (lift K sp) (L2.WE W) tr) O ts P X := fun b A σ H Q s rs kv kx =>
  h b A σ H _ s rs (fun xs vs A1 O1 H1 p1 s1 n1 r1 x dx hx hdx hne => by
    obtain ⟨ds, e, p⟩ := p1
    obtain ⟨s3, n3⟩ := new_at (C := C) s1 hx hdx hne
    exact new_core s1 hx s3 n3.ext (r1.nxt n3) e p (kv.nxt n1) (kx.nxt n1)) kx
/-- C(..), its __init__ with a star -/
theorem w_makeSX (m : Nat) (h : WA K W tr O ts (fun xs O1 => ∃ ds, unv xs = some ds ∧ m ≤ ds.length ∧ ds.length ≤ 1000000 ∧ sp (.own 0 :: ((ds.take m).map T.v ++ [.v (.tup (ds.drop m))])) [.ins C []] (fun t O' => t = .v .non ∧ ∃ fs, O' = [.ins C fs] ∧ P (.v (.ins C fs)) O1) (fun C' fs O' => (∃ o', O' = [o']) ∧ X C' fs O1)) X) :
    WE K W (tMakeX C (liftS K (m + 1) sp) (L2.WE W) tr) O ts P X := fun b A σ H Q s rs kv kx =>
  h b A σ H _ s rs (fun xs vs A1 O1 H1 p1 s1 n1 r1 x dx hx hdx hne => by
    obtain ⟨ds, e, hn, hz, p⟩ := p1
    have r2 := r1.plain e
    have hl : vs.length = ds.length := r2.length
    obtain ⟨ra, rb⟩ := repL_split r2 m
    refine ⟨V.ref x :: vs.take m, vs.drop m, (by rw [List.cons_append, List.take_append_drop]), (by rw [List.length_cons, List.length_take]; omega), Nat.le_trans (show (vs.drop m).length ≤ 1000000 by rw [List.length_drop]; omega) (Nat.le_of_ble_eq_true rfl), fun p' hp' => ?_⟩
    obtain ⟨s2, n2⟩ := new_at (C := C) s1 hx hdx hne
    obtain ⟨s3, n3, f3⟩ := s2.lay hp' (.tup (vs.drop m))
    have n13 := n2.trans n3
    exact new_core s1 hx s3 n13.ext (vs := vs.take m ++ [V.ref p']) (repTs_app (ys := [.v (.tup (ds.drop m))]) ⟨.ref p', [], rfl, ⟨_, rfl, p', vs.drop m, rfl, SqT.of f3, rb.ex n13.ext⟩, rfl⟩ (ra.ex n13.ext)) unv_app p (kv.nxt n1) (kx.nxt n1)) kx
end
end G

set_option Elab.async false
set_option linter.all false
set_option maxRecDepth 100000
set_option maxHeartbeats 4000000
/-! IF: values of any kind: their builtin types, what they are no instance of, how they are shown. -/
namespace G
open PySem PySem.Spec PyProof.Rows L2
def bty : D → Option String
  | .non => some "NoneType"
  | .bl _ => some "bool"
  | .int _ => some "int"
  | .str _ => some "str"
  | .lst _ => some "list"
  | .tup _ => some "tuple"
  | .dic _ => some "dict"
  | _ => none
def BTY : List String := ["NoneType", "bool", "int", "str", "list", "tuple", "dict"]
theorem bty_ty {K : PySem.W.Frag} {d : D} {ty : String} (h : bty d = some ty) : TyD K d (.type ty) ∧ ty ∈ BTY := by
  cases d with
  | non => cases h; exact ⟨.non, by decide⟩
  | bl b => cases h; exact ⟨.bl b, by decide⟩
  | int b => cases h; exact ⟨.int b, by decide⟩
  | str b => cases h; exact ⟨.str b, by decide⟩
  | lst b => cases h; exact ⟨.lst b, by decide⟩
  | tup b => cases h; exact ⟨.tup b, by decide⟩
  | dic b => cases h; exact ⟨.dic b, by decide⟩
  | _ => cases h
/-- no builtin type is below the class -/
def kitNB (K : PySem.W.Frag) (C : Addr) : Bool := BTY.all fun ty => decide (PySem.W.kitOne K (.type ty) (.ref C) = some false)
def KitN (K : PySem.W.Frag) (C : Addr) : Prop := ∀ ty ∈ BTY, PySem.W.kitOne K (.type ty) (.ref C) = some false
theorem kitNB_ok {K : PySem.W.Frag} {C : Addr} (h : kitNB K C = true) : KitN K C := fun ty hm => of_decide_eq_true (List.all_eq_true.mp h ty hm)
theorem kit_none {K : PySem.W.Frag} {ty : String} (hm : ty ∈ BTY) : ∀ {Cs : List Addr}, (∀ C ∈ Cs, KitN K C) → PySem.W.kitAny K (.type ty) (Cs.map Value.ref) = some false
  | [], _ => rfl
  | C :: Cs, h => kitAny_cons (h C List.mem_cons_self ty hm) (fun _ => kit_none hm fun C' h' => h C' (List.mem_cons_of_mem _ h')) fun z => by cases z
/-- whether a value is an instance of one of some own classes -/
def IsQ (K : PySem.W.Frag) (Cs : List Addr) (d : D) (b : Bool) : Prop := ∃ t, TyD K d t ∧ PySem.W.kitAny K t (Cs.map Value.ref) = some b
theorem isQ_no {K : PySem.W.Frag} {Cs : List Addr} {d : D} {ty : String} (h : ∀ C ∈ Cs, KitN K C) (e : bty d = some ty) : IsQ K Cs d false := ⟨_, (bty_ty e).1, kit_none (bty_ty (K := K) e).2 h⟩
/-- whether a value is an instance of an own class -/
def Is1 (K : PySem.W.Frag) (C : Addr) (d : D) (b : Bool) : Prop := ∃ t, TyD K d t ∧ PySem.W.kitOne K t (.ref C) = some b
theorem is1_no {K : PySem.W.Frag} {C : Addr} {d : D} {ty : String} (h : KitN K C) (e : bty d = some ty) : Is1 K C d false := ⟨_, (bty_ty e).1, h _ (bty_ty (K := K) e).2⟩
theorem bty_some {d : D} (h : (bty d).isSome = true) : ∃ ty, bty d = some ty := Option.isSome_iff_exists.mp h
/-- of a builtin type, no integer -/
def niB (d : D) : Bool := match d with
  | .non | .bl _ | .str _ | .lst _ | .tup _ | .dic _ => true
  | _ => false
theorem ni_ok {K : PySem.W.Frag} {d : D} (h : niB d = true) : IntQ K d false := by
  cases d with
  | non => exact intQ_non
  | bl b => exact intQ_bl
  | str b => exact intQ_str
  | lst b => exact intQ_lst
  | tup b => exact intQ_tup
  | dic b => exact intQ_dic
  | _ => cases h
theorem intQ_ins {K : PySem.W.Frag} {C : Addr} {fs : List (Str × D)} (i : InsTy K C) (h1 : PySem.W.kitOne K (.ref C) (.type "int") = some false) (h2 : PySem.W.kitOne K (.ref C) (.type "bool") = some false) : IntQ K (.ins C fs) false := ⟨_, false, false, .ins C fs i, h1, h2, rfl⟩
/-- no list and no tuple -/
def nrB (d : D) : Bool := match d with
  | .non | .bl _ | .int _ | .str _ | .dic _ => true
  | _ => false
/-! ### how values are shown -/
theorem pl_strO {k : Nat} {x : Str} : pl k (.str x) = PyData.strOk x := by cases k <;> simp only [pl, PyData.canLay0]
def SVE (d : D) : Prop := ∃ p, Shows d p ∧ PyData.strOk p.shown = true
def shB (d : D) : Bool := match pyT d with
  | some p => p.showable && (decide (p.depth ≤ 100) && (decide (p.shown.length ≤ sizeLine) && PyData.strOk p.shown))
  | none => false
theorem sv_of {d : D} (h : shB d = true) : SVE d := by
  unfold shB at h
  split at h
  · rename_i p e
    obtain ⟨h1, h⟩ := He.ba h
    obtain ⟨h2, h⟩ := He.ba h
    obtain ⟨h3, h4⟩ := He.ba h
    exact ⟨p, ⟨e, h1, of_decide_eq_true h2, of_decide_eq_true h3⟩, h4⟩
  · cases h
theorem sv_int {n : Int} (h : Sm n) : SVE (.int n) := ⟨_, shows_int h, by have := pl_int_shown 0 n; rwa [pl_strO] at this⟩
theorem all_at {l : List D} {f : D → Bool} {j : Nat} {d : D} (h : l.all f = true) (e : l[j]? = some d) : f d = true := List.all_eq_true.mp h d (List.mem_of_getElem? e)
theorem pl_lstA {n : Nat} : ∀ {ds : List D}, (∀ d ∈ ds, pl n d = true) → pl (n + 1) (.lst ds) = true
  | [], _ => rfl
  | d :: ds, h => by
    have h2 : pls n ds = true := pl_lstA (ds := ds) fun x hx => h x (List.mem_cons_of_mem _ hx)
    show (pl n d && pls n ds) = true
    rw [h d List.mem_cons_self, h2] <;> rfl
theorem pl_tupA {n : Nat} {ds : List D} (h : ∀ d ∈ ds, pl n d = true) : pl (n + 1) (.tup ds) = true := pl_lstA h
theorem pl_s {k : Nat} {x : Str} (h : PyData.strOk x = true) : pl k (.str x) = true := by rw [pl_strO]; exact h
theorem pl_t2 {k : Nat} {w x : Str} (hw : PyData.strOk w = true) (h : PyData.strOk x = true) : pl (k + 1) (.tup [.str w, .str x]) = true := by
  show (pl k (.str w) && (pl k (.str x) && true)) = true
  rw [pl_s hw, pl_s h] <;> rfl
theorem pl_t3 {k : Nat} {w x y : Str} (hw : PyData.strOk w = true) (h : PyData.strOk x = true) (h' : PyData.strOk y = true) : pl (k + 1) (.tup [.str w, .str x, .str y]) = true := by
  show (pl k (.str w) && (pl k (.str x) && (pl k (.str y) && true))) = true
  rw [pl_s hw, pl_s h, pl_s h'] <;> rfl
end G

set_option Elab.async false
set_option linter.all false
set_option maxRecDepth 100000
set_option maxHeartbeats 4000000
/-! IG: comprehensions over ranges with any step; << of integers of any size; products' sizes. -/
namespace G
open PySem PySem.Spec PyProof.Rows L2
theorem lc_R3 {K : PySem.W.Frag} {W : WX} {g : TG} {te : TE} {vs : List Nat} {P : PT'} {ts : List T} {O : List OD} {lo c : Int} {n : Nat} (r : Nat → D) (hz : n ≤ 1000000)
    (hs : ∀ i acc, i < n → WG K W g (.v (.int (lo + (i : Int) * c))) (O ++ [.lst acc]) (wipeT ts vs) (fun ts2 O2 => WE K W te O2 ts2 (fun y O4 => y = .v (r i) ∧ O4 = O ++ [.lst acc]) X0))
    (hd : P (.v (.lst ((List.range n).map r))) O) : LcEx K W g te vs P ts (itR lo c n) O :=
  lc_P (item := fun i : Nat => .v (.int (lo + (i : Int) * c))) r (fun i hi => by
    unfold itR
    rw [if_pos hi]) (by unfold itR; rw [if_neg (Nat.lt_irrefl n)]) hz hs hd
theorem cshl_ok {i j : Int} (h0 : 0 ≤ j) (h1 : j ≤ 1000) (h2 : i.natAbs < 2 ^ 1000) : CShl i j := by
  refine ⟨h0, ?_⟩
  have hb : PySem.Builtin.Int.intBits i ≤ 1000 := by
    unfold PySem.Builtin.Int.intBits
    split
    · exact Nat.zero_le _
    · rename_i h
      have hn : i.natAbs ≠ 0 := fun z => h (by rw [show i = 0 by omega]; rfl)
      exact Nat.succ_le_of_lt ((Nat.log2_lt hn).mpr h2)
  have e : (2 : Int) ^ 27 = 134217728 := by decide
  rw [e]
  omega
theorem w_shlW {K : PySem.W.Frag} {O : List OD} {P : PT'} {i j : Int} (h : CShl i j) (k : P (.v (.int (i * 2 ^ j.toNat))) O) : WR K (rI CShl fun i j => .int (i * 2 ^ j.toNat)) (.v (.int i)) (.v (.int j)) O P := w_I (d := .int (i * 2 ^ j.toNat)) h (fun _ => rfl) k
theorem abs_mul {i j : Int} {a b : Nat} (h1 : i.natAbs < 2 ^ a) (h2 : j.natAbs < 2 ^ b) : (i * j).natAbs < 2 ^ (a + b) := by
  rw [Int.natAbs_mul, Nat.pow_add]
  exact Nat.mul_lt_mul'' h1 h2
theorem abs_sum {b : Nat} : ∀ (xs : List Int) (k : Nat), xs.length ≤ 2 ^ k → (∀ x ∈ xs, x.natAbs < 2 ^ b) → xs.sum.natAbs ≤ xs.length * 2 ^ b
  | [], _, _, _ => Nat.zero_le _
  | x :: xs, k, hl, h => by
    have h1 := abs_sum xs k (by rw [List.length_cons] at hl; omega) fun y hy => h y (List.mem_cons_of_mem _ hy)
    have h2 := h x List.mem_cons_self
    rw [List.sum_cons, List.length_cons, Nat.add_mul]
    omega
end G

set_option Elab.async false
set_option linter.all false
set_option maxRecDepth 100000
set_option maxHeartbeats 4000000
/-! IH: what is owned, handed to defs and methods that may raise; new instances that stay owned, their __init__ may raise. -/
namespace G
open PySem PySem.Spec PyProof.Rows L2
section
variable {K : PySem.W.Frag} {W : WX} {O : List OD} {ts : List T} {P : PT'} {X : XX} {sp : SpD} {tr : TA} {ta : TE} {C : Addr} {m : Str}
/-- f(.., the owned thing i, ..), f may raise -/
theorem w_fnOX (i : Nat) (h : WA K W tr O ts (fun xs O1 => ∃ ys o, tr1 i xs = some ys ∧ O1[i]? = some o ∧ okG [o] = true ∧
    sp ys [o] (fun t O' => ∃ o', O' = [o'] ∧ okR t = true ∧ P (un1 i t) (O1.set i o')) (fun C fs O' => ∃ o', O' = [o'] ∧ X C fs (O1.set i o'))) X) : WE K W (tCallS (lift K sp) (L2.WE W) tr) O ts P X := fun b A σ H Q s rs kv kx =>
  h b A σ H _ s rs (fun xs vs A1 O1 H1 p1 s1 n1 r1 => by
    obtain ⟨ys, o, e, ho, ng, p⟩ := p1
    exact lift_1 (W := W) (σ := σ) s1 r1 e ho ng (fun _ _ _ z => z) p (kv.nxt n1) (kx.nxt n1)) kx
/-- o.m(..), o the owned thing i; it may raise -/
theorem w_methOX (i : Nat) (h : WE K W ta O ts (fun x O1 => ∃ fs, x = .own i ∧ O1[i]? = some (.ins C fs) ∧ fs.lookup m = none ∧ WA K W tr O1 ts (fun xs O2 => ∃ ys o, tr1 i xs = some ys ∧ O2[i]? = some o ∧ okG [o] = true ∧
    sp (.own 0 :: ys) [o] (fun t O' => ∃ o', O' = [o'] ∧ okR t = true ∧ P (un1 i t) (O2.set i o')) (fun C fs O' => ∃ o', O' = [o'] ∧ X C fs (O2.set i o'))) X) X) : WE K W (tMethX C m (lift K sp) (L2.WE W) ta tr) O ts P X := fun b A σ H Q s rs kv kx =>
  h b A σ H _ s rs (fun x v A1 O1 H1 p1 s1 n1 r1 => by
    obtain ⟨fs, rfl, ho, hm, p⟩ := p1
    obtain ⟨a, dx, vs, rfl, ha, h1, h2⟩ := own_ins s1 r1 ho
    refine ⟨a, dx, vs, rfl, h1, h2.none hm, p b A1 σ H1 _ s1 (rs.nxt n1) (fun xs us A2 O2 H2 p2 s2 n2 r2 => ?_) (kx.nxt n1)⟩
    obtain ⟨ys, o, e, ho2, ng, q⟩ := p2
    refine lift_1 (W := W) (σ := σ) (xs := .own i :: xs) (ys := .own 0 :: ys) s2 ⟨.ref a, us, rfl, r1.nxt n2, r2⟩ ?_ ho2 ng (fun _ _ _ z => z) q (kv.nxt (n1.trans n2)) (kx.nxt (n1.trans n2))
    show (if i = i then (tr1 i xs).map (.own 0 :: ·) else none) = _
    rw [if_pos rfl, e] <;> rfl) kx
/-- C(..), the new instance stays owned; its __init__ may raise -/
theorem w_makeOX (h : WA K W tr O ts (fun xs O1 => ∃ ds, unv xs = some ds ∧ sp (.own 0 :: xs) [.ins C []] (fun t O' => t = .v .non ∧ ∃ fs, O' = [.ins C fs] ∧ P (.own O1.length) (O1 ++ [.ins C fs])) (fun C' fs O' => (∃ o', O' = [o']) ∧ X C' fs O1)) X) :
    WE K W (tMakeX C (lift K sp) (L2.WE W) tr) O ts P X := fun b A σ H Q s rs kv kx =>
  h b A σ H _ s rs (fun xs vs A1 O1 H1 p1 s1 n1 r1 x dx hx hdx hne => by
    obtain ⟨ds, e, p⟩ := p1
    obtain ⟨s3, n3⟩ := new_at (C := C) s1 hx hdx hne
    have hat : (A1 ++ [x])[O1.length]? = some x := by
      rw [← s1.len, List.getElem?_append_right (Nat.le_refl _), Nat.sub_self] <;> rfl
    have hoat : (O1 ++ [OD.ins C []])[O1.length]? = some (.ins C []) := by
      rw [List.getElem?_append_right (Nat.le_refl _), Nat.sub_self] <;> rfl
    have es : ∀ o' : OD, (O1 ++ [OD.ins C []]).set O1.length o' = O1 ++ [o'] := fun o' => by
      rw [List.set_append_right _ _ (Nat.le_refl _), Nat.sub_self] <;> rfl
    refine lift_1 (W := W) (X := fun C' fs O' => (∃ o', O' = O1 ++ [o']) ∧ X C' fs O1) (σ := σ) (P := fun t O' => t = .v .non ∧ ∃ fs, O' = O1 ++ [.ins C fs] ∧ P (.own O1.length) O') s3 (xs := .own O1.length :: xs) (ys := .own 0 :: xs) ⟨.ref x, vs, rfl, ⟨x, hat, rfl⟩, r1.nxt n3⟩ ?_ hoat rfl (fun _ _ _ z => z) ?_
      (fun t v A' O' H' q s' n' rt => ?_) (fun C' fs A' O' H' d q s' n' rx => ?_)
    · show (if O1.length = O1.length then (tr1 O1.length xs).map (T.own 0 :: ·) else none) = _
      rw [if_pos rfl, tr1_v e] <;> rfl
    · have x0 : (fun (C' : Value) (fs : Option (List (Str × D))) (O' : List OD) => ∃ o', O' = [o'] ∧ ((∃ o'', (O1 ++ [OD.ins C []]).set O1.length o' = O1 ++ [o'']) ∧ X C' fs O1)) = fun C' fs O' => (∃ o', O' = [o']) ∧ X C' fs O1 := by
        funext C' fs O'
        exact propext ⟨fun ⟨o', e1, _, q⟩ => ⟨⟨o', e1⟩, q⟩, fun ⟨⟨o', e1⟩, q⟩ => ⟨o', e1, ⟨o', es o'⟩, q⟩⟩
      have pq : (fun (t : T) (O' : List OD) => ∃ o', O' = [o'] ∧ okR t = true ∧ (un1 O1.length t = .v .non ∧ ∃ fs, (O1 ++ [OD.ins C []]).set O1.length o' = O1 ++ [.ins C fs] ∧ P (.own O1.length) ((O1 ++ [OD.ins C []]).set O1.length o'))) = fun t O' => t = .v .non ∧ ∃ fs, O' = [.ins C fs] ∧ P (.own O1.length) (O1 ++ [.ins C fs]) := by
        funext t O'
        refine propext ⟨?_, ?_⟩
        · rintro ⟨o', rfl, hn, hu, fs, e1, q⟩
          rw [es] at e1 q
          have e2 := List.append_cancel_left e1
          injection e2 with e2 _
          subst e2
          refine ⟨?_, fs, rfl, q⟩
          cases t with
          | v d => exact hu
          | own j => cases hu
          | no => cases hn
          | clo R f => cases hn
        · rintro ⟨rfl, fs, rfl, q⟩
          exact ⟨_, rfl, rfl, rfl, fs, es _, by rw [es]; exact q⟩
      rw [x0, pq]
      exact p
    · obtain ⟨rfl, fs, rfl, q⟩ := q
      obtain ⟨_, e1, e2⟩ := rt
      cases e1
      exact ⟨e2, kv _ _ A' _ H' q s' (n1.trans (n3.trans n')) ⟨x, n'.at_ hat, rfl⟩⟩
    · obtain ⟨⟨o', rfl⟩, q⟩ := q
      obtain ⟨M, eM⟩ := n'.pre
      obtain rfl := tail_nil s1.len s'.len eM
      rw [List.append_nil] at eM
      subst eM
      obtain ⟨s4, x4⟩ := s'.drop s1.len s1.pre
      exact kx C' fs A1 O1 H' d q s4 (n1.trans ⟨⟨[], (List.append_nil A1).symm⟩, (n3.ext.trans n'.ext).trans x4⟩) (rx.ex x4)) kx
end
end G

set_option Elab.async false
set_option linter.all false
set_option maxRecDepth 100000
set_option maxHeartbeats 4000000
/-! NF: which words write an integer from 0 on, with at most forty digits. -/
namespace G
open PySem PySem.Spec PyProof.Rows L2 TL
def isD (c : Nat) : Bool := decide (c ∈ ("0123456789" : Str).cps.toList)
theorem isD_iff {c : Nat} : isD c = true ↔ 48 ≤ c ∧ c ≤ 57 := by
  have e : ("0123456789" : Str).cps.toList = [48, 49, 50, 51, 52, 53, 54, 55, 56, 57] := by decide +kernel
  unfold isD
  rw [e, decide_eq_true_iff]
  simp only [List.mem_cons, List.not_mem_nil, or_false]
  omega
def isW (w : Str) : Bool := (decide (1 ≤ w.length) && decide (w.length ≤ 40)) && ((w.cps.toList.all isD) && (decide (w = "0") || !decide (w.cps.toList.head? = some 48)))
theorem num_back : ∀ (k : Nat) (l : List Nat), l.length = k → l ≠ [] → (∀ c ∈ l, 48 ≤ c ∧ c ≤ 57) → (l = [48] ∨ l.head? ≠ some 48) → ∃ n, numL n = l ∧ n < 10 ^ k
  | 0, l, hl, hn, _, _ => absurd (List.length_eq_zero_iff.mp hl) hn
  | k + 1, l, hl, hn, hd, hh => by
    obtain ⟨r, c, rfl⟩ : ∃ r c, l = r ++ [c] := ⟨_, _, (List.dropLast_concat_getLast hn).symm⟩
    have hc := hd c (List.mem_append_right _ List.mem_cons_self)
    rw [List.length_append, List.length_singleton] at hl
    by_cases hr : r = []
    · subst hr
      refine ⟨c - 48, ?_, ?_⟩
      · rw [numL_lt (by omega), show 48 + (c - 48) = c by omega] <;> rfl
      · have : 10 ^ 1 ≤ 10 ^ (k + 1) := Nat.pow_le_pow_right (by decide) (by omega)
        omega
    · have hh2 : r.head? ≠ some 48 := fun z => by
        rcases hh with h | h
        · have := congrArg List.length h
          rw [List.length_append, List.length_singleton, List.length_singleton] at this
          exact hr (List.length_eq_zero_iff.mp (by omega))
        · refine h ?_
          rw [List.head?_append, z] <;> rfl
      obtain ⟨n, e, hn⟩ := num_back k r (by omega) hr (fun x hx => hd x (List.mem_append_left _ hx)) (.inr hh2)
      have n0 : n ≠ 0 := fun z => by
        subst z
        rw [numL_lt (by decide)] at e
        exact hh2 (by rw [← e] <;> rfl)
      refine ⟨10 * n + (c - 48), ?_, ?_⟩
      · rw [numL_step (by omega), show (10 * n + (c - 48)) / 10 = n by omega, show (10 * n + (c - 48)) % 10 = c - 48 by omega, e, show 48 + (c - 48) = c by omega]
      · rw [Nat.pow_succ]
        omega
theorem isW_num {w : Str} (h : isW w = true) : ∃ n, w = numS n ∧ n < 10 ^ 40 := by
  unfold isW at h
  obtain ⟨h12, h34⟩ := He.ba h
  obtain ⟨h1, h2⟩ := He.ba h12
  obtain ⟨h3, h4⟩ := He.ba h34
  have h1 := of_decide_eq_true h1
  have h2 := of_decide_eq_true h2
  have el : w.length = w.cps.toList.length := len_tl w
  have hd : ∀ c ∈ w.cps.toList, 48 ≤ c ∧ c ≤ 57 := fun c hc => isD_iff.mp (List.all_eq_true.mp h3 c hc)
  have hh : w.cps.toList = [48] ∨ w.cps.toList.head? ≠ some 48 := by
    rcases (Bool.or_eq_true _ _).mp h4 with z | z
    · have := of_decide_eq_true z
      exact .inl (by rw [this]; decide +kernel)
    · exact .inr fun q => by
        rw [decide_eq_true q] at z
        cases z
  obtain ⟨n, e, hn⟩ := num_back w.cps.toList.length _ rfl (fun z => by rw [z] at el; rw [el] at h1; exact absurd h1 (by decide)) hd hh
  refine ⟨n, ext_tl ?_, Nat.lt_of_lt_of_le hn (Nat.pow_le_pow_right (by decide) (by omega))⟩
  show w.cps.toList = (numS n).cps.toList
  rw [numS_tl, e]
theorem isW_of {n : Nat} (h : n < 10 ^ 40) : isW (numS n) = true := by
  obtain ⟨l1, l2⟩ := numS_len h
  unfold isW
  rw [decide_eq_true l2, decide_eq_true l1]
  have h3 : ((numS n).cps.toList.all isD) = true := List.all_eq_true.mpr fun c hc => decide_eq_true (numS_signs n c hc)
  rw [h3]
  by_cases h0 : n = 0
  · subst h0
    rw [numS_zero, decide_eq_true rfl] <;> rfl
  · obtain ⟨c, r, e, hc⟩ := numL_head n h0
    have : ¬ ((numS n).cps.toList.head? = some 48) := fun z => by
      rw [numS_tl, e] at z
      exact hc (Option.some.inj z)
    rw [decide_eq_false this]
    simp
/-- the number that a word writes -/
def wdNum (w : Str) : Option Nat := if isW w then some ((PySem.intText? w).getD 0).toNat else none
theorem wdNum_of {n : Nat} (h : n < 10 ^ 40) : wdNum (numS n) = some n := by
  unfold wdNum
  rw [if_pos (isW_of h), numS_int h] <;> rfl
theorem wdNum_some {w : Str} {n : Nat} (h : wdNum w = some n) : w = numS n ∧ n < 10 ^ 40 := by
  unfold wdNum at h
  by_cases hw : isW w = true
  · obtain ⟨k, rfl, hk⟩ := isW_num hw
    rw [if_pos hw, numS_int hk] at h
    have e : k = n := Option.some.inj h
    subst e
    exact ⟨rfl, hk⟩
  · rw [if_neg hw] at h
    cases h
theorem wdNum_none {w : Str} (h : wdNum w = none) : isW w = false := by
  unfold wdNum at h
  cases hw : isW w
  · rfl
  · rw [hw] at h
    cases h
end G

set_option Elab.async false
set_option linter.all false
set_option maxRecDepth 100000
set_option maxHeartbeats 4000000
/-! NG: texts cut at their spaces and put together again; how long the words are. -/
namespace G
open PySem PySem.Spec PyProof.Rows L2 TL
theorem pre32 {c : Nat} {r : List Nat} : pre [32] (c :: r) = decide (c = 32) := by
  show (((c :: r).take 1) == [32]) = _
  rw [List.take_succ_cons, List.take_zero]
  by_cases h : c = 32
  · subst h
    rfl
  · rw [decide_eq_false h]
    exact beq_eq_false_iff_ne.mpr fun z => h (by injection z)
theorem spl32_ne : ∀ (l acc : List Nat), spl [32] 0 acc l ≠ []
  | [], acc => by rw [spl_nil]; exact fun z => by cases z
  | c :: r, acc => by
    by_cases h : c = 32
    · rw [spl_hit (by rw [pre32, decide_eq_true h])]
      exact fun z => by cases z
    · rw [spl_miss (by rw [pre32, decide_eq_false h])]
      exact spl32_ne r _
theorem joinL_cons {S p : List Nat} {ps : List (List Nat)} (h : ps ≠ []) : joinL S (p :: ps) = p ++ (S ++ joinL S ps) := by
  cases ps with
  | nil => exact absurd rfl h
  | cons q qs => rfl
theorem join_spl32 : ∀ (l acc : List Nat), joinL [32] (spl [32] 0 acc l) = acc ++ l
  | [], acc => by
    rw [spl_nil, List.append_nil]
    rfl
  | c :: r, acc => by
    by_cases h : c = 32
    · rw [spl_hit (by rw [pre32, decide_eq_true h]), joinL_cons (by exact spl32_ne r []), show ([32] : List Nat).length - 1 = 0 from rfl, join_spl32 r [], h]
      rfl
    · rw [spl_miss (by rw [pre32, decide_eq_false h]), join_spl32 r, List.append_assoc]
      rfl
theorem tl_sp : tl (" " : Str) = [32] := by decide +kernel
theorem split_tl (t : Str) : (Txt.split t " ").map tl = spl [32] 0 [] (tl t) := by
  have := split_spl t " " (by rw [tl_sp]; exact fun z => by cases z) (kind_ok (by decide +kernel))
  rwa [tl_sp] at this
/-- the words put together again -/
theorem join_split (t : Str) : Txt.join " " (Txt.split t " ") = t := by
  refine ext_tl ?_
  rw [join_eq, tl_join, tl_sp, split_tl, join_spl32]
  rfl
theorem split_ne (t : Str) : Txt.split t " " ≠ [] := fun z => by
  have := split_tl t
  rw [z] at this
  exact spl32_ne _ _ this.symm
theorem joinL_len : ∀ ps : List (List Nat), ps ≠ [] → (joinL [32] ps).length + 1 = (ps.map List.length).sum + ps.length
  | [], h => absurd rfl h
  | [p], _ => by
    show p.length + 1 = (p.length + 0) + 1
    omega
  | p :: q :: r, _ => by
    have ih := joinL_len (q :: r) (fun z => by cases z)
    have e : (p :: q :: r).length = (q :: r).length + 1 := rfl
    rw [joinL_cons (fun z => by cases z), List.length_append, List.length_append, List.map_cons, List.sum_cons, e, show ([32] : List Nat).length = 1 from rfl]
    omega
/-- how much some words take -/
def wsz (ws : List Str) : Nat := (ws.map (·.length)).sum + ws.length
theorem wsz_tl (ws : List Str) : wsz ws = ((ws.map tl).map List.length).sum + (ws.map tl).length := by
  unfold wsz
  rw [List.length_map, List.map_map]
  refine congrArg (· + ws.length) (congrArg List.sum (List.map_congr_left fun w _ => ?_))
  exact len_tl w
theorem wsz_split (t : Str) : wsz (Txt.split t " ") = t.length + 1 := by
  rw [wsz_tl, split_tl, ← joinL_len _ (spl32_ne _ _), join_spl32, len_tl]
  rfl
theorem wsz_app (a b : List Str) : wsz (a ++ b) = wsz a + wsz b := by
  unfold wsz
  rw [List.map_append, List.sum_append, List.length_append]
  omega
theorem wsz_mem {ws : List Str} {w : Str} (h : w ∈ ws) : w.length + 1 ≤ wsz ws := by
  induction ws with
  | nil => cases h
  | cons x xs ih =>
    unfold wsz at ih ⊢
    rw [List.map_cons, List.sum_cons, List.length_cons]
    rcases List.mem_cons.mp h with rfl | h
    · omega
    · have := ih h
      omega
theorem wsz_take (ws : List Str) (n : Nat) : wsz (ws.take n) ≤ wsz ws := by
  have := wsz_app (ws.take n) (ws.drop n)
  rw [List.take_append_drop] at this
  omega
theorem wsz_drop (ws : List Str) (n : Nat) : wsz (ws.drop n) ≤ wsz ws := by
  have := wsz_app (ws.take n) (ws.drop n)
  rw [List.take_append_drop] at this
  omega
theorem join_wsz (ws : List Str) : (Txt.join " " ws).length ≤ wsz ws := by
  have h := StrLaws.join_length_le " " ws
  rw [join_eq]
  have e : (" " : Str).length = 1 := by decide
  rw [e, Nat.mul_one] at h
  exact h
theorem len_wsz (ws : List Str) : ws.length ≤ wsz ws := Nat.le_add_left _ _
end G

set_option Elab.async false
set_option linter.all false
set_option maxRecDepth 100000
set_option maxHeartbeats 4000000
/-! IJ: a sign not in a text; `or` on lists; texts whose signs can be laid; words that are filtered. -/
namespace G
open PySem PySem.Spec PyProof.Rows L2 TL
def rNSign : R2 := fun x y H Q => ∃ (c : Nat) (z : Str), x = .str ⟨#[c]⟩ ∧ y = .str z ∧ Q (.bl (!decide (c ∈ z.cps.toList))) H
theorem op_notInSign {X : Cx} : OpR X (compareOp .NotIn) rNSign := op_notIn_sign
theorem pe_orTK (K : PySem.W.Frag) {X : Cx} {a b : Expr} {ta tb : TE} {rest : List Expr} {pos : Pos} (ha : PE X a ta) (hb : PE X (.BoolOp .Or (b :: rest) pos) tb) (hK : X.K = K := by rfl) : PE X (.BoolOp .Or (a :: b :: rest) pos) (tOrT K ta tb) := hK ▸ pe_orT ha hb
section
variable {K : PySem.W.Frag} {W : WX} {O : List OD} {ts : List T} {P : PT'} {X : XX} {ta tb : TE}
theorem w_notInSign {c : Nat} {z : Str} (k : P (.v (.bl (!decide (c ∈ z.cps.toList)))) O) : WR K rNSign (.v (.str ⟨#[c]⟩)) (.v (.str z)) O P := fun b A H Q v u s r1 r2 kv => by
  obtain ⟨_, e1, e2⟩ := r1
  obtain ⟨_, e3, e4⟩ := r2
  cases e1
  cases e3
  exact ⟨c, z, e2, e4, kv _ _ A O H k s Nxt.refl ⟨_, rfl, rfl⟩⟩
/-- x or y, x a list -/
theorem w_orL (h : WE K W ta O ts (fun x O1 => ∃ ds, LstD x O1 ds ∧ (ds ≠ [] → P x O1) ∧ (ds = [] → WE K W tb O1 ts P X)) X) : WE K W (tOrT K ta tb) O ts P X := fun b A σ H Q s rs kv kx =>
  h b A σ H _ s rs (fun x v A1 O1 H1 p1 s1 n1 r1 => by
    obtain ⟨ds, hx, pn, pe⟩ := p1
    obtain ⟨a, vs, rfl, h1, h2⟩ := lstD_at hx s1 r1
    have hl := h2.length
    cases ds with
    | nil =>
      have e : vs = [] := List.length_eq_zero_iff.mp hl
      subst e
      exact ⟨false, .inl ⟨_, h1, rfl⟩, iteF (pe rfl b A1 σ H1 Q s1 (rs.nxt n1) (kv.nxt n1) (kx.nxt n1))⟩
    | cons d ds =>
      cases vs with
      | nil => cases hl
      | cons w vs => exact ⟨true, .inl ⟨_, h1, rfl⟩, iteT (kv _ _ A1 O1 H1 (pn fun z => by cases z) s1 n1 r1)⟩) kx
theorem w_orL2 (h : WE K W ta O ts (fun x O1 => ∃ ds T, LstD x O1 ds ∧ (ds ≠ [] → T = x) ∧ (ds = [] → WE K W tb O1 ts (fun y O2 => y = T ∧ O2 = O1) X) ∧ P T O1) X) : WE K W (tOrT K ta tb) O ts P X := w_orL (h.imp fun x O1 ⟨ds, T, a, b, c, d⟩ => ⟨ds, a, fun n => b n ▸ d, fun e => (c e).imp fun y O2 ⟨e1, e2⟩ => by rw [e1, e2]; exact d⟩)
end
/-! ### a text so many times -/
def rMulS : R2 := fun x y H Q => ∃ (a : Str) (n : Int), x = .str a ∧ y = .int n ∧ PySem.MulOk a n ∧ Q (.str (Txt.mul a n)) H
theorem op_mulS {X : Cx} : OpR X (binaryOp .Mult) rMulS := by
  intro pins s σ H x y v u Q I rx ry h
  obtain ⟨a, n, rfl, rfl, hok, q⟩ := h
  obtain ⟨t, rfl⟩ := rx
  obtain ⟨t', rfl⟩ := ry
  exact PySem.SB.mul hok (fun t' tk => ⟨.str _, H, I.tok _, ⟨_, rfl⟩, q⟩)
theorem w_mulS {K : PySem.W.Frag} {O : List OD} {P : PT'} {a : Str} {n : Int} (hok : PySem.MulOk a n) (k : P (.v (.str (Txt.mul a n))) O) : WR K rMulS (.v (.str a)) (.v (.int n)) O P := fun b A H Q v u s r1 r2 kv => by
  obtain ⟨_, e1, e2⟩ := r1
  obtain ⟨_, e3, e4⟩ := r2
  cases e1
  cases e3
  exact ⟨a, n, e2, e4, hok, kv _ _ A O H k s Nxt.refl ⟨_, rfl, rfl⟩⟩
/-! ### signs that can be laid -/
theorem so_iff {x : Str} : PyData.strOk x = true ↔ ∀ c ∈ x.cps.toList, c < 0x110000 := by
  unfold PyData.strOk
  rw [← Array.all_toList, List.all_eq_true]
  exact ⟨fun h c hc => of_decide_eq_true (h c hc), fun h c hc => decide_eq_true (h c hc)⟩
theorem so_app {a b : Str} (ha : PyData.strOk a = true) (hb : PyData.strOk b = true) : PyData.strOk (a ++ b) = true := by
  unfold PyData.strOk at ha hb ⊢
  show (a.cps ++ b.cps).all _ = true
  rw [Array.all_append, ha, hb] <;> rfl
theorem so_int (n : Int) : PyData.strOk (Str.ofString (toString n)) = true := by
  have := pl_int_shown 0 n
  rwa [pl_strO] at this
theorem spl32_mem : ∀ (l acc : List Nat), ∀ p ∈ spl [32] 0 acc l, ∀ c ∈ p, c ∈ acc ∨ c ∈ l
  | [], acc, p, hp, c, hc => by
    rw [spl_nil] at hp
    rw [List.mem_singleton.mp hp] at hc
    exact .inl hc
  | d :: r, acc, p, hp, c, hc => by
    by_cases h : d = 32
    · rw [spl_hit (by rw [pre32, decide_eq_true h])] at hp
      rcases List.mem_cons.mp hp with rfl | hp
      · exact .inl hc
      · rcases spl32_mem r [] p hp c hc with z | z
        · cases z
        · exact .inr (List.mem_cons_of_mem _ z)
    · rw [spl_miss (by rw [pre32, decide_eq_false h])] at hp
      rcases spl32_mem r _ p hp c hc with z | z
      · rcases List.mem_append.mp z with z | z
        · exact .inl z
        · rw [List.mem_singleton.mp z]
          exact .inr List.mem_cons_self
      · exact .inr (List.mem_cons_of_mem _ z)
theorem so_split {t : Str} (h : PyData.strOk t = true) : ∀ w ∈ Txt.split t " ", PyData.strOk w = true := fun w hw => so_iff.mpr fun c hc => by
  have h1 : tl w ∈ spl [32] 0 [] (tl t) := by
    rw [← split_tl]
    exact List.mem_map_of_mem hw
  rcases spl32_mem _ _ _ h1 c hc with z | z
  · cases z
  · exact so_iff.mp h c z
theorem joinL_mem : ∀ (ps : List (List Nat)) (c : Nat), c ∈ joinL [32] ps → c = 32 ∨ ∃ p ∈ ps, c ∈ p
  | [], c, h => by cases h
  | [p], c, h => .inr ⟨p, List.mem_cons_self, h⟩
  | p :: q :: r, c, h => by
    rw [joinL_cons (fun z => by cases z)] at h
    rcases List.mem_append.mp h with h | h
    · exact .inr ⟨p, List.mem_cons_self, h⟩
    · rcases List.mem_append.mp h with h | h
      · exact .inl (List.mem_singleton.mp h)
      · rcases joinL_mem (q :: r) c h with z | ⟨p', h1, h2⟩
        · exact .inl z
        · exact .inr ⟨p', List.mem_cons_of_mem _ h1, h2⟩
theorem so_join {ws : List Str} (h : ∀ w ∈ ws, PyData.strOk w = true) : PyData.strOk (Txt.join " " ws) = true := so_iff.mpr fun c hc => by
  have h1 : c ∈ joinL [32] (ws.map tl) := by
    have e : tl (Txt.join " " ws) = joinL [32] (ws.map tl) := by rw [join_eq, tl_join, tl_sp]
    rw [← e]
    exact hc
  rcases joinL_mem _ c h1 with rfl | ⟨p, hp, h2⟩
  · decide
  · obtain ⟨w, hw, rfl⟩ := List.mem_map.mp hp
    exact so_iff.mp (h w hw) c h2
/-- a list of texts can be laid -/
theorem pl_strs {n : Nat} {l : List Str} (h : ∀ w ∈ l, PyData.strOk w = true) : pl (n + 1) (.lst (l.map D.str)) = true := pl_lstA fun d hd => by
  obtain ⟨w, hw, rfl⟩ := List.mem_map.mp hd
  exact pl_s (h w hw)
theorem eqD_nil (ds : List D) : eqD (.lst ds) (.lst []) = decide (ds = []) := by
  cases ds with
  | nil => rfl
  | cons d ds =>
    rw [decide_eq_false (fun z => by cases z)]
    unfold eqD
    simp only [toP, toPs]
    rfl
theorem one_sign {c : Nat} {w : Str} (h : PyData.strOk w = true) (hc : c ∈ w.cps.toList) : PyData.strOk ⟨#[c]⟩ = true := so_iff.mpr fun x hx => by
  have e : x = c := by simpa using hx
  rw [e]
  exact so_iff.mp h c hc
end G

set_option Elab.async false
set_option linter.all false
set_option maxRecDepth 100000
set_option maxHeartbeats 0
namespace My
open PySem PySem.Spec PyProof.Rows L2 G
def top (i : Nat) : Stmt := PySem.Challenge.pw_restchains_k15_sums_written_and_read.main.body.getD i (.Pass ⟨0, 0, 0, 0⟩)
def d_is_integer : He.DefD := ⟨("is_integer", none), "is_integer", "is_integer", defArgs (top 4), defBody (top 4), defScope (top 4), [], []⟩
def d_is_between : He.DefD := ⟨("is_between", none), "is_between", "is_between", defArgs (top 5), defBody (top 5), defScope (top 5), [], []⟩
def d_fits_modulus : He.DefD := ⟨("fits_modulus", none), "fits_modulus", "fits_modulus", defArgs (top 6), defBody (top 6), defScope (top 6), [], []⟩
def d_law_pen : He.DefD := ⟨("_law_pen", none), "_law_pen", "_law_pen", defArgs (top 35), defBody (top 35), defScope (top 35), [], []⟩
def d_law_draw : He.DefD := ⟨("_law_draw", none), "_law_draw", "_law_draw", defArgs (top 36), defBody (top 36), defScope (top 36), [], []⟩
def d_law_pick : He.DefD := ⟨("_law_pick", none), "_law_pick", "_law_pick", defArgs (top 37), defBody (top 37), defScope (top 37), [], []⟩
def d_is_written : He.DefD := ⟨("is_written", none), "is_written", "is_written", defArgs (top 8), defBody (top 8), defScope (top 8), [], []⟩
def d_WordsU_initU : He.DefD := ⟨("Words", some "__init__"), "__init__", "Words.__init__", defArgs (inClass (top 23) 0), defBody (inClass (top 23) 0), defScope (inClass (top 23) 0), [], []⟩
def d_Words_next_word : He.DefD := ⟨("Words", some "next_word"), "next_word", "Words.next_word", defArgs (inClass (top 23) 1), defBody (inClass (top 23) 1), defScope (inClass (top 23) 1), [], []⟩
def d_Words_refuse : He.DefD := ⟨("Words", some "refuse"), "refuse", "Words.refuse", defArgs (inClass (top 23) 2), defBody (inClass (top 23) 2), defScope (inClass (top 23) 2), [], []⟩
def d_Words_take_word : He.DefD := ⟨("Words", some "take_word"), "take_word", "Words.take_word", defArgs (inClass (top 23) 3), defBody (inClass (top 23) 3), defScope (inClass (top 23) 3), [], []⟩
def d_Words_take_number : He.DefD := ⟨("Words", some "take_number"), "take_number", "Words.take_number", defArgs (inClass (top 23) 4), defBody (inClass (top 23) 4), defScope (inClass (top 23) 4), [], []⟩
def d_Words_take_end : He.DefD := ⟨("Words", some "take_end"), "take_end", "Words.take_end", defArgs (inClass (top 23) 7), defBody (inClass (top 23) 7), defScope (inClass (top 23) 7), [], []⟩
def d_trimmed : He.DefD := ⟨("trimmed", none), "trimmed", "trimmed", defArgs (top 26), defBody (top 26), defScope (top 26), [], []⟩
def d_SumU_initU : He.DefD := ⟨("Sum", some "__init__"), "__init__", "Sum.__init__", defArgs (inClass (top 33) 1), defBody (inClass (top 33) 1), defScope (inClass (top 33) 1), [], []⟩
def d_SumU_eqU : He.DefD := ⟨("Sum", some "__eq__"), "__eq__", "Sum.__eq__", defArgs (inClass (top 33) 27), defBody (inClass (top 33) 27), defScope (inClass (top 33) 27), [], []⟩
def d_SumU_strU : He.DefD := ⟨("Sum", some "__str__"), "__str__", "Sum.__str__", defArgs (inClass (top 33) 28), defBody (inClass (top 33) 28), defScope (inClass (top 33) 28), [], []⟩
def d_coefs_read : He.DefD := ⟨("coefs_read", none), "coefs_read", "coefs_read", defArgs (top 31), defBody (top 31), defScope (top 31), [], []⟩
def d_law_modulus : He.DefD := ⟨("_law_modulus", none), "_law_modulus", "_law_modulus", defArgs (top 38), defBody (top 38), defScope (top 38), [], []⟩
def d_law_numbers : He.DefD := ⟨("_law_numbers", none), "_law_numbers", "_law_numbers", defArgs (top 39), defBody (top 39), defScope (top 39), [], []⟩
def d_law_made : He.DefD := ⟨("_law_made", none), "_law_made", "_law_made", defArgs (top 40), defBody (top 40), defScope (top 40), [], []⟩
def d_law_trimmed : He.DefD := ⟨("_law_trimmed", none), "_law_trimmed", "_law_trimmed", defArgs (top 41), defBody (top 41), defScope (top 41), [], []⟩
def d_law_is_written : He.DefD := ⟨("_law_is_written", none), "_law_is_written", "_law_is_written", defArgs (top 42), defBody (top 42), defScope (top 42), [], []⟩
def d_law_wrong : He.DefD := ⟨("_law_wrong", none), "_law_wrong", "_law_wrong", defArgs (top 43), defBody (top 43), defScope (top 43), [], []⟩
def d_law_right : He.DefD := ⟨("_law_right", none), "_law_right", "_law_right", defArgs (top 44), defBody (top 44), defScope (top 44), [], []⟩
def d_law_bent : He.DefD := ⟨("_law_bent", none), "_law_bent", "_law_bent", defArgs (top 45), defBody (top 45), defScope (top 45), [], []⟩
def d_law : He.DefD := ⟨("law", none), "law", "law", defArgs (top 46), defBody (top 46), defScope (top 46), [], []⟩
def fn : List He.DefD := [d_is_integer, d_is_between, d_fits_modulus, d_law_pen, d_law_draw, d_law_pick, d_is_written, d_WordsU_initU, d_Words_next_word, d_Words_refuse, d_Words_take_word, d_Words_take_number, d_Words_take_end, d_trimmed, d_SumU_initU, d_SumU_eqU, d_SumU_strU, d_coefs_read, d_law_modulus, d_law_numbers, d_law_made, d_law_trimmed, d_law_is_written, d_law_wrong, d_law_right, d_law_bent, d_law]
def fa : List He.Fa := [.free "int", .free "isinstance", .free "bool", .glo "is_integer", .glo "is_between", .int "MOST_MODULUS" 1000000000000000000000000000000, .free "list", .free "len", .free "abs", .glo "_law_draw", .free "all", .int "MOST_DIGITS" 40, .glo "BadText", .free "str", .cls "Words", .glo "Words", .noat "Words" "words", .noat "Words" "line", .noat "Words" "read_so_far", .meth "Words" "next_word", .meth "Words" "refuse", .glo "is_written", .free "tuple", .glo "fits_modulus", .glo "trimmed", .int "MOST_COEFS" 13, .cls "Sum", .glo "Sum", .noat "Sum" "modulus", .noat "Sum" "coefs", .meth "Words" "take_number", .meth "Words" "take_end", .glo "coefs_read", .mkr "Words", .meth "Words" "take_word", .mkr "Sum", .glo "_law_pick", .free "range", .glo "_law_is_written", .free "max", .glo "RestError", .exm "BadText" "RestError" true, .glo "_law_wrong", .free "repr", .meth "Sum" "__str__", .glo "_law_modulus", .glo "_law_right", .glo "_law_trimmed", .glo "_law_made", .glo "_law_bent", .glo "_law_numbers", .glo "_law_pen", .meth "Sum" "__eq__", .glo "law"]
def insB (K : PySem.W.Frag) (C : Addr) : Bool := He.eqO (PySem.W.findIn K (.ref C) "__class__") (some (some (.builtin "object.__class__"))) && (He.eqO (PySem.W.specialIn K (.builtin "object.__class__") "__get__") (some (some (.builtin "getset_descriptor.__get__"))) && (decide (PySem.W.takesIn K (.builtin "object.__class__") = some true) && decide (PySem.W.mroIn K C (.type "object") = some true)))
theorem insB_ok {K : PySem.W.Frag} {C : Addr} (c : Cls K C) (h : insB K C = true) : G.InsTy K C := by
  obtain ⟨h1, h⟩ := He.ba h
  obtain ⟨h2, h⟩ := He.ba h
  obtain ⟨h3, h4⟩ := He.ba h
  exact ⟨c, He.eqO_ok h1, He.eqO_ok h2, of_decide_eq_true h3, of_decide_eq_true h4⟩
def e_BadText : ExD := ⟨"BadText", "BadText.__init__", defArgs (inClass (top 17) 0), defBody (inClass (top 17) 0), defScope (inClass (top 17) 0), "/claim/cut.py", ["line", "word"]⟩
def pr_Sum_read : PrD := ⟨"Sum", "read", "staticmethod", "Sum.read", defArgs (inClass (top 33) 3), defBody (inClass (top 33) 3), defScope (inClass (top 33) 3)⟩
def prs : List PrD := [pr_Sum_read]
def es : List ExD := [e_BadText]
def exs (K : PySem.W.Frag) : List Bool := [insB K (He.ga K "Sum"), decide (PySem.W.kitOne K (.ref (He.ga K "Sum")) (.ref (He.ga K "Sum")) = some true), decide (PySem.W.kitOne K (.ref (He.ga K "BadText")) (.ref (He.ga K "BadText")) = some true), PrD.oks K pr_Sum_read, smB K pr_Sum_read, decide (PySem.W.kitOne K (.ref (He.ga K "Sum")) (.type "str") = some false), neB K (He.ga K "Sum"), ((e_BadText.oks K).all id)]
def ex (K : PySem.W.Frag) : Bool := (exs K).all id
abbrev loose : List Str := [("_wall" : Str), ("MOST_MODULUS" : Str), ("MOST_DIGITS" : Str), ("is_integer" : Str), ("is_between" : Str), ("fits_modulus" : Str), ("is_row" : Str), ("is_written" : Str), ("RestError" : Str), ("BadInput" : Str), ("Refused" : Str), ("BadModulus" : Str), ("BadNumber" : Str), ("BadBeat" : Str), ("BadSum" : Str), ("BadText" : Str), ("Unlike" : Str), ("TooMany" : Str), ("binomial" : Str), ("Words" : Str), ("MOST_COEFS" : Str), ("trimmed" : Str), ("differences" : Str), ("value_of" : Str), ("moved" : Str), ("added_coefs" : Str), ("coefs_read" : Str), ("is_single" : Str), ("Sum" : Str), ("_law_pen" : Str), ("_law_draw" : Str), ("_law_pick" : Str), ("_law_modulus" : Str), ("_law_numbers" : Str), ("_law_made" : Str), ("_law_trimmed" : Str), ("_law_is_written" : Str), ("_law_wrong" : Str), ("_law_right" : Str), ("_law_bent" : Str)]
abbrev AlX : Type := He.AlD × Bool × List FnE
def obsK (g : Addr → Option Obj) (K : PySem.W.Frag) : AlX := (He.obsD fa fn K, ex K && tabsB g K, es.map (fun d => fnE K (d.f K)) ++ prs.map fun d => fnE K (d.g K))
def obsX (g : Addr → Option Obj) : AlX := obsK g (He.frT g (List.range' 0 12 ++ List.range' 21 25 ++ List.range' 47 21 ++ List.range' 70 11 ++ List.range' 82 11 ++ List.range' 103 11 ++ List.range' 124 11 ++ List.range' 145 11 ++ List.range' 166 32 ++ List.range' 208 11 ++ List.range' 229 11 ++ List.range' 252 39 ++ List.range' 301 23 ++ List.range' 342 11 ++ List.range' 363 11 ++ List.range' 378 11 ++ List.range' 543 101))
def hk : PySem.W.Hook where
  α := AlX
  obs := fun s => obsX s.heap.get?
  val := fun _ => (He.valD fn, true, es.map ExD.val ++ prs.map PrD.val)
  says := fun _ h => ∃ K : PySem.W.Frag, K.In h ∧ He.SaysD fa fn K ∧ ex K = true ∧ es.map (fun d => fnE K (d.f K)) ++ prs.map (fun d => fnE K (d.g K)) = es.map ExD.val ++ prs.map PrD.val ∧ TabH K h
  of := fun _ _ e => ⟨_, He.frT_in, congrArg (fun z : AlX => z.1) e, (He.ba (congrArg (fun z : AlX => z.2.1) e)).1, congrArg (fun z : AlX => z.2.2) e, tabsB_ok He.frT_in (He.ba (congrArg (fun z : AlX => z.2.1) e)).2⟩
  keeps := fun _ _ _ ⟨K, hK, c, e, ee, t⟩ k => ⟨K, PySem.W.Frag.In.keeps hK k, c, e, ee, t.keeps k⟩
abbrev R : PySem.W.OpenRow := PySem.W.OpenLaw.row PySem.Challenge.rw_restchains_k15_sums_written_and_read
def ob (s : PySem.W.SharedT) : AlX := obsX (HandSHeadRun.getT s)
theorem ob_eq (s : PySem.W.SharedT) : ob s = hk.obs s.abs := by
  have e : HandSHeadRun.getT s = s.abs.heap.get? := funext fun a => HandSHeadRun.getT_eq s a
  unfold ob
  rw [e] <;> rfl
theorem map3 {α β γ δ : Type} {x : Option α} {f : α → β} {g : α → γ} {h : α → δ} {a : β} {b : γ} {c : δ} (p : x.map (fun s => (f s, g s)) = some (a, b)) (q : x.map h = some c) : x.map (fun s => (f s, g s, h s)) = some (a, b, c) := by
  cases x with
  | none => cases p
  | some s =>
    have p2 := Option.some.inj p
    have q2 := Option.some.inj q
    injection p2 with p3 p4
    show some (f s, g s, h s) = _
    rw [p3, p4, q2]
abbrev viewQ : PySem.Program := PySem.W.view R.prog [46]
theorem run_a (w : World) (os : PySem.OsState) : (HandSHeadRun.endF (HandSHeadRun.stepQ (HandSHeadRun.denQ HandSHeadRun.tabQ) R.prog w) 9000 R.prog w os).map (fun s => (HandSHeadRun.looksF R.prog (PySem.W.boot_heap w.params) s.abs, HandSHeadRun.seenQ viewQ loose (PySem.importedModules R.prog.main.body) (fun s => PySem.W.xlAt viewQ [] s && PySem.W.recOk R.toRowW.records s) s.abs)) = some (true, PySem.W.openGood viewQ loose) := by
  kernel_rfl
def kOf (s : PySem.W.SharedT) : PySem.W.Frag := He.frT (HandSHeadRun.getT s) (List.range' 0 12 ++ List.range' 21 25 ++ List.range' 47 21 ++ List.range' 70 11 ++ List.range' 82 11 ++ List.range' 103 11 ++ List.range' 124 11 ++ List.range' 145 11 ++ List.range' 166 32 ++ List.range' 208 11 ++ List.range' 229 11 ++ List.range' 252 39 ++ List.range' 301 23 ++ List.range' 342 11 ++ List.range' 363 11 ++ List.range' 378 11 ++ List.range' 543 101)
theorem map2 {α β δ : Type} {x : Option α} {f : α → β} {h : α → δ} {a : β} {c : δ} (p : x.map f = some a) (q : x.map h = some c) : x.map (fun s => (f s, h s)) = some (a, c) := by
  cases x with
  | none => cases p
  | some s =>
    show some (f s, h s) = _
    rw [Option.some.inj p, Option.some.inj q]
theorem run_b (w : World) (os : PySem.OsState) : (HandSHeadRun.endF (HandSHeadRun.stepQ (HandSHeadRun.denQ HandSHeadRun.tabQ) R.prog w) 9000 R.prog w os).map (fun s => He.obsD fa fn (kOf s)) = some (He.valD fn) := by
  kernel_rfl
theorem run_c (w : World) (os : PySem.OsState) : (HandSHeadRun.endF (HandSHeadRun.stepQ (HandSHeadRun.denQ HandSHeadRun.tabQ) R.prog w) 9000 R.prog w os).map (fun s => (ex (kOf s) && tabsB (HandSHeadRun.getT s) (kOf s), es.map (fun d => fnE (kOf s) (d.f (kOf s))) ++ prs.map fun d => fnE (kOf s) (d.g (kOf s)))) = some (true, es.map ExD.val ++ prs.map PrD.val) := by
  kernel_rfl
theorem ob_is : ob = fun s => (He.obsD fa fn (kOf s), (ex (kOf s) && tabsB (HandSHeadRun.getT s) (kOf s), es.map (fun d => fnE (kOf s) (d.f (kOf s))) ++ prs.map fun d => fnE (kOf s) (d.g (kOf s)))) := rfl
theorem run_bc (w : World) (os : PySem.OsState) : (HandSHeadRun.endF (HandSHeadRun.stepQ (HandSHeadRun.denQ HandSHeadRun.tabQ) R.prog w) 9000 R.prog w os).map ob = some (hk.val w) := by
  rw [ob_is]
  exact map2 (run_b w os) (run_c w os)
theorem run (w : World) : HandSHeadRun.RunEq R (PySem.W.view R.prog [46]) hk ob 9000 loose w := fun os => map3 (run_a w os) (run_bc w os)
structure Tx (K : PySem.W.Frag) (mg : Str → Option Value) : Prop where
  n_int : mg "int" = none
  n_isinstance : mg "isinstance" = none
  n_bool : mg "bool" = none
  g_is_integer : mg "is_integer" = some (.ref (He.ga K "is_integer"))
  g_is_between : mg "is_between" = some (.ref (He.ga K "is_between"))
  i_MOST_MODULUS_ : ∃ t, mg "MOST_MODULUS" = some (.int 1000000000000000000000000000000 t)
  n_list : mg "list" = none
  n_len : mg "len" = none
  n_abs : mg "abs" = none
  g__law_draw : mg "_law_draw" = some (.ref (He.ga K "_law_draw"))
  n_all : mg "all" = none
  i_MOST_DIGITS_ : ∃ t, mg "MOST_DIGITS" = some (.int 40 t)
  g_BadText : mg "BadText" = some (.ref (He.ga K "BadText"))
  n_str : mg "str" = none
  cl_Words : Cls K (He.ga K "Words")
  g_Words : mg "Words" = some (.ref (He.ga K "Words"))
  na_Words_words : NoAttr K (He.ga K "Words") "words"
  na_Words_line : NoAttr K (He.ga K "Words") "line"
  na_Words_read_so_far : NoAttr K (He.ga K "Words") "read_so_far"
  me_Words_next_word : Meth K (He.ga K "Words") "next_word" (He.ma K (He.ga K "Words") "next_word")
  me_Words_refuse : Meth K (He.ga K "Words") "refuse" (He.ma K (He.ga K "Words") "refuse")
  g_is_written : mg "is_written" = some (.ref (He.ga K "is_written"))
  n_tuple : mg "tuple" = none
  g_fits_modulus : mg "fits_modulus" = some (.ref (He.ga K "fits_modulus"))
  g_trimmed : mg "trimmed" = some (.ref (He.ga K "trimmed"))
  i_MOST_COEFS_ : ∃ t, mg "MOST_COEFS" = some (.int 13 t)
  cl_Sum : Cls K (He.ga K "Sum")
  g_Sum : mg "Sum" = some (.ref (He.ga K "Sum"))
  na_Sum_modulus : NoAttr K (He.ga K "Sum") "modulus"
  na_Sum_coefs : NoAttr K (He.ga K "Sum") "coefs"
  me_Words_take_number : Meth K (He.ga K "Words") "take_number" (He.ma K (He.ga K "Words") "take_number")
  me_Words_take_end : Meth K (He.ga K "Words") "take_end" (He.ma K (He.ga K "Words") "take_end")
  g_coefs_read : mg "coefs_read" = some (.ref (He.ga K "coefs_read"))
  mk_Words : Mk K (He.ga K "Words") (He.ma K (He.ga K "Words") "__init__")
  me_Words_take_word : Meth K (He.ga K "Words") "take_word" (He.ma K (He.ga K "Words") "take_word")
  mk_Sum : Mk K (He.ga K "Sum") (He.ma K (He.ga K "Sum") "__init__")
  g__law_pick : mg "_law_pick" = some (.ref (He.ga K "_law_pick"))
  n_range : mg "range" = none
  g__law_is_written : mg "_law_is_written" = some (.ref (He.ga K "_law_is_written"))
  n_max : mg "max" = none
  g_RestError : mg "RestError" = some (.ref (He.ga K "RestError"))
  xm_BadText_RestError : PySem.W.exmOne K (.ref (He.ga K "BadText")) (.ref (He.ga K "RestError")) = some true
  g__law_wrong : mg "_law_wrong" = some (.ref (He.ga K "_law_wrong"))
  n_repr : mg "repr" = none
  me_SumU_strU : Meth K (He.ga K "Sum") "__str__" (He.ma K (He.ga K "Sum") "__str__")
  g__law_modulus : mg "_law_modulus" = some (.ref (He.ga K "_law_modulus"))
  g__law_right : mg "_law_right" = some (.ref (He.ga K "_law_right"))
  g__law_trimmed : mg "_law_trimmed" = some (.ref (He.ga K "_law_trimmed"))
  g__law_made : mg "_law_made" = some (.ref (He.ga K "_law_made"))
  g__law_bent : mg "_law_bent" = some (.ref (He.ga K "_law_bent"))
  g__law_numbers : mg "_law_numbers" = some (.ref (He.ga K "_law_numbers"))
  g__law_pen : mg "_law_pen" = some (.ref (He.ga K "_law_pen"))
  me_SumU_eqU : Meth K (He.ga K "Sum") "__eq__" (He.ma K (He.ga K "Sum") "__eq__")
  g_law : mg "law" = some (.ref (He.ga K "law"))
  it_Sum : _root_.G.InsTy K (He.ga K "Sum")
  kit_Sum_Sum : PySem.W.kitOne K (.ref (He.ga K "Sum")) (.ref (He.ga K "Sum")) = some true
  kit_BadText_BadText : PySem.W.kitOne K (.ref (He.ga K "BadText")) (.ref (He.ga K "BadText")) = some true
  pk_Sum_read : PrD.oks K pr_Sum_read = true
  sm_Sum_read : SMet K (He.ga K "Sum") "read" (pr_Sum_read.g K)
  kit_Sum_str : PySem.W.kitOne K (.ref (He.ga K "Sum")) (.type "str") = some false
  ne_Sum : NeC K (He.ga K "Sum")
  d_is_integer : ∃ fd, FunD K "is_integer" "is_integer" (defArgs (top 4)) (defBody (top 4)) (defScope (top 4)) [] [] (He.fAd K ("is_integer", none)) fd
  d_is_between : ∃ fd, FunD K "is_between" "is_between" (defArgs (top 5)) (defBody (top 5)) (defScope (top 5)) [] [] (He.fAd K ("is_between", none)) fd
  d_fits_modulus : ∃ fd, FunD K "fits_modulus" "fits_modulus" (defArgs (top 6)) (defBody (top 6)) (defScope (top 6)) [] [] (He.fAd K ("fits_modulus", none)) fd
  d_law_pen : ∃ fd, FunD K "_law_pen" "_law_pen" (defArgs (top 35)) (defBody (top 35)) (defScope (top 35)) [] [] (He.fAd K ("_law_pen", none)) fd
  d_law_draw : ∃ fd, FunD K "_law_draw" "_law_draw" (defArgs (top 36)) (defBody (top 36)) (defScope (top 36)) [] [] (He.fAd K ("_law_draw", none)) fd
  d_law_pick : ∃ fd, FunD K "_law_pick" "_law_pick" (defArgs (top 37)) (defBody (top 37)) (defScope (top 37)) [] [] (He.fAd K ("_law_pick", none)) fd
  d_is_written : ∃ fd, FunD K "is_written" "is_written" (defArgs (top 8)) (defBody (top 8)) (defScope (top 8)) [] [] (He.fAd K ("is_written", none)) fd
  d_WordsU_initU : ∃ fd, FunD K "__init__" "Words.__init__" (defArgs (inClass (top 23) 0)) (defBody (inClass (top 23) 0)) (defScope (inClass (top 23) 0)) [] [] (He.fAd K ("Words", some "__init__")) fd
  d_Words_next_word : ∃ fd, FunD K "next_word" "Words.next_word" (defArgs (inClass (top 23) 1)) (defBody (inClass (top 23) 1)) (defScope (inClass (top 23) 1)) [] [] (He.fAd K ("Words", some "next_word")) fd
  d_Words_refuse : ∃ fd, FunD K "refuse" "Words.refuse" (defArgs (inClass (top 23) 2)) (defBody (inClass (top 23) 2)) (defScope (inClass (top 23) 2)) [] [] (He.fAd K ("Words", some "refuse")) fd
  d_Words_take_word : ∃ fd, FunD K "take_word" "Words.take_word" (defArgs (inClass (top 23) 3)) (defBody (inClass (top 23) 3)) (defScope (inClass (top 23) 3)) [] [] (He.fAd K ("Words", some "take_word")) fd
  d_Words_take_number : ∃ fd, FunD K "take_number" "Words.take_number" (defArgs (inClass (top 23) 4)) (defBody (inClass (top 23) 4)) (defScope (inClass (top 23) 4)) [] [] (He.fAd K ("Words", some "take_number")) fd
  d_Words_take_end : ∃ fd, FunD K "take_end" "Words.take_end" (defArgs (inClass (top 23) 7)) (defBody (inClass (top 23) 7)) (defScope (inClass (top 23) 7)) [] [] (He.fAd K ("Words", some "take_end")) fd
  d_trimmed : ∃ fd, FunD K "trimmed" "trimmed" (defArgs (top 26)) (defBody (top 26)) (defScope (top 26)) [] [] (He.fAd K ("trimmed", none)) fd
  d_SumU_initU : ∃ fd, FunD K "__init__" "Sum.__init__" (defArgs (inClass (top 33) 1)) (defBody (inClass (top 33) 1)) (defScope (inClass (top 33) 1)) [] [] (He.fAd K ("Sum", some "__init__")) fd
  d_SumU_eqU : ∃ fd, FunD K "__eq__" "Sum.__eq__" (defArgs (inClass (top 33) 27)) (defBody (inClass (top 33) 27)) (defScope (inClass (top 33) 27)) [] [] (He.fAd K ("Sum", some "__eq__")) fd
  d_SumU_strU : ∃ fd, FunD K "__str__" "Sum.__str__" (defArgs (inClass (top 33) 28)) (defBody (inClass (top 33) 28)) (defScope (inClass (top 33) 28)) [] [] (He.fAd K ("Sum", some "__str__")) fd
  d_coefs_read : ∃ fd, FunD K "coefs_read" "coefs_read" (defArgs (top 31)) (defBody (top 31)) (defScope (top 31)) [] [] (He.fAd K ("coefs_read", none)) fd
  d_Sum_read : ∃ fd, FunD K "read" "Sum.read" (defArgs (inClass (top 33) 3)) (defBody (inClass (top 33) 3)) (defScope (inClass (top 33) 3)) [] [] (pr_Sum_read.g K) fd
  d_law_modulus : ∃ fd, FunD K "_law_modulus" "_law_modulus" (defArgs (top 38)) (defBody (top 38)) (defScope (top 38)) [] [] (He.fAd K ("_law_modulus", none)) fd
  d_law_numbers : ∃ fd, FunD K "_law_numbers" "_law_numbers" (defArgs (top 39)) (defBody (top 39)) (defScope (top 39)) [] [] (He.fAd K ("_law_numbers", none)) fd
  d_law_made : ∃ fd, FunD K "_law_made" "_law_made" (defArgs (top 40)) (defBody (top 40)) (defScope (top 40)) [] [] (He.fAd K ("_law_made", none)) fd
  d_law_trimmed : ∃ fd, FunD K "_law_trimmed" "_law_trimmed" (defArgs (top 41)) (defBody (top 41)) (defScope (top 41)) [] [] (He.fAd K ("_law_trimmed", none)) fd
  d_law_is_written : ∃ fd, FunD K "_law_is_written" "_law_is_written" (defArgs (top 42)) (defBody (top 42)) (defScope (top 42)) [] [] (He.fAd K ("_law_is_written", none)) fd
  d_law_wrong : ∃ fd, FunD K "_law_wrong" "_law_wrong" (defArgs (top 43)) (defBody (top 43)) (defScope (top 43)) [] [] (He.fAd K ("_law_wrong", none)) fd
  d_law_right : ∃ fd, FunD K "_law_right" "_law_right" (defArgs (top 44)) (defBody (top 44)) (defScope (top 44)) [] [] (He.fAd K ("_law_right", none)) fd
  d_law_bent : ∃ fd, FunD K "_law_bent" "_law_bent" (defArgs (top 45)) (defBody (top 45)) (defScope (top 45)) [] [] (He.fAd K ("_law_bent", none)) fd
  d_law : ∃ fd, FunD K "law" "law" (defArgs (top 46)) (defBody (top 46)) (defScope (top 46)) [] [] (He.fAd K ("law", none)) fd
  ek_BadText : ExOk K e_BadText "self"
theorem tx {K : PySem.W.Frag} {mg : Str → Option Value} {h : Heap} (X : K.In h) (G : h.Ns mainGlobals mg) (c : He.SaysD fa fn K) (e : ex K = true) (ee : es.map (fun d => fnE K (d.f K)) ++ prs.map (fun d => fnE K (d.g K)) = es.map ExD.val ++ prs.map PrD.val) : Tx K mg := by
  have ee2 : ∀ i : Nat, (es.map (fun d => fnE K (d.f K)) ++ prs.map (fun d => fnE K (d.g K)))[i]? = (es.map ExD.val ++ prs.map PrD.val)[i]? := fun i => by rw [ee]
  have e2 : ∀ i b, (exs K)[i]? = some b → b = true := fun i b hb => List.all_eq_true.mp e b (List.mem_of_getElem? hb)
  have T_n_int : mg "int" = none := He.free_ok X G (c.fact 0 (f := .free "int") rfl)
  have T_n_isinstance : mg "isinstance" = none := He.free_ok X G (c.fact 1 (f := .free "isinstance") rfl)
  have T_n_bool : mg "bool" = none := He.free_ok X G (c.fact 2 (f := .free "bool") rfl)
  have T_g_is_integer : mg "is_integer" = some (.ref (He.ga K "is_integer")) := He.glo_ok X G (c.fact 3 (f := .glo "is_integer") rfl)
  have T_g_is_between : mg "is_between" = some (.ref (He.ga K "is_between")) := He.glo_ok X G (c.fact 4 (f := .glo "is_between") rfl)
  have T_i_MOST_MODULUS_ : ∃ t, mg "MOST_MODULUS" = some (.int 1000000000000000000000000000000 t) := He.int_ok X G (c.fact 5 (f := .int "MOST_MODULUS" 1000000000000000000000000000000) rfl)
  have T_n_list : mg "list" = none := He.free_ok X G (c.fact 6 (f := .free "list") rfl)
  have T_n_len : mg "len" = none := He.free_ok X G (c.fact 7 (f := .free "len") rfl)
  have T_n_abs : mg "abs" = none := He.free_ok X G (c.fact 8 (f := .free "abs") rfl)
  have T_g__law_draw : mg "_law_draw" = some (.ref (He.ga K "_law_draw")) := He.glo_ok X G (c.fact 9 (f := .glo "_law_draw") rfl)
  have T_n_all : mg "all" = none := He.free_ok X G (c.fact 10 (f := .free "all") rfl)
  have T_i_MOST_DIGITS_ : ∃ t, mg "MOST_DIGITS" = some (.int 40 t) := He.int_ok X G (c.fact 11 (f := .int "MOST_DIGITS" 40) rfl)
  have T_g_BadText : mg "BadText" = some (.ref (He.ga K "BadText")) := He.glo_ok X G (c.fact 12 (f := .glo "BadText") rfl)
  have T_n_str : mg "str" = none := He.free_ok X G (c.fact 13 (f := .free "str") rfl)
  have T_cl_Words : Cls K (He.ga K "Words") := He.cls_ok (c.fact 14 (f := .cls "Words") rfl)
  have T_g_Words : mg "Words" = some (.ref (He.ga K "Words")) := He.glo_ok X G (c.fact 15 (f := .glo "Words") rfl)
  have T_na_Words_words : NoAttr K (He.ga K "Words") "words" := He.noat_ok (c.fact 16 (f := .noat "Words" "words") rfl)
  have T_na_Words_line : NoAttr K (He.ga K "Words") "line" := He.noat_ok (c.fact 17 (f := .noat "Words" "line") rfl)
  have T_na_Words_read_so_far : NoAttr K (He.ga K "Words") "read_so_far" := He.noat_ok (c.fact 18 (f := .noat "Words" "read_so_far") rfl)
  have T_me_Words_next_word : Meth K (He.ga K "Words") "next_word" (He.ma K (He.ga K "Words") "next_word") := He.meth_ok (c.fact 19 (f := .meth "Words" "next_word") rfl)
  have T_me_Words_refuse : Meth K (He.ga K "Words") "refuse" (He.ma K (He.ga K "Words") "refuse") := He.meth_ok (c.fact 20 (f := .meth "Words" "refuse") rfl)
  have T_g_is_written : mg "is_written" = some (.ref (He.ga K "is_written")) := He.glo_ok X G (c.fact 21 (f := .glo "is_written") rfl)
  have T_n_tuple : mg "tuple" = none := He.free_ok X G (c.fact 22 (f := .free "tuple") rfl)
  have T_g_fits_modulus : mg "fits_modulus" = some (.ref (He.ga K "fits_modulus")) := He.glo_ok X G (c.fact 23 (f := .glo "fits_modulus") rfl)
  have T_g_trimmed : mg "trimmed" = some (.ref (He.ga K "trimmed")) := He.glo_ok X G (c.fact 24 (f := .glo "trimmed") rfl)
  have T_i_MOST_COEFS_ : ∃ t, mg "MOST_COEFS" = some (.int 13 t) := He.int_ok X G (c.fact 25 (f := .int "MOST_COEFS" 13) rfl)
  have T_cl_Sum : Cls K (He.ga K "Sum") := He.cls_ok (c.fact 26 (f := .cls "Sum") rfl)
  have T_g_Sum : mg "Sum" = some (.ref (He.ga K "Sum")) := He.glo_ok X G (c.fact 27 (f := .glo "Sum") rfl)
  have T_na_Sum_modulus : NoAttr K (He.ga K "Sum") "modulus" := He.noat_ok (c.fact 28 (f := .noat "Sum" "modulus") rfl)
  have T_na_Sum_coefs : NoAttr K (He.ga K "Sum") "coefs" := He.noat_ok (c.fact 29 (f := .noat "Sum" "coefs") rfl)
  have T_me_Words_take_number : Meth K (He.ga K "Words") "take_number" (He.ma K (He.ga K "Words") "take_number") := He.meth_ok (c.fact 30 (f := .meth "Words" "take_number") rfl)
  have T_me_Words_take_end : Meth K (He.ga K "Words") "take_end" (He.ma K (He.ga K "Words") "take_end") := He.meth_ok (c.fact 31 (f := .meth "Words" "take_end") rfl)
  have T_g_coefs_read : mg "coefs_read" = some (.ref (He.ga K "coefs_read")) := He.glo_ok X G (c.fact 32 (f := .glo "coefs_read") rfl)
  have T_mk_Words : Mk K (He.ga K "Words") (He.ma K (He.ga K "Words") "__init__") := He.mkr_ok (c.fact 33 (f := .mkr "Words") rfl)
  have T_me_Words_take_word : Meth K (He.ga K "Words") "take_word" (He.ma K (He.ga K "Words") "take_word") := He.meth_ok (c.fact 34 (f := .meth "Words" "take_word") rfl)
  have T_mk_Sum : Mk K (He.ga K "Sum") (He.ma K (He.ga K "Sum") "__init__") := He.mkr_ok (c.fact 35 (f := .mkr "Sum") rfl)
  have T_g__law_pick : mg "_law_pick" = some (.ref (He.ga K "_law_pick")) := He.glo_ok X G (c.fact 36 (f := .glo "_law_pick") rfl)
  have T_n_range : mg "range" = none := He.free_ok X G (c.fact 37 (f := .free "range") rfl)
  have T_g__law_is_written : mg "_law_is_written" = some (.ref (He.ga K "_law_is_written")) := He.glo_ok X G (c.fact 38 (f := .glo "_law_is_written") rfl)
  have T_n_max : mg "max" = none := He.free_ok X G (c.fact 39 (f := .free "max") rfl)
  have T_g_RestError : mg "RestError" = some (.ref (He.ga K "RestError")) := He.glo_ok X G (c.fact 40 (f := .glo "RestError") rfl)
  have T_xm_BadText_RestError : PySem.W.exmOne K (.ref (He.ga K "BadText")) (.ref (He.ga K "RestError")) = some true := He.exm_ok (c.fact 41 (f := .exm "BadText" "RestError" true) rfl)
  have T_g__law_wrong : mg "_law_wrong" = some (.ref (He.ga K "_law_wrong")) := He.glo_ok X G (c.fact 42 (f := .glo "_law_wrong") rfl)
  have T_n_repr : mg "repr" = none := He.free_ok X G (c.fact 43 (f := .free "repr") rfl)
  have T_me_SumU_strU : Meth K (He.ga K "Sum") "__str__" (He.ma K (He.ga K "Sum") "__str__") := He.meth_ok (c.fact 44 (f := .meth "Sum" "__str__") rfl)
  have T_g__law_modulus : mg "_law_modulus" = some (.ref (He.ga K "_law_modulus")) := He.glo_ok X G (c.fact 45 (f := .glo "_law_modulus") rfl)
  have T_g__law_right : mg "_law_right" = some (.ref (He.ga K "_law_right")) := He.glo_ok X G (c.fact 46 (f := .glo "_law_right") rfl)
  have T_g__law_trimmed : mg "_law_trimmed" = some (.ref (He.ga K "_law_trimmed")) := He.glo_ok X G (c.fact 47 (f := .glo "_law_trimmed") rfl)
  have T_g__law_made : mg "_law_made" = some (.ref (He.ga K "_law_made")) := He.glo_ok X G (c.fact 48 (f := .glo "_law_made") rfl)
  have T_g__law_bent : mg "_law_bent" = some (.ref (He.ga K "_law_bent")) := He.glo_ok X G (c.fact 49 (f := .glo "_law_bent") rfl)
  have T_g__law_numbers : mg "_law_numbers" = some (.ref (He.ga K "_law_numbers")) := He.glo_ok X G (c.fact 50 (f := .glo "_law_numbers") rfl)
  have T_g__law_pen : mg "_law_pen" = some (.ref (He.ga K "_law_pen")) := He.glo_ok X G (c.fact 51 (f := .glo "_law_pen") rfl)
  have T_me_SumU_eqU : Meth K (He.ga K "Sum") "__eq__" (He.ma K (He.ga K "Sum") "__eq__") := He.meth_ok (c.fact 52 (f := .meth "Sum" "__eq__") rfl)
  have T_g_law : mg "law" = some (.ref (He.ga K "law")) := He.glo_ok X G (c.fact 53 (f := .glo "law") rfl)
  have T_it_Sum : _root_.G.InsTy K (He.ga K "Sum") := insB_ok T_cl_Sum (e2 0 _ rfl)
  have T_kit_Sum_Sum : PySem.W.kitOne K (.ref (He.ga K "Sum")) (.ref (He.ga K "Sum")) = some true := of_decide_eq_true (e2 1 _ rfl)
  have T_kit_BadText_BadText : PySem.W.kitOne K (.ref (He.ga K "BadText")) (.ref (He.ga K "BadText")) = some true := of_decide_eq_true (e2 2 _ rfl)
  have T_pk_Sum_read : PrD.oks K pr_Sum_read = true := id (e2 3 _ rfl)
  have T_sm_Sum_read : SMet K (He.ga K "Sum") "read" (pr_Sum_read.g K) := smet_of T_pk_Sum_read rfl (e2 4 _ rfl)
  have T_kit_Sum_str : PySem.W.kitOne K (.ref (He.ga K "Sum")) (.type "str") = some false := of_decide_eq_true (e2 5 _ rfl)
  have T_ne_Sum : NeC K (He.ga K "Sum") := neB_ok (e2 6 _ rfl)
  have E_BadText : ExOk K e_BadText "self" := ExOk.of (e2 7 _ rfl) (Option.some.inj (ee2 0)) ⟨_, rfl, rfl⟩
  exact ⟨T_n_int, T_n_isinstance, T_n_bool, T_g_is_integer, T_g_is_between, T_i_MOST_MODULUS_, T_n_list, T_n_len, T_n_abs, T_g__law_draw, T_n_all, T_i_MOST_DIGITS_, T_g_BadText, T_n_str, T_cl_Words, T_g_Words, T_na_Words_words, T_na_Words_line, T_na_Words_read_so_far, T_me_Words_next_word, T_me_Words_refuse, T_g_is_written, T_n_tuple, T_g_fits_modulus, T_g_trimmed, T_i_MOST_COEFS_, T_cl_Sum, T_g_Sum, T_na_Sum_modulus, T_na_Sum_coefs, T_me_Words_take_number, T_me_Words_take_end, T_g_coefs_read, T_mk_Words, T_me_Words_take_word, T_mk_Sum, T_g__law_pick, T_n_range, T_g__law_is_written, T_n_max, T_g_RestError, T_xm_BadText_RestError, T_g__law_wrong, T_n_repr, T_me_SumU_strU, T_g__law_modulus, T_g__law_right, T_g__law_trimmed, T_g__law_made, T_g__law_bent, T_g__law_numbers, T_g__law_pen, T_me_SumU_eqU, T_g_law, T_it_Sum, T_kit_Sum_Sum, T_kit_BadText_BadText, T_pk_Sum_read, T_sm_Sum_read, T_kit_Sum_str, T_ne_Sum, (c.def_ 0 (d := d_is_integer) rfl), (c.def_ 1 (d := d_is_between) rfl), (c.def_ 2 (d := d_fits_modulus) rfl), (c.def_ 3 (d := d_law_pen) rfl), (c.def_ 4 (d := d_law_draw) rfl), (c.def_ 5 (d := d_law_pick) rfl), (c.def_ 6 (d := d_is_written) rfl), (c.def_ 7 (d := d_WordsU_initU) rfl), (c.def_ 8 (d := d_Words_next_word) rfl), (c.def_ 9 (d := d_Words_refuse) rfl), (c.def_ 10 (d := d_Words_take_word) rfl), (c.def_ 11 (d := d_Words_take_number) rfl), (c.def_ 12 (d := d_Words_take_end) rfl), (c.def_ 13 (d := d_trimmed) rfl), (c.def_ 14 (d := d_SumU_initU) rfl), (c.def_ 15 (d := d_SumU_eqU) rfl), (c.def_ 16 (d := d_SumU_strU) rfl), (c.def_ 17 (d := d_coefs_read) rfl), (PrD.funD (d := pr_Sum_read) T_pk_Sum_read (Option.some.inj (ee2 1))), (c.def_ 18 (d := d_law_modulus) rfl), (c.def_ 19 (d := d_law_numbers) rfl), (c.def_ 20 (d := d_law_made) rfl), (c.def_ 21 (d := d_law_trimmed) rfl), (c.def_ 22 (d := d_law_is_written) rfl), (c.def_ 23 (d := d_law_wrong) rfl), (c.def_ 24 (d := d_law_right) rfl), (c.def_ 25 (d := d_law_bent) rfl), (c.def_ 26 (d := d_law) rfl), E_BadText⟩
end My

set_option Elab.async false
set_option linter.all false
set_option maxRecDepth 100000
set_option maxHeartbeats 4000000
/-! MU: sums added, their differences and running sums; a row of values has one row of coefficients. -/
namespace My
open G (InR)
/-- one row, and a multiple of another one -/
def ad (s : Int) : List Int → List Int → List Int
  | [], ys => ys.map (s * ·)
  | x :: xs, [] => x :: xs
  | x :: xs, y :: ys => (x + s * y) :: ad s xs ys
theorem ad_at (s : Int) : ∀ (xs ys : List Int) (i : Nat), (ad s xs ys).getD i 0 = xs.getD i 0 + s * ys.getD i 0
  | [], ys, i => by
    show (ys.map (s * ·)).getD i 0 = _
    rw [getD_map (f := (s * ·)) (Int.mul_zero s)]
    exact (Int.zero_add _).symm
  | x :: xs, [], i => by
    show (x :: xs).getD i 0 = _ + s * 0
    rw [Int.mul_zero, Int.add_zero]
  | x :: xs, y :: ys, 0 => rfl
  | x :: xs, y :: ys, i + 1 => ad_at s xs ys i
theorem ad_len (s : Int) : ∀ xs ys : List Int, (ad s xs ys).length = max xs.length ys.length
  | [], ys => by
    show (ys.map (s * ·)).length = _
    rw [List.length_map, List.length_nil, Nat.zero_max]
  | x :: xs, [] => by
    show (x :: xs).length = _
    rw [List.length_nil, Nat.max_zero]
  | x :: xs, y :: ys => by
    show (ad s xs ys).length + 1 = _
    rw [ad_len s xs ys, List.length_cons, List.length_cons, Nat.add_max_add_right]
theorem VK_ad (s n : Int) : ∀ (xs ys : List Int) (k : Nat), VK k (ad s xs ys) n = VK k xs n + s * VK k ys n
  | [], ys, k => by
    have h : ∀ (zs : List Int) (k : Nat), VK k (zs.map (s * ·)) n = s * VK k zs n := fun zs => by
      induction zs with
      | nil => exact fun _ => (Int.mul_zero s).symm
      | cons z zs ih =>
        intro k
        show s * z * bin n k + VK (k + 1) (zs.map (s * ·)) n = s * (z * bin n k + VK (k + 1) zs n)
        rw [ih]
        grind
    show VK k (ys.map (s * ·)) n = 0 + _
    rw [h, Int.zero_add]
  | x :: xs, [], k => by
    show VK k (x :: xs) n = _ + s * 0
    rw [Int.mul_zero, Int.add_zero]
  | x :: xs, y :: ys, k => by
    show (x + s * y) * bin n k + VK (k + 1) (ad s xs ys) n = (x * bin n k + VK (k + 1) xs n) + s * (y * bin n k + VK (k + 1) ys n)
    rw [VK_ad s n xs ys (k + 1)]
    grind
theorem V_ad (s n : Int) (xs ys : List Int) : V (ad s xs ys) n = V xs n + s * V ys n := VK_ad s n xs ys 0
/-- one more of them -/
theorem ad_take {s : Int} {xs ys : List Int} {i : Nat} (h : i < max xs.length ys.length) : (ad s xs ys).take i ++ [xs.getD i 0 + s * ys.getD i 0] = (ad s xs ys).take (i + 1) := by
  have e := ad_at s xs ys i
  rw [List.getD_eq_getElem?_getD, List.getElem?_eq_getElem (by rw [ad_len]; exact h), Option.getD_some] at e
  rw [List.take_succ, List.getElem?_eq_getElem (by rw [ad_len]; exact h), ← e] <;> rfl
/-! ### one row of coefficients -/
theorem dvd_of_vals {m : Int} : ∀ (cs : List Int), (∀ n : Nat, m ∣ V cs n) → ∀ i : Nat, m ∣ cs.getD i 0
  | [], _, i => by
    have e : ([] : List Int).getD i 0 = 0 := by simp
    rw [e]
    exact Int.dvd_zero m
  | c :: cs, h, i => by
    cases i with
    | zero =>
      have := h 0
      rwa [Int.natCast_zero, V_at0] at this
    | succ i =>
      refine dvd_of_vals cs (fun n => ?_) i
      have h1 := h (n + 1)
      rw [Int.natCast_add, show (((1 : Nat) : Int)) = 1 from rfl, V_up] at h1
      exact (Int.dvd_iff_dvd_of_dvd_add h1).mp (h n)
theorem cg_of_vals {m : Int} {xs ys : List Int} (h : ∀ n : Nat, V xs n % m = V ys n % m) : Cg m xs ys := fun i => by
  have := dvd_of_vals (m := m) (ad (-1) xs ys) (fun n => by
    rw [V_ad, show V xs n + -1 * V ys n = V xs n - V ys n by omega]
    exact Int.dvd_of_emod_eq_zero (Int.emod_eq_emod_iff_emod_sub_eq_zero.mp (h n))) i
  rwa [ad_at, show xs.getD i 0 + -1 * ys.getD i 0 = xs.getD i 0 - ys.getD i 0 by omega] at this
theorem tr_vals {m : Int} {xs ys : List Int} (h : ∀ n : Nat, V xs n % m = V ys n % m) : tr m xs = tr m ys := tr_ext (cg_of_vals h)
theorem sub_mods (a b m : Int) : (a % m - b % m) % m = (a - b) % m := by rw [Int.sub_emod a b m]
theorem add_mods (a b m : Int) : (a % m + b % m) % m = (a + b) % m := by rw [Int.add_emod a b m]
/-! ### differences from beat to beat -/
def dl (cs : List Int) : List Int := ad (-1) cs (mv cs (-1))
theorem V_dl (cs : List Int) (n : Int) : V (dl cs) n = V cs n - V cs (n - 1) := by
  unfold dl
  rw [V_ad, mv_val, show (-1 : Int) + n = n - 1 by omega]
  omega
theorem dl_len (cs : List Int) : (dl cs).length = cs.length := by
  unfold dl
  rw [ad_len, mv_len, Nat.max_self]
theorem cut_few {xs : List Int} (n : Nat) (h : ∀ i, n ≤ i → xs.getD i 0 = 0) : (cut xs).length ≤ n := by
  have e : cut xs = cut (xs.take n) := cut_ext fun i => by
    by_cases hi : i < n
    · rw [List.getD_eq_getElem?_getD, List.getD_eq_getElem?_getD, List.getElem?_take_of_lt hi]
    · rw [h i (by omega), List.getD_eq_getElem?_getD, List.getElem?_eq_none (by rw [List.length_take]; omega)]
      rfl
  rw [e]
  exact Nat.le_trans (cut_len _) (by rw [List.length_take]; omega)
theorem tr_few {m : Int} {xs : List Int} (n : Nat) (h : ∀ i, n ≤ i → m ∣ xs.getD i 0) : (tr m xs).length ≤ n := by
  unfold tr
  refine cut_few n fun i hi => ?_
  rw [getD_map (f := (· % m)) (Int.zero_emod m)]
  exact Int.emod_eq_zero_of_dvd (h i hi)
theorem mv_last (b : Int) (cs : List Int) {i : Nat} (h : cs.length - 1 ≤ i) : (mv cs b).getD i 0 = cs.getD i 0 := by
  rw [mv_at]
  by_cases hi : i < cs.length
  · have e : i = cs.length - 1 := by omega
    have e2 : cs.drop i = [cs.getD i 0] := by
      rw [List.getD_eq_getElem?_getD, List.getElem?_eq_getElem hi, Option.getD_some, List.drop_eq_getElem_cons hi, List.drop_eq_nil_of_le (by omega)]
    rw [e2, V_one]
  · rw [List.drop_eq_nil_of_le (by omega), V_nil, List.getD_eq_getElem?_getD, List.getElem?_eq_none (by omega)]
    rfl
theorem dl_few (m : Int) (cs : List Int) : (tr m (dl cs)).length ≤ cs.length - 1 := by
  refine tr_few _ fun i hi => ?_
  unfold dl
  rw [ad_at, mv_last _ _ hi, show cs.getD i 0 + -1 * cs.getD i 0 = 0 by omega]
  exact Int.dvd_zero m
/-! ### running sums -/
def tot (cs : List Int) : List Int := 0 :: ad 1 cs (cs.drop 1)
theorem tot_len (cs : List Int) : (tot cs).length = cs.length + 1 := by
  show (ad 1 cs (cs.drop 1)).length + 1 = _
  rw [ad_len, List.length_drop]
  omega
theorem tot_at0 (cs : List Int) : V (tot cs) 0 = 0 := V_at0 _ _
theorem tot_up (cs : List Int) (n : Int) : V (tot cs) (n + 1) = V (tot cs) n + V cs (n + 1) := by
  show V (0 :: ad 1 cs (cs.drop 1)) (n + 1) = V (0 :: ad 1 cs (cs.drop 1)) n + _
  rw [V_up, V_ad, Int.one_mul]
  cases cs with
  | nil => rfl
  | cons c r =>
    rw [V_up c r n]
    rfl
theorem tot_cg {m : Int} {xs ys : List Int} (h : Cg m xs ys) : Cg m (tot xs) (tot ys) := fun i => by
  cases i with
  | zero => exact Int.dvd_zero m
  | succ i =>
    show m ∣ (ad 1 xs (xs.drop 1)).getD i 0 - (ad 1 ys (ys.drop 1)).getD i 0
    have e : ∀ zs : List Int, (zs.drop 1).getD i 0 = zs.getD (i + 1) 0 := fun zs => by
      rw [List.getD_eq_getElem?_getD, List.getD_eq_getElem?_getD, List.getElem?_drop, Nat.add_comm]
    rw [ad_at, ad_at, e, e]
    have := Int.dvd_add (h i) (h (i + 1))
    rwa [show xs.getD i 0 - ys.getD i 0 + (xs.getD (i + 1) 0 - ys.getD (i + 1) 0) = xs.getD i 0 + 1 * xs.getD (i + 1) 0 - (ys.getD i 0 + 1 * ys.getD (i + 1) 0) by omega] at this
theorem ad_cg {m s : Int} {xs ys us vs : List Int} (h : Cg m xs us) (k : Cg m ys vs) : Cg m (ad s xs ys) (ad s us vs) := fun i => by
  rw [ad_at, ad_at]
  have := Int.dvd_add (h i) (Int.dvd_mul_of_dvd_right (b := s) (k i))
  rwa [show xs.getD i 0 - us.getD i 0 + s * (ys.getD i 0 - vs.getD i 0) = xs.getD i 0 + s * ys.getD i 0 - (us.getD i 0 + s * vs.getD i 0) by grind] at this
/-- the sums of neighbours -/
theorem tot_zip : ∀ cs : List Int, List.zipWith (fun x y => x + y) cs (cs.drop 1 ++ [0]) = ad 1 cs (cs.drop 1)
  | [] => rfl
  | [c] => by
    show [c + 0] = [c]
    rw [Int.add_zero]
  | c :: d :: r => by
    have ih := tot_zip (d :: r)
    show (c + d) :: List.zipWith (fun x y => x + y) (d :: r) ((d :: r).drop 1 ++ [0]) = (c + 1 * d) :: ad 1 (d :: r) r
    rw [ih, Int.one_mul]
    rfl
end My

set_option Elab.async false
set_option linter.all false
set_option maxRecDepth 100000
set_option maxHeartbeats 4000000
/-! MV: rows of values whose differences end: products, turned about; lengths that stay. -/
namespace My
open G (InR)
/-- the n-th differences are 0 -/
def Dg : Nat → (Int → Int) → Prop
  | 0, f => ∀ x, f x = 0
  | n + 1, f => Dg n (fun x => f (x + 1) - f x)
theorem Dg.zero : ∀ (n : Nat) {f : Int → Int}, (∀ x, f x = 0) → Dg n f
  | 0, _, h => h
  | n + 1, f, h => Dg.zero n fun x => by rw [h, h]; rfl
theorem Dg.add : ∀ (n : Nat) {f g : Int → Int}, Dg n f → Dg n g → Dg n (fun x => f x + g x)
  | 0, f, g, h, k => fun x => by show f x + g x = 0; rw [h, k]; rfl
  | n + 1, f, g, h, k => by
    have e : (fun x => f (x + 1) + g (x + 1) - (f x + g x)) = fun x => (f (x + 1) - f x) + (g (x + 1) - g x) := funext fun x => by omega
    show Dg n (fun x => f (x + 1) + g (x + 1) - (f x + g x))
    rw [e]
    exact Dg.add n h k
theorem Dg.neg : ∀ (n : Nat) {f : Int → Int}, Dg n f → Dg n (fun x => -f x)
  | 0, f, h => fun x => by show -f x = 0; rw [h]; rfl
  | n + 1, f, h => by
    have e : (fun x => -f (x + 1) - -f x) = fun x => -(f (x + 1) - f x) := funext fun x => by omega
    show Dg n (fun x => -f (x + 1) - -f x)
    rw [e]
    exact Dg.neg n h
theorem Dg.up : ∀ (n : Nat) {f : Int → Int}, Dg n f → Dg n (fun x => f (x + 1))
  | 0, f, h => fun x => h (x + 1)
  | n + 1, f, h => Dg.up n h
theorem Dg.mul : ∀ (k a b : Nat) {f g : Int → Int}, a + b = k → Dg (a + 1) f → Dg (b + 1) g → Dg (k + 1) (fun x => f x * g x)
  | k, a, b, f, g, e, hf, hg => by
    have s : (fun x => f (x + 1) * g (x + 1) - f x * g x) = fun x => (f (x + 1) - f x) * g (x + 1) + f x * (g (x + 1) - g x) := funext fun x => by grind
    show Dg k (fun x => f (x + 1) * g (x + 1) - f x * g x)
    rw [s]
    refine Dg.add k ?_ ?_
    · cases a with
      | zero => exact Dg.zero k fun x => by show (f (x + 1) - f x) * g (x + 1) = 0; rw [show f (x + 1) - f x = 0 from hf x, Int.zero_mul]
      | succ a =>
        obtain ⟨k', rfl⟩ : ∃ k', k = k' + 1 := ⟨k - 1, by omega⟩
        exact Dg.mul k' a b (by omega) hf (Dg.up (b + 1) hg)
    · cases b with
      | zero => exact Dg.zero k fun x => by show f x * (g (x + 1) - g x) = 0; rw [show g (x + 1) - g x = 0 from hg x, Int.mul_zero]
      | succ b =>
        obtain ⟨k', rfl⟩ : ∃ k', k = k' + 1 := ⟨k - 1, by omega⟩
        exact Dg.mul k' a b (by omega) hf hg
termination_by k => k
theorem Dg.V : ∀ cs : List Int, Dg cs.length (V cs)
  | [] => fun x => rfl
  | c :: cs => by
    have e : (fun x => My.V (c :: cs) (x + 1) - My.V (c :: cs) x) = My.V cs := funext fun x => by rw [V_up]; omega
    show Dg cs.length (fun x => My.V (c :: cs) (x + 1) - My.V (c :: cs) x)
    rw [e]
    exact Dg.V cs
theorem Dg.turned : ∀ (cs : List Int) (k : Int), Dg cs.length (fun x => My.V cs (k - x))
  | [], _ => fun x => rfl
  | c :: cs, k => by
    have e : (fun x => My.V (c :: cs) (k - (x + 1)) - My.V (c :: cs) (k - x)) = fun x => -My.V cs ((k - 1) - x) := funext fun x => by
      have := V_up c cs (k - 1 - x)
      rw [show k - 1 - x + 1 = k - x by omega] at this
      rw [show k - (x + 1) = k - 1 - x by omega, this]
      omega
    show Dg cs.length (fun x => My.V (c :: cs) (k - (x + 1)) - My.V (c :: cs) (k - x))
    rw [e]
    exact Dg.neg _ (Dg.turned cs (k - 1))
/-- the differences of the first values tell the row -/
theorem V_dv : ∀ (n : Nat) {f : Int → Int}, Dg n f → ∀ x, V (dv (row f n)) x = f x
  | 0, f, h => fun x => (h x).symm
  | n + 1, f, h => by
    rw [dv_row]
    refine rows_eq ?_ fun x => ?_
    · exact V_at0 _ _
    · rw [V_up, V_dv n h x]
      omega
theorem Dg.more : ∀ (n : Nat) {f : Int → Int}, Dg n f → Dg (n + 1) f
  | 0, f, h => fun x => by show f (x + 1) - f x = 0; rw [h, h]; rfl
  | n + 1, f, h => Dg.more n h
theorem Dg.V1 (cs : List Int) : Dg (cs.length - 1 + 1) (My.V cs) := by
  cases cs with
  | nil => exact Dg.zero 1 fun x => rfl
  | cons c r => exact Dg.V (c :: r)
theorem V_mul2 (cs ds : List Int) (x : Int) : V (dv (row (fun b => V cs b * V ds b) ((cs.length - 1) + (ds.length - 1) + 1))) x = V cs x * V ds x :=
  V_dv _ (f := fun b => V cs b * V ds b) (Dg.mul _ (cs.length - 1) (ds.length - 1) rfl (Dg.V1 cs) (Dg.V1 ds)) x
theorem V_turn (cs : List Int) (x : Int) : V (dv (row (fun b => V cs (0 - b)) cs.length)) x = V cs (0 - x) := V_dv _ (f := fun b => V cs (0 - b)) (Dg.turned cs 0) x
/-! ### lengths that stay -/
theorem cut_same_len {xs : List Int} {n : Nat} (h0 : xs.length = n + 1) (h : xs.getD n 0 ≠ 0) : cut xs = xs := by
  obtain ⟨ys, y, rfl⟩ : ∃ ys y, xs = ys ++ [y] := ⟨_, _, (List.dropLast_concat_getLast (by intro z; rw [z] at h0; cases h0)).symm⟩
  rw [List.length_append, List.length_singleton] at h0
  rw [List.getD_eq_getElem?_getD, List.getElem?_append_right (by omega), show n - ys.length = 0 by omega] at h
  exact cut_snoc h ys
theorem cut_last_ne {xs : List Int} {n : Nat} (h : cut xs = xs) (hl : xs.length = n + 1) : xs.getD n 0 ≠ 0 := fun z => by
  obtain ⟨ys, y, rfl⟩ : ∃ ys y, xs = ys ++ [y] := ⟨_, _, (List.dropLast_concat_getLast (by intro z; rw [z] at hl; cases hl)).symm⟩
  rw [List.length_append, List.length_singleton] at hl
  rw [List.getD_eq_getElem?_getD, List.getElem?_append_right (by omega), show n - ys.length = 0 by omega] at z
  have e : y = 0 := z
  subst e
  rw [cut_snoc0] at h
  have := cut_len ys
  rw [h, List.length_append, List.length_singleton] at this
  omega
/-- moved: as long as before, the last one as before -/
theorem mv_same {m : Int} {cs : List Int} (ok : SumOk m cs) (b : Int) : (tr m (mv cs b)).length = cs.length ∧ ∀ n, cs.length = n + 1 → (tr m (mv cs b)).getD n 0 = cs.getD n 0 := by
  cases hn : cs.length with
  | zero =>
    obtain rfl := List.length_eq_zero_iff.mp hn
    exact ⟨rfl, fun n e => by cases e⟩
  | succ n =>
    have e : (tr m (mv cs b)).getD n 0 = cs.getD n 0 := by
      rw [tr_at, mv_last b cs (by omega)]
      have hi : cs.getD n 0 ∈ cs := by
        rw [List.getD_eq_getElem?_getD, List.getElem?_eq_getElem (by omega), Option.getD_some]
        exact List.getElem_mem _
      have := ok.inr _ hi
      exact Int.emod_eq_of_lt this.1 this.2
    have hne := cut_last_ne ok.fin hn
    refine ⟨?_, fun k hk => ?_⟩
    · have h1 := tr_len m (mv cs b)
      rw [mv_len, hn] at h1
      by_cases h2 : (tr m (mv cs b)).length ≤ n
      · rw [List.getD_eq_getElem?_getD, List.getElem?_eq_none h2] at e
        exact absurd e.symm hne
      · omega
    · obtain rfl : n = k := by omega
      exact e
/-- two sums with the same values are one -/
theorem same_vals {m : Int} {cs ds : List Int} (h1 : SumOk m cs) (h2 : SumOk m ds) (h : ∀ n : Nat, V cs n % m = V ds n % m) : cs = ds := by
  rw [← h1.same, ← h2.same]
  exact tr_vals h
theorem mul_mods (a b m : Int) : (a % m * (b % m)) % m = a * b % m := (Int.mul_emod a b m).symm
def turn (m : Int) (cs : List Int) : List Int := tr m (dv (row (fun b => V cs (0 - b)) cs.length))
theorem turn_val (m : Int) (cs : List Int) (x : Int) : V (turn m cs) x % m = V cs (0 - x) % m := by
  unfold turn
  rw [tr_val (Int.dvd_refl m), V_turn]
theorem turn_ok {m : Int} {cs : List Int} (ok : SumOk m cs) : SumOk m (turn m cs) := .of ok.two ok.most (by rw [dv_len _ _ rfl, row_len]; exact ok.len)
theorem turn_turn {m : Int} {cs : List Int} (ok : SumOk m cs) : turn m (turn m cs) = cs := same_vals (turn_ok (turn_ok ok)) ok fun n => by
  rw [turn_val, turn_val, show (0 : Int) - (0 - n) = n by omega]
theorem turn_le {m : Int} (cs : List Int) : (turn m cs).length ≤ cs.length := by
  have := tr_len m (dv (row (fun b => V cs (0 - b)) cs.length))
  rwa [dv_len _ _ rfl, row_len] at this
theorem turn_len {m : Int} {cs : List Int} (ok : SumOk m cs) : (turn m cs).length = cs.length := by
  have h1 := turn_le (m := m) cs
  have h2 := turn_le (m := m) (turn m cs)
  rw [turn_turn ok] at h2
  omega
end My

set_option Elab.async false
set_option linter.all false
set_option maxRecDepth 100000
set_option maxHeartbeats 4000000
/-! MW: what rows of sums leave. -/
namespace My
open G (InR)
/-- the terms, told by their places -/
theorem terms_at (n : Int) : ∀ (k : Nat) (cs : List Int), ((List.range cs.length).map fun i => cs.getD i 0 * bin n (k + i)).sum = VK k cs n
  | _, [] => rfl
  | k, c :: cs => by
    rw [List.length_cons, List.range_succ_eq_map, List.map_cons, List.sum_cons, List.map_map]
    have e : ((fun i => (c :: cs).getD i 0 * bin n (k + i)) ∘ Nat.succ) = fun i => cs.getD i 0 * bin n (k + 1 + i) := funext fun i => by
      show cs.getD i 0 * bin n (k + (i + 1)) = _
      rw [show k + (i + 1) = k + 1 + i by omega]
    rw [e, terms_at n (k + 1) cs]
    rfl
theorem drop_getD (cs : List Int) (r i : Nat) : (cs.drop r).getD i 0 = cs.getD (r + i) 0 := by
  rw [List.getD_eq_getElem?_getD, List.getD_eq_getElem?_getD, List.getElem?_drop]
/-- what a row comes to -/
def rowL (cs : List Int) (r : Nat) (N : Int) : Int := VK 1 (cs.drop (r + 1)) N
theorem rowL_terms (cs : List Int) (r : Nat) (N : Int) : ((List.range (cs.length - (r + 1))).map fun i => cs.getD (r + (1 + i)) 0 * bin N (1 + i)).sum = rowL cs r N := by
  have h := terms_at N 1 (cs.drop (r + 1))
  rw [List.length_drop] at h
  rw [show rowL cs r N = VK 1 (cs.drop (r + 1)) N from rfl, ← h]
  refine congrArg List.sum (List.map_congr_left fun i _ => ?_)
  rw [drop_getD, show r + 1 + i = r + (1 + i) by omega]
theorem V_drop (cs : List Int) (r : Nat) (N : Int) : V (cs.drop r) N = cs.getD r 0 + rowL cs r N := by
  unfold rowL
  by_cases h : r < cs.length
  · rw [List.drop_eq_getElem_cons h, V_cons, List.getD_eq_getElem?_getD, List.getElem?_eq_getElem h]
    rfl
  · rw [List.drop_eq_nil_of_le (by omega), List.drop_eq_nil_of_le (by omega), List.getD_eq_getElem?_getD, List.getElem?_eq_none (by omega)]
    rfl
theorem getD_rows (f : Nat → Int) (n i : Nat) : ((List.range n).map f).getD i 0 = if i < n then f i else 0 := by
  rw [List.getD_eq_getElem?_getD]
  by_cases h : i < n
  · rw [if_pos h, List.getElem?_map, List.getElem?_range h]
    rfl
  · rw [if_neg h, List.getElem?_eq_none (by rw [List.length_map, List.length_range]; omega)]
    rfl
theorem rowL_out {cs : List Int} {r : Nat} (h : cs.length ≤ r + 1) (N : Int) : rowL cs r N = 0 := by
  unfold rowL
  rw [List.drop_eq_nil_of_le h]
  rfl
theorem V_ext {xs ys : List Int} (h : ∀ i : Nat, xs.getD i 0 = ys.getD i 0) (n : Int) : V xs n = V ys n := by
  have := V_cg (m := 0) (xs := xs) (ys := ys) (fun i => by rw [h i, Int.sub_self]; exact Int.dvd_zero 0) n
  rwa [Int.emod_zero, Int.emod_zero] at this
/-- the rows are the coefficients of the difference -/
theorem V_rows (cs : List Int) (N n : Int) : V ((List.range (cs.length - 1)).map fun r => rowL cs r N) n = V cs (N + n) - V cs n := by
  rw [← mv_val, show V (mv cs N) n - V cs n = V (mv cs N) n + -1 * V cs n by omega, ← V_ad]
  refine V_ext (fun i => ?_) n
  rw [getD_rows, ad_at, mv_at, V_drop]
  by_cases h : i < cs.length - 1
  · rw [if_pos h]
    omega
  · rw [if_neg h, rowL_out (by omega)]
    omega
theorem rows_mod (m : Int) (cs : List Int) (N n : Int) : V ((List.range (cs.length - 1)).map fun r => rowL cs r N % m) n % m = (V cs (N + n) - V cs n) % m := by
  rw [← V_rows]
  refine V_cg (fun i => ?_) n
  rw [getD_rows, getD_rows]
  by_cases h : i < cs.length - 1
  · rw [if_pos h, if_pos h]
    exact ⟨-(rowL cs i N / m), by have := Int.emod_add_mul_ediv (rowL cs i N) m; rw [Int.mul_neg]; omega⟩
  · rw [if_neg h, if_neg h, Int.sub_self]
    exact Int.dvd_zero m
end My

set_option Elab.async false
set_option linter.all false
set_option maxRecDepth 100000
set_option maxHeartbeats 0
namespace My
open PySem PySem.Spec PyProof.Rows L2 G

local macro_rules | `(tactic| walk_at "ws") => `(tactic| first
  | with_reducible refine s_set ?_
  | with_reducible refine s_if ?_
  | refine s_fldaug (by assumption) (by assumption) ?_
  | with_reducible refine s_ret ?_
  | with_reducible refine s_retN ?_
  | with_reducible refine s_drop ?_
  | with_reducible refine s_next ?_
  | with_reducible refine s_par ?_
  | with_reducible refine s_par3 ?_
  | refine s_fldN (by assumption) (by assumption) ?_
  | with_reducible refine s_asg ?_
  | refine s_raise1 ?_
  | refine s_raise2 ?_)
local macro_rules | `(tactic| walk_at "we") => `(tactic| first
  | ((with_reducible refine w_v (d := ?k2) ?k1 ?_); (case k1 => exact rfl))
  | ((with_reducible refine w_o (j := ?k2) ?k1 ?_); (case k1 => exact rfl))
  | ((guard_target = G.WE _ _ (tFld _ _ _) _ _ _ _); (refine w_fldN (by assumption) (by assumption) ?_))
  | ((guard_target = G.WE _ _ (tC (.ref _)) _ _ _ _); (refine w_ctup (by assumption) ?_))
  | with_reducible refine w_ci ?_
  | with_reducible refine w_op ?_
  | with_reducible refine w_call ?_
  | with_reducible refine w_cty ?_
  | with_reducible refine w_cb ?_
  | with_reducible refine w_cn ?_
  | with_reducible refine w_cs ?_
  | with_reducible refine w_cr ?_
  | with_reducible refine w_un ?_
  | with_reducible refine w_andV ?_
  | with_reducible refine w_orV ?_
  | with_reducible refine w_notV ?_
  | with_reducible refine w_ife ?_
  | with_reducible refine w_chain ?_
  | with_reducible refine w_tup ?_
  | with_reducible refine w_revL ?_
  | with_reducible refine w_slL ?_
  | with_reducible refine w_slT ?_
  | (guard_target = G.WE _ _ (tCall (lift _ (sp_draw _)) _ _ _) _ _ _ _; refine w_fn10 0 ?_)
  | (guard_target = G.WE _ _ (tCall (lift _ (sp_pick _)) _ _ _) _ _ _ _; refine w_fn10 0 ?_)
  | (guard_target = G.WE _ _ (tMethX _ _ (lift _ (sp_wx_word _)) _ _ _) _ _ _ _; refine w_methOX 0 ?_)
  | (guard_target = G.WE _ _ (tMethX _ _ (lift _ (sp_wx_number _)) _ _ _) _ _ _ _; refine w_methOX 0 ?_)
  | (guard_target = G.WE _ _ (tMethX _ _ (lift _ (sp_wx_end _)) _ _ _) _ _ _ _; refine w_methOX 0 ?_)
  | (guard_target = G.WE _ _ (tMethX _ _ (lift _ (sp_wx_refuse _)) _ _ _) _ _ _ _; refine w_methOX 0 ?_)
  | (guard_target = G.WE _ _ (tMakeX _ (lift _ (sp_wx_init _)) _ _) _ _ _ _; refine w_makeOX ?_)
  | (guard_target = G.WE _ _ (tCallS (lift _ (sp_rx_coefs _)) _ _) _ _ _ _; refine w_fnOX 0 ?_)
  | (guard_target = G.WE _ _ (tMeth _ _ (lift _ (sp_wx_next _)) _ _ _ _) _ _ _ _; refine w_methO 0 ?_)
  | with_reducible refine w_fn0 ?_
  | with_reducible refine w_fnS0 ?_
  | with_reducible refine w_meth0 ?_
  | with_reducible refine w_make0 ?_
  | with_reducible refine w_bmL ?_
  | with_reducible refine w_bmL0 ?_
  | with_reducible refine w_lst ?_
  | with_reducible refine w_callKX ?_
  | with_reducible refine w_makeKX ?_
  | with_reducible refine w_makeX ?_
  | with_reducible refine w_smethX ?_
  | with_reducible refine w_smethK ?_
  | with_reducible refine w_fnV ?_
  | with_reducible refine w_fnX ?_
  | with_reducible refine w_fnSX ?_
  | with_reducible refine w_methX ?_
  | with_reducible refine w_callX ?_
  | with_reducible refine w_methK ?_
  | with_reducible refine w_callK2 ?_
  | with_reducible refine w_callI ?_
  | with_reducible refine w_prop ?_
  | with_reducible refine w_dic0 ?_
  | with_reducible refine w_jcons ?_
  | with_reducible refine w_jnil ?_
  | with_reducible refine w_join ?_
  | with_reducible refine w_split ?_
  | with_reducible refine w_smeth ?_
  | with_reducible refine w_fnKr ?_)
local macro_rules | `(tactic| walk_at "wt") => `(tactic| first
  | with_reducible refine w_test ?_
  | with_reducible refine w_B ?_
  | with_reducible refine w_and ?_
  | with_reducible refine w_or ?_
  | with_reducible refine w_not ?_)
local macro_rules | `(tactic| walk_at "wa") => `(tactic| first
  | with_reducible refine w_cons ?_
  | with_reducible refine w_nil ?_
  | with_reducible refine w_star ?_)
local macro_rules | `(tactic| walk_at "wr") => `(tactic| first
  | with_reducible refine w_add ?_
  | with_reducible refine w_sub ?_
  | with_reducible refine w_lt ?_
  | with_reducible refine w_le ?_
  | with_reducible refine w_gt ?_
  | with_reducible refine w_ge ?_
  | with_reducible refine w_eqI ?_
  | with_reducible refine w_neI ?_
  | with_reducible refine w_isN ?_
  | with_reducible refine w_notN ?_
  | ((with_reducible refine w_mod ?k1 ?_); (case k1 => first | decide | omega))
  | ((with_reducible refine w_mul ?k1 ?_); (case k1 => first | exact Or.inl ⟨by decide, by decide⟩ | exact Or.inr ⟨by decide, by decide⟩ | exact Or.inl ⟨by omega, by omega⟩ | exact Or.inr ⟨by omega, by omega⟩))
  | ((with_reducible refine w_pow ?k1 ?_); (case k1 => first | exact ⟨by decide, by decide, by decide⟩ | exact ⟨by omega, by omega, by omega⟩))
  | ((with_reducible refine w_fdivW ?k1 ?_); (case k1 => exact divW_ok (by first | decide | omega) (by first | decide | omega)))
  | ((with_reducible refine w_mulW ?k1 ?_); (case k1 => exact mulW_ok ⟨by omega, by omega⟩ ⟨by omega, by omega⟩))
  | ((guard_target = G.WR _ (rIxT _) _ _ _ _); (refine w_ixT (by first | exact atI_0 | exact atI_1 | exact atI_2 | exact atI_3 | exact atI_4 | exact atI_5 | exact atI_6 | assumption) ?_))
  | ((guard_target = G.WR _ (rIxL _) _ _ _ _); (refine w_ixL (by first | exact lstD_v | exact lstD_o rfl) (by first | exact atI_0 | exact atI_1 | exact atI_2 | exact atI_3 | exact atI_4 | exact atI_5 | exact atI_6 | assumption) ?_)))
local macro_rules | `(tactic| walk_at "wc") => `(tactic| first
  | with_reducible refine c_int ?_
  | with_reducible refine c_intB ?_
  | with_reducible refine c_abs ?_
  | ((guard_target = G.WC _ (G.rLen _) _ _ _); (refine c_lenL (by first | exact lstD_v | exact lstD_o rfl) ?_))
  | with_reducible refine c_lenT ?_
  | ((guard_target = G.WC _ (G.rListOf _) _ _ _); (refine c_listL (by first | exact lstD_v | exact lstD_o rfl) ?_))
  | with_reducible refine c_listT ?_
  | ((guard_target = G.WC _ (G.rTupOf _) _ _ _); (refine c_tupL (by first | exact lstD_v | exact lstD_o rfl) ?_))
  | with_reducible refine c_tupT ?_)
local macro_rules | `(tactic| walk_at "e") => `(tactic| first
  | (guard_target = G.WE _ _ _ _ _ _ _; walk_at "we")
  | (guard_target = G.WS _ _ _ _ _ _; walk_at "ws")
  | (guard_target = G.WA _ _ _ _ _ _ _; walk_at "wa")
  | (guard_target = G.WR _ _ _ _ _ _; walk_at "wr")
  | (guard_target = G.WT _ _ _ _ _ _ _; walk_at "wt")
  | (guard_target = G.WC _ _ _ _ _; walk_at "wc")
  | (guard_target = G.WU _ _ _ _ _; with_reducible refine w_neg ?_)
  | (guard_target = G.WG _ _ _ _ _ _ _; first | with_reducible refine g_name ?_ | with_reducible refine g_setL ?_ | refine g_pair rfl ?_ | refine g_trip rfl ?_ | refine g_quad rfl ?_)
  | (guard_target = G.WO _ _ _ _ _ _ _; first | with_reducible refine o_none ?_ | with_reducible refine o_some ?_)
  | with_reducible refine tt_ ?_
  | with_reducible refine ff_ ?_
  | with_reducible refine ntt_ ?_
  | with_reducible refine nff_ ?_
  | ((guard_target = ((!G.isNon _) = true → _) ∧ _); (first | refine bnF rfl ?_ | refine bnT rfl ?_))
  | ((guard_target = (G.isNon _ = true → _) ∧ _); (first | refine bF rfl ?_ | refine bT rfl ?_))
  | (guard_target = Exists _; first
    | refine ⟨_, rfl, rfl, rfl, ?_⟩
    | refine ⟨_, _, _, rfl, rfl, rfl, Nat.le_of_ble_eq_true rfl, ?_⟩
    | refine ⟨_, _, _, rfl, rfl, rfl, ?_⟩
    | refine ⟨_, _, rfl, rfl, Nat.le_of_ble_eq_true rfl, ?_⟩
    | refine ⟨_, rfl, Nat.le_of_ble_eq_true rfl, Nat.le_of_ble_eq_true rfl, ?_⟩
    | refine ⟨_, _, _, _, _, rfl, rfl, rfl, rfl, rfl, ?_⟩
    | refine ⟨_, _, _, rfl, rfl, rfl, Nat.le_of_ble_eq_true rfl, ?_⟩
    | refine ⟨_, _, rfl, rfl, rfl, ?_⟩
    | refine ⟨_, _, _, rfl, ?_⟩
    | refine ⟨_, _, (by first | exact insD_v | exact insD_o rfl), rfl, ?_⟩
    | refine ⟨_, _, rfl, ?_⟩
    | refine ⟨_, rfl, rfl, ?_⟩
    | refine ⟨_, rfl, Nat.le_of_ble_eq_true rfl, ?_⟩
    | refine ⟨_, (by first | exact lstD_v | exact lstD_o rfl), ?_⟩
    | refine ⟨_, rfl, ?_⟩))
local macro_rules | `(tactic| walk_at "o") => `(tactic| first | with_reducible refine w_lstO ?_ | walk_at "e")
local macro_rules | `(tactic| walk_at "g") => `(tactic| first | walk_at "e" | with_reducible refine s_seq ?_)
local macro_rules | `(tactic| walk_at "n") => `(tactic| (with_reducible refine s_seq ?_); (repeat walk_at "e"))

def sp_is_integer (K : PySem.W.Frag) : SpD := fun ts O P _ => ∃ d b, ts = [.v d] ∧ O = [] ∧ IntQ K d b ∧ P (.v (.bl b)) []
theorem sp_is_integer_len {K : PySem.W.Frag} {ts O P X} (h : sp_is_integer K ts O P X) : ts.length = 1 := by
  obtain ⟨d, b, rfl, _⟩ := h
  rfl
theorem u_is_integer {K : PySem.W.Frag} {P : PT'} {X : XX} {d : D} {b : Bool} (h : IntQ K d b) (k : P (.v (.bl b)) []) : sp_is_integer K [.v d] [] P X := ⟨d, b, rfl, rfl, h, k⟩
/-- whether a value is an integer between two bounds -/
def BtwQ (K : PySem.W.Frag) (d : D) (lo hi : Int) (b : Bool) : Prop := (∃ n, d = .int n ∧ b = (decide (lo ≤ n) && decide (n ≤ hi))) ∨ (IntQ K d false ∧ b = false)
theorem btw_int {K : PySem.W.Frag} {n lo hi : Int} (h1 : lo ≤ n) (h2 : n ≤ hi) : BtwQ K (.int n) lo hi true := .inl ⟨n, rfl, by rw [decide_eq_true h1, decide_eq_true h2] <;> rfl⟩
def sp_is_between (K : PySem.W.Frag) : SpD := fun ts O P _ => ∃ d lo hi b, ts = [.v d, .v (.int lo), .v (.int hi)] ∧ O = [] ∧ BtwQ K d lo hi b ∧ P (.v (.bl b)) []
theorem sp_is_between_len {K : PySem.W.Frag} {ts O P X} (h : sp_is_between K ts O P X) : ts.length = 3 := by
  obtain ⟨d, lo, hi, b, rfl, _⟩ := h
  rfl
theorem u_is_between {K : PySem.W.Frag} {P : PT'} {X : XX} {d : D} {lo hi : Int} {b : Bool} (h : BtwQ K d lo hi b) (k : P (.v (.bl b)) []) : sp_is_between K [.v d, .v (.int lo), .v (.int hi)] [] P X := ⟨d, lo, hi, b, rfl, rfl, h, k⟩
theorem u_between {K : PySem.W.Frag} {P : PT'} {X : XX} {n lo hi : Int} (h1 : lo ≤ n) (h2 : n ≤ hi) (k : P (.v (.bl true)) []) : sp_is_between K [.v (.int n), .v (.int lo), .v (.int hi)] [] P X := u_is_between (btw_int h1 h2) k
def sp_fits_modulus (K : PySem.W.Frag) : SpD := fun ts O P _ => ∃ d b, ts = [.v d] ∧ O = [] ∧ BtwQ K d 2 1000000000000000000000000000000 b ∧ P (.v (.bl b)) []
theorem sp_fits_modulus_len {K : PySem.W.Frag} {ts O P X} (h : sp_fits_modulus K ts O P X) : ts.length = 1 := by
  obtain ⟨d, b, rfl, _⟩ := h
  rfl
theorem u_fits_modulus {K : PySem.W.Frag} {P : PT'} {X : XX} {d : D} {b : Bool} (h : BtwQ K d 2 1000000000000000000000000000000 b) (k : P (.v (.bl b)) []) : sp_fits_modulus K [.v d] [] P X := ⟨d, b, rfl, rfl, h, k⟩
/-- whether a value is a list or a tuple -/
def RowQ (K : PySem.W.Frag) (d : D) (b : Bool) : Prop := ∃ t, TyD K d t ∧ PySem.W.kitAny K t [.type "list", .type "tuple"] = some b
theorem rowQ_lst {K : PySem.W.Frag} {ds : List D} : RowQ K (.lst ds) true := ⟨_, .lst ds, kitAny_cons (kit_ty (b := "list") (r := true) (by decide +kernel)) (fun z => by cases z) fun _ => rfl⟩
theorem rowQ_tup {K : PySem.W.Frag} {ds : List D} : RowQ K (.tup ds) true := ⟨_, .tup ds, kitAny_cons (kit_ty (b := "list") (r := false) (by decide +kernel)) (fun _ => kitAny_cons (kit_ty (b := "tuple") (r := true) (by decide +kernel)) (fun z => by cases z) fun _ => rfl) fun z => by cases z⟩
def sp_is_row (K : PySem.W.Frag) : SpD := fun ts O P _ => ∃ d b, ts = [.v d] ∧ O = [] ∧ RowQ K d b ∧ P (.v (.bl b)) []
theorem sp_is_row_len {K : PySem.W.Frag} {ts O P X} (h : sp_is_row K ts O P X) : ts.length = 1 := by
  obtain ⟨d, b, rfl, _⟩ := h
  rfl
theorem u_is_row {K : PySem.W.Frag} {P : PT'} {X : XX} {d : D} {b : Bool} (h : RowQ K d b) (k : P (.v (.bl b)) []) : sp_is_row K [.v d] [] P X := ⟨d, b, rfl, rfl, h, k⟩
/-- the first place that is no integer between the bounds, in a tuple of integers that are -/
def sp_first_odd (K : PySem.W.Frag) : SpD := fun ts O P _ => ∃ ns lo hi, ts = [.v (.tup (nums ns)), .v (.int lo), .v (.int hi)] ∧ O = [] ∧ (∀ n ∈ ns, lo ≤ n ∧ n ≤ hi) ∧ P (.v .non) []
theorem sp_first_odd_len {K : PySem.W.Frag} {ts O P X} (h : sp_first_odd K ts O P X) : ts.length = 3 := by
  obtain ⟨ns, lo, hi, rfl, _⟩ := h
  rfl
theorem okx_BadText {P : Program} {w : World} {K : PySem.W.Frag} {mg : Str → Option Value} {base : Heap} (hP : POk P "/claim/cut.py") (T : Tx K mg) : FnX P w K mg base 1 (e_BadText.f K) ["self", "line", "word"] (spX2 (He.ga K "BadText") "line" "word") := by
  have X := T.ek_BadText
  have ht : ∀ (A : Around) (outer : List Env) (s : Shared) (H : Hp) (vs : List L2.V) (Q : L2.VK) (E : XK), (spX2 (He.ga K "BadText") "line" "word") vs H Q E → ∃ t, PSs (NdefX.ncx (L2.CX P w) P w K mg base ["self", "line", "word", "__class__"] (e_BadText.nf K) (e_BadText.f K) A outer s H E) (defBody (inClass (top 17) 0)).tail t ∧ t { nx := fun _ H' => Q .non H', rt := Q } (NdefX.startF ["self", "line", "word", "__class__"] vs [none]) H := by
    intro A outer s H vs Q E h
    obtain ⟨a, v, u, rfl, ha, hq⟩ := h
    refine ⟨_, pss_cons (ps_ost (pv 0) (pv 1)) (pss_one (ps_ost (pv 0) (pv 2))), ?_⟩
    refine ⟨v, rfl, .ref a, rfl, a, _, rfl, X.k.oex, X.no _ List.mem_cons_self, .inl ⟨ha, fun dx h1 h2 => ?_⟩⟩
    exact ⟨u, rfl, .ref a, rfl, a, _, rfl, X.k.oex, X.no _ (List.mem_cons_of_mem _ List.mem_cons_self), .inr ⟨dx, _, upd_same, (upd_ne h2).trans upd_same, Nat.le_of_ble_eq_true rfl, hq dx h1 h2⟩⟩
  have hb : ∀ (doc pm ctv : Value) (us : List Value), us.length = (["self", "line", "word"] : List Str).length → bindArgs ((e_BadText.nf K).fd doc pm ctv) ⟨us, []⟩ = pure ((["self", "line", "word"] : List Str).zip us) := fun doc pm ctv us hl => match us, hl with | [_, _, _], _ => rfl
  have F := GX.init_of (CX := L2.CX P w) (P := P) (w := w) (mg := mg) (base := base) (k := 0) (N := ["self", "line", "word", "__class__"]) (ps := ["self", "line", "word"]) (sp := (spX2 (He.ga K "BadText") "line" "word")) (tail := (defBody (inClass (top 17) 0)).tail) X.init rfl (X.hfile hP) hP.sup (show NdefX.NScope ["self", "line", "word", "__class__"] ["self", "line", "word"] ["__class__"] (e_BadText.nf K).scope from (NdefX.nscope_by (by decide +kernel) : NdefX.NScope ["self", "line", "word", "__class__"] ["self", "line", "word"] ["__class__"] e_BadText.scope)) rfl (fun L => L2.plainOf _ (NdefX.envF (e_BadText.nf K) (e_BadText.f K) L)) (fun L => rfl) (fun L => rfl) (fun L => rfl) rfl hb (fun _ _ _ _ h => spX2_len h) (fun _ _ _ _ h => spX2_a h) ht
  obtain ⟨doc, pm, ctv, F⟩ := F
  exact ⟨_, F, .all (hb doc pm ctv)⟩

open My (V VK mv tr cut dv row diff bin SumOk)
def sumD (K : PySem.W.Frag) (m : Int) (cs : List Int) : D := .ins (He.ga K "Sum") [("modulus", .int m), ("coefs", .tup (nums cs))]
def Sml (b : Nat) (xs : List Int) : Prop := ∀ x ∈ xs, x.natAbs < 2 ^ b
/-- what a sum is handed to be reckoned with: an integer, or a sum -/
def TakeQ (K : PySem.W.Frag) (m : Int) (d : D) (xs : List Int) : Prop := (∃ k : Int, d = .int k ∧ xs = [k] ∧ k.natAbs < 2 ^ 140) ∨ (d = sumD K m xs ∧ SumOk m xs)
theorem TakeQ.sml {K : PySem.W.Frag} {m : Int} {d : D} {xs : List Int} (h : TakeQ K m d xs) : Sml 140 xs := by
  rcases h with ⟨k, _, rfl, hk⟩ | ⟨_, hk⟩
  · intro x hx
    rw [List.mem_singleton.mp hx]
    exact hk
  · intro x hx
    exact Nat.lt_of_lt_of_le (hk.sml x hx) (Nat.pow_le_pow_right (by decide) (by decide))
theorem TakeQ.len {K : PySem.W.Frag} {m : Int} {d : D} {xs : List Int} (h : TakeQ K m d xs) : xs.length ≤ 13 := by
  rcases h with ⟨k, _, rfl, hk⟩ | ⟨_, hk⟩
  · exact (by decide : 1 ≤ 13)
  · exact hk.len
def sp_s_trimmed (K : PySem.W.Frag) : SpD := fun ts O P _ => ∃ (m : Int) (xs : List Int), ts = [.v (.int m), .v (.tup (nums xs))] ∧ O = [] ∧ 2 ≤ m ∧ xs.length ≤ 100 ∧ P (.v (.tup (nums (tr m xs)))) []
theorem sp_s_trimmed_len {K : PySem.W.Frag} {ts O P X} (h : sp_s_trimmed K ts O P X) : ts.length = 2 := by
  obtain ⟨m, xs, rfl, _⟩ := h
  rfl
def sp_s_diff (K : PySem.W.Frag) : SpD := fun ts O P _ => ∃ (xs : List Int), ts = [.v (.lst (nums xs))] ∧ O = [] ∧ xs.length ≤ 100 ∧ P (.v (.lst (nums (dv xs)))) []
theorem sp_s_diff_len {K : PySem.W.Frag} {ts O P X} (h : sp_s_diff K ts O P X) : ts.length = 1 := by
  obtain ⟨xs, rfl, _⟩ := h
  rfl
def sp_s_value (K : PySem.W.Frag) : SpD := fun ts O P _ => ∃ (xs : List Int) (n : Int), ts = [.v (.tup (nums xs)), .v (.int n)] ∧ O = [] ∧ xs.length ≤ 13 ∧ Sml 140 xs ∧ n.natAbs + 12 < 2 ^ 230 ∧ P (.v (.int (V xs n))) []
theorem sp_s_value_len {K : PySem.W.Frag} {ts O P X} (h : sp_s_value K ts O P X) : ts.length = 2 := by
  obtain ⟨xs, n, rfl, _⟩ := h
  rfl
def sp_s_moved (K : PySem.W.Frag) : SpD := fun ts O P _ => ∃ (xs : List Int) (n : Int), ts = [.v (.tup (nums xs)), .v (.int n)] ∧ O = [] ∧ xs.length ≤ 13 ∧ Sml 140 xs ∧ n.natAbs + 12 < 2 ^ 230 ∧ P (.v (.lst (nums (mv xs n)))) []
theorem sp_s_moved_len {K : PySem.W.Frag} {ts O P X} (h : sp_s_moved K ts O P X) : ts.length = 2 := by
  obtain ⟨xs, n, rfl, _⟩ := h
  rfl

def sp_s_init (K : PySem.W.Frag) : SpD := fun ts O P _ => ∃ (m : Int) (xs : List Int), ts = [.own 0, .v (.int m), .v (.tup (nums xs))] ∧ O = [.ins (He.ga K "Sum") []] ∧ 2 ≤ m ∧ m ≤ 1000000000000000000000000000000 ∧ xs.length ≤ 13 ∧ P (.v .non) [.ins (He.ga K "Sum") [("modulus", .int m), ("coefs", .tup (nums (tr m xs)))]]
theorem sp_s_init_len {K : PySem.W.Frag} {ts O P X} (h : sp_s_init K ts O P X) : ts.length = 3 := by
  obtain ⟨m, xs, rfl, _⟩ := h
  rfl
theorem unv_nums : ∀ xs : List Int, unv ((nums xs).map T.v ++ []) = some (nums xs) := fun xs => by
  have := unv_vs (ds := nums xs) (ys := []) (es := []) rfl
  rwa [List.append_nil (nums xs)] at this
/-- Sum(m, ..) -/
theorem u_make {K : PySem.W.Frag} {P : PT'} {O : List OD} {m : Int} (xs : List Int) (m1 : 2 ≤ m) (m2 : m ≤ 1000000000000000000000000000000) (hl : xs.length ≤ 13) (k : P (.v (sumD K m (tr m xs))) O) :
    ∃ ds, unv (.v (.int m) :: ((nums xs).map T.v ++ [])) = some ds ∧ 1 ≤ ds.length ∧ ds.length ≤ 1000000 ∧ sp_s_init K (.own 0 :: ((ds.take 1).map T.v ++ [.v (.tup (ds.drop 1))])) [.ins (He.ga K "Sum") []] (fun t O' => t = .v .non ∧ ∃ fs, O' = [.ins (He.ga K "Sum") fs] ∧ P (.v (.ins (He.ga K "Sum") fs)) O) (fun _ _ _ => False) := by
  refine ⟨.int m :: nums xs, ?_, ?_, ?_, m, xs, rfl, rfl, m1, m2, hl, rfl, _, rfl, k⟩
  · show (unv ((nums xs).map T.v ++ [])).map (D.int m :: ·) = _
    rw [unv_nums] <;> rfl
  · rw [List.length_cons]
    omega
  · rw [List.length_cons, nums_len]
    omega
theorem u_init {K : PySem.W.Frag} {Q : List (Str × D) → Prop} {m : Int} (xs : List Int) (m1 : 2 ≤ m) (m2 : m ≤ 1000000000000000000000000000000) (hl : xs.length ≤ 13) (k : Q [("modulus", .int m), ("coefs", .tup (nums (tr m xs)))]) :
    sp_s_init K [.own 0, .v (.int m), .v (.tup (nums xs))] [.ins (He.ga K "Sum") []] (fun t O' => t = .v .non ∧ ∃ fs, O' = [.ins (He.ga K "Sum") fs] ∧ Q fs) (fun _ _ _ => False) := ⟨m, xs, rfl, rfl, m1, m2, hl, rfl, _, rfl, k⟩
theorem nums_last {zs : List Int} {z : Int} : (nums (zs ++ [z]))[(nums (zs ++ [z])).length - 1]? = some (.int z) := by
  rw [← nums_app, List.length_append, List.length_singleton, Nat.add_sub_cancel, List.getElem?_append_right (Nat.le_refl _), Nat.sub_self] <;> rfl
theorem nums_pop {zs : List Int} {z : Int} : (nums (zs ++ [z])).dropLast = nums zs := by
  rw [← nums_app, List.dropLast_concat]
theorem nums_drop {xs : List Int} {n : Nat} : (nums xs).drop n = nums (xs.drop n) := by
  unfold nums
  rw [List.map_drop]
theorem max_len (n : Nat) : (if ((n : Nat) : Int) - 1 > 0 then ((n : Nat) : Int) - 1 else 0) = ((n - 1 : Nat) : Int) := by
  by_cases h : ((n : Nat) : Int) - 1 > 0
  · rw [if_pos h]
    omega
  · rw [if_neg h]
    omega
def sp_s_taken (K : PySem.W.Frag) : SpD := fun ts O P _ => ∃ (m : Int) (cs : List Int) (d : D) (xs : List Int), ts = [.v (sumD K m cs), .v d] ∧ O = [] ∧ TakeQ K m d xs ∧ P (.v (.tup (nums xs))) []
theorem sp_s_taken_len {K : PySem.W.Frag} {ts O P X} (h : sp_s_taken K ts O P X) : ts.length = 2 := by
  obtain ⟨m, cs, d, xs, rfl, _⟩ := h
  rfl
def sp_s_mul (K : PySem.W.Frag) : SpD := fun ts O P _ => ∃ (m : Int) (cs : List Int) (d : D) (xs : List Int), ts = [.v (sumD K m cs), .v d] ∧ O = [] ∧ SumOk m cs ∧ TakeQ K m d xs ∧ (cs.length - 1) + (xs.length - 1) ≤ 12 ∧ P (.v (sumD K m (tr m (dv (row (fun b => V cs b * V xs b) ((cs.length - 1) + (xs.length - 1) + 1)))))) []
theorem sp_s_mul_len {K : PySem.W.Frag} {ts O P X} (h : sp_s_mul K ts O P X) : ts.length = 2 := by
  obtain ⟨m, cs, d, xs, rfl, _⟩ := h
  rfl
def sp_s_later (K : PySem.W.Frag) : SpD := fun ts O P _ => ∃ (m : Int) (cs : List Int) (n : Int), ts = [.v (sumD K m cs), .v (.int n)] ∧ O = [] ∧ SumOk m cs ∧ n.natAbs + 12 < 2 ^ 230 ∧ P (.v (sumD K m (tr m (mv cs n)))) []
theorem sp_s_later_len {K : PySem.W.Frag} {ts O P X} (h : sp_s_later K ts O P X) : ts.length = 2 := by
  obtain ⟨m, cs, n, rfl, _⟩ := h
  rfl
def sp_s_sooner (K : PySem.W.Frag) : SpD := fun ts O P _ => ∃ (m : Int) (cs : List Int) (n : Int), ts = [.v (sumD K m cs), .v (.int n)] ∧ O = [] ∧ SumOk m cs ∧ n.natAbs + 12 < 2 ^ 230 ∧ P (.v (sumD K m (tr m (mv cs (0 - n))))) []
theorem sp_s_sooner_len {K : PySem.W.Frag} {ts O P X} (h : sp_s_sooner K ts O P X) : ts.length = 2 := by
  obtain ⟨m, cs, n, rfl, _⟩ := h
  rfl
def sp_s_mod (K : PySem.W.Frag) : SpD := fun ts O P _ => ∃ (m : Int) (cs : List Int) (k : Int), ts = [.v (sumD K m cs), .v (.int k)] ∧ O = [] ∧ SumOk m cs ∧ 2 ≤ k ∧ m % k = 0 ∧ P (.v (sumD K k (tr k cs))) []
theorem sp_s_mod_len {K : PySem.W.Frag} {ts O P X} (h : sp_s_mod K ts O P X) : ts.length = 2 := by
  obtain ⟨m, cs, k, rfl, _⟩ := h
  rfl
def sp_s_fdiv (K : PySem.W.Frag) : SpD := fun ts O P _ => ∃ (m : Int) (cs : List Int) (k : Int), ts = [.v (sumD K m cs), .v (.int k)] ∧ O = [] ∧ SumOk m cs ∧ 1 ≤ k ∧ k ≤ m / 2 ∧ m % k = 0 ∧ (∀ c ∈ cs, c % k = 0) ∧ P (.v (sumD K (m / k) (tr (m / k) (cs.map (· / k))))) []
theorem sp_s_fdiv_len {K : PySem.W.Frag} {ts O P X} (h : sp_s_fdiv K ts O P X) : ts.length = 2 := by
  obtain ⟨m, cs, k, rfl, _⟩ := h
  rfl
def sp_s_call (K : PySem.W.Frag) : SpD := fun ts O P _ => ∃ (m : Int) (cs : List Int) (n : Int), ts = [.v (sumD K m cs), .v (.int n)] ∧ O = [] ∧ SumOk m cs ∧ n.natAbs + 12 < 2 ^ 230 ∧ P (.v (.int (V cs n % m))) []
theorem sp_s_call_len {K : PySem.W.Frag} {ts O P X} (h : sp_s_call K ts O P X) : ts.length = 2 := by
  obtain ⟨m, cs, n, rfl, _⟩ := h
  rfl
def sp_s_eq (K : PySem.W.Frag) : SpD := fun ts O P _ => ∃ (m : Int) (cs : List Int) (m2 : Int) (ds : List Int), ts = [.v (sumD K m cs), .v (sumD K m2 ds)] ∧ O = [] ∧ P (.v (.bl (decide (m = m2) && decide (cs = ds)))) []
theorem sp_s_eq_len {K : PySem.W.Frag} {ts O P X} (h : sp_s_eq K ts O P X) : ts.length = 2 := by
  obtain ⟨m, cs, m2, ds, rfl, _⟩ := h
  rfl
def sp_s_deg (K : PySem.W.Frag) : SpD := fun ts O P _ => ∃ (m : Int) (cs : List Int), ts = [.v (sumD K m cs)] ∧ O = [] ∧ P (.v (.int ((cs.length - 1 : Nat) : Int))) []
theorem sp_s_deg_len {K : PySem.W.Frag} {ts O P X} (h : sp_s_deg K ts O P X) : ts.length = 1 := by
  obtain ⟨m, cs, rfl, _⟩ := h
  rfl
def sp_s_len (K : PySem.W.Frag) : SpD := fun ts O P _ => ∃ (m : Int) (cs : List Int), ts = [.v (sumD K m cs)] ∧ O = [] ∧ P (.v (.int (cs.length : Nat))) []
theorem sp_s_len_len {K : PySem.W.Frag} {ts O P X} (h : sp_s_len K ts O P X) : ts.length = 1 := by
  obtain ⟨m, cs, rfl, _⟩ := h
  rfl

def sumRows (cs : List Int) : List Str := if cs = [] then ["0"] else cs.map fun c => Str.ofString (toString c)
def sumText (m : Int) (cs : List Int) : Str := Str.empty ++ ("modulo " : Str) ++ Str.ofString (toString m) ++ (" : " : Str) ++ Txt.join (" " : Str) (sumRows cs)
theorem sumRows_len {cs : List Int} (h : ∀ c ∈ cs, Sm c) (hl : cs.length ≤ 13) : ((sumRows cs).map (·.length)).sum ≤ 2700 ∧ (sumRows cs).length ≤ 13 := by
  unfold sumRows
  by_cases h0 : cs = []
  · rw [if_pos h0]
    exact ⟨by decide, by decide⟩
  · rw [if_neg h0]
    have := texts_len h
    rw [List.length_map]
    exact ⟨by omega, hl⟩
theorem join_le (sep : Str) (ys : List Str) : (Txt.join sep ys).length ≤ (ys.map (·.length)).sum + ys.length * sep.length := by
  unfold Txt.join
  rw [StrLaws.glued_eq_join]
  exact StrLaws.join_length_le sep ys
def sp_s_str (K : PySem.W.Frag) : SpD := fun ts O P _ => ∃ (m : Int) (cs : List Int), ts = [.v (sumD K m cs)] ∧ O = [] ∧ SumOk m cs ∧ P (.v (.str (sumText m cs))) []
theorem sp_s_str_len {K : PySem.W.Frag} {ts O P X} (h : sp_s_str K ts O P X) : ts.length = 1 := by
  obtain ⟨m, cs, rfl, _⟩ := h
  rfl

def wd (ws : List Str) (k : Nat) : List (Str × D) := [("line", .int 0), ("words", .lst (ws.map D.str)), ("read_so_far", .int (k : Nat))]
def wdO (K : PySem.W.Frag) (ws : List Str) (k : Nat) : OD := .ins (He.ga K "Words") (wd ws k)
def orNon : Option Str → D
  | some w => .str w
  | none => .non
/-- the word at k cannot stand -/
abbrev xeText (K : PySem.W.Frag) (k : Nat) (O : List OD) (X : XX) : Prop := X (.ref (He.ga K "BadText")) (some [("word", .int (k : Nat)), ("line", .int 0)]) O
/-- the number of a word, if it writes one between two bounds -/
def numAt (w : Option Str) (lo hi : Int) : Option Nat := match w with
  | none => none
  | some w => match wdNum w with
    | none => none
    | some n => if lo ≤ (n : Int) ∧ (n : Int) ≤ hi then some n else none
def WsOk (ws : List Str) : Prop := ∀ w ∈ ws, w.length ≤ sizeLine
def sp_wx_written (K : PySem.W.Frag) : SpD := fun ts O P X => ∃ (w : Str), ts = [.v (.str w)] ∧ O = [] ∧ w.length ≤ sizeLine ∧ P (.v (.bl (isW w))) []
theorem sp_wx_written_len {K : PySem.W.Frag} {ts O P X} (h : sp_wx_written K ts O P X) : ts.length = 1 := by
  obtain ⟨w, rfl, _⟩ := h
  rfl
def sp_wx_init (K : PySem.W.Frag) : SpD := fun ts O P X => ∃ (d : D), ts = [.own 0, .v (.int 0), .v d] ∧ O = [.ins (He.ga K "Words") []] ∧ ((∃ t : Str, d = .str t ∧ t.length + 2 ≤ sizeLine ∧ P (.v .non) [wdO K (Txt.split t " ") 0]) ∨ ((∃ t, TyD K d t ∧ PySem.W.kitOne K t (.type "str") = some false) ∧ ∀ O, (∃ o, O = [o]) → xeText K 0 O X))
theorem sp_wx_init_len {K : PySem.W.Frag} {ts O P X} (h : sp_wx_init K ts O P X) : ts.length = 3 := by
  obtain ⟨d, rfl, _⟩ := h
  rfl
def sp_wx_next (K : PySem.W.Frag) : SpD := fun ts O P X => ∃ (ws : List Str) (k : Nat), ts = [.own 0] ∧ O = [wdO K ws k] ∧ P (.v (orNon ws[k]?)) [wdO K ws k]
theorem sp_wx_next_len {K : PySem.W.Frag} {ts O P X} (h : sp_wx_next K ts O P X) : ts.length = 1 := by
  obtain ⟨ws, k, rfl, _⟩ := h
  rfl
def sp_wx_refuse (K : PySem.W.Frag) : SpD := fun ts O P X => ∃ (ws : List Str) (k : Nat), ts = [.own 0] ∧ O = [wdO K ws k] ∧ xeText K k [wdO K ws k] X
theorem sp_wx_refuse_len {K : PySem.W.Frag} {ts O P X} (h : sp_wx_refuse K ts O P X) : ts.length = 1 := by
  obtain ⟨ws, k, rfl, _⟩ := h
  rfl
def sp_wx_word (K : PySem.W.Frag) : SpD := fun ts O P X => ∃ (ws : List Str) (k : Nat) (menu : List Str), ts = [.own 0, .v (.tup (menu.map D.str))] ∧ O = [wdO K ws k] ∧ ((∃ w, ws[k]? = some w ∧ inV (.str w) (menu.map L2.V.str) = true ∧ P (.v (.str w)) [wdO K ws (k + 1)]) ∨ ((∀ w, ws[k]? = some w → inV (.str w) (menu.map L2.V.str) = false) ∧ xeText K k [wdO K ws k] X))
theorem sp_wx_word_len {K : PySem.W.Frag} {ts O P X} (h : sp_wx_word K ts O P X) : ts.length = 2 := by
  obtain ⟨ws, k, menu, rfl, _⟩ := h
  rfl
def sp_wx_number (K : PySem.W.Frag) : SpD := fun ts O P X => ∃ (ws : List Str) (k : Nat) (lo hi : Int), ts = [.own 0, .v (.int lo), .v (.int hi)] ∧ O = [wdO K ws k] ∧ WsOk ws ∧ ((∃ n, numAt ws[k]? lo hi = some n ∧ P (.v (.int (n : Nat))) [wdO K ws (k + 1)]) ∨ (numAt ws[k]? lo hi = none ∧ xeText K k [wdO K ws k] X))
theorem sp_wx_number_len {K : PySem.W.Frag} {ts O P X} (h : sp_wx_number K ts O P X) : ts.length = 3 := by
  obtain ⟨ws, k, lo, hi, rfl, _⟩ := h
  rfl
def sp_wx_end (K : PySem.W.Frag) : SpD := fun ts O P X => ∃ (ws : List Str) (k : Nat), ts = [.own 0] ∧ O = [wdO K ws k] ∧ ((ws.length ≤ k ∧ P (.v .non) [wdO K ws k]) ∨ (k < ws.length ∧ xeText K k [wdO K ws k] X))
theorem sp_wx_end_len {K : PySem.W.Frag} {ts O P X} (h : sp_wx_end K ts O P X) : ts.length = 1 := by
  obtain ⟨ws, k, rfl, _⟩ := h
  rfl

/-- the coefficient that the word at a place writes -/
def cAt (ws : List Str) (m : Int) (k : Nat) : Option Nat := numAt ws[k]? 0 (m - 1)
def cfin (ws : List Str) (k : Nat) (acc : List Nat) : Except Nat (List Nat) := if k < ws.length then .error k else if 1 < acc.length ∧ acc.getLast? = some 0 then .error k else .ok acc
def cgo (ws : List Str) (m : Int) : Nat → Nat → List Nat → Except Nat (List Nat)
  | 0, k, acc => cfin ws k acc
  | f + 1, k, acc => if k < ws.length then (match cAt ws m k with
    | none => .error k
    | some n => cgo ws m f (k + 1) (acc ++ [n])) else cfin ws k acc
/-- the coefficients, or the first word that cannot stand -/
def cscan (ws : List Str) (m : Int) : Except Nat (List Nat) := match cAt ws m 3 with
  | none => .error 3
  | some n => cgo ws m 12 4 [n]
def rscan (ws : List Str) : Except Nat (Nat × List Nat) := if ws[0]? = some ("modulo" : Str) then (match numAt ws[1]? 2 1000000000000000000000000000000 with
  | none => .error 1
  | some m => if ws[2]? = some (":" : Str) then (match cscan ws m with
    | .error k => .error k
    | .ok ns => .ok (m, ns)) else .error 2) else .error 0
def zs (ns : List Nat) : List Int := ns.map fun n : Nat => (n : Int)
theorem zs_len (ns : List Nat) : (zs ns).length = ns.length := List.length_map _
theorem zs_snoc (ns : List Nat) (n : Nat) : nums (zs ns) ++ [D.int (n : Int)] = nums (zs (ns ++ [n])) := by
  unfold zs
  rw [List.map_append]
  exact nums_app
theorem numAt_bd {w : Option Str} {lo hi : Int} {n : Nat} (h : numAt w lo hi = some n) : lo ≤ (n : Int) ∧ (n : Int) ≤ hi := by
  unfold numAt at h
  cases w with
  | none => cases h
  | some w =>
    simp only at h
    cases hw : wdNum w with
    | none =>
      rw [hw] at h
      cases h
    | some k =>
      rw [hw] at h
      simp only at h
      by_cases hb : lo ≤ (k : Int) ∧ (k : Int) ≤ hi
      · rw [if_pos hb] at h
        cases h
        exact hb
      · rw [if_neg hb] at h
        cases h
theorem cfin_ok {ws : List Str} {k : Nat} {acc ns : List Nat} (h : cfin ws k acc = .ok ns) : ns = acc ∧ ws.length ≤ k ∧ (1 < acc.length → acc.getLast? ≠ some 0) := by
  unfold cfin at h
  by_cases h1 : k < ws.length
  · rw [if_pos h1] at h
    cases h
  · rw [if_neg h1] at h
    by_cases h2 : 1 < acc.length ∧ acc.getLast? = some 0
    · rw [if_pos h2] at h
      cases h
    · rw [if_neg h2] at h
      cases h
      exact ⟨rfl, by omega, fun a b => h2 ⟨a, b⟩⟩
theorem cgo_len {ws : List Str} {m : Int} : ∀ (f k : Nat) (acc ns : List Nat), cgo ws m f k acc = .ok ns → acc.length ≤ ns.length ∧ ns.length ≤ acc.length + f
  | 0, k, acc, ns, h => by
    obtain ⟨rfl, _⟩ := cfin_ok h
    omega
  | f + 1, k, acc, ns, h => by
    unfold cgo at h
    by_cases h1 : k < ws.length
    · rw [if_pos h1] at h
      cases hc : cAt ws m k with
      | none =>
        rw [hc] at h
        cases h
      | some n =>
        rw [hc] at h
        have := cgo_len f (k + 1) (acc ++ [n]) ns h
        rw [List.length_append, List.length_singleton] at this
        omega
    · rw [if_neg h1] at h
      obtain ⟨rfl, _⟩ := cfin_ok h
      omega
theorem cscan_len {ws : List Str} {m : Int} {ns : List Nat} (h : cscan ws m = .ok ns) : 1 ≤ ns.length ∧ ns.length ≤ 13 := by
  unfold cscan at h
  cases hc : cAt ws m 3 with
  | none =>
    rw [hc] at h
    cases h
  | some n =>
    rw [hc] at h
    have := cgo_len 12 4 [n] ns h
    rw [List.length_singleton] at this
    omega
theorem inV_one {w v : Str} : inV (.str w) ([v].map L2.V.str) = decide (w = v) := by
  show ((v == w) || false) = _
  rw [Bool.or_false]
  by_cases h : w = v
  · rw [decide_eq_true h, h]
    exact beq_self_eq_true v
  · rw [decide_eq_false h]
    exact beq_eq_false_iff_ne.mpr fun z => h z.symm
def sp_rx_coefs (K : PySem.W.Frag) : SpD := fun ts O P X => ∃ (ws : List Str) (m : Int), ts = [.own 0, .v (.int m)] ∧ O = [wdO K ws 3] ∧ WsOk ws ∧ 2 ≤ m ∧ m ≤ 1000000000000000000000000000000 ∧ ((∃ k, cscan ws m = .error k ∧ ∀ k2, xeText K k [wdO K ws k2] X) ∨ (∃ ns, cscan ws m = .ok ns ∧ ∀ k2, P (.v (.lst (nums (zs ns)))) [wdO K ws k2]))
theorem sp_rx_coefs_len {K : PySem.W.Frag} {ts O P X} (h : sp_rx_coefs K ts O P X) : ts.length = 2 := by
  obtain ⟨ws, m, rfl, _⟩ := h
  rfl
def sp_rx_read (K : PySem.W.Frag) : SpD := fun ts O P X => ∃ (d : D), ts = [.v d] ∧ O = [] ∧ ((∃ t : Str, d = .str t ∧ t.length ≤ 1000000 ∧ ((∃ k, rscan (Txt.split t " ") = .error k ∧ xeText K k [] X) ∨ (∃ m ns, rscan (Txt.split t " ") = .ok (m, ns) ∧ P (.v (sumD K m (tr m (zs ns)))) []))) ∨ ((∃ t, TyD K d t ∧ PySem.W.kitOne K t (.type "str") = some false) ∧ xeText K 0 [] X))
theorem sp_rx_read_len {K : PySem.W.Frag} {ts O P X} (h : sp_rx_read K ts O P X) : ts.length = 1 := by
  obtain ⟨d, rfl, _⟩ := h
  rfl
theorem sc_is_integer : FnScope ["value"] ["value"] (defScope (top 4)) := ⟨rfl, rfl, rfl, by decide +kernel, rfl, by decide +kernel, by decide +kernel⟩
theorem ok_is_integer {P : Program} {w : World} {K : PySem.W.Frag} {mg : Str → Option Value} {base : Heap} (T : Tx K mg)  : Fn P w K mg base 1 (He.fAd K ("is_integer", none)) ["value"] (sp_is_integer K) := by
  obtain ⟨fd, F⟩ := T.d_is_integer
  refine ⟨fd, F.ok sc_is_integer (lift_len ?_) (fun cdv A outer s H vs Q E hr h => ?_), F.bindsN fun _ _ _ _ _ _ us hl => (match us, hl with | [_], _ => rfl), F.kp, lk_of F⟩
  · intro ts O P X h
    exact sp_is_integer_len h
  · have hu := hr.units
    refine ⟨_, (PSs.nox (pss_one (ps_ret (pe_and (pe_callB (call_isiK K) (by rfl) T.n_isinstance boot_isinstance (pa_cons (pv 0) (pa_cons (pe_bltn (v := .ty "int") (by rfl) T.n_int boot_int rfl) pa_nil))) (pe_one (pe_not (pe_callB (call_isiK K) (by rfl) T.n_isinstance boot_isinstance (pa_cons (pv 0) (pa_cons (pe_bltn (v := .ty "bool") (by rfl) T.n_bool boot_bool rfl) pa_nil))))))))), enter h fun ts O P X h _ => ?_⟩
    try dsimp only [cxOf, Cx.nox, Cx.wish]
    
    obtain ⟨d, b, rfl, rfl, ⟨t, b1, b2, ht, h1, h2, rfl⟩, p⟩ := h
    show WS _ _ _ _ [.v d] _
    repeat walk_at "g"
    refine c_isi ht (.ty _) h1 ?_
    refine ⟨_, rfl, fun e => ?_, fun e => ?_⟩
    · subst e
      repeat walk_at "g"
      refine c_isi ht (.ty _) h2 ?_
      refine ⟨_, rfl, ?_⟩
      exact ⟨rfl, p⟩
    · subst e
      exact ⟨rfl, p⟩
theorem sc_is_between : FnScope ["value", "low", "high"] ["value", "low", "high"] (defScope (top 5)) := ⟨rfl, rfl, rfl, by decide +kernel, rfl, by decide +kernel, by decide +kernel⟩
theorem ok_is_between {P : Program} {w : World} {K : PySem.W.Frag} {mg : Str → Option Value} {base : Heap} (T : Tx K mg) (h_is_integer : Fn P w K mg base 1 (He.fAd K ("is_integer", none)) ["value"] (sp_is_integer K)) : Fn P w K mg base 2 (He.fAd K ("is_between", none)) ["value", "low", "high"] (sp_is_between K) := by
  obtain ⟨_, F_is_integer, b_is_integer, kp_is_integer, lk_is_integer⟩ := h_is_integer
  obtain ⟨fd, F⟩ := T.d_is_between
  refine ⟨fd, F.ok sc_is_between (lift_len ?_) (fun cdv A outer s H vs Q E hr h => ?_), F.bindsN fun _ _ _ _ _ _ us hl => (match us, hl with | [_, _, _], _ => rfl), F.kp, lk_of F⟩
  · intro ts O P X h
    exact sp_is_between_len h
  · have hu := hr.units
    refine ⟨_, (PSs.nox (pss_one (ps_ret (pe_and (pe_call F_is_integer (hr.mono (by decide)) (by rfl) T.g_is_integer kp_is_integer b_is_integer .nil passL (pa_cons (pv 0) pa_nil)) (pe_one (pe_chain op_le op_le (pv 1) (pv 0) (pv 2))))))), enter h fun ts O P X h _ => ?_⟩
    try dsimp only [cxOf, Cx.nox, Cx.wish]
    
    obtain ⟨d, lo, hi, b, rfl, rfl, hb, p⟩ := h
    show WS _ _ _ _ [.v d, .v (.int lo), .v (.int hi)] _
    repeat walk_at "g"
    rcases hb with ⟨n, rfl, rfl⟩ | ⟨hd, rfl⟩
    · refine u_is_integer intQ_int ⟨⟨_, rfl⟩, ?_⟩
      refine ⟨_, rfl, tt_ ?_⟩
      repeat walk_at "g"
      refine br (fun h1 => ?_) (fun h1 => ?_)
      · repeat walk_at "g"
        rw [decide_eq_true h1, Bool.true_and] at p
        exact ⟨rfl, p⟩
      · rw [decide_eq_false h1, Bool.false_and] at p
        exact ⟨rfl, p⟩
    · refine u_is_integer hd ⟨⟨_, rfl⟩, ?_⟩
      refine ⟨_, rfl, ff_ ?_⟩
      exact ⟨rfl, p⟩
theorem sc_fits_modulus : FnScope ["value"] ["value"] (defScope (top 6)) := ⟨rfl, rfl, rfl, by decide +kernel, rfl, by decide +kernel, by decide +kernel⟩
theorem ok_fits_modulus {P : Program} {w : World} {K : PySem.W.Frag} {mg : Str → Option Value} {base : Heap} (T : Tx K mg) (h_is_between : Fn P w K mg base 2 (He.fAd K ("is_between", none)) ["value", "low", "high"] (sp_is_between K)) : Fn P w K mg base 3 (He.fAd K ("fits_modulus", none)) ["value"] (sp_fits_modulus K) := by
  obtain ⟨_, F_is_between, b_is_between, kp_is_between, lk_is_between⟩ := h_is_between
  obtain ⟨fd, F⟩ := T.d_fits_modulus
  obtain ⟨_, T_i_MOST_MODULUS⟩ := T.i_MOST_MODULUS_
  refine ⟨fd, F.ok sc_fits_modulus (lift_len ?_) (fun cdv A outer s H vs Q E hr h => ?_), F.bindsN fun _ _ _ _ _ _ us hl => (match us, hl with | [_], _ => rfl), F.kp, lk_of F⟩
  · intro ts O P X h
    exact sp_fits_modulus_len h
  · have hu := hr.units
    refine ⟨_, (PSs.nox (pss_one (ps_ret (pe_call F_is_between (hr.mono (by decide)) (by rfl) T.g_is_between kp_is_between b_is_between .nil passL (pa_cons (pv 0) (pa_cons pe_int (pa_cons (pe_glob (v := .int 1000000000000000000000000000000) (by rfl) T_i_MOST_MODULUS ⟨_, rfl⟩) pa_nil))))))), enter h fun ts O P X h _ => ?_⟩
    try dsimp only [cxOf, Cx.nox, Cx.wish]
    
    obtain ⟨d, b, rfl, rfl, hb, p⟩ := h
    show WS _ _ _ _ [.v d] _
    repeat walk_at "g"
    refine u_is_between hb ⟨⟨_, rfl⟩, ?_⟩
    exact ⟨rfl, p⟩
theorem sc_law_pen : FnScope ["_law_script"] ["_law_script"] (defScope (top 35)) := ⟨rfl, rfl, rfl, by decide +kernel, rfl, by decide +kernel, by decide +kernel⟩
theorem ok_law_pen {P : Program} {w : World} {K : PySem.W.Frag} {mg : Str → Option Value} {base : Heap} (T : Tx K mg)  : FnRaw P w K mg base 1 (He.fAd K ("_law_pen", none)) ["_law_script"] (penSp K 63) := by
  obtain ⟨fd, F⟩ := T.d_law_pen
  refine ⟨fd, F.ok sc_law_pen ?_ (fun cdv A outer s H vs Q E hr h => ?_), F.bindsN fun _ _ _ _ _ _ us hl => (match us, hl with | [_], _ => rfl), F.kp, lk_of F⟩
  · intro vs H Q E h
    exact penSp_len h
  · have hu := hr.units
    refine ⟨_, (PSs.nox (pss_one (ps_ret (pe_lst (pa_cons (pe_callTy (cr_listK K) (by rfl) T.n_list boot_list (pa_cons (pe_slice (sl_listK K) (pv 0) po_none (po_some pe_int)) pa_nil)) (pa_cons pe_int (pa_cons pe_int pa_nil))))))), ?_⟩
    try dsimp only [cxOf, Cx.nox, Cx.wish]
    
    obtain ⟨a, cs, rfl, hs, q⟩ := h
    refine ⟨.ref a, rfl, 63, rfl, a, _, rfl, hs, fun s0 e0 => ⟨s0, _, rfl, .inl (SqL.of upd_same), fun l e1 => ⟨Nat.le_of_ble_eq_true rfl, fun p e2 => q s0 l p e0 e1 e2⟩⟩⟩
theorem sc_law_draw : FnScope ["_law_pen_here", "_law_many", "_law_digit", "_law_at", "_law_cell", "_law_great", "_law_mixed"] ["_law_pen_here", "_law_many"] (defScope (top 36)) := ⟨rfl, rfl, rfl, by decide +kernel, rfl, by decide +kernel, by decide +kernel⟩
theorem ok_law_draw {P : Program} {w : World} {K : PySem.W.Frag} {mg : Str → Option Value} {base : Heap} (T : Tx K mg)  : Fn P w K mg base 1 (He.fAd K ("_law_draw", none)) ["_law_pen_here", "_law_many"] (sp_draw K) := by
  obtain ⟨fd, F⟩ := T.d_law_draw
  refine ⟨fd, F.ok sc_law_draw (lift_len ?_) (fun cdv A outer s H vs Q E hr h => ?_), F.bindsN fun _ _ _ _ _ _ us hl => (match us, hl with | [_, _], _ => rfl), F.kp, lk_of F⟩
  · intro ts O P X h
    exact sp_draw_len h
  · have hu := hr.units
    refine ⟨_, (PSs.nox (pss_cons (ps_if (pt_cmpR op_gt (pe_ix (ix_listK K) (pv 0) pe_int (fun _ _ => rfl)) pe_int (nomark _))
    (pss_cons (ps_set (i := 2) sc_law_draw.nd rfl (.inl rfl) (pe_op op_mod (pe_callTy call_int1 (by rfl) T.n_int boot_int (pa_cons (pe_ix (ix_listK K) (pv 0) pe_int (fun _ _ => rfl)) pa_nil)) (pv 1)))
    (pss_cons (ps_asg (pe_op op_fdivW (pe_callTy call_int1 (by rfl) T.n_int boot_int (pa_cons (pe_ix (ix_listK K) (pv 0) pe_int (fun _ _ => rfl)) pa_nil)) (pv 1)) (pg_sub (pv 0) pe_int set_list))
    (pss_one (ps_ret (pv 2)))))
    pss_nil)
    (pss_cons (ps_set (i := 3) sc_law_draw.nd rfl (.inl rfl) (pe_ix (ix_listK K) (pv 0) pe_int (fun _ _ => rfl)))
    (pss_cons (ps_asg (pe_op op_add (pv 3) pe_int) (pg_sub (pv 0) pe_int set_list))
    (pss_cons (ps_set (i := 4) sc_law_draw.nd rfl (.inl rfl) (pe_op op_add (pe_op op_mul pe_int (pv 3)) pe_int))
    (pss_cons (ps_if (pt_cmpR (op_neDK K hu) (pe_ix (ix_listK K) (pv 0) pe_int (fun _ _ => rfl)) (pe_lst pa_nil) (nomark _))
    (pss_one (ps_set (i := 4) sc_law_draw.nd rfl (.inl rfl) (pe_ix (ix_listK K) (pe_ix (ix_listK K) (pv 0) pe_int (fun _ _ => rfl)) (pe_op op_mod (pe_callTy call_int1 (by rfl) T.n_int boot_int (pa_cons (pv 3) pa_nil)) (pe_callB (cr_lenK K) (by rfl) T.n_len boot_len (pa_cons (pe_ix (ix_listK K) (pv 0) pe_int (fun _ _ => rfl)) pa_nil))) (fun _ _ => rfl))))
    pss_nil)
    (pss_cons (ps_if (PW.pt (pw_and (pt_cmpR op_lt (pv 3) (pe_callB (cr_lenK K) (by rfl) T.n_len boot_len (pa_cons (pe_ix (ix_listK K) (pv 0) pe_int (fun _ _ => rfl)) pa_nil)) (nomark _)) (pw_and1 (pt_cmpR op_ge (pe_callB call_abs (by rfl) T.n_abs boot_abs (pa_cons (pv 4) pa_nil)) (pe_op op_pow pe_int pe_int) (nomark _)))))
    (pss_cons (ps_set (i := 5) sc_law_draw.nd rfl (.inl rfl) (pe_op op_add (pe_op op_mul pe_int (pe_op op_sub (pe_callB call_abs (by rfl) T.n_abs boot_abs (pa_cons (pv 4) pa_nil)) (pe_op op_pow pe_int pe_int))) (pe_callTy call_int1 (by rfl) T.n_int boot_int (pa_cons (pe_cmpR op_lt (pv 4) pe_int (nomark _)) pa_nil))))
    (pss_cons (ps_asg (pe_op op_fdivW (pe_callTy call_int1 (by rfl) T.n_int boot_int (pa_cons (pv 5) pa_nil)) (pv 1)) (pg_sub (pv 0) pe_int set_list))
    (pss_one (ps_ret (pe_op op_mod (pe_callTy call_int1 (by rfl) T.n_int boot_int (pa_cons (pv 5) pa_nil)) (pv 1))))))
    pss_nil)
    (pss_cons (ps_set (i := 6) sc_law_draw.nd rfl (.inl rfl) (pe_op op_mod (pe_callTy call_int1 (by rfl) T.n_int boot_int (pa_cons (pe_op op_pow (pe_op op_add (pe_op op_add (pe_op op_mod (pe_callTy call_int1 (by rfl) T.n_int boot_int (pa_cons (pv 4) pa_nil)) pe_int) (pe_op op_mul pe_int (pv 3))) pe_int) pe_int) pa_nil)) pe_int))
    (pss_cons (ps_set (i := 6) sc_law_draw.nd rfl (.inl rfl) (pe_op op_mod (pe_callTy call_int1 (by rfl) T.n_int boot_int (pa_cons (pe_op op_pow (pe_op op_add (pe_op op_add (pe_op op_mulW (pv 6) (pe_op op_add (pe_op op_mul pe_int (pv 3)) pe_int)) (pe_op op_mulW (pe_op op_mul pe_int (pv 3)) (pv 3))) pe_int) pe_int) pa_nil)) pe_int))
    (pss_one (ps_ret (pe_op op_mod (pe_callTy call_int1 (by rfl) T.n_int boot_int (pa_cons (pe_op op_fdivW (pv 6) pe_int) pa_nil)) (pv 1))))))))))))), enter h fun ts O P X h _ => ?_⟩
    try dsimp only [cxOf, Cx.nox, Cx.wish]
    
    obtain ⟨n, p, m, rfl, rfl, hp, hn, h1, h2, k⟩ := h
    obtain ⟨cs, at_, g, rfl, ha, han, hg⟩ := hp
    show WS _ _ _ _ [.own 0, .v (.int m), .no, .no, .no, .no, .no] _
    repeat walk_at "g"
    refine br (fun hgt => ?_) (fun hgt => ?_)
    · repeat walk_at "g"
      exact ⟨rfl, k _ _ ⟨cs, at_, g / m, rfl, ha, by omega, Int.ediv_nonneg hg (by omega)⟩ (Int.emod_nonneg _ (by omega)) (Int.emod_lt_of_pos _ (by omega))⟩
    · repeat walk_at "e"
      walk_at "n"
      walk_at "n"
      walk_at "n"
      refine s_cut (fun ts' O' => ∃ c, ts' = [.own 0, .v (.int m), .no, .v (.int at_), .v (.int c), .no, .no] ∧ O' = [.lst [.lst (nums cs), .int (at_ + 1), .int g]]) ?_ ?_
      · repeat walk_at "g"
        refine w_neD valD_v valD_v pl_numsL pl_nilL ?_
        rw [eqD_nilL]
        refine ⟨_, rfl, nbr (fun hc => ?_) (fun hc => ?_)⟩
        · repeat walk_at "g"
          have hl : (0 : Int) < (nums cs).length := by
            rw [nums_len]
            have := List.length_pos_iff.mpr hc
            omega
          repeat walk_at "g"
          obtain ⟨x, hx, _⟩ := atI_nums (ns := cs) (i := at_ % ((nums cs).length : Int)) (Int.emod_nonneg _ (by omega)) (by rw [← nums_len]; exact Int.emod_lt_of_pos _ hl)
          refine w_ixL lstD_v hx ?_
          exact ⟨_, rfl, rfl⟩
        · repeat walk_at "g"
          exact rfl
      · rintro _ _ ⟨c, rfl, rfl⟩
        refine s_cut (fun ts' O' => ts' = [.own 0, .v (.int m), .no, .v (.int at_), .v (.int c), .no, .no] ∧ O' = [.lst [.lst (nums cs), .int (at_ + 1), .int g]]) ?_ ?_
        · repeat walk_at "e"
          refine br (fun _ => ?_) (fun _ => ff_ ?_)
          · repeat walk_at "e"
            refine br (fun hc => ?_) (fun _ => ?_)
            · repeat walk_at "g"
              have hgr : 0 ≤ 2 * ((if c < 0 then -c else c) - 10 ^ Int.toNat 18) + (if decide (c < 0) = true then 1 else 0) := by
                have e18 : (10 : Int) ^ Int.toNat 18 = 1000000000000000000 := by decide
                rw [e18] at hc ⊢
                split <;> split <;> omega
              exact ⟨rfl, k _ _ ⟨cs, at_ + 1, _, rfl, by omega, by omega, Int.ediv_nonneg hgr (by omega)⟩ (Int.emod_nonneg _ (by omega)) (Int.emod_lt_of_pos _ (by omega))⟩
            · repeat walk_at "e"
              exact ⟨rfl, rfl⟩
          · repeat walk_at "e"
            exact ⟨rfl, rfl⟩
        · rintro _ _ ⟨rfl, rfl⟩
          refine s_cut (fun ts' O' => ∃ x, 0 ≤ x ∧ x < 2147483629 ∧ ts' = [.own 0, .v (.int m), .no, .v (.int at_), .v (.int c), .no, .v (.int x)] ∧ O' = [.lst [.lst (nums cs), .int (at_ + 1), .int g]]) ?_ ?_
          · repeat walk_at "e"
            exact ⟨_, Int.emod_nonneg _ (by decide), Int.emod_lt_of_pos _ (by decide), rfl, rfl⟩
          · rintro _ _ ⟨x, hx0, hx1, rfl, rfl⟩
            have b1 := mulB (x := x) (y := 2 * at_ + 131) hx0 (Int.le_of_lt hx1) (by omega) (show 2 * at_ + 131 ≤ 2000000 + 131 by omega)
            have b2 := mulB (x := 126368 * at_) (y := at_) (by omega) (show 126368 * at_ ≤ 126368 * 1000000 by omega) ha (show at_ ≤ 1000000 by omega)
            refine s_cut (fun ts' O' => ∃ x, 0 ≤ x ∧ x < 2147483549 ∧ ts' = [.own 0, .v (.int m), .no, .v (.int at_), .v (.int c), .no, .v (.int x)] ∧ O' = [.lst [.lst (nums cs), .int (at_ + 1), .int g]]) ?_ ?_
            · repeat walk_at "e"
              exact ⟨_, Int.emod_nonneg _ (by decide), Int.emod_lt_of_pos _ (by decide), rfl, rfl⟩
            · rintro _ _ ⟨y, hy0, hy1, rfl, rfl⟩
              repeat walk_at "e"
              exact ⟨rfl, k _ _ ⟨cs, at_ + 1, g, rfl, by omega, by omega, hg⟩ (Int.emod_nonneg _ (by omega)) (Int.emod_lt_of_pos _ (by omega))⟩
theorem sc_law_pick : FnScope ["_law_pen_here", "_law_some"] ["_law_pen_here", "_law_some"] (defScope (top 37)) := ⟨rfl, rfl, rfl, by decide +kernel, rfl, by decide +kernel, by decide +kernel⟩
theorem ok_law_pick {P : Program} {w : World} {K : PySem.W.Frag} {mg : Str → Option Value} {base : Heap} (T : Tx K mg) (h_law_draw : Fn P w K mg base 1 (He.fAd K ("_law_draw", none)) ["_law_pen_here", "_law_many"] (sp_draw K)) : Fn P w K mg base 2 (He.fAd K ("_law_pick", none)) ["_law_pen_here", "_law_some"] (sp_pick K) := by
  obtain ⟨_, F_law_draw, b_law_draw, kp_law_draw, lk_law_draw⟩ := h_law_draw
  obtain ⟨fd, F⟩ := T.d_law_pick
  refine ⟨fd, F.ok sc_law_pick (lift_len ?_) (fun cdv A outer s H vs Q E hr h => ?_), F.bindsN fun _ _ _ _ _ _ us hl => (match us, hl with | [_, _], _ => rfl), F.kp, lk_of F⟩
  · intro ts O P X h
    exact sp_pick_len h
  · have hu := hr.units
    refine ⟨_, (PSs.nox (pss_one (ps_ret (pe_ix (ix_listK K) (pv 1) (pe_call F_law_draw (hr.mono (by decide)) (by rfl) T.g__law_draw kp_law_draw b_law_draw .nil passL (pa_cons (pv 0) (pa_cons (pe_callB (cr_lenK K) (by rfl) T.n_len boot_len (pa_cons (pv 1) pa_nil)) pa_nil))) (fun _ _ => rfl))))), enter h fun ts O P X h _ => ?_⟩
    try dsimp only [cxOf, Cx.nox, Cx.wish]
    
    obtain ⟨n, p, ds, rfl, rfl, hp, hn, h1, h2, k⟩ := h
    show WS _ _ _ _ [.own 0, .v (.lst ds)] _
    repeat walk_at "g"
    refine u_draw hp hn ?_ ?_ fun p' r hp' h3 h4 => ⟨_, rfl, nno, ?_⟩
    · omega
    · omega
    obtain ⟨d, e1, e2⟩ := atI_pos h3 h4
    refine w_ixL lstD_v e1 ?_
    exact ⟨rfl, k _ _ _ hp' e2⟩
end My

set_option Elab.async false
set_option linter.all false
set_option maxRecDepth 100000
set_option maxHeartbeats 0
namespace My
open PySem PySem.Spec PyProof.Rows L2 G

local macro_rules | `(tactic| walk_at "ws") => `(tactic| first
  | with_reducible refine s_set ?_
  | with_reducible refine s_if ?_
  | refine s_fldaug (by assumption) (by assumption) ?_
  | with_reducible refine s_ret ?_
  | with_reducible refine s_retN ?_
  | with_reducible refine s_drop ?_
  | with_reducible refine s_next ?_
  | with_reducible refine s_par ?_
  | with_reducible refine s_par3 ?_
  | refine s_fldN (by assumption) (by assumption) ?_
  | with_reducible refine s_asg ?_
  | refine s_raise1 ?_
  | refine s_raise2 ?_)
local macro_rules | `(tactic| walk_at "we") => `(tactic| first
  | ((with_reducible refine w_v (d := ?k2) ?k1 ?_); (case k1 => exact rfl))
  | ((with_reducible refine w_o (j := ?k2) ?k1 ?_); (case k1 => exact rfl))
  | ((guard_target = G.WE _ _ (tFld _ _ _) _ _ _ _); (refine w_fldN (by assumption) (by assumption) ?_))
  | ((guard_target = G.WE _ _ (tC (.ref _)) _ _ _ _); (refine w_ctup (by assumption) ?_))
  | with_reducible refine w_ci ?_
  | with_reducible refine w_op ?_
  | with_reducible refine w_call ?_
  | with_reducible refine w_cty ?_
  | with_reducible refine w_cb ?_
  | with_reducible refine w_cn ?_
  | with_reducible refine w_cs ?_
  | with_reducible refine w_cr ?_
  | with_reducible refine w_un ?_
  | with_reducible refine w_andV ?_
  | with_reducible refine w_orV ?_
  | with_reducible refine w_notV ?_
  | with_reducible refine w_ife ?_
  | with_reducible refine w_chain ?_
  | with_reducible refine w_tup ?_
  | with_reducible refine w_revL ?_
  | with_reducible refine w_slL ?_
  | with_reducible refine w_slT ?_
  | (guard_target = G.WE _ _ (tCall (lift _ (sp_draw _)) _ _ _) _ _ _ _; refine w_fn10 0 ?_)
  | (guard_target = G.WE _ _ (tCall (lift _ (sp_pick _)) _ _ _) _ _ _ _; refine w_fn10 0 ?_)
  | (guard_target = G.WE _ _ (tMethX _ _ (lift _ (sp_wx_word _)) _ _ _) _ _ _ _; refine w_methOX 0 ?_)
  | (guard_target = G.WE _ _ (tMethX _ _ (lift _ (sp_wx_number _)) _ _ _) _ _ _ _; refine w_methOX 0 ?_)
  | (guard_target = G.WE _ _ (tMethX _ _ (lift _ (sp_wx_end _)) _ _ _) _ _ _ _; refine w_methOX 0 ?_)
  | (guard_target = G.WE _ _ (tMethX _ _ (lift _ (sp_wx_refuse _)) _ _ _) _ _ _ _; refine w_methOX 0 ?_)
  | (guard_target = G.WE _ _ (tMakeX _ (lift _ (sp_wx_init _)) _ _) _ _ _ _; refine w_makeOX ?_)
  | (guard_target = G.WE _ _ (tCallS (lift _ (sp_rx_coefs _)) _ _) _ _ _ _; refine w_fnOX 0 ?_)
  | (guard_target = G.WE _ _ (tMeth _ _ (lift _ (sp_wx_next _)) _ _ _ _) _ _ _ _; refine w_methO 0 ?_)
  | with_reducible refine w_fn0 ?_
  | with_reducible refine w_fnS0 ?_
  | with_reducible refine w_meth0 ?_
  | with_reducible refine w_make0 ?_
  | with_reducible refine w_bmL ?_
  | with_reducible refine w_bmL0 ?_
  | with_reducible refine w_lst ?_
  | with_reducible refine w_callKX ?_
  | with_reducible refine w_makeKX ?_
  | with_reducible refine w_makeX ?_
  | with_reducible refine w_smethX ?_
  | with_reducible refine w_smethK ?_
  | with_reducible refine w_fnV ?_
  | with_reducible refine w_fnX ?_
  | with_reducible refine w_fnSX ?_
  | with_reducible refine w_methX ?_
  | with_reducible refine w_callX ?_
  | with_reducible refine w_methK ?_
  | with_reducible refine w_callK2 ?_
  | with_reducible refine w_callI ?_
  | with_reducible refine w_prop ?_
  | with_reducible refine w_dic0 ?_
  | with_reducible refine w_jcons ?_
  | with_reducible refine w_jnil ?_
  | with_reducible refine w_join ?_
  | with_reducible refine w_split ?_
  | with_reducible refine w_smeth ?_
  | with_reducible refine w_fnKr ?_)
local macro_rules | `(tactic| walk_at "wt") => `(tactic| first
  | with_reducible refine w_test ?_
  | with_reducible refine w_B ?_
  | with_reducible refine w_and ?_
  | with_reducible refine w_or ?_
  | with_reducible refine w_not ?_)
local macro_rules | `(tactic| walk_at "wa") => `(tactic| first
  | with_reducible refine w_cons ?_
  | with_reducible refine w_nil ?_
  | with_reducible refine w_star ?_)
local macro_rules | `(tactic| walk_at "wr") => `(tactic| first
  | with_reducible refine w_add ?_
  | with_reducible refine w_sub ?_
  | with_reducible refine w_lt ?_
  | with_reducible refine w_le ?_
  | with_reducible refine w_gt ?_
  | with_reducible refine w_ge ?_
  | with_reducible refine w_eqI ?_
  | with_reducible refine w_neI ?_
  | with_reducible refine w_isN ?_
  | with_reducible refine w_notN ?_
  | ((with_reducible refine w_mod ?k1 ?_); (case k1 => first | decide | omega))
  | ((with_reducible refine w_mul ?k1 ?_); (case k1 => first | exact Or.inl ⟨by decide, by decide⟩ | exact Or.inr ⟨by decide, by decide⟩ | exact Or.inl ⟨by omega, by omega⟩ | exact Or.inr ⟨by omega, by omega⟩))
  | ((with_reducible refine w_pow ?k1 ?_); (case k1 => first | exact ⟨by decide, by decide, by decide⟩ | exact ⟨by omega, by omega, by omega⟩))
  | ((with_reducible refine w_fdivW ?k1 ?_); (case k1 => exact divW_ok (by first | decide | omega) (by first | decide | omega)))
  | ((with_reducible refine w_mulW ?k1 ?_); (case k1 => exact mulW_ok ⟨by omega, by omega⟩ ⟨by omega, by omega⟩))
  | ((guard_target = G.WR _ (rIxT _) _ _ _ _); (refine w_ixT (by first | exact atI_0 | exact atI_1 | exact atI_2 | exact atI_3 | exact atI_4 | exact atI_5 | exact atI_6 | assumption) ?_))
  | ((guard_target = G.WR _ (rIxL _) _ _ _ _); (refine w_ixL (by first | exact lstD_v | exact lstD_o rfl) (by first | exact atI_0 | exact atI_1 | exact atI_2 | exact atI_3 | exact atI_4 | exact atI_5 | exact atI_6 | assumption) ?_)))
local macro_rules | `(tactic| walk_at "wc") => `(tactic| first
  | with_reducible refine c_int ?_
  | with_reducible refine c_intB ?_
  | with_reducible refine c_abs ?_
  | ((guard_target = G.WC _ (G.rLen _) _ _ _); (refine c_lenL (by first | exact lstD_v | exact lstD_o rfl) ?_))
  | with_reducible refine c_lenT ?_
  | ((guard_target = G.WC _ (G.rListOf _) _ _ _); (refine c_listL (by first | exact lstD_v | exact lstD_o rfl) ?_))
  | with_reducible refine c_listT ?_
  | ((guard_target = G.WC _ (G.rTupOf _) _ _ _); (refine c_tupL (by first | exact lstD_v | exact lstD_o rfl) ?_))
  | with_reducible refine c_tupT ?_)
local macro_rules | `(tactic| walk_at "e") => `(tactic| first
  | (guard_target = G.WE _ _ _ _ _ _ _; walk_at "we")
  | (guard_target = G.WS _ _ _ _ _ _; walk_at "ws")
  | (guard_target = G.WA _ _ _ _ _ _ _; walk_at "wa")
  | (guard_target = G.WR _ _ _ _ _ _; walk_at "wr")
  | (guard_target = G.WT _ _ _ _ _ _ _; walk_at "wt")
  | (guard_target = G.WC _ _ _ _ _; walk_at "wc")
  | (guard_target = G.WU _ _ _ _ _; with_reducible refine w_neg ?_)
  | (guard_target = G.WG _ _ _ _ _ _ _; first | with_reducible refine g_name ?_ | with_reducible refine g_setL ?_ | refine g_pair rfl ?_ | refine g_trip rfl ?_ | refine g_quad rfl ?_)
  | (guard_target = G.WO _ _ _ _ _ _ _; first | with_reducible refine o_none ?_ | with_reducible refine o_some ?_)
  | with_reducible refine tt_ ?_
  | with_reducible refine ff_ ?_
  | with_reducible refine ntt_ ?_
  | with_reducible refine nff_ ?_
  | ((guard_target = ((!G.isNon _) = true → _) ∧ _); (first | refine bnF rfl ?_ | refine bnT rfl ?_))
  | ((guard_target = (G.isNon _ = true → _) ∧ _); (first | refine bF rfl ?_ | refine bT rfl ?_))
  | (guard_target = Exists _; first
    | refine ⟨_, rfl, rfl, rfl, ?_⟩
    | refine ⟨_, _, _, rfl, rfl, rfl, Nat.le_of_ble_eq_true rfl, ?_⟩
    | refine ⟨_, _, _, rfl, rfl, rfl, ?_⟩
    | refine ⟨_, _, rfl, rfl, Nat.le_of_ble_eq_true rfl, ?_⟩
    | refine ⟨_, rfl, Nat.le_of_ble_eq_true rfl, Nat.le_of_ble_eq_true rfl, ?_⟩
    | refine ⟨_, _, _, _, _, rfl, rfl, rfl, rfl, rfl, ?_⟩
    | refine ⟨_, _, _, rfl, rfl, rfl, Nat.le_of_ble_eq_true rfl, ?_⟩
    | refine ⟨_, _, rfl, rfl, rfl, ?_⟩
    | refine ⟨_, _, _, rfl, ?_⟩
    | refine ⟨_, _, (by first | exact insD_v | exact insD_o rfl), rfl, ?_⟩
    | refine ⟨_, _, rfl, ?_⟩
    | refine ⟨_, rfl, rfl, ?_⟩
    | refine ⟨_, rfl, Nat.le_of_ble_eq_true rfl, ?_⟩
    | refine ⟨_, (by first | exact lstD_v | exact lstD_o rfl), ?_⟩
    | refine ⟨_, rfl, ?_⟩))
local macro_rules | `(tactic| walk_at "o") => `(tactic| first | with_reducible refine w_lstO ?_ | walk_at "e")
local macro_rules | `(tactic| walk_at "g") => `(tactic| first | walk_at "e" | with_reducible refine s_seq ?_)
local macro_rules | `(tactic| walk_at "n") => `(tactic| (with_reducible refine s_seq ?_); (repeat walk_at "e"))
theorem sc_is_written : FnScope ["word", ".0", "sign"] ["word"] (defScope (top 8)) := ⟨rfl, rfl, rfl, by decide +kernel, rfl, by decide +kernel, by decide +kernel⟩
theorem ok_is_written {P : Program} {w : World} {K : PySem.W.Frag} {mg : Str → Option Value} {base : Heap} (T : Tx K mg)  : Fn P w K mg base 1 (He.fAd K ("is_written", none)) ["word"] (sp_wx_written K) := by
  obtain ⟨fd, F⟩ := T.d_is_written
  obtain ⟨_, T_i_MOST_DIGITS⟩ := T.i_MOST_DIGITS_
  refine ⟨fd, F.ok sc_is_written (lift_len ?_) (fun cdv A outer s H vs Q E hr h => ?_), F.bindsN fun _ _ _ _ _ _ us hl => (match us, hl with | [_], _ => rfl), F.kp, lk_of F⟩
  · intro ts O P X h
    exact sp_wx_written_len h
  · have hu := hr.units
    refine ⟨_, (PSs.nox (pss_cons (ps_if (PW.pt (pw_or (pt_not (pt_chain op_le op_le pe_int (pe_callB (cr_lenK K) (by rfl) T.n_len boot_len (pa_cons (pv 0) pa_nil)) (pe_glob (v := .int 40) (by rfl) T_i_MOST_DIGITS ⟨_, rfl⟩))) (pw_or1 (pt_not (pt_val (pe_callB (cr_allK K rfl) (by rfl) T.n_all boot_all (pa_cons (pe_lc (own := [(".0", 1), ("sign", 2)]) rfl sc_is_written.nd (pi_str (pv 0)) (blkOk_by (own := [(".0", 1), ("sign", 2)]) (N := ["word", ".0", "sign"]) (sc := defScope (top 8)) (by decide +kernel)) (fun _ _ _ _ _ => (pg_name (i := 2) sc_is_written.nd rfl (.inl rfl))) (fun _ _ _ _ _ => pts_nil) (fun _ _ _ _ _ => (pe_cmpR op_inSign (pv 2) pe_str (by with_unfolding_all rfl)))) pa_nil)))))))
    (pss_one (ps_ret pe_bl))
    pss_nil)
    (pss_one (ps_ret (pe_or (pe_cmpR op_eq (pv 0) pe_str (nomark _)) (pe_one (pe_cmpR op_ne (pe_ix ix_str (pv 0) pe_int (fun _ _ => rfl)) pe_str (nomark _)))))))), enter h fun ts O P X h _ => ?_⟩
    try dsimp only [cxOf, Cx.nox, Cx.wish]
    
    obtain ⟨w, rfl, rfl, hl, p⟩ := h
    show WS _ _ _ _ [.v (.str w), .no, .no] _
    refine s_cut (fun ts' O' => O' = [] ∧ (decide (1 ≤ w.length) && decide (w.length ≤ 40)) = true ∧ (w.cps.toList.all isD) = true ∧ ∃ a b : G.T, ts' = [.v (.str w), a, b]) ?_ ?_
    · repeat walk_at "e"
      refine c_lenS hl ?_
      repeat walk_at "e"
      by_cases h1 : 1 ≤ w.length
      · rw [decide_eq_true (show (1 : Int) ≤ w.length by omega)]
        repeat walk_at "e"
        by_cases h2 : w.length ≤ 40
        · rw [decide_eq_true (show (w.length : Int) ≤ 40 by omega)]
          repeat walk_at "e"
          refine w_lc1 ?_ (by decide)
          refine i_str ?_
          repeat walk_at "e"
          refine lc_A w.cps.toList (fun c => D.str ⟨#[c]⟩) (fun c => .bl (isD c)) (by have := TL.len_tl w; unfold TL.tl at this; omega) (fun c acc hc => ?_) ?_
          · refine g_name ?_
            repeat walk_at "e"
            refine w_inSign ?_
            exact ⟨rfl, rfl⟩
          have e : (w.cps.toList.map fun c => D.bl (isD c)) = (w.cps.toList.map isD).map D.bl := by rw [List.map_map] <;> rfl
          rw [e]
          repeat walk_at "e"
          refine c_all lstD_v ?_
          rw [List.all_map]
          cases ha : w.cps.toList.all isD
          · have ea : (w.cps.toList.all (id ∘ isD)) = false := ha
            rw [ea]
            have ew : isW w = false := by unfold isW; rw [ha]; simp
            rw [ew] at p
            repeat walk_at "e"
            exact ⟨rfl, p⟩
          · have ea : (w.cps.toList.all (id ∘ isD)) = true := ha
            rw [ea]
            repeat walk_at "e"
            exact ⟨rfl, by rw [decide_eq_true h1, decide_eq_true h2] <;> rfl, rfl, _, _, rfl⟩
        · rw [decide_eq_false (show ¬ (w.length : Int) ≤ 40 by omega)]
          have ew : isW w = false := by unfold isW; rw [decide_eq_false h2]; simp
          rw [ew] at p
          repeat walk_at "e"
          exact ⟨rfl, p⟩
      · rw [decide_eq_false (show ¬ (1 : Int) ≤ w.length by omega)]
        have ew : isW w = false := by unfold isW; rw [decide_eq_false h1]; simp
        rw [ew] at p
        repeat walk_at "e"
        exact ⟨rfl, p⟩
    rintro _ _ ⟨rfl, h12, h3, a, b, rfl⟩
    repeat walk_at "e"
    refine w_eq rfl rfl rfl ?_
    by_cases h0 : w = "0"
    · rw [decide_eq_true (congrArg L2.V.str h0)]
      have ew : isW w = true := by unfold isW; rw [h12, h3, decide_eq_true h0] <;> rfl
      rw [ew] at p
      repeat walk_at "e"
      exact ⟨rfl, p⟩
    · rw [decide_eq_false (fun z => h0 (by injection z))]
      repeat walk_at "e"
      obtain ⟨h1, h2⟩ := He.ba h12
      have h1 := of_decide_eq_true h1
      obtain ⟨c, r, e1⟩ : ∃ c r, w.cps.toList = c :: r := by
        have := TL.len_tl w
        unfold TL.tl at this
        cases q : w.cps.toList with
        | nil =>
          rw [q] at this
          rw [this] at h1
          exact absurd h1 (by decide)
        | cons c r => exact ⟨c, r, rfl⟩
      have e2 : atI w.cps.toList 0 = some c := by
        rw [e1]
        exact atI_0
      refine w_ixS hl e2 ?_
      repeat walk_at "e"
      refine w_ne rfl rfl rfl ?_
      have ec : (decide ((L2.V.str ⟨#[c]⟩ : L2.V) = L2.V.str "0")) = decide (w.cps.toList.head? = some 48) := by
        rw [e1]
        by_cases q : c = 48
        · subst q
          rw [decide_eq_true (by rfl), decide_eq_true (by rfl)]
        · rw [decide_eq_false (fun z => (by
            have z2 : (⟨#[c]⟩ : Str) = "0" := by injection z
            have z3 : [c] = [48] := congrArg (fun s : Str => s.cps.toList) z2
            exact q (by injection z3))), decide_eq_false (show ¬ ((c :: r).head? = some 48) from fun z => q (Option.some.inj z))]
      have ew : isW w = !decide (w.cps.toList.head? = some 48) := by unfold isW; rw [h12, h3, decide_eq_false h0]; simp
      rw [ew] at p
      rw [ec]
      exact ⟨rfl, p⟩
theorem sc_WordsU_initU : FnScope ["self", "line", "text"] ["self", "line", "text"] (defScope (inClass (top 23) 0)) := ⟨rfl, rfl, rfl, by decide +kernel, rfl, by decide +kernel, by decide +kernel⟩
theorem ok_WordsU_initU {P : Program} {w : World} {K : PySem.W.Frag} {mg : Str → Option Value} {base : Heap} (T : Tx K mg) (hx_BadText : FnX P w K mg base 1 (e_BadText.f K) ["self", "line", "word"] (spX2 (He.ga K "BadText") "line" "word")) : Fn P w K mg base 4 (He.fAd K ("Words", some "__init__")) ["self", "line", "text"] (sp_wx_init K) := by
  obtain ⟨_, F_BadText, b_BadText⟩ := hx_BadText
  obtain ⟨fd, F⟩ := T.d_WordsU_initU
  have hc_Words := T.cl_Words
  have hn_Words_line := T.na_Words_line
  have hc_Words := T.cl_Words
  have hn_Words_read_so_far := T.na_Words_read_so_far
  have hc_Words := T.cl_Words
  have hn_Words_words := T.na_Words_words
  refine ⟨fd, F.ok sc_WordsU_initU (lift_len ?_) (fun cdv A outer s H vs Q E hr h => ?_), F.bindsN fun _ _ _ _ _ _ us hl => (match us, hl with | [_, _, _], _ => rfl), F.kp, lk_of F⟩
  · intro ts O P X h
    exact sp_wx_init_len h
  · have hu := hr.units
    refine ⟨_, (pss_cons (ps_if (pt_not (pt_val (pe_callB (call_isiK K) (by rfl) T.n_isinstance boot_isinstance (pa_cons (pv 2) (pa_cons (pe_bltn (v := .ty "str") (by rfl) T.n_str boot_str rfl) pa_nil)))))
    (pss_one (ps_raise rfl (takes_of rfl rfl rfl rfl) (pmk_oex T.ek_BadText.k.oex T.ek_BadText.iC T.ek_BadText.tI F_BadText (hr.mono (by decide)) b_BadText .nil passL (by rfl) T.g_BadText (pa_cons (pv 1) (pa_cons pe_int pa_nil)))))
    pss_nil)
    (pss_cons (ps_fld (pv 0) (pv 1) rfl)
    (pss_cons (ps_fld (pv 0) (pe_splitK (pv 2) pe_str) rfl)
    (pss_one (ps_fld (pv 0) pe_int rfl))))), enter h fun ts O P X h _ => ?_⟩
    try dsimp only [cxOf, Cx.nox, Cx.wish]
    
    obtain ⟨d, rfl, rfl, h⟩ := h
    show WS _ _ _ _ [.own 0, .v (.int 0), .v d] _
    walk_at "n"
    rcases h with ⟨t, rfl, hl, p⟩ | ⟨⟨t, ht, h1⟩, q⟩
    · refine c_isi (.str _) (.ty _) (kit_ty (b := "str") (r := true) (by decide +kernel)) ?_
      repeat walk_at "g"
      refine ⟨hl, ?_⟩
      repeat walk_at "g"
      exact ⟨rfl, p⟩
    · refine c_isi ht (.ty _) h1 ?_
      repeat walk_at "e"
      exact q _ ⟨_, rfl⟩
theorem sc_Words_next_word : FnScope ["self"] ["self"] (defScope (inClass (top 23) 1)) := ⟨rfl, rfl, rfl, by decide +kernel, rfl, by decide +kernel, by decide +kernel⟩
theorem ok_Words_next_word {P : Program} {w : World} {K : PySem.W.Frag} {mg : Str → Option Value} {base : Heap} (T : Tx K mg)  : Fn P w K mg base 1 (He.fAd K ("Words", some "next_word")) ["self"] (sp_wx_next K) := by
  obtain ⟨fd, F⟩ := T.d_Words_next_word
  have hc_Words := T.cl_Words
  have hn_Words_read_so_far := T.na_Words_read_so_far
  have hc_Words := T.cl_Words
  have hn_Words_words := T.na_Words_words
  refine ⟨fd, F.ok sc_Words_next_word (lift_len ?_) (fun cdv A outer s H vs Q E hr h => ?_), F.bindsN fun _ _ _ _ _ _ us hl => (match us, hl with | [_], _ => rfl), F.kp, lk_of F⟩
  · intro ts O P X h
    exact sp_wx_next_len h
  · have hu := hr.units
    refine ⟨_, (PSs.nox (pss_one (ps_ret (pe_ifExp (pt_cmpR op_lt (pe_fldK K (pv 0)) (pe_callB (cr_lenK K) (by rfl) T.n_len boot_len (pa_cons (pe_fldK K (pv 0)) pa_nil)) (nomark _)) (pe_ix (ix_listK K) (pe_fldK K (pv 0)) (pe_fldK K (pv 0)) (fun _ _ => rfl)) pe_non)))), enter h fun ts O P X h _ => ?_⟩
    try dsimp only [cxOf, Cx.nox, Cx.wish]
    
    obtain ⟨ws, k, rfl, rfl, p⟩ := h
    show WS _ _ _ [.ins (He.ga K "Words") (wd ws k)] [.own 0] _
    repeat walk_at "e"
    rw [List.length_map]
    refine br (fun h0 => ?_) (fun h0 => ?_)
    · have hk : k < ws.length := by omega
      rw [List.getElem?_eq_getElem hk] at p
      repeat walk_at "e"
      refine w_ixL lstD_v (atI_nat (j := k) (by rw [List.getElem?_map, List.getElem?_eq_getElem hk] <;> rfl)) ?_
      exact ⟨rfl, p⟩
    · rw [List.getElem?_eq_none (by omega)] at p
      repeat walk_at "e"
      exact ⟨rfl, p⟩
theorem sc_Words_refuse : FnScope ["self"] ["self"] (defScope (inClass (top 23) 2)) := ⟨rfl, rfl, rfl, by decide +kernel, rfl, by decide +kernel, by decide +kernel⟩
theorem ok_Words_refuse {P : Program} {w : World} {K : PySem.W.Frag} {mg : Str → Option Value} {base : Heap} (T : Tx K mg) (hx_BadText : FnX P w K mg base 1 (e_BadText.f K) ["self", "line", "word"] (spX2 (He.ga K "BadText") "line" "word")) : Fn P w K mg base 4 (He.fAd K ("Words", some "refuse")) ["self"] (sp_wx_refuse K) := by
  obtain ⟨_, F_BadText, b_BadText⟩ := hx_BadText
  obtain ⟨fd, F⟩ := T.d_Words_refuse
  have hc_Words := T.cl_Words
  have hn_Words_line := T.na_Words_line
  have hc_Words := T.cl_Words
  have hn_Words_read_so_far := T.na_Words_read_so_far
  refine ⟨fd, F.ok sc_Words_refuse (lift_len ?_) (fun cdv A outer s H vs Q E hr h => ?_), F.bindsN fun _ _ _ _ _ _ us hl => (match us, hl with | [_], _ => rfl), F.kp, lk_of F⟩
  · intro ts O P X h
    exact sp_wx_refuse_len h
  · have hu := hr.units
    refine ⟨_, (pss_cons (ps_raise rfl (takes_of rfl rfl rfl rfl) (pmk_oex T.ek_BadText.k.oex T.ek_BadText.iC T.ek_BadText.tI F_BadText (hr.mono (by decide)) b_BadText .nil passL (by rfl) T.g_BadText (pa_cons (pe_fldK K (pv 0)) (pa_cons (pe_fldK K (pv 0)) pa_nil)))) pss_nil), enter h fun ts O P X h _ => ?_⟩
    try dsimp only [cxOf, Cx.nox, Cx.wish]
    
    obtain ⟨ws, k, rfl, rfl, q⟩ := h
    show WS _ _ _ [.ins (He.ga K "Words") (wd ws k)] [.own 0] _
    refine s_seq ?_
    repeat walk_at "e"
    exact q
theorem sc_Words_take_word : FnScope ["self", "menu", "found"] ["self", "menu"] (defScope (inClass (top 23) 3)) := ⟨rfl, rfl, rfl, by decide +kernel, rfl, by decide +kernel, by decide +kernel⟩
theorem ok_Words_take_word {P : Program} {w : World} {K : PySem.W.Frag} {mg : Str → Option Value} {base : Heap} (T : Tx K mg) (h_Words_next_word : Fn P w K mg base 1 (He.fAd K ("Words", some "next_word")) ["self"] (sp_wx_next K)) (h_Words_refuse : Fn P w K mg base 4 (He.fAd K ("Words", some "refuse")) ["self"] (sp_wx_refuse K)) : Fn P w K mg base 5 (He.fAd K ("Words", some "take_word")) ["self", "menu"] (sp_wx_word K) := by
  obtain ⟨_, F_Words_next_word, b_Words_next_word, kp_Words_next_word, lk_Words_next_word⟩ := h_Words_next_word
  obtain ⟨_, F_Words_refuse, b_Words_refuse, kp_Words_refuse, lk_Words_refuse⟩ := h_Words_refuse
  obtain ⟨fd, F⟩ := T.d_Words_take_word
  have hc_Words := T.cl_Words
  have hn_Words_read_so_far := T.na_Words_read_so_far
  refine ⟨fd, F.ok sc_Words_take_word (lift_len ?_) (fun cdv A outer s H vs Q E hr h => ?_), F.bindsN fun _ _ _ _ _ _ us hl => (match us, hl with | [_, _], _ => rfl), F.kp, lk_of F⟩
  · intro ts O P X h
    exact sp_wx_word_len h
  · have hu := hr.units
    refine ⟨_, (pss_cons (ps_set (i := 2) sc_Words_take_word.nd rfl (.inl rfl) (pe_meth0 (pv 0) T.cl_Words T.me_Words_next_word F_Words_next_word (hr.mono (by decide)) b_Words_next_word .nil passL))
    (pss_cons (ps_if (PW.pt (pw_or (pt_cmpR op_isN1 (pv 2) pe_non (nomark _)) (pw_or1 (pt_cmpR (op_notInK K) (pv 2) (pv 1) (by with_unfolding_all rfl)))))
    (pss_one (ps_expr (pe_methX0 (pv 0) T.cl_Words T.me_Words_refuse (rOf F_Words_refuse b_Words_refuse) (hr.mono (by decide)) (fun σ => passAt (takes_of rfl rfl rfl rfl) σ))))
    pss_nil)
    (pss_cons (ps_fldaug (pv 0) pe_int in_add)
    (pss_one (ps_ret (pv 2)))))), enter h fun ts O P X h _ => ?_⟩
    try dsimp only [cxOf, Cx.nox, Cx.wish]
    
    obtain ⟨ws, k, menu, rfl, rfl, h⟩ := h
    show WS _ _ _ [.ins (He.ga K "Words") (wd ws k)] [.own 0, .v (.tup (menu.map D.str)), .no] _
    walk_at "n"
    refine ⟨ws, k, rfl, rfl, ⟨_, rfl, rfl, ?_⟩⟩
    rcases h with ⟨w, hw, hm, p⟩ | ⟨hn, q⟩
    · rw [hw]
      walk_at "n"
      refine w_inT ?_
      rw [if_pos rfl, hm]
      repeat walk_at "e"
      walk_at "n"
      exact ⟨rfl, p⟩
    · cases hw : ws[k]? with
      | none =>
        walk_at "n"
        exact ⟨ws, k, rfl, rfl, _, rfl, rfl, q⟩
      | some w =>
        walk_at "n"
        refine w_inT ?_
        rw [if_pos rfl, hn w hw]
        repeat walk_at "e"
        exact ⟨ws, k, rfl, rfl, _, rfl, rfl, q⟩
theorem sc_Words_take_number : FnScope ["self", "least", "most", "found"] ["self", "least", "most"] (defScope (inClass (top 23) 4)) := ⟨rfl, rfl, rfl, by decide +kernel, rfl, by decide +kernel, by decide +kernel⟩
theorem ok_Words_take_number {P : Program} {w : World} {K : PySem.W.Frag} {mg : Str → Option Value} {base : Heap} (T : Tx K mg) (h_Words_next_word : Fn P w K mg base 1 (He.fAd K ("Words", some "next_word")) ["self"] (sp_wx_next K)) (h_is_written : Fn P w K mg base 1 (He.fAd K ("is_written", none)) ["word"] (sp_wx_written K)) (h_Words_refuse : Fn P w K mg base 4 (He.fAd K ("Words", some "refuse")) ["self"] (sp_wx_refuse K)) : Fn P w K mg base 5 (He.fAd K ("Words", some "take_number")) ["self", "least", "most"] (sp_wx_number K) := by
  obtain ⟨_, F_Words_next_word, b_Words_next_word, kp_Words_next_word, lk_Words_next_word⟩ := h_Words_next_word
  obtain ⟨_, F_is_written, b_is_written, kp_is_written, lk_is_written⟩ := h_is_written
  obtain ⟨_, F_Words_refuse, b_Words_refuse, kp_Words_refuse, lk_Words_refuse⟩ := h_Words_refuse
  obtain ⟨fd, F⟩ := T.d_Words_take_number
  have hc_Words := T.cl_Words
  have hn_Words_read_so_far := T.na_Words_read_so_far
  refine ⟨fd, F.ok sc_Words_take_number (lift_len ?_) (fun cdv A outer s H vs Q E hr h => ?_), F.bindsN fun _ _ _ _ _ _ us hl => (match us, hl with | [_, _, _], _ => rfl), F.kp, lk_of F⟩
  · intro ts O P X h
    exact sp_wx_number_len h
  · have hu := hr.units
    refine ⟨_, (pss_cons (ps_set (i := 3) sc_Words_take_number.nd rfl (.inl rfl) (pe_meth0 (pv 0) T.cl_Words T.me_Words_next_word F_Words_next_word (hr.mono (by decide)) b_Words_next_word .nil passL))
    (pss_cons (ps_if (PW.pt (pw_or (pt_cmpR op_isN1 (pv 3) pe_non (nomark _)) (pw_or (pt_not (pt_val (pe_call F_is_written (hr.mono (by decide)) (by rfl) T.g_is_written kp_is_written b_is_written .nil passL (pa_cons (pv 3) pa_nil)))) (pw_or1 (pt_not (pt_chain op_le op_le (pv 1) (pe_callTy call_intS (by rfl) T.n_int boot_int (pa_cons (pv 3) pa_nil)) (pv 2)))))))
    (pss_one (ps_expr (pe_methX0 (pv 0) T.cl_Words T.me_Words_refuse (rOf F_Words_refuse b_Words_refuse) (hr.mono (by decide)) (fun σ => passAt (takes_of rfl rfl rfl rfl) σ))))
    pss_nil)
    (pss_cons (ps_fldaug (pv 0) pe_int in_add)
    (pss_one (ps_ret (pe_callTy call_intS (by rfl) T.n_int boot_int (pa_cons (pv 3) pa_nil))))))), enter h fun ts O P X h _ => ?_⟩
    try dsimp only [cxOf, Cx.nox, Cx.wish]
    
    obtain ⟨ws, k, lo, hi, rfl, rfl, hws, h⟩ := h
    show WS _ _ _ [.ins (He.ga K "Words") (wd ws k)] [.own 0, .v (.int lo), .v (.int hi), .no] _
    walk_at "n"
    refine ⟨ws, k, rfl, rfl, ⟨_, rfl, rfl, ?_⟩⟩
    cases hw : ws[k]? with
    | none =>
      rcases h with ⟨n, hn, p⟩ | ⟨hn, q⟩
      · rw [hw] at hn
        cases hn
      · walk_at "n"
        exact ⟨ws, k, rfl, rfl, _, rfl, rfl, q⟩
    | some w =>
      have hwl := hws w (List.mem_of_getElem? hw)
      rw [hw] at h
      walk_at "n"
      cases hnum : wdNum w with
      | none =>
        have en : numAt (some w) lo hi = none := by
          unfold numAt
          simp only [hnum]
        rcases h with ⟨n, hn, p⟩ | ⟨hn, q⟩
        · rw [en] at hn
          cases hn
        · refine ⟨w, rfl, rfl, hwl, ⟨⟨_, rfl⟩, ?_⟩⟩
          rw [wdNum_none hnum]
          repeat walk_at "e"
          exact ⟨ws, k, rfl, rfl, _, rfl, rfl, q⟩
      | some n =>
        obtain ⟨rfl, hn40⟩ := wdNum_some hnum
        obtain ⟨l1, l2⟩ := numS_len hn40
        refine ⟨numS n, rfl, rfl, hwl, ⟨⟨_, rfl⟩, ?_⟩⟩
        rw [isW_of hn40]
        repeat walk_at "e"
        refine c_intS (numS_int hn40) (Nat.le_trans l1 (by decide)) ?_
        repeat walk_at "e"
        by_cases hlo : lo ≤ (n : Int)
        · rw [decide_eq_true hlo]
          repeat walk_at "e"
          by_cases hhi : (n : Int) ≤ hi
          · rw [decide_eq_true hhi]
            have en : numAt (some (numS n)) lo hi = some n := by
              unfold numAt
              simp only [hnum]
              rw [if_pos ⟨hlo, hhi⟩]
            rcases h with ⟨n', hn, p⟩ | ⟨hn, q⟩
            · rw [en] at hn
              cases hn
              repeat walk_at "e"
              walk_at "n"
              refine c_intS (numS_int hn40) (Nat.le_trans l1 (by decide)) ?_
              exact ⟨rfl, p⟩
            · rw [en] at hn
              cases hn
          · rw [decide_eq_false hhi]
            have en : numAt (some (numS n)) lo hi = none := by
              unfold numAt
              simp only [hnum]
              rw [if_neg (fun z => hhi z.2)]
            rcases h with ⟨n', hn, p⟩ | ⟨hn, q⟩
            · rw [en] at hn
              cases hn
            · repeat walk_at "e"
              exact ⟨ws, k, rfl, rfl, _, rfl, rfl, q⟩
        · rw [decide_eq_false hlo]
          have en : numAt (some (numS n)) lo hi = none := by
            unfold numAt
            simp only [hnum]
            rw [if_neg (fun z => hlo z.1)]
          rcases h with ⟨n', hn, p⟩ | ⟨hn, q⟩
          · rw [en] at hn
            cases hn
          · repeat walk_at "e"
            exact ⟨ws, k, rfl, rfl, _, rfl, rfl, q⟩
theorem sc_Words_take_end : FnScope ["self"] ["self"] (defScope (inClass (top 23) 7)) := ⟨rfl, rfl, rfl, by decide +kernel, rfl, by decide +kernel, by decide +kernel⟩
theorem ok_Words_take_end {P : Program} {w : World} {K : PySem.W.Frag} {mg : Str → Option Value} {base : Heap} (T : Tx K mg) (h_Words_next_word : Fn P w K mg base 1 (He.fAd K ("Words", some "next_word")) ["self"] (sp_wx_next K)) (h_Words_refuse : Fn P w K mg base 4 (He.fAd K ("Words", some "refuse")) ["self"] (sp_wx_refuse K)) : Fn P w K mg base 5 (He.fAd K ("Words", some "take_end")) ["self"] (sp_wx_end K) := by
  obtain ⟨_, F_Words_next_word, b_Words_next_word, kp_Words_next_word, lk_Words_next_word⟩ := h_Words_next_word
  obtain ⟨_, F_Words_refuse, b_Words_refuse, kp_Words_refuse, lk_Words_refuse⟩ := h_Words_refuse
  obtain ⟨fd, F⟩ := T.d_Words_take_end
  refine ⟨fd, F.ok sc_Words_take_end (lift_len ?_) (fun cdv A outer s H vs Q E hr h => ?_), F.bindsN fun _ _ _ _ _ _ us hl => (match us, hl with | [_], _ => rfl), F.kp, lk_of F⟩
  · intro ts O P X h
    exact sp_wx_end_len h
  · have hu := hr.units
    refine ⟨_, (pss_one (ps_if (pt_cmpR op_notN1 (pe_meth0 (pv 0) T.cl_Words T.me_Words_next_word F_Words_next_word (hr.mono (by decide)) b_Words_next_word .nil passL) pe_non (nomark _))
    (pss_one (ps_expr (pe_methX0 (pv 0) T.cl_Words T.me_Words_refuse (rOf F_Words_refuse b_Words_refuse) (hr.mono (by decide)) (fun σ => passAt (takes_of rfl rfl rfl rfl) σ))))
    pss_nil)), enter h fun ts O P X h _ => ?_⟩
    try dsimp only [cxOf, Cx.nox, Cx.wish]
    
    obtain ⟨ws, k, rfl, rfl, h⟩ := h
    show WS _ _ _ [.ins (He.ga K "Words") (wd ws k)] [.own 0] _
    repeat walk_at "e"
    refine ⟨ws, k, rfl, rfl, ⟨_, rfl, rfl, ?_⟩⟩
    rcases h with ⟨hk, p⟩ | ⟨hk, q⟩
    · rw [List.getElem?_eq_none hk]
      repeat walk_at "e"
      exact ⟨rfl, p⟩
    · rw [List.getElem?_eq_getElem hk]
      repeat walk_at "e"
      exact ⟨ws, k, rfl, rfl, _, rfl, rfl, q⟩
end My

set_option Elab.async false
set_option linter.all false
set_option maxRecDepth 100000
set_option maxHeartbeats 0
namespace My
open PySem PySem.Spec PyProof.Rows L2 G

local macro_rules | `(tactic| walk_at "ws") => `(tactic| first
  | with_reducible refine s_set ?_
  | with_reducible refine s_if ?_
  | refine s_fldaug (by assumption) (by assumption) ?_
  | with_reducible refine s_ret ?_
  | with_reducible refine s_retN ?_
  | with_reducible refine s_drop ?_
  | with_reducible refine s_next ?_
  | with_reducible refine s_par ?_
  | with_reducible refine s_par3 ?_
  | refine s_fldN (by assumption) (by assumption) ?_
  | with_reducible refine s_asg ?_
  | refine s_raise1 ?_
  | refine s_raise2 ?_)
local macro_rules | `(tactic| walk_at "we") => `(tactic| first
  | ((with_reducible refine w_v (d := ?k2) ?k1 ?_); (case k1 => exact rfl))
  | ((with_reducible refine w_o (j := ?k2) ?k1 ?_); (case k1 => exact rfl))
  | ((guard_target = G.WE _ _ (tFld _ _ _) _ _ _ _); (refine w_fldN (by assumption) (by assumption) ?_))
  | ((guard_target = G.WE _ _ (tC (.ref _)) _ _ _ _); (refine w_ctup (by assumption) ?_))
  | with_reducible refine w_ci ?_
  | with_reducible refine w_op ?_
  | with_reducible refine w_call ?_
  | with_reducible refine w_cty ?_
  | with_reducible refine w_cb ?_
  | with_reducible refine w_cn ?_
  | with_reducible refine w_cs ?_
  | with_reducible refine w_cr ?_
  | with_reducible refine w_un ?_
  | with_reducible refine w_andV ?_
  | with_reducible refine w_orV ?_
  | with_reducible refine w_notV ?_
  | with_reducible refine w_ife ?_
  | with_reducible refine w_chain ?_
  | with_reducible refine w_tup ?_
  | with_reducible refine w_revL ?_
  | with_reducible refine w_slL ?_
  | with_reducible refine w_slT ?_
  | (guard_target = G.WE _ _ (tCall (lift _ (sp_draw _)) _ _ _) _ _ _ _; refine w_fn10 0 ?_)
  | (guard_target = G.WE _ _ (tCall (lift _ (sp_pick _)) _ _ _) _ _ _ _; refine w_fn10 0 ?_)
  | (guard_target = G.WE _ _ (tMethX _ _ (lift _ (sp_wx_word _)) _ _ _) _ _ _ _; refine w_methOX 0 ?_)
  | (guard_target = G.WE _ _ (tMethX _ _ (lift _ (sp_wx_number _)) _ _ _) _ _ _ _; refine w_methOX 0 ?_)
  | (guard_target = G.WE _ _ (tMethX _ _ (lift _ (sp_wx_end _)) _ _ _) _ _ _ _; refine w_methOX 0 ?_)
  | (guard_target = G.WE _ _ (tMethX _ _ (lift _ (sp_wx_refuse _)) _ _ _) _ _ _ _; refine w_methOX 0 ?_)
  | (guard_target = G.WE _ _ (tMakeX _ (lift _ (sp_wx_init _)) _ _) _ _ _ _; refine w_makeOX ?_)
  | (guard_target = G.WE _ _ (tCallS (lift _ (sp_rx_coefs _)) _ _) _ _ _ _; refine w_fnOX 0 ?_)
  | (guard_target = G.WE _ _ (tMeth _ _ (lift _ (sp_wx_next _)) _ _ _ _) _ _ _ _; refine w_methO 0 ?_)
  | with_reducible refine w_fn0 ?_
  | with_reducible refine w_fnS0 ?_
  | with_reducible refine w_meth0 ?_
  | with_reducible refine w_make0 ?_
  | with_reducible refine w_bmL ?_
  | with_reducible refine w_bmL0 ?_
  | with_reducible refine w_lst ?_
  | with_reducible refine w_callKX ?_
  | with_reducible refine w_makeKX ?_
  | with_reducible refine w_makeX ?_
  | with_reducible refine w_smethX ?_
  | with_reducible refine w_smethK ?_
  | with_reducible refine w_fnV ?_
  | with_reducible refine w_fnX ?_
  | with_reducible refine w_fnSX ?_
  | with_reducible refine w_methX ?_
  | with_reducible refine w_callX ?_
  | with_reducible refine w_methK ?_
  | with_reducible refine w_callK2 ?_
  | with_reducible refine w_callI ?_
  | with_reducible refine w_prop ?_
  | with_reducible refine w_dic0 ?_
  | with_reducible refine w_jcons ?_
  | with_reducible refine w_jnil ?_
  | with_reducible refine w_join ?_
  | with_reducible refine w_split ?_
  | with_reducible refine w_smeth ?_
  | with_reducible refine w_fnKr ?_)
local macro_rules | `(tactic| walk_at "wt") => `(tactic| first
  | with_reducible refine w_test ?_
  | with_reducible refine w_B ?_
  | with_reducible refine w_and ?_
  | with_reducible refine w_or ?_
  | with_reducible refine w_not ?_)
local macro_rules | `(tactic| walk_at "wa") => `(tactic| first
  | with_reducible refine w_cons ?_
  | with_reducible refine w_nil ?_
  | with_reducible refine w_star ?_)
local macro_rules | `(tactic| walk_at "wr") => `(tactic| first
  | with_reducible refine w_add ?_
  | with_reducible refine w_sub ?_
  | with_reducible refine w_lt ?_
  | with_reducible refine w_le ?_
  | with_reducible refine w_gt ?_
  | with_reducible refine w_ge ?_
  | with_reducible refine w_eqI ?_
  | with_reducible refine w_neI ?_
  | with_reducible refine w_isN ?_
  | with_reducible refine w_notN ?_
  | ((with_reducible refine w_mod ?k1 ?_); (case k1 => first | decide | omega))
  | ((with_reducible refine w_mul ?k1 ?_); (case k1 => first | exact Or.inl ⟨by decide, by decide⟩ | exact Or.inr ⟨by decide, by decide⟩ | exact Or.inl ⟨by omega, by omega⟩ | exact Or.inr ⟨by omega, by omega⟩))
  | ((with_reducible refine w_pow ?k1 ?_); (case k1 => first | exact ⟨by decide, by decide, by decide⟩ | exact ⟨by omega, by omega, by omega⟩))
  | ((with_reducible refine w_fdivW ?k1 ?_); (case k1 => exact divW_ok (by first | decide | omega) (by first | decide | omega)))
  | ((with_reducible refine w_mulW ?k1 ?_); (case k1 => exact mulW_ok ⟨by omega, by omega⟩ ⟨by omega, by omega⟩))
  | ((guard_target = G.WR _ (rIxT _) _ _ _ _); (refine w_ixT (by first | exact atI_0 | exact atI_1 | exact atI_2 | exact atI_3 | exact atI_4 | exact atI_5 | exact atI_6 | assumption) ?_))
  | ((guard_target = G.WR _ (rIxL _) _ _ _ _); (refine w_ixL (by first | exact lstD_v | exact lstD_o rfl) (by first | exact atI_0 | exact atI_1 | exact atI_2 | exact atI_3 | exact atI_4 | exact atI_5 | exact atI_6 | assumption) ?_)))
local macro_rules | `(tactic| walk_at "wc") => `(tactic| first
  | with_reducible refine c_int ?_
  | with_reducible refine c_intB ?_
  | with_reducible refine c_abs ?_
  | ((guard_target = G.WC _ (G.rLen _) _ _ _); (refine c_lenL (by first | exact lstD_v | exact lstD_o rfl) ?_))
  | with_reducible refine c_lenT ?_
  | ((guard_target = G.WC _ (G.rListOf _) _ _ _); (refine c_listL (by first | exact lstD_v | exact lstD_o rfl) ?_))
  | with_reducible refine c_listT ?_
  | ((guard_target = G.WC _ (G.rTupOf _) _ _ _); (refine c_tupL (by first | exact lstD_v | exact lstD_o rfl) ?_))
  | with_reducible refine c_tupT ?_)
local macro_rules | `(tactic| walk_at "e") => `(tactic| first
  | (guard_target = G.WE _ _ _ _ _ _ _; walk_at "we")
  | (guard_target = G.WS _ _ _ _ _ _; walk_at "ws")
  | (guard_target = G.WA _ _ _ _ _ _ _; walk_at "wa")
  | (guard_target = G.WR _ _ _ _ _ _; walk_at "wr")
  | (guard_target = G.WT _ _ _ _ _ _ _; walk_at "wt")
  | (guard_target = G.WC _ _ _ _ _; walk_at "wc")
  | (guard_target = G.WU _ _ _ _ _; with_reducible refine w_neg ?_)
  | (guard_target = G.WG _ _ _ _ _ _ _; first | with_reducible refine g_name ?_ | with_reducible refine g_setL ?_ | refine g_pair rfl ?_ | refine g_trip rfl ?_ | refine g_quad rfl ?_)
  | (guard_target = G.WO _ _ _ _ _ _ _; first | with_reducible refine o_none ?_ | with_reducible refine o_some ?_)
  | with_reducible refine tt_ ?_
  | with_reducible refine ff_ ?_
  | with_reducible refine ntt_ ?_
  | with_reducible refine nff_ ?_
  | ((guard_target = ((!G.isNon _) = true → _) ∧ _); (first | refine bnF rfl ?_ | refine bnT rfl ?_))
  | ((guard_target = (G.isNon _ = true → _) ∧ _); (first | refine bF rfl ?_ | refine bT rfl ?_))
  | (guard_target = Exists _; first
    | refine ⟨_, rfl, rfl, rfl, ?_⟩
    | refine ⟨_, _, _, rfl, rfl, rfl, Nat.le_of_ble_eq_true rfl, ?_⟩
    | refine ⟨_, _, _, rfl, rfl, rfl, ?_⟩
    | refine ⟨_, _, rfl, rfl, Nat.le_of_ble_eq_true rfl, ?_⟩
    | refine ⟨_, rfl, Nat.le_of_ble_eq_true rfl, Nat.le_of_ble_eq_true rfl, ?_⟩
    | refine ⟨_, _, _, _, _, rfl, rfl, rfl, rfl, rfl, ?_⟩
    | refine ⟨_, _, _, rfl, rfl, rfl, Nat.le_of_ble_eq_true rfl, ?_⟩
    | refine ⟨_, _, rfl, rfl, rfl, ?_⟩
    | refine ⟨_, _, _, rfl, ?_⟩
    | refine ⟨_, _, (by first | exact insD_v | exact insD_o rfl), rfl, ?_⟩
    | refine ⟨_, _, rfl, ?_⟩
    | refine ⟨_, rfl, rfl, ?_⟩
    | refine ⟨_, rfl, Nat.le_of_ble_eq_true rfl, ?_⟩
    | refine ⟨_, (by first | exact lstD_v | exact lstD_o rfl), ?_⟩
    | refine ⟨_, rfl, ?_⟩))
local macro_rules | `(tactic| walk_at "o") => `(tactic| first | with_reducible refine w_lstO ?_ | walk_at "e")
local macro_rules | `(tactic| walk_at "g") => `(tactic| first | walk_at "e" | with_reducible refine s_seq ?_)
local macro_rules | `(tactic| walk_at "n") => `(tactic| (with_reducible refine s_seq ?_); (repeat walk_at "e"))
theorem sc_trimmed : FnScope ["modulus", "numbers", "found", ".0", "number"] ["modulus", "numbers"] (defScope (top 26)) := ⟨rfl, rfl, rfl, by decide +kernel, rfl, by decide +kernel, by decide +kernel⟩
theorem ok_trimmed {P : Program} {w : World} {K : PySem.W.Frag} {mg : Str → Option Value} {base : Heap} (T : Tx K mg)  : Fn P w K mg base 1 (He.fAd K ("trimmed", none)) ["modulus", "numbers"] (sp_s_trimmed K) := by
  obtain ⟨fd, F⟩ := T.d_trimmed
  refine ⟨fd, F.ok sc_trimmed (lift_len ?_) (fun cdv A outer s H vs Q E hr h => ?_), F.bindsN fun _ _ _ _ _ _ us hl => (match us, hl with | [_, _], _ => rfl), F.kp, lk_of F⟩
  · intro ts O P X h
    exact sp_s_trimmed_len h
  · have hu := hr.units
    refine ⟨_, (PSs.nox (pss_cons (ps_setLc (i := 2) (own := [(".0", 3), ("number", 4)]) rfl sc_trimmed.nd rfl rfl (sw_true rfl rfl rfl (by decide +kernel)) (pi_tupK K (pv 1)) (blkOk_by (own := [(".0", 3), ("number", 4)]) (N := ["modulus", "numbers", "found", ".0", "number"]) (sc := defScope (top 26)) (by decide +kernel)) (fun _ _ _ _ _ => (pg_name (i := 4) sc_trimmed.nd rfl (.inl rfl))) (fun _ _ _ _ _ => pts_nil) (fun _ _ _ _ _ => (pe_op op_mod (pv 4) (pv 0))))
    (pss_cons (ps_while PassesOwn.never (PW.pt (pw_and (pt_cmpR (op_neDK K hu) (pv 2) (pe_lst pa_nil) (nomark _)) (pw_and1 (pt_cmpR op_eq (pe_ix (ix_listK K) (pv 2) (pe_un un_neg pe_int) (fun _ _ => rfl)) pe_int (nomark _)))))
    (pss_one (ps_expr (pe_bm0 PySem.F.plainAttrs_list PySem.F.slot_list_pop PySem.F.type_list_pop mt_pop (pv 2)))))
    (pss_one (ps_ret (pe_callTy (cr_tupK K) (by rfl) T.n_tuple boot_tuple (pa_cons (pv 2) pa_nil))))))), enter h fun ts O P X h _ => ?_⟩
    try dsimp only [cxOf, Cx.nox, Cx.wish]
    
    obtain ⟨m, xs, rfl, rfl, hm, hl, p⟩ := h
    show WS _ _ _ _ [.v (.int m), .v (.tup (nums xs)), .no, .no, .no] _
    refine s_seq ?_
    repeat walk_at "e"
    refine w_lcO1 ?_ (by decide)
    refine i_tup ?_
    repeat walk_at "e"
    refine lcO_A xs D.int (fun x => .int (x % m)) (by omega) (fun x acc hx => ?_) ?_
    · refine g_name ?_
      repeat walk_at "e"
      exact ⟨rfl, rfl⟩
    repeat walk_at "e"
    refine s_seq ?_
    refine s_while (fun n ts' O' => ∃ ys : List Int, n = ys.length ∧ O' = [.lst (nums ys)] ∧ ts' = [.v (.int m), .v (.tup (nums xs)), .own 0, .no, .no] ∧ cut ys = tr m xs ∧ ys.length ≤ 100) (xs.map (· % m)).length ⟨xs.map (· % m), rfl, (by unfold nums; rw [List.map_map]; rfl), rfl, rfl, (by rw [List.length_map]; exact hl)⟩ ?_
    rintro n _ _ ⟨ys, rfl, rfl, rfl, hc, hl2⟩
    repeat walk_at "e"
    refine w_neD (valD_o (by exact rfl)) valD_v pl_numsL pl_nilL ?_
    rw [eqD_nilL]
    refine ⟨_, rfl, nbr (fun hn => ?_) (fun hn => ?_)⟩
    · obtain ⟨zs, z, rfl⟩ : ∃ zs z, ys = zs ++ [z] := ⟨_, _, (List.dropLast_concat_getLast hn).symm⟩
      repeat walk_at "e"
      refine w_ixL (lstD_o (by exact rfl)) atI_m1n ?_
      repeat walk_at "e"
      refine br (fun hz => ?_) (fun hz => ?_)
      · subst hz
        rw [List.length_append, List.length_singleton] at hl2 ⊢
        repeat walk_at "e"
        refine m_pop (by exact rfl) nums_last ?_
        repeat walk_at "e"
        exact ⟨zs.length, Nat.lt_succ_self _, zs, rfl, by rw [nums_pop] <;> rfl, rfl, by rw [← hc, My.cut_snoc0], by omega⟩
      · rw [My.cut_snoc hz] at hc
        rw [hc]
        refine s_frz 0 rfl rfl ?_
        repeat walk_at "e"
        exact ⟨rfl, p⟩
    · subst hn
      have hc : [] = tr m xs := hc
      rw [hc]
      refine ff_ ?_
      refine s_frz 0 rfl rfl ?_
      repeat walk_at "e"
      exact ⟨rfl, p⟩
theorem sc_SumU_initU : FnScope ["self", "modulus", "coefs", "value"] ["self", "modulus", "coefs"] (defScope (inClass (top 33) 1)) := ⟨rfl, rfl, rfl, by decide +kernel, rfl, by decide +kernel, by decide +kernel⟩
theorem ok_SumU_initU {P : Program} {w : World} {K : PySem.W.Frag} {mg : Str → Option Value} {base : Heap} (T : Tx K mg) (h_fits_modulus : Fn P w K mg base 3 (He.fAd K ("fits_modulus", none)) ["value"] (sp_fits_modulus K)) (h_is_integer : Fn P w K mg base 1 (He.fAd K ("is_integer", none)) ["value"] (sp_is_integer K)) (h_trimmed : Fn P w K mg base 1 (He.fAd K ("trimmed", none)) ["modulus", "numbers"] (sp_s_trimmed K)) : FnS P w K mg base 4 (He.fAd K ("Sum", some "__init__")) 2 (sp_s_init K) := by
  obtain ⟨_, F_fits_modulus, b_fits_modulus, kp_fits_modulus, lk_fits_modulus⟩ := h_fits_modulus
  obtain ⟨_, F_is_integer, b_is_integer, kp_is_integer, lk_is_integer⟩ := h_is_integer
  obtain ⟨_, F_trimmed, b_trimmed, kp_trimmed, lk_trimmed⟩ := h_trimmed
  obtain ⟨fd, F⟩ := T.d_SumU_initU
  obtain ⟨_, T_i_MOST_COEFS⟩ := T.i_MOST_COEFS_
  have hc_Sum := T.cl_Sum
  have hn_Sum_coefs := T.na_Sum_coefs
  have hc_Sum := T.cl_Sum
  have hn_Sum_modulus := T.na_Sum_modulus
  refine fnS (ps := ["self", "modulus"]) F sc_SumU_initU (fun _ _ _ _ _ _ us rest hl => match us, rest, hl with | [a0, a1], [], _ => rfl | [a0, a1], _ :: _, _ => rfl) (fun cdv A outer s H vs Q E hr h => ?_)
  have hu := hr.units
  refine ⟨_, (PSs.nox (pss_cons (ps_if (pt_not (pt_val (pe_call F_fits_modulus (hr.mono (by decide)) (by rfl) T.g_fits_modulus kp_fits_modulus b_fits_modulus .nil passL (pa_cons (pv 1) pa_nil))))
    (pss_one ps_never)
    pss_nil)
    (pss_cons (ps_for PassesOwn.never rfl (pi_tupK K (pv 2)) (pg_name (i := 3) sc_SumU_initU.nd rfl (.inl rfl))
    (pss_one (ps_if (pt_not (pt_val (pe_call F_is_integer (hr.mono (by decide)) (by rfl) T.g_is_integer kp_is_integer b_is_integer .nil passL (pa_cons (pv 3) pa_nil))))
    (pss_one ps_never)
    pss_nil)))
    (pss_cons (ps_if (pt_cmpR op_gt (pe_callB (cr_lenK K) (by rfl) T.n_len boot_len (pa_cons (pv 2) pa_nil)) (pe_glob (v := .int 13) (by rfl) T_i_MOST_COEFS ⟨_, rfl⟩) (nomark _))
    (pss_one ps_never)
    pss_nil)
    (pss_cons (ps_fld (pv 0) (pv 1) rfl)
    (pss_one (ps_fld (pv 0) (pe_call F_trimmed (hr.mono (by decide)) (by rfl) T.g_trimmed kp_trimmed b_trimmed .nil passL (pa_cons (pv 1) (pa_cons (pv 2) pa_nil))) rfl))))))), enter h fun ts O P X h _ => ?_⟩
  try dsimp only [cxOf, Cx.nox, Cx.wish]
  
  obtain ⟨m, xs, rfl, rfl, h1, h2, hl, p⟩ := h
  show WS _ _ _ _ [.own 0, .v (.int m), .v (.tup (nums xs)), .no] _
  walk_at "n"
  refine u_fits_modulus (btw_int h1 h2) ⟨⟨_, rfl⟩, ?_⟩
  repeat walk_at "e"
  refine s_seq ?_
  refine s_forE ?_
  refine i_tup ?_
  repeat walk_at "e"
  refine for_N (fun i ts' O' => ∃ a : G.T, O' = [.ins (He.ga K "Sum") []] ∧ ts' = [.own 0, .v (.int m), .v (.tup (nums xs)), a]) ⟨_, rfl, rfl⟩ ?_ ?_
  · rintro i r _ _ hi er ⟨a, rfl, rfl⟩
    refine g_name ?_
    repeat walk_at "e"
    refine u_is_integer intQ_int ⟨⟨_, rfl⟩, ?_⟩
    repeat walk_at "e"
    exact ⟨_, rfl, rfl⟩
  · rintro _ _ ⟨a, rfl, rfl⟩
    walk_at "n"
    rw [nums_len]
    refine brF (by omega) ?_
    repeat walk_at "g"
    refine ⟨m, xs, rfl, rfl, h1, by omega, ⟨⟨_, rfl⟩, ?_⟩⟩
    repeat walk_at "e"
    exact ⟨rfl, p⟩
theorem sc_SumU_eqU : FnScope ["self", "other"] ["self", "other"] (defScope (inClass (top 33) 27)) := ⟨rfl, rfl, rfl, by decide +kernel, rfl, by decide +kernel, by decide +kernel⟩
theorem ok_SumU_eqU {P : Program} {w : World} {K : PySem.W.Frag} {mg : Str → Option Value} {base : Heap} (T : Tx K mg)  : Fn P w K mg base 1 (He.fAd K ("Sum", some "__eq__")) ["self", "other"] (sp_s_eq K) := by
  obtain ⟨fd, F⟩ := T.d_SumU_eqU
  have hc_Sum := T.cl_Sum
  have hn_Sum_coefs := T.na_Sum_coefs
  have hc_Sum := T.cl_Sum
  have hn_Sum_modulus := T.na_Sum_modulus
  refine ⟨fd, F.ok sc_SumU_eqU (lift_len ?_) (fun cdv A outer s H vs Q E hr h => ?_), F.bindsN fun _ _ _ _ _ _ us hl => (match us, hl with | [_, _], _ => rfl), F.kp, lk_of F⟩
  · intro ts O P X h
    exact sp_s_eq_len h
  · have hu := hr.units
    refine ⟨_, (PSs.nox (pss_one (ps_ret (pe_and (pe_callB (call_isiK K) (by rfl) T.n_isinstance boot_isinstance (pa_cons (pv 1) (pa_cons (pe_glob (v := .ref (He.ga K "Sum")) (by rfl) T.g_Sum rfl) pa_nil))) (pe_and (pe_cmpR op_eq (pe_fldK K (pv 0)) (pe_fldK K (pv 1)) (nomark _)) (pe_one (pe_cmpR (op_eqDK K hu) (pe_fldK K (pv 0)) (pe_fldK K (pv 1)) (nomark _)))))))), enter h fun ts O P X h _ => ?_⟩
    try dsimp only [cxOf, Cx.nox, Cx.wish]
    
    obtain ⟨m, cs, m2, ds, rfl, rfl, p⟩ := h
    show WS _ _ _ _ [.v (sumD K m cs), .v (sumD K m2 ds)] _
    repeat walk_at "e"
    refine c_isi (.ins _ _ T.it_Sum) (.own _) T.kit_Sum_Sum ?_
    repeat walk_at "e"
    refine br (fun e => ?_) (fun e => ?_)
    · repeat walk_at "e"
      refine w_eqD valD_v valD_v pl_numsT pl_numsT ?_
      rw [eqD_numsT]
      rw [decide_eq_true e, Bool.true_and] at p
      exact ⟨rfl, p⟩
    · rw [decide_eq_false e, Bool.false_and] at p
      exact ⟨rfl, p⟩
theorem sc_SumU_strU : FnScope ["self", "rows", ".0", "coef"] ["self"] (defScope (inClass (top 33) 28)) := ⟨rfl, rfl, rfl, by decide +kernel, rfl, by decide +kernel, by decide +kernel⟩
theorem ok_SumU_strU {P : Program} {w : World} {K : PySem.W.Frag} {mg : Str → Option Value} {base : Heap} (T : Tx K mg)  : Fn P w K mg base 1 (He.fAd K ("Sum", some "__str__")) ["self"] (sp_s_str K) := by
  obtain ⟨fd, F⟩ := T.d_SumU_strU
  have hc_Sum := T.cl_Sum
  have hn_Sum_coefs := T.na_Sum_coefs
  have hc_Sum := T.cl_Sum
  have hn_Sum_modulus := T.na_Sum_modulus
  refine ⟨fd, F.ok sc_SumU_strU (lift_len ?_) (fun cdv A outer s H vs Q E hr h => ?_), F.bindsN fun _ _ _ _ _ _ us hl => (match us, hl with | [_], _ => rfl), F.kp, lk_of F⟩
  · intro ts O P X h
    exact sp_s_str_len h
  · have hu := hr.units
    refine ⟨_, (PSs.nox (pss_cons (ps_set (i := 1) sc_SumU_strU.nd rfl (.inl rfl) (pe_ifExp (pt_cmpR op_gt (pe_callB (cr_lenK K) (by rfl) T.n_len boot_len (pa_cons (pe_fldK K (pv 0)) pa_nil)) pe_int (nomark _)) (pe_lc (own := [(".0", 2), ("coef", 3)]) rfl sc_SumU_strU.nd (pi_tupK K (pe_fldK K (pv 0))) (blkOk_by (own := [(".0", 2), ("coef", 3)]) (N := ["self", "rows", ".0", "coef"]) (sc := defScope (inClass (top 33) 28)) (by decide +kernel)) (fun _ _ _ _ _ => (pg_name (i := 3) sc_SumU_strU.nd rfl (.inl rfl))) (fun _ _ _ _ _ => pts_nil) (fun _ _ _ _ _ => (pe_callTy call_str_int (by rfl) T.n_str boot_str (pa_cons (pv 3) pa_nil)))) (pe_lst (pa_cons pe_str pa_nil))))
    (pss_one (ps_ret (pe_join2 (.cons pe_str (.cons (pe_fmt (pe_fldK K (pv 0))) (.cons pe_str (.cons (pe_fmt (pe_joinK K pe_str (pv 1))) .nil))))))))), enter h fun ts O P X h _ => ?_⟩
    try dsimp only [cxOf, Cx.nox, Cx.wish]
    
    obtain ⟨m, cs, rfl, rfl, ok, p⟩ := h
    have okl := ok.len
    have ok2 := ok.most
    have ok1 := ok.two
    have sm : ∀ c ∈ cs, Sm c := fun c hc => Nat.lt_of_lt_of_le (ok.sml c hc) (Nat.pow_le_pow_right (by decide) (by decide))
    have smm : Sm m := by unfold Sm; omega
    show WS _ _ _ _ [.v (sumD K m cs), .no, .no, .no] _
    refine s_cut (fun ts' O' => O' = [] ∧ ∃ a b : G.T, ts' = [.v (sumD K m cs), .v (.lst ((sumRows cs).map D.str)), a, b]) ?_ ?_
    · repeat walk_at "e"
      rw [nums_len]
      refine br (fun h0 => ?_) (fun h0 => ?_)
      · repeat walk_at "e"
        refine w_lc1 ?_ (by decide)
        refine i_tup ?_
        repeat walk_at "e"
        refine lc_A cs D.int (fun c => .str (toString c)) (by omega) (fun x acc hx => ?_) ?_
        · refine g_name ?_
          repeat walk_at "e"
          refine c_strI (sm_1920 (sm x hx)) ?_
          exact ⟨rfl, rfl⟩
        have hne : cs ≠ [] := fun z => by rw [z] at h0; exact absurd h0 (by decide)
        have e : (cs.map fun c => D.str (Str.ofString (toString c))) = (sumRows cs).map D.str := by
          unfold sumRows
          rw [if_neg hne, List.map_map]
          rfl
        exact ⟨rfl, _, _, by rw [← e] <;> rfl⟩
      · repeat walk_at "e"
        have h00 : cs = [] := List.length_eq_zero_iff.mp (by omega)
        subst h00
        exact ⟨rfl, _, _, rfl⟩
    rintro _ _ ⟨rfl, a, b, rfl⟩
    obtain ⟨r1, r2⟩ := sumRows_len sm okl
    have t1 := text_len smm
    have j1 := join_le (" " : Str) (sumRows cs)
    have e1 : (" " : Str).length = 1 := by decide
    have e7 : ("modulo " : Str).length = 7 := by decide
    have e3 : (" : " : Str).length = 3 := by decide
    have e0 : Str.empty.length = 0 := by decide
    rw [e1] at j1
    repeat walk_at "e"
    refine w_fmtI ?_
    repeat walk_at "e"
    refine ⟨sm_1920 smm, ?_⟩
    refine ⟨_, rfl, by rw [Str.length_append, Str.length_append, e0, e7, sizeLine_eq]; omega, ?_⟩
    repeat walk_at "e"
    refine ⟨by rw [Str.length_append, Str.length_append, Str.length_append, e0, e7, e3, sizeLine_eq]; omega, ?_⟩
    repeat walk_at "e"
    refine w_fmtS ?_
    repeat walk_at "e"
    refine ⟨by rw [e1]; omega, ?_⟩
    refine ⟨_, rfl, by rw [sizeLine_eq]; omega, ?_⟩
    refine ⟨_, rfl, by rw [Str.length_append, Str.length_append, Str.length_append, Str.length_append, e0, e7, e3, sizeLine_eq]; omega, ?_⟩
    repeat walk_at "e"
    exact ⟨rfl, p⟩
end My

set_option Elab.async false
set_option linter.all false
set_option maxRecDepth 100000
set_option maxHeartbeats 0
namespace My
open PySem PySem.Spec PyProof.Rows L2 G

local macro_rules | `(tactic| walk_at "ws") => `(tactic| first
  | with_reducible refine s_set ?_
  | with_reducible refine s_if ?_
  | refine s_fldaug (by assumption) (by assumption) ?_
  | with_reducible refine s_ret ?_
  | with_reducible refine s_retN ?_
  | with_reducible refine s_drop ?_
  | with_reducible refine s_next ?_
  | with_reducible refine s_par ?_
  | with_reducible refine s_par3 ?_
  | refine s_fldN (by assumption) (by assumption) ?_
  | with_reducible refine s_asg ?_
  | refine s_raise1 ?_
  | refine s_raise2 ?_)
local macro_rules | `(tactic| walk_at "we") => `(tactic| first
  | ((with_reducible refine w_v (d := ?k2) ?k1 ?_); (case k1 => exact rfl))
  | ((with_reducible refine w_o (j := ?k2) ?k1 ?_); (case k1 => exact rfl))
  | ((guard_target = G.WE _ _ (tFld _ _ _) _ _ _ _); (refine w_fldN (by assumption) (by assumption) ?_))
  | ((guard_target = G.WE _ _ (tC (.ref _)) _ _ _ _); (refine w_ctup (by assumption) ?_))
  | with_reducible refine w_ci ?_
  | with_reducible refine w_op ?_
  | with_reducible refine w_call ?_
  | with_reducible refine w_cty ?_
  | with_reducible refine w_cb ?_
  | with_reducible refine w_cn ?_
  | with_reducible refine w_cs ?_
  | with_reducible refine w_cr ?_
  | with_reducible refine w_un ?_
  | with_reducible refine w_andV ?_
  | with_reducible refine w_orV ?_
  | with_reducible refine w_notV ?_
  | with_reducible refine w_ife ?_
  | with_reducible refine w_chain ?_
  | with_reducible refine w_tup ?_
  | with_reducible refine w_revL ?_
  | with_reducible refine w_slL ?_
  | with_reducible refine w_slT ?_
  | (guard_target = G.WE _ _ (tCall (lift _ (sp_draw _)) _ _ _) _ _ _ _; refine w_fn10 0 ?_)
  | (guard_target = G.WE _ _ (tCall (lift _ (sp_pick _)) _ _ _) _ _ _ _; refine w_fn10 0 ?_)
  | (guard_target = G.WE _ _ (tMethX _ _ (lift _ (sp_wx_word _)) _ _ _) _ _ _ _; refine w_methOX 0 ?_)
  | (guard_target = G.WE _ _ (tMethX _ _ (lift _ (sp_wx_number _)) _ _ _) _ _ _ _; refine w_methOX 0 ?_)
  | (guard_target = G.WE _ _ (tMethX _ _ (lift _ (sp_wx_end _)) _ _ _) _ _ _ _; refine w_methOX 0 ?_)
  | (guard_target = G.WE _ _ (tMethX _ _ (lift _ (sp_wx_refuse _)) _ _ _) _ _ _ _; refine w_methOX 0 ?_)
  | (guard_target = G.WE _ _ (tMakeX _ (lift _ (sp_wx_init _)) _ _) _ _ _ _; refine w_makeOX ?_)
  | (guard_target = G.WE _ _ (tCallS (lift _ (sp_rx_coefs _)) _ _) _ _ _ _; refine w_fnOX 0 ?_)
  | (guard_target = G.WE _ _ (tMeth _ _ (lift _ (sp_wx_next _)) _ _ _ _) _ _ _ _; refine w_methO 0 ?_)
  | with_reducible refine w_fn0 ?_
  | with_reducible refine w_fnS0 ?_
  | with_reducible refine w_meth0 ?_
  | with_reducible refine w_make0 ?_
  | with_reducible refine w_bmL ?_
  | with_reducible refine w_bmL0 ?_
  | with_reducible refine w_lst ?_
  | with_reducible refine w_callKX ?_
  | with_reducible refine w_makeKX ?_
  | with_reducible refine w_makeX ?_
  | with_reducible refine w_smethX ?_
  | with_reducible refine w_smethK ?_
  | with_reducible refine w_fnV ?_
  | with_reducible refine w_fnX ?_
  | with_reducible refine w_fnSX ?_
  | with_reducible refine w_methX ?_
  | with_reducible refine w_callX ?_
  | with_reducible refine w_methK ?_
  | with_reducible refine w_callK2 ?_
  | with_reducible refine w_callI ?_
  | with_reducible refine w_prop ?_
  | with_reducible refine w_dic0 ?_
  | with_reducible refine w_jcons ?_
  | with_reducible refine w_jnil ?_
  | with_reducible refine w_join ?_
  | with_reducible refine w_split ?_
  | with_reducible refine w_smeth ?_
  | with_reducible refine w_fnKr ?_)
local macro_rules | `(tactic| walk_at "wt") => `(tactic| first
  | with_reducible refine w_test ?_
  | with_reducible refine w_B ?_
  | with_reducible refine w_and ?_
  | with_reducible refine w_or ?_
  | with_reducible refine w_not ?_)
local macro_rules | `(tactic| walk_at "wa") => `(tactic| first
  | with_reducible refine w_cons ?_
  | with_reducible refine w_nil ?_
  | with_reducible refine w_star ?_)
local macro_rules | `(tactic| walk_at "wr") => `(tactic| first
  | with_reducible refine w_add ?_
  | with_reducible refine w_sub ?_
  | with_reducible refine w_lt ?_
  | with_reducible refine w_le ?_
  | with_reducible refine w_gt ?_
  | with_reducible refine w_ge ?_
  | with_reducible refine w_eqI ?_
  | with_reducible refine w_neI ?_
  | with_reducible refine w_isN ?_
  | with_reducible refine w_notN ?_
  | ((with_reducible refine w_mod ?k1 ?_); (case k1 => first | decide | omega))
  | ((with_reducible refine w_mul ?k1 ?_); (case k1 => first | exact Or.inl ⟨by decide, by decide⟩ | exact Or.inr ⟨by decide, by decide⟩ | exact Or.inl ⟨by omega, by omega⟩ | exact Or.inr ⟨by omega, by omega⟩))
  | ((with_reducible refine w_pow ?k1 ?_); (case k1 => first | exact ⟨by decide, by decide, by decide⟩ | exact ⟨by omega, by omega, by omega⟩))
  | ((with_reducible refine w_fdivW ?k1 ?_); (case k1 => exact divW_ok (by first | decide | omega) (by first | decide | omega)))
  | ((with_reducible refine w_mulW ?k1 ?_); (case k1 => exact mulW_ok ⟨by omega, by omega⟩ ⟨by omega, by omega⟩))
  | ((guard_target = G.WR _ (rIxT _) _ _ _ _); (refine w_ixT (by first | exact atI_0 | exact atI_1 | exact atI_2 | exact atI_3 | exact atI_4 | exact atI_5 | exact atI_6 | assumption) ?_))
  | ((guard_target = G.WR _ (rIxL _) _ _ _ _); (refine w_ixL (by first | exact lstD_v | exact lstD_o rfl) (by first | exact atI_0 | exact atI_1 | exact atI_2 | exact atI_3 | exact atI_4 | exact atI_5 | exact atI_6 | assumption) ?_)))
local macro_rules | `(tactic| walk_at "wc") => `(tactic| first
  | with_reducible refine c_int ?_
  | with_reducible refine c_intB ?_
  | with_reducible refine c_abs ?_
  | ((guard_target = G.WC _ (G.rLen _) _ _ _); (refine c_lenL (by first | exact lstD_v | exact lstD_o rfl) ?_))
  | with_reducible refine c_lenT ?_
  | ((guard_target = G.WC _ (G.rListOf _) _ _ _); (refine c_listL (by first | exact lstD_v | exact lstD_o rfl) ?_))
  | with_reducible refine c_listT ?_
  | ((guard_target = G.WC _ (G.rTupOf _) _ _ _); (refine c_tupL (by first | exact lstD_v | exact lstD_o rfl) ?_))
  | with_reducible refine c_tupT ?_)
local macro_rules | `(tactic| walk_at "e") => `(tactic| first
  | (guard_target = G.WE _ _ _ _ _ _ _; walk_at "we")
  | (guard_target = G.WS _ _ _ _ _ _; walk_at "ws")
  | (guard_target = G.WA _ _ _ _ _ _ _; walk_at "wa")
  | (guard_target = G.WR _ _ _ _ _ _; walk_at "wr")
  | (guard_target = G.WT _ _ _ _ _ _ _; walk_at "wt")
  | (guard_target = G.WC _ _ _ _ _; walk_at "wc")
  | (guard_target = G.WU _ _ _ _ _; with_reducible refine w_neg ?_)
  | (guard_target = G.WG _ _ _ _ _ _ _; first | with_reducible refine g_name ?_ | with_reducible refine g_setL ?_ | refine g_pair rfl ?_ | refine g_trip rfl ?_ | refine g_quad rfl ?_)
  | (guard_target = G.WO _ _ _ _ _ _ _; first | with_reducible refine o_none ?_ | with_reducible refine o_some ?_)
  | with_reducible refine tt_ ?_
  | with_reducible refine ff_ ?_
  | with_reducible refine ntt_ ?_
  | with_reducible refine nff_ ?_
  | ((guard_target = ((!G.isNon _) = true → _) ∧ _); (first | refine bnF rfl ?_ | refine bnT rfl ?_))
  | ((guard_target = (G.isNon _ = true → _) ∧ _); (first | refine bF rfl ?_ | refine bT rfl ?_))
  | (guard_target = Exists _; first
    | refine ⟨_, rfl, rfl, rfl, ?_⟩
    | refine ⟨_, _, _, rfl, rfl, rfl, Nat.le_of_ble_eq_true rfl, ?_⟩
    | refine ⟨_, _, _, rfl, rfl, rfl, ?_⟩
    | refine ⟨_, _, rfl, rfl, Nat.le_of_ble_eq_true rfl, ?_⟩
    | refine ⟨_, rfl, Nat.le_of_ble_eq_true rfl, Nat.le_of_ble_eq_true rfl, ?_⟩
    | refine ⟨_, _, _, _, _, rfl, rfl, rfl, rfl, rfl, ?_⟩
    | refine ⟨_, _, _, rfl, rfl, rfl, Nat.le_of_ble_eq_true rfl, ?_⟩
    | refine ⟨_, _, rfl, rfl, rfl, ?_⟩
    | refine ⟨_, _, _, rfl, ?_⟩
    | refine ⟨_, _, (by first | exact insD_v | exact insD_o rfl), rfl, ?_⟩
    | refine ⟨_, _, rfl, ?_⟩
    | refine ⟨_, rfl, rfl, ?_⟩
    | refine ⟨_, rfl, Nat.le_of_ble_eq_true rfl, ?_⟩
    | refine ⟨_, (by first | exact lstD_v | exact lstD_o rfl), ?_⟩
    | refine ⟨_, rfl, ?_⟩))
local macro_rules | `(tactic| walk_at "o") => `(tactic| first | with_reducible refine w_lstO ?_ | walk_at "e")
local macro_rules | `(tactic| walk_at "g") => `(tactic| first | walk_at "e" | with_reducible refine s_seq ?_)
local macro_rules | `(tactic| walk_at "n") => `(tactic| (with_reducible refine s_seq ?_); (repeat walk_at "e"))
theorem sc_coefs_read : FnScope ["words", "modulus", "found"] ["words", "modulus"] (defScope (top 31)) := ⟨rfl, rfl, rfl, by decide +kernel, rfl, by decide +kernel, by decide +kernel⟩
theorem ok_coefs_read {P : Program} {w : World} {K : PySem.W.Frag} {mg : Str → Option Value} {base : Heap} (T : Tx K mg) (h_Words_take_number : Fn P w K mg base 5 (He.fAd K ("Words", some "take_number")) ["self", "least", "most"] (sp_wx_number K)) (h_Words_next_word : Fn P w K mg base 1 (He.fAd K ("Words", some "next_word")) ["self"] (sp_wx_next K)) (h_Words_take_end : Fn P w K mg base 5 (He.fAd K ("Words", some "take_end")) ["self"] (sp_wx_end K)) (h_Words_refuse : Fn P w K mg base 4 (He.fAd K ("Words", some "refuse")) ["self"] (sp_wx_refuse K)) : Fn P w K mg base 6 (He.fAd K ("coefs_read", none)) ["words", "modulus"] (sp_rx_coefs K) := by
  obtain ⟨_, F_Words_take_number, b_Words_take_number, kp_Words_take_number, lk_Words_take_number⟩ := h_Words_take_number
  obtain ⟨_, F_Words_next_word, b_Words_next_word, kp_Words_next_word, lk_Words_next_word⟩ := h_Words_next_word
  obtain ⟨_, F_Words_take_end, b_Words_take_end, kp_Words_take_end, lk_Words_take_end⟩ := h_Words_take_end
  obtain ⟨_, F_Words_refuse, b_Words_refuse, kp_Words_refuse, lk_Words_refuse⟩ := h_Words_refuse
  obtain ⟨fd, F⟩ := T.d_coefs_read
  obtain ⟨_, T_i_MOST_COEFS⟩ := T.i_MOST_COEFS_
  refine ⟨fd, F.ok sc_coefs_read (lift_len ?_) (fun cdv A outer s H vs Q E hr h => ?_), F.bindsN fun _ _ _ _ _ _ us hl => (match us, hl with | [_, _], _ => rfl), F.kp, lk_of F⟩
  · intro ts O P X h
    exact sp_rx_coefs_len h
  · have hu := hr.units
    refine ⟨_, (pss_cons (ps_set (i := 2) sc_coefs_read.nd rfl (.inl rfl) (pe_lst (pa_cons (pe_methX (pv 0) T.cl_Words T.me_Words_take_number (rOf F_Words_take_number b_Words_take_number) (hr.mono (by decide)) (fun σ => passAt (takes_of rfl rfl rfl rfl) σ) (pa_cons pe_int (pa_cons (pe_op op_sub (pv 1) pe_int) pa_nil))) pa_nil)))
    (pss_cons (ps_while (passes_of rfl) (PW.pt (pw_and (pt_cmpR op_lt (pe_callB (cr_lenK K) (by rfl) T.n_len boot_len (pa_cons (pv 2) pa_nil)) (pe_glob (v := .int 13) (by rfl) T_i_MOST_COEFS ⟨_, rfl⟩) (nomark _)) (pw_and1 (pt_cmpR op_notN1 (pe_meth0 (pv 0) T.cl_Words T.me_Words_next_word F_Words_next_word (hr.mono (by decide)) b_Words_next_word .nil passL) pe_non (nomark _)))))
    (pss_one (ps_expr (pe_bm PySem.F.plainAttrs_list PySem.F.slot_list_append PySem.F.type_list_append mt_append (pv 2) (pa_cons (pe_methX (pv 0) T.cl_Words T.me_Words_take_number (rOf F_Words_take_number b_Words_take_number) (hr.mono (by decide)) (fun σ => passAt (takes_of rfl rfl rfl rfl) σ) (pa_cons pe_int (pa_cons (pe_op op_sub (pv 1) pe_int) pa_nil))) pa_nil)))))
    (pss_cons (ps_expr (pe_methX0 (pv 0) T.cl_Words T.me_Words_take_end (rOf F_Words_take_end b_Words_take_end) (hr.mono (by decide)) (fun σ => passAt (takes_of rfl rfl rfl rfl) σ)))
    (pss_cons (ps_if (PW.pt (pw_and (pt_cmpR op_gt (pe_callB (cr_lenK K) (by rfl) T.n_len boot_len (pa_cons (pv 2) pa_nil)) pe_int (nomark _)) (pw_and1 (pt_cmpR op_eq (pe_ix (ix_listK K) (pv 2) (pe_un un_neg pe_int) (fun _ _ => rfl)) pe_int (nomark _)))))
    (pss_one (ps_expr (pe_methX0 (pv 0) T.cl_Words T.me_Words_refuse (rOf F_Words_refuse b_Words_refuse) (hr.mono (by decide)) (fun σ => passAt (takes_of rfl rfl rfl rfl) σ))))
    pss_nil)
    (pss_one (ps_ret (pv 2))))))), enter h fun ts O P X h _ => ?_⟩
    try dsimp only [cxOf, Cx.nox, Cx.wish]
    
    obtain ⟨ws, m, rfl, rfl, hws, m1, m2, h⟩ := h
    show WS _ _ _ [wdO K ws 3] [.own 0, .v (.int m), .no] _
    refine s_seq ?_
    refine s_set ?_
    refine w_lstO ?_
    repeat walk_at "e"
    cases e3 : cAt ws m 3 with
    | none =>
      have es : cscan ws m = .error 3 := by
        unfold cscan
        rw [e3]
      rcases h with ⟨k, hk, q⟩ | ⟨ns, hn, p⟩
      · rw [es] at hk
        cases hk
        exact ⟨ws, 3, 0, m - 1, rfl, rfl, hws, .inr ⟨e3, _, rfl, rfl, q 3⟩⟩
      · rw [es] at hn
        cases hn
    | some n0 =>
      have es : cscan ws m = cgo ws m 12 4 [n0] := by
        unfold cscan
        rw [e3]
      refine ⟨ws, 3, 0, m - 1, rfl, rfl, hws, .inl ⟨n0, e3, _, rfl, rfl, ?_⟩⟩
      repeat walk_at "e"
      refine s_cut (fun ts' O' => ∃ xs : List Nat, 1 ≤ xs.length ∧ xs.length ≤ 13 ∧ O' = [wdO K ws (3 + xs.length), .lst (nums (zs xs))] ∧ ts' = [.own 0, .v (.int m), .own 1] ∧ cscan ws m = cfin ws (3 + xs.length) xs) ?_ ?_
      · refine s_while (fun j ts' O' => ∃ xs : List Nat, 1 ≤ xs.length ∧ j + xs.length = 13 ∧ O' = [wdO K ws (3 + xs.length), .lst (nums (zs xs))] ∧ ts' = [.own 0, .v (.int m), .own 1] ∧ cscan ws m = cgo ws m j (3 + xs.length) xs) 12 ⟨[n0], Nat.le_refl 1, rfl, rfl, rfl, es⟩ ?_
        rintro j _ _ ⟨xs, x1, x2, rfl, rfl, hs⟩
        repeat walk_at "e"
        rw [nums_len, zs_len]
        cases j with
        | zero =>
          rw [decide_eq_false (show ¬ ((xs.length : Nat) : Int) < 13 by omega)]
          repeat walk_at "e"
          exact ⟨xs, x1, by omega, rfl, rfl, hs⟩
        | succ j =>
          rw [decide_eq_true (show ((xs.length : Nat) : Int) < 13 by omega)]
          repeat walk_at "e"
          refine ⟨ws, 3 + xs.length, rfl, rfl, ⟨_, rfl, rfl, ?_⟩⟩
          by_cases hk : 3 + xs.length < ws.length
          · rw [List.getElem?_eq_getElem hk]
            repeat walk_at "e"
            have hs2 : cscan ws m = (match cAt ws m (3 + xs.length) with
              | none => .error (3 + xs.length)
              | some n => cgo ws m j (3 + xs.length + 1) (xs ++ [n])) := by
              rw [hs]
              show (if 3 + xs.length < ws.length then _ else _) = _
              rw [if_pos hk] <;> rfl
            cases e : cAt ws m (3 + xs.length) with
            | none =>
              rw [e] at hs2
              rcases h with ⟨k, hk2, q⟩ | ⟨ns, hn, p⟩
              · rw [hs2] at hk2
                cases hk2
                exact ⟨ws, 3 + xs.length, 0, m - 1, rfl, rfl, hws, .inr ⟨e, _, rfl, rfl, q _⟩⟩
              · rw [hs2] at hn
                cases hn
            | some n =>
              rw [e] at hs2
              refine ⟨ws, 3 + xs.length, 0, m - 1, rfl, rfl, hws, .inl ⟨n, e, _, rfl, rfl, ?_⟩⟩
              repeat walk_at "e"
              refine m_append (by exact rfl) (lt_sz (by rw [zs_len]; omega)) ?_
              rw [zs_snoc]
              exact ⟨j, by omega, xs ++ [n], by rw [List.length_append]; omega, by rw [List.length_append, List.length_singleton]; omega, by rw [List.length_append, List.length_singleton, ← Nat.add_assoc] <;> rfl, rfl, by rw [hs2, List.length_append, List.length_singleton, ← Nat.add_assoc]⟩
          · rw [List.getElem?_eq_none (by omega)]
            repeat walk_at "e"
            refine ⟨xs, x1, by omega, rfl, rfl, ?_⟩
            rw [hs]
            show (if 3 + xs.length < ws.length then _ else _) = _
            rw [if_neg hk]
      rintro _ _ ⟨xs, x1, x2, rfl, rfl, hs⟩
      unfold cfin at hs
      refine s_seq ?_
      repeat walk_at "e"
      by_cases hk : 3 + xs.length < ws.length
      · rw [if_pos hk] at hs
        rcases h with ⟨k, hk2, q⟩ | ⟨ns, hn, p⟩
        · rw [hs] at hk2
          cases hk2
          exact ⟨ws, 3 + xs.length, rfl, rfl, .inr ⟨hk, _, rfl, rfl, q _⟩⟩
        · rw [hs] at hn
          cases hn
      · rw [if_neg hk] at hs
        refine ⟨ws, 3 + xs.length, rfl, rfl, .inl ⟨by omega, _, rfl, rfl, ?_⟩⟩
        obtain ⟨fs, z, rfl⟩ : ∃ fs z, xs = fs ++ [z] := ⟨_, _, (List.dropLast_concat_getLast (show xs ≠ [] from fun q => by rw [q] at x1; exact absurd x1 (by decide))).symm⟩
        have hlast : (fs ++ [z]).getLast? = some z := by rw [List.getLast?_append] <;> rfl
        rw [hlast] at hs
        refine s_cut (fun ts' O' => ts' = [.own 0, .v (.int m), .own 1] ∧ O' = [wdO K ws (3 + (fs ++ [z]).length), .lst (nums (zs (fs ++ [z])))] ∧ cscan ws m = .ok (fs ++ [z])) ?_ ?_
        · repeat walk_at "e"
          rw [nums_len, zs_len]
          refine br (fun hl => ?_) (fun hl => ?_)
          · repeat walk_at "e"
            have ez : zs (fs ++ [z]) = zs fs ++ [(z : Int)] := by unfold zs; rw [List.map_append] <;> rfl
            rw [ez]
            refine w_ixL (lstD_o (by exact rfl)) atI_m1n ?_
            repeat walk_at "e"
            by_cases hz : z = 0
            · subst hz
              rw [if_pos ⟨by omega, rfl⟩] at hs
              rcases h with ⟨k, hk2, q⟩ | ⟨ns, hn, p⟩
              · rw [hs] at hk2
                cases hk2
                rw [decide_eq_true (show ((0 : Nat) : Int) = 0 by rfl)]
                repeat walk_at "e"
                exact ⟨ws, _, rfl, rfl, _, rfl, rfl, q _⟩
              · rw [hs] at hn
                cases hn
            · rw [decide_eq_false (show ¬ ((z : Nat) : Int) = 0 by omega)]
              rw [if_neg (fun y => hz (Option.some.inj y.2))] at hs
              repeat walk_at "e"
              exact ⟨rfl, rfl, hs⟩
          · rw [if_neg (fun y => hl (by have := y.1; omega))] at hs
            repeat walk_at "e"
            exact ⟨rfl, rfl, hs⟩
        rintro _ _ ⟨rfl, rfl, hs⟩
        rcases h with ⟨k, hk2, q⟩ | ⟨ns, hn, p⟩
        · rw [hs] at hk2
          cases hk2
        · rw [hs] at hn
          cases hn
          refine s_frz 1 rfl rfl ?_
          repeat walk_at "e"
          exact ⟨rfl, p _⟩
theorem sc_Sum_read : FnScope ["text", "words", "modulus", "found"] ["text"] (defScope (inClass (top 33) 3)) := ⟨rfl, rfl, rfl, by decide +kernel, rfl, by decide +kernel, by decide +kernel⟩
theorem ok_Sum_read {P : Program} {w : World} {K : PySem.W.Frag} {mg : Str → Option Value} {base : Heap} (T : Tx K mg) (h_WordsU_initU : Fn P w K mg base 4 (He.fAd K ("Words", some "__init__")) ["self", "line", "text"] (sp_wx_init K)) (h_Words_take_word : Fn P w K mg base 5 (He.fAd K ("Words", some "take_word")) ["self", "menu"] (sp_wx_word K)) (h_Words_take_number : Fn P w K mg base 5 (He.fAd K ("Words", some "take_number")) ["self", "least", "most"] (sp_wx_number K)) (h_coefs_read : Fn P w K mg base 6 (He.fAd K ("coefs_read", none)) ["words", "modulus"] (sp_rx_coefs K)) (h_SumU_initU : FnS P w K mg base 4 (He.fAd K ("Sum", some "__init__")) 2 (sp_s_init K)) : Fn P w K mg base 7 (pr_Sum_read.g K) ["text"] (sp_rx_read K) := by
  obtain ⟨_, F_WordsU_initU, b_WordsU_initU, kp_WordsU_initU, lk_WordsU_initU⟩ := h_WordsU_initU
  obtain ⟨_, F_Words_take_word, b_Words_take_word, kp_Words_take_word, lk_Words_take_word⟩ := h_Words_take_word
  obtain ⟨_, F_Words_take_number, b_Words_take_number, kp_Words_take_number, lk_Words_take_number⟩ := h_Words_take_number
  obtain ⟨_, F_coefs_read, b_coefs_read, kp_coefs_read, lk_coefs_read⟩ := h_coefs_read
  obtain ⟨F_SumU_initU, kp_SumU_initU⟩ := h_SumU_initU
  obtain ⟨fd, F⟩ := T.d_Sum_read
  obtain ⟨_, T_i_MOST_MODULUS⟩ := T.i_MOST_MODULUS_
  refine ⟨fd, F.ok sc_Sum_read (lift_len ?_) (fun cdv A outer s H vs Q E hr h => ?_), F.bindsN fun _ _ _ _ _ _ us hl => (match us, hl with | [_], _ => rfl), F.kp, lk_of F⟩
  · intro ts O P X h
    exact sp_rx_read_len h
  · have hu := hr.units
    refine ⟨_, (pss_cons (ps_set (i := 1) sc_Sum_read.nd rfl (.inl rfl) (pe_makeX T.mk_Words (rOf F_WordsU_initU b_WordsU_initU) (hr.mono (by decide)) (by rfl) T.g_Words (fun σ => passAt (takes_of rfl rfl rfl rfl) σ) (pa_cons pe_int (pa_cons (pv 0) pa_nil))))
    (pss_cons (ps_expr (pe_methX (pv 1) T.cl_Words T.me_Words_take_word (rOf F_Words_take_word b_Words_take_word) (hr.mono (by decide)) (fun σ => passAt (takes_of rfl rfl rfl rfl) σ) (pa_cons (pe_tup (pa_cons pe_str pa_nil)) pa_nil)))
    (pss_cons (ps_set (i := 2) sc_Sum_read.nd rfl (.inl rfl) (pe_methX (pv 1) T.cl_Words T.me_Words_take_number (rOf F_Words_take_number b_Words_take_number) (hr.mono (by decide)) (fun σ => passAt (takes_of rfl rfl rfl rfl) σ) (pa_cons pe_int (pa_cons (pe_glob (v := .int 1000000000000000000000000000000) (by rfl) T_i_MOST_MODULUS ⟨_, rfl⟩) pa_nil))))
    (pss_cons (ps_expr (pe_methX (pv 1) T.cl_Words T.me_Words_take_word (rOf F_Words_take_word b_Words_take_word) (hr.mono (by decide)) (fun σ => passAt (takes_of rfl rfl rfl rfl) σ) (pa_cons (pe_tup (pa_cons pe_str pa_nil)) pa_nil)))
    (pss_cons (ps_set (i := 3) sc_Sum_read.nd rfl (.inl rfl) (pe_callS F_coefs_read (hr.mono (by decide)) (by rfl) T.g_coefs_read kp_coefs_read b_coefs_read (fun σ => passAt (takes_of rfl rfl rfl rfl) σ) (pa_cons (pv 1) (pa_cons (pv 2) pa_nil))))
    (pss_one (ps_ret (pe_makeZ T.mk_Sum F_SumU_initU (hr.mono (by decide)) (by rfl) T.g_Sum passL (pa_cons (pv 2) (StX.pa_star (pv 3) pa_nil)))))))))), enter h fun ts O P X h _ => ?_⟩
    try dsimp only [cxOf, Cx.nox, Cx.wish]
    
    obtain ⟨d, rfl, rfl, h⟩ := h
    show WS _ _ _ _ [.v d, .no, .no, .no] _
    refine s_seq ?_
    repeat walk_at "e"
    rcases h with ⟨t, rfl, hl, h⟩ | ⟨hd, q⟩
    · refine ⟨_, rfl, rfl, .inl ⟨t, rfl, Nat.le_trans (show t.length + 2 ≤ 2000000 by omega) (Nat.le_of_ble_eq_true rfl), rfl, _, rfl, ?_⟩⟩
      have hws : WsOk (Txt.split t " ") := fun w hw => by
        have h1 := wsz_mem hw
        rw [wsz_split] at h1
        exact Nat.le_trans (show w.length ≤ 1000000 by omega) (Nat.le_of_ble_eq_true rfl)
      generalize Txt.split t " " = ws at h hws ⊢
      unfold rscan at h
      refine s_seq ?_
      repeat walk_at "e"
      by_cases h0 : ws[0]? = some ("modulo" : Str)
      · rw [if_pos h0] at h
        refine ⟨ws, 0, ["modulo"], rfl, rfl, .inl ⟨_, h0, by rw [inV_one]; exact decide_eq_true rfl, _, rfl, rfl, ?_⟩⟩
        refine s_seq ?_
        repeat walk_at "e"
        cases h1 : numAt ws[1]? 2 1000000000000000000000000000000 with
        | none =>
          rw [h1] at h
          rcases h with ⟨k, hk, q⟩ | ⟨m, ns, hk, p⟩
          · cases hk
            exact ⟨ws, 1, 2, 1000000000000000000000000000000, rfl, rfl, hws, .inr ⟨h1, _, rfl, rfl, q⟩⟩
          · cases hk
        | some m =>
          rw [h1] at h
          obtain ⟨b1, b2⟩ := numAt_bd h1
          refine ⟨ws, 1, 2, 1000000000000000000000000000000, rfl, rfl, hws, .inl ⟨m, h1, _, rfl, rfl, ?_⟩⟩
          repeat walk_at "e"
          refine s_seq ?_
          repeat walk_at "e"
          by_cases h2 : ws[2]? = some (":" : Str)
          · have h : (∃ k, (match cscan ws m with | .error k => Except.error k | .ok ns => .ok (m, ns)) = .error k ∧ xeText K k [] X) ∨ (∃ (m' : Nat) (ns : List Nat), (match cscan ws m with | .error k => Except.error k | .ok ns => .ok (m, ns)) = .ok (m', ns) ∧ P (.v (sumD K (m' : Int) (tr (m' : Int) (zs ns)))) []) := by
              simp only [if_pos h2] at h
              exact h
            refine ⟨ws, 2, [":"], rfl, rfl, .inl ⟨_, h2, by rw [inV_one]; exact decide_eq_true rfl, _, rfl, rfl, ?_⟩⟩
            refine s_seq ?_
            repeat walk_at "e"
            cases hc : cscan ws m with
            | error k =>
              rw [hc] at h
              rcases h with ⟨k', hk, q⟩ | ⟨m', ns, hk, p⟩
              · cases hk
                exact ⟨ws, m, rfl, rfl, hws, b1, b2, .inl ⟨k, hc, fun k2 => ⟨_, rfl, rfl, q⟩⟩⟩
              · cases hk
            | ok ns =>
              rw [hc] at h
              rcases h with ⟨k', hk, q⟩ | ⟨m', ns', hk, p⟩
              · cases hk
              · obtain ⟨rfl, rfl⟩ : m = m' ∧ ns = ns' := by
                  cases hk
                  exact ⟨rfl, rfl⟩
                have hl := cscan_len hc
                refine ⟨ws, m, rfl, rfl, hws, b1, b2, .inr ⟨ns, hc, fun k2 => ⟨_, rfl, rfl, ?_⟩⟩⟩
                repeat walk_at "e"
                refine w_makeS (m := 1) ?_
                repeat walk_at "e"
                refine ⟨_, .inl valD_v, ?_⟩
                repeat walk_at "e"
                refine ⟨.int m :: nums (zs ns), ?_, Nat.succ_le_succ (Nat.zero_le _), by rw [List.length_cons, nums_len, zs_len]; omega, u_init (zs ns) b1 b2 (by rw [zs_len]; omega) ?_⟩
                · show (unv ((nums (zs ns)).map G.T.v ++ [])).map (D.int m :: ·) = _
                  rw [unv_nums] <;> rfl
                exact ⟨rfl, p⟩
          · rcases h with ⟨k, hk, q⟩ | ⟨m', ns, hk, p⟩
            · simp only [if_neg h2] at hk
              cases hk
              exact ⟨ws, 2, [":"], rfl, rfl, .inr ⟨fun w hw => by rw [inV_one]; exact decide_eq_false (fun z => h2 (by rw [hw, z])), _, rfl, rfl, q⟩⟩
            · simp only [if_neg h2] at hk
              cases hk
      · rw [if_neg h0] at h
        rcases h with ⟨k, hk, q⟩ | ⟨m', ns, hk, p⟩
        · cases hk
          exact ⟨ws, 0, ["modulo"], rfl, rfl, .inr ⟨fun w hw => by rw [inV_one]; exact decide_eq_false (fun z => h0 (by rw [hw, z])), _, rfl, rfl, q⟩⟩
        · cases hk
    · exact ⟨_, rfl, rfl, .inr ⟨hd, fun O hO => ⟨hO, rfl, q⟩⟩⟩
end My

set_option Elab.async false
set_option linter.all false
set_option maxRecDepth 100000
set_option maxHeartbeats 0
namespace My
open PySem PySem.Spec PyProof.Rows L2 G

def textOf (m : Int) (cs : List Int) : Str := (("modulo " : Str) ++ Str.ofString (toString m) ++ (" : " : Str)) ++ Txt.join (" " : Str) (sumRows cs)
/-- the coefficients as they are written -/
def wrote (cs : List Int) : List Nat := if cs = [] then [0] else cs.map Int.toNat
theorem numS_of {c : Int} (h : 0 ≤ c) : Str.ofString (toString c) = numS c.toNat := by
  unfold numS
  rw [Int.toNat_of_nonneg h]
theorem wrote_rows {cs : List Int} (h : ∀ c ∈ cs, 0 ≤ c) : sumRows cs = (wrote cs).map numS := by
  unfold sumRows wrote
  by_cases h0 : cs = []
  · rw [if_pos h0, if_pos h0]
    show [("0" : Str)] = [numS 0]
    rw [numS_zero]
  · rw [if_neg h0, if_neg h0, List.map_map]
    exact List.map_congr_left fun c hc => numS_of (h c hc)
theorem split_text {m : Int} (hm : 0 ≤ m) {ws : List Str} (hne : ws ≠ []) (hf : ∀ w ∈ ws, 32 ∉ TL.tl w) : Txt.split ((("modulo " : Str) ++ Str.ofString (toString m) ++ (" : " : Str)) ++ Txt.join (" " : Str) ws) (" " : Str) = ("modulo" : Str) :: numS m.toNat :: (":" : Str) :: ws := by
  have e32 : TL.tl (" " : Str) = [32] := by decide +kernel
  have e : ((("modulo " : Str) ++ Str.ofString (toString m) ++ (" : " : Str)) ++ Txt.join (" " : Str) ws) = Txt.join (" " : Str) (("modulo" : Str) :: numS m.toNat :: (":" : Str) :: ws) := by
    refine TL.ext_tl ?_
    rw [TL.tl_append, TL.tl_append, TL.tl_append, TL.join_eq, TL.join_eq, TL.tl_join, TL.tl_join, numS_of hm, e32]
    cases ws with
    | nil => exact absurd rfl hne
    | cons w r =>
      show _ = TL.tl "modulo" ++ ([32] ++ (TL.tl (numS m.toNat) ++ ([32] ++ (TL.tl ":" ++ ([32] ++ TL.joinL [32] ((w :: r).map TL.tl))))))
      rw [show TL.tl "modulo " = TL.tl "modulo" ++ [32] by decide +kernel, show TL.tl " : " = [32] ++ (TL.tl ":" ++ [32]) by decide +kernel]
      simp only [List.append_assoc]
  rw [e]
  refine TL.split_join (s := 32) (S := []) e32 (by decide +kernel) (by intro z; cases z) fun w hw => ?_
  rcases List.mem_cons.mp hw with rfl | hw
  · decide +kernel
  rcases List.mem_cons.mp hw with rfl | hw
  · exact numS_free _
  rcases List.mem_cons.mp hw with rfl | hw
  · decide +kernel
  exact hf w hw
theorem split_textOf {m : Int} {cs : List Int} (ok : SumOk m cs) : Txt.split (textOf m cs) (" " : Str) = ("modulo" : Str) :: numS m.toNat :: (":" : Str) :: (wrote cs).map numS := by
  have h2 := ok.two
  unfold textOf
  rw [wrote_rows fun c hc => (ok.inr c hc).1]
  refine split_text (by omega) ?_ fun w hw => ?_
  · unfold wrote
    by_cases h0 : cs = []
    · rw [if_pos h0]
      exact fun z => by cases z
    · rw [if_neg h0]
      exact fun z => h0 (List.map_eq_nil_iff.mp (List.map_eq_nil_iff.mp z))
  · obtain ⟨n, _, rfl⟩ := List.mem_map.mp hw
    exact numS_free n
theorem textOf_len {m : Int} {cs : List Int} (ok : SumOk m cs) : (textOf m cs).length ≤ 4000 := by
  have ok1 := ok.two
  have ok2 := ok.most
  have sm : ∀ c ∈ cs, Sm c := fun c hc => Nat.lt_of_lt_of_le (ok.sml c hc) (Nat.pow_le_pow_right (by decide) (by decide))
  have smm : Sm m := by unfold Sm; omega
  obtain ⟨r1, r2⟩ := sumRows_len sm ok.len
  have t1 := text_len smm
  have j1 := join_le (" " : Str) (sumRows cs)
  have e1 : (" " : Str).length = 1 := by decide
  have e7 : ("modulo " : Str).length = 7 := by decide
  have e3 : (" : " : Str).length = 3 := by decide
  rw [e1] at j1
  unfold textOf
  rw [Str.length_append, Str.length_append, Str.length_append, e7, e3]
  omega

theorem text_eq (m : Int) (cs : List Int) : sumText m cs = textOf m cs := by
  refine TL.ext_tl ?_
  unfold sumText textOf
  rw [TL.tl_append, TL.tl_append, TL.tl_append, TL.tl_append, TL.tl_append, TL.tl_append, TL.tl_append]
  rfl
theorem numAt_word {w : Option Str} {lo hi : Int} {n : Nat} (h : numAt w lo hi = some n) : w = some (numS n) ∧ n < 10 ^ 40 := by
  unfold numAt at h
  cases w with
  | none => cases h
  | some w =>
    simp only at h
    cases hw : wdNum w with
    | none =>
      rw [hw] at h
      cases h
    | some k =>
      rw [hw] at h
      simp only at h
      by_cases hb : lo ≤ (k : Int) ∧ (k : Int) ≤ hi
      · rw [if_pos hb] at h
        cases h
        obtain ⟨rfl, h40⟩ := wdNum_some hw
        exact ⟨rfl, h40⟩
      · rw [if_neg hb] at h
        cases h
theorem numAt_of {lo hi : Int} {n : Nat} (h40 : n < 10 ^ 40) (h1 : lo ≤ (n : Int)) (h2 : (n : Int) ≤ hi) : numAt (some (numS n)) lo hi = some n := by
  unfold numAt
  simp only [wdNum_of h40]
  rw [if_pos ⟨h1, h2⟩]
theorem take_s {ws : List Str} {k : Nat} {w : Str} (h : ws[k]? = some w) : ws.take (k + 1) = ws.take k ++ [w] := by
  rw [List.take_succ, h]
  rfl
theorem cgo_words {ws : List Str} {m : Int} {pre : List Str} : ∀ (f k : Nat) (acc ns : List Nat), ws.take k = pre ++ acc.map numS → (∀ n ∈ acc, (n : Int) ≤ m - 1) → cgo ws m f k acc = .ok ns → ws = pre ++ ns.map numS ∧ (∀ n ∈ ns, (n : Int) ≤ m - 1) ∧ (1 < ns.length → ns.getLast? ≠ some 0)
  | 0, k, acc, ns, ht, ha, h => by
    obtain ⟨rfl, hk, hl⟩ := cfin_ok h
    rw [List.take_of_length_le hk] at ht
    exact ⟨ht, ha, hl⟩
  | f + 1, k, acc, ns, ht, ha, h => by
    unfold cgo at h
    by_cases h1 : k < ws.length
    · rw [if_pos h1] at h
      cases hc : cAt ws m k with
      | none =>
        rw [hc] at h
        cases h
      | some n =>
        rw [hc] at h
        obtain ⟨hw, _⟩ := numAt_word hc
        have hb := numAt_bd hc
        refine cgo_words f (k + 1) (acc ++ [n]) ns ?_ (fun x hx => ?_) h
        · rw [take_s hw, ht, List.map_append, List.append_assoc]
          rfl
        · rcases List.mem_append.mp hx with hx | hx
          · exact ha x hx
          · rw [List.mem_singleton.mp hx]
            exact hb.2
    · rw [if_neg h1] at h
      obtain ⟨rfl, hk, hl⟩ := cfin_ok h
      rw [List.take_of_length_le hk] at ht
      exact ⟨ht, ha, hl⟩
structure RdOk (m : Nat) (ns : List Nat) : Prop where
  m1 : 2 ≤ (m : Int)
  m2 : (m : Int) ≤ 1000000000000000000000000000000
  ne : ns ≠ []
  le : ns.length ≤ 13
  lt : ∀ n ∈ ns, (n : Int) ≤ m - 1
  la : 1 < ns.length → ns.getLast? ≠ some 0
theorem rscan_words {ws : List Str} {m : Nat} {ns : List Nat} (h : rscan ws = .ok (m, ns)) : ws = ("modulo" : Str) :: numS m :: (":" : Str) :: ns.map numS ∧ RdOk m ns := by
  unfold rscan at h
  by_cases h0 : ws[0]? = some ("modulo" : Str)
  · rw [if_pos h0] at h
    cases h1 : numAt ws[1]? 2 1000000000000000000000000000000 with
    | none =>
      rw [h1] at h
      cases h
    | some m' =>
      rw [h1] at h
      have hb := numAt_bd h1
      obtain ⟨hw1, _⟩ := numAt_word h1
      by_cases h2 : ws[2]? = some (":" : Str)
      · simp only [if_pos h2] at h
        cases hc : cscan ws m' with
        | error k =>
          rw [hc] at h
          cases h
        | ok ns' =>
          rw [hc] at h
          obtain ⟨rfl, rfl⟩ : m' = m ∧ ns' = ns := by
            cases h
            exact ⟨rfl, rfl⟩
          have hl := cscan_len hc
          have t3 : ws.take 3 = [("modulo" : Str), numS m', (":" : Str)] := by
            rw [take_s h2, take_s hw1, take_s h0]
            rfl
          unfold cscan at hc
          cases h3 : cAt ws m' 3 with
          | none =>
            rw [h3] at hc
            cases hc
          | some n0 =>
            rw [h3] at hc
            have hb3 := numAt_bd h3
            obtain ⟨hw3, _⟩ := numAt_word h3
            obtain ⟨e, a, b⟩ := cgo_words (pre := [("modulo" : Str), numS m', (":" : Str)]) 12 4 [n0] ns' (by rw [take_s hw3, t3] <;> rfl) (fun n hn => by rw [List.mem_singleton.mp hn]; exact hb3.2) hc
            exact ⟨e, hb.1, hb.2, (fun z => by rw [z] at hl; exact absurd hl.1 (by decide)), hl.2, a, b⟩
      · simp only [if_neg h2] at h
        cases h
  · rw [if_neg h0] at h
    cases h
theorem cgo_of {m : Int} {pre : List Str} : ∀ (f : Nat) (rest acc : List Nat), rest.length ≤ f → (∀ n ∈ acc ++ rest, (n : Int) ≤ m - 1 ∧ n < 10 ^ 40) → (1 < (acc ++ rest).length → (acc ++ rest).getLast? ≠ some 0) → cgo (pre ++ (acc ++ rest).map numS) m f (pre.length + acc.length) acc = .ok (acc ++ rest)
  | f, [], acc, _, _, h3 => by
    have hl : ¬ pre.length + acc.length < (pre ++ (acc ++ []).map numS).length := by
      rw [List.append_nil, List.length_append, List.length_map]
      omega
    rw [List.append_nil] at h3
    have hf : cfin (pre ++ (acc ++ []).map numS) (pre.length + acc.length) acc = .ok (acc ++ []) := by
      unfold cfin
      rw [if_neg hl, if_neg (fun z => h3 z.1 z.2), List.append_nil]
    cases f with
    | zero => exact hf
    | succ f =>
      unfold cgo
      rw [if_neg hl]
      exact hf
  | 0, n :: r, acc, hl, _, _ => by cases hl
  | f + 1, n :: r, acc, hl, h2, h3 => by
    have e : acc ++ n :: r = (acc ++ [n]) ++ r := by rw [List.append_assoc] <;> rfl
    obtain ⟨b1, b2⟩ := h2 n (List.mem_append_right _ List.mem_cons_self)
    have hk : pre.length + acc.length < (pre ++ (acc ++ n :: r).map numS).length := by
      rw [List.length_append, List.length_map, List.length_append, List.length_cons]
      omega
    have hc : cAt (pre ++ (acc ++ n :: r).map numS) m (pre.length + acc.length) = some n := by
      unfold cAt
      rw [List.getElem?_append_right (by omega), Nat.add_sub_cancel_left, List.getElem?_map, List.getElem?_append_right (Nat.le_refl _), Nat.sub_self]
      exact numAt_of b2 (by omega) b1
    unfold cgo
    rw [if_pos hk, hc]
    have ih := cgo_of (m := m) (pre := pre) f r (acc ++ [n]) (Nat.le_of_succ_le_succ hl) (by rw [← e]; exact h2) (by rw [← e]; exact h3)
    rw [← e, List.length_append, List.length_singleton, ← Nat.add_assoc] at ih
    exact ih
theorem rscan_of {m : Nat} {ns : List Nat} (ok : RdOk m ns) : rscan (("modulo" : Str) :: numS m :: (":" : Str) :: ns.map numS) = .ok (m, ns) := by
  have m1 := ok.m1
  have m2 := ok.m2
  obtain ⟨n0, r, rfl⟩ := List.exists_cons_of_ne_nil ok.ne
  have h40 : ∀ n ∈ n0 :: r, (n : Int) ≤ m - 1 ∧ n < 10 ^ 40 := fun n hn => ⟨ok.lt n hn, by have := ok.lt n hn; omega⟩
  have hc : cscan (("modulo" : Str) :: numS m :: (":" : Str) :: (n0 :: r).map numS) m = .ok (n0 :: r) := by
    unfold cscan
    have h3 : cAt (("modulo" : Str) :: numS m :: (":" : Str) :: (n0 :: r).map numS) m 3 = some n0 := numAt_of (h40 n0 List.mem_cons_self).2 (by omega) (h40 n0 List.mem_cons_self).1
    rw [h3]
    exact cgo_of (m := m) (pre := [("modulo" : Str), numS m, (":" : Str)]) 12 r [n0] (Nat.le_of_succ_le_succ ok.le) h40 ok.la
  unfold rscan
  have h1 : numAt (("modulo" : Str) :: numS m :: (":" : Str) :: (n0 :: r).map numS)[1]? 2 1000000000000000000000000000000 = some m := numAt_of (by omega) m1 m2
  have h0 : (("modulo" : Str) :: numS m :: (":" : Str) :: (n0 :: r).map numS)[0]? = some ("modulo" : Str) := rfl
  have h2 : (("modulo" : Str) :: numS m :: (":" : Str) :: (n0 :: r).map numS)[2]? = some (":" : Str) := rfl
  rw [if_pos h0, h1]
  simp only
  rw [if_pos h2, hc]
theorem tr_zs {m : Nat} {ns : List Nat} (ok : RdOk m ns) : wrote (tr m (zs ns)) = ns := by
  have m1 := ok.m1
  have e : (zs ns).map (· % (m : Int)) = zs ns := by
    unfold zs
    rw [List.map_map]
    exact List.map_congr_left fun n hn => (by
      show ((n : Nat) : Int) % m = n
      exact Int.emod_eq_of_lt (by omega) (by have := ok.lt n hn; omega))
  unfold tr
  rw [e]
  obtain ⟨fs, z, rfl⟩ : ∃ fs z, ns = fs ++ [z] := ⟨_, _, (List.dropLast_concat_getLast ok.ne).symm⟩
  have ez : zs (fs ++ [z]) = zs fs ++ [(z : Int)] := by unfold zs; rw [List.map_append] <;> rfl
  by_cases hz : z = 0
  · subst hz
    cases fs with
    | nil => rfl
    | cons a r =>
      refine absurd ?_ (ok.la (by rw [List.length_append, List.length_cons, List.length_singleton]; omega))
      rw [List.getLast?_append]
      rfl
  · rw [ez, My.cut_snoc (by omega)]
    unfold wrote
    rw [if_neg (fun q => by have := congrArg List.length q; rw [List.length_append] at this; cases this), ← ez]
    unfold zs
    rw [List.map_map]
    exact (List.map_congr_left fun n _ => Int.toNat_natCast n).trans (List.map_id _)
/-- what is read is what is written -/
theorem read_text {t : Str} {m : Nat} {ns : List Nat} (h : rscan (Txt.split t " ") = .ok (m, ns)) : SumOk m (tr m (zs ns)) ∧ sumText m (tr m (zs ns)) = t := by
  obtain ⟨hw, ok⟩ := rscan_words h
  have so : SumOk m (tr m (zs ns)) := .of ok.m1 ok.m2 (by rw [zs_len]; exact ok.le)
  refine ⟨so, ?_⟩
  have h2 := split_textOf so
  rw [tr_zs ok, Int.toNat_natCast, ← hw] at h2
  rw [text_eq, ← join_split (textOf _ _), h2, join_split]
theorem wrote_ok {m : Int} {cs : List Int} (ok : SumOk m cs) : RdOk m.toNat (wrote cs) ∧ tr m (zs (wrote cs)) = cs := by
  have m1 := ok.two
  have m2 := ok.most
  have em : ((m.toNat : Nat) : Int) = m := Int.toNat_of_nonneg (by omega)
  unfold wrote
  by_cases h0 : cs = []
  · rw [if_pos h0]
    subst h0
    refine ⟨⟨by omega, by omega, (fun z => by cases z), by decide, fun n hn => (by rw [List.mem_singleton.mp hn]; omega), fun z => absurd z (by decide)⟩, ?_⟩
    show cut ([(0 : Int) % m]) = []
    rw [Int.zero_emod]
    rfl
  · rw [if_neg h0]
    have ez : zs (cs.map Int.toNat) = cs := by
      unfold zs
      rw [List.map_map]
      exact (List.map_congr_left fun c hc => Int.toNat_of_nonneg (ok.inr c hc).1).trans (List.map_id _)
    refine ⟨⟨by omega, by omega, fun z => h0 (List.map_eq_nil_iff.mp z), by rw [List.length_map]; exact ok.len, fun n hn => ?_, fun _ => ?_⟩, by rw [ez]; exact ok.same⟩
    · obtain ⟨c, hc, rfl⟩ := List.mem_map.mp hn
      have := ok.inr c hc
      omega
    · obtain ⟨fs, z, rfl⟩ : ∃ fs z, cs = fs ++ [z] := ⟨_, _, (List.dropLast_concat_getLast h0).symm⟩
      rw [List.map_append, List.getLast?_append]
      intro q
      have q2 : z.toNat = 0 := Option.some.inj q
      have := ok.inr z (List.mem_append_right _ List.mem_cons_self)
      obtain rfl : z = 0 := by omega
      have f := ok.fin
      rw [My.cut_snoc0] at f
      have l := My.cut_len fs
      rw [f, List.length_append, List.length_singleton] at l
      omega
/-- what the law's own reading tells -/
def wrD (ws : List Str) : D := match rscan ws with
  | .error k => .int (k : Nat)
  | .ok _ => .non
theorem made_text {m : Int} {cs : List Int} (ok : SumOk m cs) : rscan (Txt.split (sumText m cs) " ") = .ok (m.toNat, wrote cs) := by
  rw [text_eq, split_textOf ok]
  exact rscan_of (wrote_ok ok).1
end My

set_option Elab.async false
set_option linter.all false
set_option maxRecDepth 100000
set_option maxHeartbeats 0
namespace My
open PySem PySem.Spec PyProof.Rows L2 G

local macro_rules | `(tactic| walk_at "ws") => `(tactic| first
  | with_reducible refine s_set ?_
  | with_reducible refine s_if ?_
  | refine s_fldaug (by assumption) (by assumption) ?_
  | with_reducible refine s_ret ?_
  | with_reducible refine s_retN ?_
  | with_reducible refine s_drop ?_
  | with_reducible refine s_next ?_
  | with_reducible refine s_par ?_
  | with_reducible refine s_par3 ?_
  | refine s_fldN (by assumption) (by assumption) ?_
  | with_reducible refine s_asg ?_
  | refine s_raise1 ?_
  | refine s_raise2 ?_)
local macro_rules | `(tactic| walk_at "we") => `(tactic| first
  | ((with_reducible refine w_v (d := ?k2) ?k1 ?_); (case k1 => exact rfl))
  | ((with_reducible refine w_o (j := ?k2) ?k1 ?_); (case k1 => exact rfl))
  | ((guard_target = G.WE _ _ (tFld _ _ _) _ _ _ _); (refine w_fldN (by assumption) (by assumption) ?_))
  | ((guard_target = G.WE _ _ (tC (.ref _)) _ _ _ _); (refine w_ctup (by assumption) ?_))
  | with_reducible refine w_ci ?_
  | with_reducible refine w_op ?_
  | with_reducible refine w_call ?_
  | with_reducible refine w_cty ?_
  | with_reducible refine w_cb ?_
  | with_reducible refine w_cn ?_
  | with_reducible refine w_cs ?_
  | with_reducible refine w_cr ?_
  | with_reducible refine w_un ?_
  | with_reducible refine w_andV ?_
  | with_reducible refine w_orV ?_
  | with_reducible refine w_notV ?_
  | with_reducible refine w_ife ?_
  | with_reducible refine w_chain ?_
  | with_reducible refine w_tup ?_
  | with_reducible refine w_revL ?_
  | with_reducible refine w_slL ?_
  | with_reducible refine w_slT ?_
  | (guard_target = G.WE _ _ (tCall (lift _ (sp_draw _)) _ _ _) _ _ _ _; refine w_fn10 0 ?_)
  | (guard_target = G.WE _ _ (tCall (lift _ (sp_pick _)) _ _ _) _ _ _ _; refine w_fn10 0 ?_)
  | (guard_target = G.WE _ _ (tMethX _ _ (lift _ (sp_wx_word _)) _ _ _) _ _ _ _; refine w_methOX 0 ?_)
  | (guard_target = G.WE _ _ (tMethX _ _ (lift _ (sp_wx_number _)) _ _ _) _ _ _ _; refine w_methOX 0 ?_)
  | (guard_target = G.WE _ _ (tMethX _ _ (lift _ (sp_wx_end _)) _ _ _) _ _ _ _; refine w_methOX 0 ?_)
  | (guard_target = G.WE _ _ (tMethX _ _ (lift _ (sp_wx_refuse _)) _ _ _) _ _ _ _; refine w_methOX 0 ?_)
  | (guard_target = G.WE _ _ (tMakeX _ (lift _ (sp_wx_init _)) _ _) _ _ _ _; refine w_makeOX ?_)
  | (guard_target = G.WE _ _ (tCallS (lift _ (sp_rx_coefs _)) _ _) _ _ _ _; refine w_fnOX 0 ?_)
  | (guard_target = G.WE _ _ (tMeth _ _ (lift _ (sp_wx_next _)) _ _ _ _) _ _ _ _; refine w_methO 0 ?_)
  | with_reducible refine w_fn0 ?_
  | with_reducible refine w_fnS0 ?_
  | with_reducible refine w_meth0 ?_
  | with_reducible refine w_make0 ?_
  | with_reducible refine w_bmL ?_
  | with_reducible refine w_bmL0 ?_
  | with_reducible refine w_lst ?_
  | with_reducible refine w_callKX ?_
  | with_reducible refine w_makeKX ?_
  | with_reducible refine w_makeX ?_
  | with_reducible refine w_smethX ?_
  | with_reducible refine w_smethK ?_
  | with_reducible refine w_fnV ?_
  | with_reducible refine w_fnX ?_
  | with_reducible refine w_fnSX ?_
  | with_reducible refine w_methX ?_
  | with_reducible refine w_callX ?_
  | with_reducible refine w_methK ?_
  | with_reducible refine w_callK2 ?_
  | with_reducible refine w_callI ?_
  | with_reducible refine w_prop ?_
  | with_reducible refine w_dic0 ?_
  | with_reducible refine w_jcons ?_
  | with_reducible refine w_jnil ?_
  | with_reducible refine w_join ?_
  | with_reducible refine w_split ?_
  | with_reducible refine w_smeth ?_
  | with_reducible refine w_fnKr ?_)
local macro_rules | `(tactic| walk_at "wt") => `(tactic| first
  | with_reducible refine w_test ?_
  | with_reducible refine w_B ?_
  | with_reducible refine w_and ?_
  | with_reducible refine w_or ?_
  | with_reducible refine w_not ?_)
local macro_rules | `(tactic| walk_at "wa") => `(tactic| first
  | with_reducible refine w_cons ?_
  | with_reducible refine w_nil ?_
  | with_reducible refine w_star ?_)
local macro_rules | `(tactic| walk_at "wr") => `(tactic| first
  | with_reducible refine w_add ?_
  | with_reducible refine w_sub ?_
  | with_reducible refine w_lt ?_
  | with_reducible refine w_le ?_
  | with_reducible refine w_gt ?_
  | with_reducible refine w_ge ?_
  | with_reducible refine w_eqI ?_
  | with_reducible refine w_neI ?_
  | with_reducible refine w_isN ?_
  | with_reducible refine w_notN ?_
  | ((with_reducible refine w_mod ?k1 ?_); (case k1 => first | decide | omega))
  | ((with_reducible refine w_mul ?k1 ?_); (case k1 => first | exact Or.inl ⟨by decide, by decide⟩ | exact Or.inr ⟨by decide, by decide⟩ | exact Or.inl ⟨by omega, by omega⟩ | exact Or.inr ⟨by omega, by omega⟩))
  | ((with_reducible refine w_pow ?k1 ?_); (case k1 => first | exact ⟨by decide, by decide, by decide⟩ | exact ⟨by omega, by omega, by omega⟩))
  | ((with_reducible refine w_fdivW ?k1 ?_); (case k1 => exact divW_ok (by first | decide | omega) (by first | decide | omega)))
  | ((with_reducible refine w_mulW ?k1 ?_); (case k1 => exact mulW_ok ⟨by omega, by omega⟩ ⟨by omega, by omega⟩))
  | ((guard_target = G.WR _ (rIxT _) _ _ _ _); (refine w_ixT (by first | exact atI_0 | exact atI_1 | exact atI_2 | exact atI_3 | exact atI_4 | exact atI_5 | exact atI_6 | assumption) ?_))
  | ((guard_target = G.WR _ (rIxL _) _ _ _ _); (refine w_ixL (by first | exact lstD_v | exact lstD_o rfl) (by first | exact atI_0 | exact atI_1 | exact atI_2 | exact atI_3 | exact atI_4 | exact atI_5 | exact atI_6 | assumption) ?_)))
local macro_rules | `(tactic| walk_at "wc") => `(tactic| first
  | with_reducible refine c_int ?_
  | with_reducible refine c_intB ?_
  | with_reducible refine c_abs ?_
  | ((guard_target = G.WC _ (G.rLen _) _ _ _); (refine c_lenL (by first | exact lstD_v | exact lstD_o rfl) ?_))
  | with_reducible refine c_lenT ?_
  | ((guard_target = G.WC _ (G.rListOf _) _ _ _); (refine c_listL (by first | exact lstD_v | exact lstD_o rfl) ?_))
  | with_reducible refine c_listT ?_
  | ((guard_target = G.WC _ (G.rTupOf _) _ _ _); (refine c_tupL (by first | exact lstD_v | exact lstD_o rfl) ?_))
  | with_reducible refine c_tupT ?_)
local macro_rules | `(tactic| walk_at "e") => `(tactic| first
  | (guard_target = G.WE _ _ _ _ _ _ _; walk_at "we")
  | (guard_target = G.WS _ _ _ _ _ _; walk_at "ws")
  | (guard_target = G.WA _ _ _ _ _ _ _; walk_at "wa")
  | (guard_target = G.WR _ _ _ _ _ _; walk_at "wr")
  | (guard_target = G.WT _ _ _ _ _ _ _; walk_at "wt")
  | (guard_target = G.WC _ _ _ _ _; walk_at "wc")
  | (guard_target = G.WU _ _ _ _ _; with_reducible refine w_neg ?_)
  | (guard_target = G.WG _ _ _ _ _ _ _; first | with_reducible refine g_name ?_ | with_reducible refine g_setL ?_ | refine g_pair rfl ?_ | refine g_trip rfl ?_ | refine g_quad rfl ?_)
  | (guard_target = G.WO _ _ _ _ _ _ _; first | with_reducible refine o_none ?_ | with_reducible refine o_some ?_)
  | with_reducible refine tt_ ?_
  | with_reducible refine ff_ ?_
  | with_reducible refine ntt_ ?_
  | with_reducible refine nff_ ?_
  | ((guard_target = ((!G.isNon _) = true → _) ∧ _); (first | refine bnF rfl ?_ | refine bnT rfl ?_))
  | ((guard_target = (G.isNon _ = true → _) ∧ _); (first | refine bF rfl ?_ | refine bT rfl ?_))
  | (guard_target = Exists _; first
    | refine ⟨_, rfl, rfl, rfl, ?_⟩
    | refine ⟨_, _, _, rfl, rfl, rfl, Nat.le_of_ble_eq_true rfl, ?_⟩
    | refine ⟨_, _, _, rfl, rfl, rfl, ?_⟩
    | refine ⟨_, _, rfl, rfl, Nat.le_of_ble_eq_true rfl, ?_⟩
    | refine ⟨_, rfl, Nat.le_of_ble_eq_true rfl, Nat.le_of_ble_eq_true rfl, ?_⟩
    | refine ⟨_, _, _, _, _, rfl, rfl, rfl, rfl, rfl, ?_⟩
    | refine ⟨_, _, _, rfl, rfl, rfl, Nat.le_of_ble_eq_true rfl, ?_⟩
    | refine ⟨_, _, rfl, rfl, rfl, ?_⟩
    | refine ⟨_, _, _, rfl, ?_⟩
    | refine ⟨_, _, (by first | exact insD_v | exact insD_o rfl), rfl, ?_⟩
    | refine ⟨_, _, rfl, ?_⟩
    | refine ⟨_, rfl, rfl, ?_⟩
    | refine ⟨_, rfl, Nat.le_of_ble_eq_true rfl, ?_⟩
    | refine ⟨_, (by first | exact lstD_v | exact lstD_o rfl), ?_⟩
    | refine ⟨_, rfl, ?_⟩))
local macro_rules | `(tactic| walk_at "o") => `(tactic| first | with_reducible refine w_lstO ?_ | walk_at "e")
local macro_rules | `(tactic| walk_at "g") => `(tactic| first | walk_at "e" | with_reducible refine s_seq ?_)
local macro_rules | `(tactic| walk_at "n") => `(tactic| (with_reducible refine s_seq ?_); (repeat walk_at "e"))

def sp_l_numbers (K : PySem.W.Frag) : SpD := fun ts O P _ => ∃ (n : Nat) (p : List D) (m : Int), ts = [.own 0, .v (.int m), .v (.int 13)] ∧ O = [.lst p] ∧ Pen n p ∧ n < 900000 ∧ 2 ≤ m ∧ m ≤ 1000000000000000000000000000000 ∧ ∀ p' (xs : List Int), Pen (n + 60) p' → xs.length ≤ 13 → Sml 140 xs → P (.v (.lst (nums xs))) [.lst p']
theorem sp_l_numbers_len {K : PySem.W.Frag} {ts O P X} (h : sp_l_numbers K ts O P X) : ts.length = 3 := by
  obtain ⟨n, p, m, rfl, _⟩ := h
  rfl
def sp_l_made (K : PySem.W.Frag) : SpD := fun ts O P _ => ∃ (m : Int) (xs : List Int), ts = [.v (.int m), .v (.lst (nums xs))] ∧ O = [] ∧ 2 ≤ m ∧ m ≤ 1000000000000000000000000000000 ∧ xs.length ≤ 13 ∧ P (.v (sumD K m (tr m xs))) []
theorem sp_l_made_len {K : PySem.W.Frag} {ts O P X} (h : sp_l_made K ts O P X) : ts.length = 2 := by
  obtain ⟨m, xs, rfl, _⟩ := h
  rfl
def sp_l_bin (K : PySem.W.Frag) : SpD := fun ts O P _ => ∃ (n : Int) (j : Nat), ts = [.v (.int n), .v (.int j)] ∧ O = [] ∧ j ≤ 12 ∧ n.natAbs + 12 < 2 ^ 230 ∧ P (.v (.int (bin n j))) []
theorem sp_l_bin_len {K : PySem.W.Frag} {ts O P X} (h : sp_l_bin K ts O P X) : ts.length = 2 := by
  obtain ⟨n, j, rfl, _⟩ := h
  rfl
def sp_l_value (K : PySem.W.Frag) : SpD := fun ts O P _ => ∃ (m : Int) (xs : List Int) (n : Int), ts = [.v (.int m), .v (.lst (nums xs)), .v (.int n)] ∧ O = [] ∧ 2 ≤ m ∧ xs.length ≤ 13 ∧ Sml 140 xs ∧ n.natAbs + 12 < 2 ^ 230 ∧ P (.v (.int (V xs n % m))) []
theorem sp_l_value_len {K : PySem.W.Frag} {ts O P X} (h : sp_l_value K ts O P X) : ts.length = 3 := by
  obtain ⟨m, xs, n, rfl, _⟩ := h
  rfl
def sp_l_beat (K : PySem.W.Frag) : SpD := fun ts O P _ => ∃ (n : Nat) (p : List D), ts = [.own 0] ∧ O = [.lst p] ∧ Pen n p ∧ n < 900000 ∧ ∀ p' (b : Int), Pen (n + 4) p' → b.natAbs < 2 ^ 140 → P (.v (.int b)) [.lst p']
theorem sp_l_beat_len {K : PySem.W.Frag} {ts O P X} (h : sp_l_beat K ts O P X) : ts.length = 1 := by
  obtain ⟨n, p, rfl, _⟩ := h
  rfl
theorem near_ok {m d1 d2 d3 : Int} (m1 : 2 ≤ m) (m2 : m ≤ 1000000000000000000000000000000) (a0 : 0 ≤ d1) (a1 : d1 < 100) (b0 : 0 ≤ d2) (b1 : d2 < m) (c0 : 0 ≤ d3) (c1 : d3 < 9) {j : Nat} {d : D}
    (h : ([.int 0, .int 0, .int 1, .int (-1), .int (m - 1), .int m, .int (m + 1), .int (m / 2), .int ((-3) * m), .int (d1 - 50), .int d2, .int (10 ^ Int.toNat 39 + d3)] : List D)[j]? = some d) : ∃ x : Int, d = .int x ∧ x.natAbs < 2 ^ 140 := by
  have e39 : (10 : Int) ^ Int.toNat 39 = 1000000000000000000000000000000000000000 := by decide
  rw [e39] at h
  match j, h with
  | 0, h => cases h; exact ⟨_, rfl, by decide⟩
  | 1, h => cases h; exact ⟨_, rfl, by decide⟩
  | 2, h => cases h; exact ⟨_, rfl, by decide⟩
  | 3, h => cases h; exact ⟨_, rfl, by decide⟩
  | 4, h => cases h; exact ⟨_, rfl, by omega⟩
  | 5, h => cases h; exact ⟨_, rfl, by omega⟩
  | 6, h => cases h; exact ⟨_, rfl, by omega⟩
  | 7, h => cases h; exact ⟨_, rfl, by omega⟩
  | 8, h => cases h; exact ⟨_, rfl, by omega⟩
  | 9, h => cases h; exact ⟨_, rfl, by omega⟩
  | 10, h => cases h; exact ⟨_, rfl, by omega⟩
  | 11, h => cases h; exact ⟨_, rfl, by omega⟩
  | n + 12, h => cases h
theorem ints_ok {b : Nat} {xs : List Int} (hx : Sml b xs) {j : Nat} {d : D} (h : (nums xs)[j]? = some d) : ∃ x : Int, d = .int x ∧ x.natAbs < 2 ^ b := by
  unfold nums at h
  rw [List.getElem?_map] at h
  cases e : xs[j]? with
  | none => rw [e] at h; cases h
  | some x =>
    rw [e] at h
    cases h
    exact ⟨x, rfl, hx x (List.mem_of_getElem? e)⟩
theorem sml_snoc {b : Nat} {xs : List Int} {x : Int} (h : Sml b xs) (k : x.natAbs < 2 ^ b) : Sml b (xs ++ [x]) := fun y hy => by
  rcases List.mem_append.mp hy with hy | hy
  · exact h y hy
  · rw [List.mem_singleton.mp hy]
    exact k
theorem pad_take (xs : List Int) (h : xs.length ≤ 13) : (xs ++ List.replicate 13 0).take 13 = xs ++ List.replicate (13 - xs.length) 0 := by
  rw [List.take_append, List.take_of_length_le h, List.take_replicate, Nat.min_eq_left (by omega)]
theorem w_eqBB {K : PySem.W.Frag} {O : List OD} {P : PT'} {x y : Bool} (h : x = y) (k : P (.v (.bl true)) O) : WR K rEq (.v (.bl x)) (.v (.bl y)) O P := w_eq (v := .bl x) (u := .bl y) rfl rfl rfl (by rw [h, decide_eq_true rfl]; exact k)
theorem cut_last1 {zs : List Int} {z : Int} : G.cutD (nums (zs ++ [z])) none (some (-1)) = nums zs := by
  rw [← nums_app]
  unfold G.cutD
  have e : HT.sIx (nums zs ++ [D.int z]).length (nums zs ++ [D.int z]).length (some (-1)) = (nums zs).length := by
    rw [List.length_append, List.length_singleton]
    unfold HT.sIx
    simp
    omega
  rw [HT.sIx_none, e, List.drop_zero, Nat.sub_zero, List.take_left']
  rfl
theorem len13 {xs : List Int} (h : xs.length = 13) : ∃ a b c d e f g i j k l m o, xs = [a, b, c, d, e, f, g, i, j, k, l, m, o] := by
  match xs, h with
  | [a, b, c, d, e, f, g, i, j, k, l, m, o], _ => exact ⟨a, b, c, d, e, f, g, i, j, k, l, m, o, rfl⟩

def sp_l_modulus (K : PySem.W.Frag) : SpD := fun ts O P _ => ∃ (n : Nat) (p : List D), ts = [.own 0] ∧ O = [.lst p] ∧ Pen n p ∧ n < 900000 ∧ ∀ p' (m : Int), Pen (n + 4) p' → 2 ≤ m → m ≤ 1000000000000000000000000000000 → P (.v (.int m)) [.lst p']
theorem sp_l_modulus_len {K : PySem.W.Frag} {ts O P X} (h : sp_l_modulus K ts O P X) : ts.length = 1 := by
  obtain ⟨n, p, rfl, _⟩ := h
  rfl

def sp_l_trim (K : PySem.W.Frag) : SpD := fun ts O P _ => ∃ (m : Int) (xs : List Int), ts = [.v (.int m), .v (.lst (nums xs))] ∧ O = [] ∧ 2 ≤ m ∧ xs.length ≤ 13 ∧ P (.v (.lst (nums (tr m xs)))) []
theorem sp_l_trim_len {K : PySem.W.Frag} {ts O P X} (h : sp_l_trim K ts O P X) : ts.length = 2 := by
  obtain ⟨m, xs, rfl, _⟩ := h
  rfl

def wrB (w : Str) (most : Int) : Bool := match wdNum w with
  | none => false
  | some n => decide ((n : Int) < most)
theorem wrB_no {w : Str} {most : Int} (h : isW w = false) : wrB w most = false := by
  unfold wrB wdNum
  rw [h]
  rfl
theorem wrB_yes {n : Nat} {most : Int} (h : n < 10 ^ 40) : wrB (numS n) most = decide ((n : Int) < most) := by
  unfold wrB
  rw [wdNum_of h]
theorem num_wrB {w : Str} {m : Int} : numAt (some w) 0 (m - 1) = none ↔ wrB w m = false := by
  unfold numAt wrB
  simp only
  cases hw : wdNum w with
  | none => simp
  | some n =>
    simp only
    by_cases h : (n : Int) < m
    · rw [if_pos ⟨by omega, by omega⟩, decide_eq_true h]
      simp
    · rw [if_neg (fun z => h (by have := z.2; omega)), decide_eq_false h]
      simp
theorem cgo_end {ws : List Str} {m : Int} {f k : Nat} {acc : List Nat} (h : ¬ k < ws.length) : cgo ws m f k acc = cfin ws k acc := by
  cases f with
  | zero => rfl
  | succ f =>
    unfold cgo
    rw [if_neg h]
def sp_l_written (K : PySem.W.Frag) : SpD := fun ts O P X => ∃ (w : Str) (most : Int), ts = [.v (.str w), .v (.int most)] ∧ O = [] ∧ w.length ≤ sizeLine ∧ PyData.strOk w = true ∧ P (.v (.bl (wrB w most))) []
theorem sp_l_written_len {K : PySem.W.Frag} {ts O P X} (h : sp_l_written K ts O P X) : ts.length = 2 := by
  obtain ⟨w, most, rfl, _⟩ := h
  rfl
def sp_l_wrong (K : PySem.W.Frag) : SpD := fun ts O P X => ∃ (t : Str), ts = [.v (.str t)] ∧ O = [] ∧ t.length ≤ 1000000 ∧ PyData.strOk t = true ∧ P (.v (wrD (Txt.split t " "))) []
theorem sp_l_wrong_len {K : PySem.W.Frag} {ts O P X} (h : sp_l_wrong K ts O P X) : ts.length = 1 := by
  obtain ⟨t, rfl, _⟩ := h
  rfl
theorem sc_law_modulus : FnScope ["_law_pen_here", "_law_small", "_law_great"] ["_law_pen_here"] (defScope (top 38)) := ⟨rfl, rfl, rfl, by decide +kernel, rfl, by decide +kernel, by decide +kernel⟩
theorem ok_law_modulus {P : Program} {w : World} {K : PySem.W.Frag} {mg : Str → Option Value} {base : Heap} (T : Tx K mg) (h_law_draw : Fn P w K mg base 1 (He.fAd K ("_law_draw", none)) ["_law_pen_here", "_law_many"] (sp_draw K)) (h_law_pick : Fn P w K mg base 2 (He.fAd K ("_law_pick", none)) ["_law_pen_here", "_law_some"] (sp_pick K)) : Fn P w K mg base 3 (He.fAd K ("_law_modulus", none)) ["_law_pen_here"] (sp_l_modulus K) := by
  obtain ⟨_, F_law_draw, b_law_draw, kp_law_draw, lk_law_draw⟩ := h_law_draw
  obtain ⟨_, F_law_pick, b_law_pick, kp_law_pick, lk_law_pick⟩ := h_law_pick
  obtain ⟨fd, F⟩ := T.d_law_modulus
  refine ⟨fd, F.ok sc_law_modulus (lift_len ?_) (fun cdv A outer s H vs Q E hr h => ?_), F.bindsN fun _ _ _ _ _ _ us hl => (match us, hl with | [_], _ => rfl), F.kp, lk_of F⟩
  · intro ts O P X h
    exact sp_l_modulus_len h
  · have hu := hr.units
    refine ⟨_, (PSs.nox (pss_cons (ps_set (i := 1) sc_law_modulus.nd rfl (.inl rfl) (pe_lst (pa_cons pe_int (pa_cons pe_int (pa_cons pe_int (pa_cons pe_int (pa_cons pe_int (pa_cons pe_int (pa_cons pe_int (pa_cons pe_int (pa_cons pe_int (pa_cons pe_int (pa_cons pe_int (pa_cons pe_int (pa_cons (pe_op op_add pe_int (pe_call F_law_draw (hr.mono (by decide)) (by rfl) T.g__law_draw kp_law_draw b_law_draw .nil passL (pa_cons (pv 0) (pa_cons pe_int pa_nil)))) pa_nil)))))))))))))))
    (pss_cons (ps_set (i := 2) sc_law_modulus.nd rfl (.inl rfl) (pe_lst (pa_cons (pe_op op_pow pe_int pe_int) (pa_cons (pe_op op_pow pe_int pe_int) (pa_cons (pe_op op_mulW (pe_op op_pow pe_int pe_int) (pe_op op_pow pe_int pe_int)) (pa_cons (pe_op op_pow pe_int pe_int) (pa_cons (pe_op op_add (pe_op op_pow pe_int pe_int) pe_int) (pa_cons (pe_op op_sub (pe_op op_pow pe_int pe_int) pe_int) (pa_cons (pe_op op_add pe_int (pe_call F_law_draw (hr.mono (by decide)) (by rfl) T.g__law_draw kp_law_draw b_law_draw .nil passL (pa_cons (pv 0) (pa_cons (pe_op op_sub (pe_op op_pow pe_int pe_int) pe_int) pa_nil)))) pa_nil)))))))))
    (pss_one (ps_ret (pe_ifExp (pt_cmpR op_gt (pe_call F_law_draw (hr.mono (by decide)) (by rfl) T.g__law_draw kp_law_draw b_law_draw .nil passL (pa_cons (pv 0) (pa_cons pe_int pa_nil))) pe_int (nomark _)) (pe_call F_law_pick (hr.mono (by decide)) (by rfl) T.g__law_pick kp_law_pick b_law_pick .nil passL (pa_cons (pv 0) (pa_cons (pv 1) pa_nil))) (pe_call F_law_pick (hr.mono (by decide)) (by rfl) T.g__law_pick kp_law_pick b_law_pick .nil passL (pa_cons (pv 0) (pa_cons (pv 2) pa_nil))))))))), enter h fun ts O P X h _ => ?_⟩
    try dsimp only [cxOf, Cx.nox, Cx.wish]
    
    obtain ⟨n, p, rfl, rfl, hp, hn, k⟩ := h
    show WS _ _ _ _ [.own 0, .no, .no] _
    walk_at "n"
    refine u_draw hp (by omega) (by decide) (by decide) fun p1 d1 hp1 a0 a1 => ⟨_, rfl, nno, ?_⟩
    repeat walk_at "e"
    walk_at "n"
    refine w_mulW (mulW_ok ⟨by decide, by decide⟩ ⟨by decide, by decide⟩) ?_
    repeat walk_at "e"
    refine u_draw hp1 (by omega) (by decide) (by decide) fun p2 d2 hp2 b0 b1 => ⟨_, rfl, nno, ?_⟩
    have b1' : d2 < 1000000000000000000000000000000 - 1 := b1
    repeat walk_at "e"
    refine u_draw hp2 (by omega) (by decide) (by decide) fun p3 d3 hp3 c0 c1 => ⟨_, rfl, nno, ?_⟩
    repeat walk_at "e"
    refine br (fun _ => ?_) (fun _ => ?_)
    · repeat walk_at "e"
      refine u_pick hp3 (by omega) (Nat.le_of_ble_eq_true rfl) (Nat.le_of_ble_eq_true rfl) fun p4 j w hp4 hw => ⟨_, rfl, nno, ?_⟩
      have hw1 : ∃ x : Int, w = .int x ∧ 2 ≤ x ∧ x ≤ 1000000000000000000000000000000 := by
        match j, hw with
        | 0, h => cases h; exact ⟨_, rfl, by decide, by decide⟩
        | 1, h => cases h; exact ⟨_, rfl, by decide, by decide⟩
        | 2, h => cases h; exact ⟨_, rfl, by decide, by decide⟩
        | 3, h => cases h; exact ⟨_, rfl, by decide, by decide⟩
        | 4, h => cases h; exact ⟨_, rfl, by decide, by decide⟩
        | 5, h => cases h; exact ⟨_, rfl, by decide, by decide⟩
        | 6, h => cases h; exact ⟨_, rfl, by decide, by decide⟩
        | 7, h => cases h; exact ⟨_, rfl, by decide, by decide⟩
        | 8, h => cases h; exact ⟨_, rfl, by decide, by decide⟩
        | 9, h => cases h; exact ⟨_, rfl, by decide, by decide⟩
        | 10, h => cases h; exact ⟨_, rfl, by decide, by decide⟩
        | 11, h => cases h; exact ⟨_, rfl, by decide, by decide⟩
        | 12, h => cases h; exact ⟨_, rfl, by omega, by omega⟩
        | n + 13, h => cases h
      obtain ⟨x, rfl, h1, h2⟩ := hw1
      exact ⟨rfl, k _ _ hp4 h1 h2⟩
    · repeat walk_at "e"
      refine u_pick hp3 (by omega) (Nat.le_of_ble_eq_true rfl) (Nat.le_of_ble_eq_true rfl) fun p4 j w hp4 hw => ⟨_, rfl, nno, ?_⟩
      have hw1 : ∃ x : Int, w = .int x ∧ 2 ≤ x ∧ x ≤ 1000000000000000000000000000000 := by
        match j, hw with
        | 0, h => cases h; exact ⟨_, rfl, by decide, by decide⟩
        | 1, h => cases h; exact ⟨_, rfl, by decide, by decide⟩
        | 2, h => cases h; exact ⟨_, rfl, by decide, by decide⟩
        | 3, h => cases h; exact ⟨_, rfl, by decide, by decide⟩
        | 4, h => cases h; exact ⟨_, rfl, by decide, by decide⟩
        | 5, h => cases h; exact ⟨_, rfl, by decide, by decide⟩
        | 6, h => cases h; exact ⟨_, rfl, by omega, by omega⟩
        | n + 7, h => cases h
      obtain ⟨x, rfl, h1, h2⟩ := hw1
      exact ⟨rfl, k _ _ hp4 h1 h2⟩
theorem sc_law_numbers : FnScope ["_law_pen_here", "_law_modulus_here", "_law_most", "_law_found", "_law_turn", "_law_near"] ["_law_pen_here", "_law_modulus_here", "_law_most"] (defScope (top 39)) := ⟨rfl, rfl, rfl, by decide +kernel, rfl, by decide +kernel, by decide +kernel⟩
theorem ok_law_numbers {P : Program} {w : World} {K : PySem.W.Frag} {mg : Str → Option Value} {base : Heap} (T : Tx K mg) (h_law_draw : Fn P w K mg base 1 (He.fAd K ("_law_draw", none)) ["_law_pen_here", "_law_many"] (sp_draw K)) (h_law_pick : Fn P w K mg base 2 (He.fAd K ("_law_pick", none)) ["_law_pen_here", "_law_some"] (sp_pick K)) : Fn P w K mg base 3 (He.fAd K ("_law_numbers", none)) ["_law_pen_here", "_law_modulus_here", "_law_most"] (sp_l_numbers K) := by
  obtain ⟨_, F_law_draw, b_law_draw, kp_law_draw, lk_law_draw⟩ := h_law_draw
  obtain ⟨_, F_law_pick, b_law_pick, kp_law_pick, lk_law_pick⟩ := h_law_pick
  obtain ⟨fd, F⟩ := T.d_law_numbers
  refine ⟨fd, F.ok sc_law_numbers (lift_len ?_) (fun cdv A outer s H vs Q E hr h => ?_), F.bindsN fun _ _ _ _ _ _ us hl => (match us, hl with | [_, _, _], _ => rfl), F.kp, lk_of F⟩
  · intro ts O P X h
    exact sp_l_numbers_len h
  · have hu := hr.units
    refine ⟨_, (PSs.nox (pss_cons (ps_set (i := 3) sc_law_numbers.nd rfl (.inl rfl) (pe_lst pa_nil))
    (pss_cons (ps_for PassesOwn.never rfl (pi_range1 (by rfl) T.n_range (pa_cons (pe_call F_law_draw (hr.mono (by decide)) (by rfl) T.g__law_draw kp_law_draw b_law_draw .nil passL (pa_cons (pv 0) (pa_cons (pe_op op_add (pv 2) pe_int) pa_nil))) pa_nil)) (pg_name (i := 4) sc_law_numbers.nd rfl (.inl rfl))
    (pss_cons (ps_set (i := 5) sc_law_numbers.nd rfl (.inl rfl) (pe_lst (pa_cons pe_int (pa_cons pe_int (pa_cons pe_int (pa_cons (pe_un un_neg pe_int) (pa_cons (pe_op op_sub (pv 1) pe_int) (pa_cons (pv 1) (pa_cons (pe_op op_add (pv 1) pe_int) (pa_cons (pe_op op_fdivW (pv 1) pe_int) (pa_cons (pe_op op_mulW (pe_un un_neg pe_int) (pv 1)) pa_nil)))))))))))
    (pss_one (ps_expr (pe_bm PySem.F.plainAttrs_list PySem.F.slot_list_append PySem.F.type_list_append mt_append (pv 3) (pa_cons (pe_call F_law_pick (hr.mono (by decide)) (by rfl) T.g__law_pick kp_law_pick b_law_pick .nil passL (pa_cons (pv 0) (pa_cons (pe_op op_cat (pv 5) (pe_lst (pa_cons (pe_op op_sub (pe_call F_law_draw (hr.mono (by decide)) (by rfl) T.g__law_draw kp_law_draw b_law_draw .nil passL (pa_cons (pv 0) (pa_cons pe_int pa_nil))) pe_int) (pa_cons (pe_call F_law_draw (hr.mono (by decide)) (by rfl) T.g__law_draw kp_law_draw b_law_draw .nil passL (pa_cons (pv 0) (pa_cons (pv 1) pa_nil))) (pa_cons (pe_op op_add (pe_op op_pow pe_int pe_int) (pe_call F_law_draw (hr.mono (by decide)) (by rfl) T.g__law_draw kp_law_draw b_law_draw .nil passL (pa_cons (pv 0) (pa_cons pe_int pa_nil)))) pa_nil))))) pa_nil))) pa_nil))))))
    (pss_one (ps_ret (pv 3)))))), enter h fun ts O P X h _ => ?_⟩
    try dsimp only [cxOf, Cx.nox, Cx.wish]
    
    obtain ⟨n, p, m, rfl, rfl, hp, hn, m1, m2, k⟩ := h
    show WS _ _ _ _ [.own 0, .v (.int m), .v (.int 13), .no, .no, .no] _
    refine s_seq ?_
    repeat walk_at "o"
    refine s_seq ?_
    refine s_forE ?_
    refine i_rng1 ?_
    repeat walk_at "e"
    refine u_draw hp (by omega) (by decide) (by decide) fun p1 r hp1 r0 r1 => ⟨_, rfl, nno, ?_⟩
    obtain ⟨r, rfl⟩ : ∃ j : Nat, r = j := ⟨r.toNat, by omega⟩
    repeat walk_at "e"
    refine ⟨by omega, ?_⟩
    rw [Int.toNat_natCast]
    refine for_R1 (fun i ts' O' => ∃ (xs : List Int) (q : List D) (a b : G.T), Pen (n + 1 + 4 * i) q ∧ O' = [.lst q, .lst (nums xs)] ∧ ts' = [.own 0, .v (.int m), .v (.int 13), .own 1, a, b] ∧ xs.length = i ∧ Sml 140 xs) ⟨[], _, _, _, hp1, rfl, rfl, rfl, fun x hx => (by cases hx)⟩ ?_ ?_
    · rintro i _ _ hi ⟨xs, q, a, b, hq, rfl, rfl, hl, hs⟩
      have e39 : (10 : Int) ^ Int.toNat 39 = 1000000000000000000000000000000000000000 := by decide
      refine g_name ?_
      walk_at "n"
      refine u_draw hq (by omega) (by decide) (by decide) fun q1 d1 hq1 a0 a1 => ⟨_, rfl, nno, ?_⟩
      repeat walk_at "e"
      refine u_draw hq1 (by omega) (by omega) (by omega) fun q2 d2 hq2 b0 b1 => ⟨_, rfl, nno, ?_⟩
      repeat walk_at "e"
      refine u_draw hq2 (by omega) (by decide) (by decide) fun q3 d3 hq3 c0 c1 => ⟨_, rfl, nno, ?_⟩
      repeat walk_at "e"
      refine w_catL lstD_v lstD_v (by exact Nat.le_of_ble_eq_true rfl) ?_
      repeat walk_at "e"
      refine u_pick hq3 (by omega) (Nat.le_of_ble_eq_true rfl) (Nat.le_of_ble_eq_true rfl) fun q4 j w hq4 hw => ⟨_, rfl, nno, ?_⟩
      obtain ⟨x, rfl, hx⟩ := near_ok m1 m2 a0 a1 b0 b1 c0 c1 hw
      repeat walk_at "e"
      refine m_append (by exact rfl) (lt_sz (by omega)) ?_
      exact ⟨xs ++ [x], q4, _, _, hq4.mono (by omega), by rw [← nums_app] <;> rfl, rfl, by rw [List.length_append, hl] <;> rfl, sml_snoc hs hx⟩
    · rintro _ _ ⟨xs, q, a, b, hq, rfl, rfl, hl, hs⟩
      refine s_frz 1 rfl rfl ?_
      repeat walk_at "e"
      exact ⟨rfl, k _ _ (hq.mono (by omega)) (by omega) hs⟩
theorem sc_law_made : FnScope ["_law_modulus_here", "_law_told", "_law_a", "_law_b", "_law_c", "_law_d", "_law_e", "_law_f", "_law_g", "_law_h", "_law_i", "_law_j", "_law_k", "_law_m", "_law_o"] ["_law_modulus_here", "_law_told"] (defScope (top 40)) := ⟨rfl, rfl, rfl, by decide +kernel, rfl, by decide +kernel, by decide +kernel⟩
theorem ok_law_made {P : Program} {w : World} {K : PySem.W.Frag} {mg : Str → Option Value} {base : Heap} (T : Tx K mg) (h_SumU_initU : FnS P w K mg base 4 (He.fAd K ("Sum", some "__init__")) 2 (sp_s_init K)) : Fn P w K mg base 6 (He.fAd K ("_law_made", none)) ["_law_modulus_here", "_law_told"] (sp_l_made K) := by
  obtain ⟨F_SumU_initU, kp_SumU_initU⟩ := h_SumU_initU
  obtain ⟨fd, F⟩ := T.d_law_made
  refine ⟨fd, F.ok sc_law_made (lift_len ?_) (fun cdv A outer s H vs Q E hr h => ?_), F.bindsN fun _ _ _ _ _ _ us hl => (match us, hl with | [_, _], _ => rfl), F.kp, lk_of F⟩
  · intro ts O P X h
    exact sp_l_made_len h
  · have hu := hr.units
    refine ⟨_, (PSs.nox (pss_cons (ps_if (pt_cmpR op_eq (pe_callB (cr_lenK K) (by rfl) T.n_len boot_len (pa_cons (pv 1) pa_nil)) pe_int (nomark _))
    (pss_one (ps_ret (StX.pe_makeR T.mk_Sum F_SumU_initU (hr.mono (by decide)) (by rfl) T.g_Sum passL (pa_cons (pv 0) pa_nil))))
    pss_nil)
    (pss_cons (ps_if (pt_cmpR op_eq (pe_callB (cr_lenK K) (by rfl) T.n_len boot_len (pa_cons (pv 1) pa_nil)) pe_int (nomark _))
    (pss_one (ps_ret (StX.pe_makeR T.mk_Sum F_SumU_initU (hr.mono (by decide)) (by rfl) T.g_Sum passL (pa_cons (pv 0) (pa_cons (pe_ix (ix_listK K) (pv 1) pe_int (fun _ _ => rfl)) pa_nil)))))
    pss_nil)
    (pss_cons (ps_if (pt_cmpR op_eq (pe_callB (cr_lenK K) (by rfl) T.n_len boot_len (pa_cons (pv 1) pa_nil)) pe_int (nomark _))
    (pss_one (ps_ret (StX.pe_makeR T.mk_Sum F_SumU_initU (hr.mono (by decide)) (by rfl) T.g_Sum passL (pa_cons (pv 0) (pa_cons (pe_ix (ix_listK K) (pv 1) pe_int (fun _ _ => rfl)) (pa_cons (pe_ix (ix_listK K) (pv 1) pe_int (fun _ _ => rfl)) pa_nil))))))
    pss_nil)
    (pss_cons (ps_asg (pe_slice (sl_listK K) (pe_op op_cat (pe_callTy (cr_listK K) (by rfl) T.n_list boot_list (pa_cons (pv 1) pa_nil)) (pe_op op_rep (pe_lst (pa_cons pe_int pa_nil)) pe_int)) po_none (po_some pe_int)) (pg_lstK K (n := 13) rfl (pgs_cons (pg_name (i := 2) sc_law_made.nd rfl (.inl rfl)) (pgs_cons (pg_name (i := 3) sc_law_made.nd rfl (.inl rfl)) (pgs_cons (pg_name (i := 4) sc_law_made.nd rfl (.inl rfl)) (pgs_cons (pg_name (i := 5) sc_law_made.nd rfl (.inl rfl)) (pgs_cons (pg_name (i := 6) sc_law_made.nd rfl (.inl rfl)) (pgs_cons (pg_name (i := 7) sc_law_made.nd rfl (.inl rfl)) (pgs_cons (pg_name (i := 8) sc_law_made.nd rfl (.inl rfl)) (pgs_cons (pg_name (i := 9) sc_law_made.nd rfl (.inl rfl)) (pgs_cons (pg_name (i := 10) sc_law_made.nd rfl (.inl rfl)) (pgs_cons (pg_name (i := 11) sc_law_made.nd rfl (.inl rfl)) (pgs_cons (pg_name (i := 12) sc_law_made.nd rfl (.inl rfl)) (pgs_cons (pg_name (i := 13) sc_law_made.nd rfl (.inl rfl)) (pgs_cons (pg_name (i := 14) sc_law_made.nd rfl (.inl rfl)) pgs_nil)))))))))))))))
    (pss_one (ps_ret (StX.pe_makeR T.mk_Sum F_SumU_initU (hr.mono (by decide)) (by rfl) T.g_Sum passL (pa_cons (pv 0) (pa_cons (pv 2) (pa_cons (pv 3) (pa_cons (pv 4) (pa_cons (pv 5) (pa_cons (pv 6) (pa_cons (pv 7) (pa_cons (pv 8) (pa_cons (pv 9) (pa_cons (pv 10) (pa_cons (pv 11) (pa_cons (pv 12) (pa_cons (pv 13) (pa_cons (pv 14) pa_nil)))))))))))))))))))))), enter h fun ts O P X h _ => ?_⟩
    try dsimp only [cxOf, Cx.nox, Cx.wish]
    
    obtain ⟨m, xs, rfl, rfl, m1, m2, hl, p⟩ := h
    show WS _ _ _ _ [.v (.int m), .v (.lst (nums xs)), .no, .no, .no, .no, .no, .no, .no, .no, .no, .no, .no, .no, .no] _
    walk_at "n"
    rw [nums_len]
    refine br (fun h0 => ?_) (fun h0 => ?_)
    · obtain rfl : xs = [] := List.length_eq_zero_iff.mp (by omega)
      repeat walk_at "e"
      refine w_makeS ?_
      repeat walk_at "e"
      refine u_init [] m1 m2 hl ?_
      exact ⟨rfl, p⟩
    repeat walk_at "e"
    walk_at "n"
    rw [nums_len]
    refine br (fun h1 => ?_) (fun h1 => ?_)
    · obtain ⟨a, rfl⟩ := List.length_eq_one_iff.mp (show xs.length = 1 by omega)
      repeat walk_at "e"
      refine w_makeS ?_
      repeat walk_at "e"
      refine u_init [a] m1 m2 hl ?_
      exact ⟨rfl, p⟩
    repeat walk_at "e"
    walk_at "n"
    rw [nums_len]
    refine br (fun h2 => ?_) (fun h2 => ?_)
    · obtain ⟨a, b, rfl⟩ : ∃ a b, xs = [a, b] := by
        match xs, h2 with
        | [a, b], _ => exact ⟨a, b, rfl⟩
        | [], h => cases h
        | [_], h => cases h
        | _ :: _ :: _ :: _, h => simp at h; omega
      repeat walk_at "e"
      refine w_makeS ?_
      repeat walk_at "e"
      refine u_init [a, b] m1 m2 hl ?_
      exact ⟨rfl, p⟩
    repeat walk_at "e"
    walk_at "n"
    refine w_repL lstD_v (by decide) (by decide) (by exact Nat.le_of_ble_eq_true rfl) ?_
    repeat walk_at "e"
    refine w_catL lstD_v lstD_v (by rw [nums_len]; show xs.length + 13 ≤ _; omega) ?_
    repeat walk_at "e"
    have e0 : nums xs ++ (List.replicate (Int.toNat 13) [D.int 0]).flatten = nums (xs ++ List.replicate 13 0) := by
      unfold nums
      rw [List.map_append] <;> rfl
    rw [e0, show cutD (nums (xs ++ List.replicate 13 0)) none (some 13) = nums ((xs ++ List.replicate 13 0).take 13) from cut_nums (n := 13) (by rw [List.length_append, List.length_replicate]; omega), pad_take xs hl]
    obtain ⟨a, b, c, d, e, f, g, i, j, k, l, q, o, hx⟩ := len13 (xs := xs ++ List.replicate (13 - xs.length) 0) (by rw [List.length_append, List.length_replicate]; omega)
    rw [← My.tr_zeros m xs (13 - xs.length)] at p
    rw [hx] at p ⊢
    refine g_lst rfl (g_cons (g_name (g_cons (g_name (g_cons (g_name (g_cons (g_name (g_cons (g_name (g_cons (g_name (g_cons (g_name (g_cons (g_name (g_cons (g_name (g_cons (g_name (g_cons (g_name (g_cons (g_name (g_cons (g_name (g_nil ?_)))))))))))))))))))))))))))
    repeat walk_at "e"
    refine w_makeS ?_
    repeat walk_at "e"
    refine u_init [a, b, c, d, e, f, g, i, j, k, l, q, o] m1 m2 (Nat.le_refl 13) ?_
    exact ⟨rfl, p⟩
theorem sc_law_trimmed : FnScope ["_law_modulus_here", "_law_told", "_law_found", ".0", "_law_one"] ["_law_modulus_here", "_law_told"] (defScope (top 41)) := ⟨rfl, rfl, rfl, by decide +kernel, rfl, by decide +kernel, by decide +kernel⟩
theorem ok_law_trimmed {P : Program} {w : World} {K : PySem.W.Frag} {mg : Str → Option Value} {base : Heap} (T : Tx K mg)  : Fn P w K mg base 1 (He.fAd K ("_law_trimmed", none)) ["_law_modulus_here", "_law_told"] (sp_l_trim K) := by
  obtain ⟨fd, F⟩ := T.d_law_trimmed
  refine ⟨fd, F.ok sc_law_trimmed (lift_len ?_) (fun cdv A outer s H vs Q E hr h => ?_), F.bindsN fun _ _ _ _ _ _ us hl => (match us, hl with | [_, _], _ => rfl), F.kp, lk_of F⟩
  · intro ts O P X h
    exact sp_l_trim_len h
  · have hu := hr.units
    refine ⟨_, (PSs.nox (pss_cons (ps_setLc (i := 2) (own := [(".0", 3), ("_law_one", 4)]) rfl sc_law_trimmed.nd rfl rfl (sw_true rfl rfl rfl (by decide +kernel)) (pi_listK K (pv 1)) (blkOk_by (own := [(".0", 3), ("_law_one", 4)]) (N := ["_law_modulus_here", "_law_told", "_law_found", ".0", "_law_one"]) (sc := defScope (top 41)) (by decide +kernel)) (fun _ _ _ _ _ => (pg_name (i := 4) sc_law_trimmed.nd rfl (.inl rfl))) (fun _ _ _ _ _ => pts_nil) (fun _ _ _ _ _ => (pe_op op_mod (pe_callTy call_int1 (by rfl) T.n_int boot_int (pa_cons (pv 4) pa_nil)) (pv 0))))
    (pss_cons (ps_while PassesOwn.never (PW.pt (pw_and (pt_cmpR (op_neDK K hu) (pv 2) (pe_lst pa_nil) (nomark _)) (pw_and1 (pt_cmpR op_eq (pe_ix (ix_listK K) (pv 2) (pe_un un_neg pe_int) (fun _ _ => rfl)) pe_int (nomark _)))))
    (pss_one (ps_set (i := 2) sc_law_trimmed.nd rfl (.inl rfl) (pe_slice (sl_listK K) (pv 2) po_none (po_some (pe_un un_neg pe_int))))))
    (pss_one (ps_ret (pv 2)))))), enter h fun ts O P X h _ => ?_⟩
    try dsimp only [cxOf, Cx.nox, Cx.wish]
    
    obtain ⟨m, xs, rfl, rfl, hm, hl, p⟩ := h
    show WS _ _ _ _ [.v (.int m), .v (.lst (nums xs)), .no, .no, .no] _
    refine s_seq ?_
    repeat walk_at "e"
    refine w_lc1 ?_ (by decide)
    refine i_list ?_
    repeat walk_at "e"
    refine lc_A xs D.int (fun x => .int (x % m)) (by omega) (fun x acc hx => ?_) ?_
    · refine g_name ?_
      repeat walk_at "e"
      exact ⟨rfl, rfl⟩
    repeat walk_at "e"
    refine s_seq ?_
    refine s_while (fun n ts' O' => ∃ ys : List Int, n = ys.length ∧ O' = [] ∧ ts' = [.v (.int m), .v (.lst (nums xs)), .v (.lst (nums ys)), .no, .no] ∧ cut ys = tr m xs ∧ ys.length ≤ 100) (xs.map (· % m)).length ⟨xs.map (· % m), rfl, rfl, (by unfold nums; rw [List.map_map]; rfl), rfl, (by rw [List.length_map]; omega)⟩ ?_
    rintro n _ _ ⟨ys, rfl, rfl, rfl, hc, hl2⟩
    repeat walk_at "e"
    refine w_neD valD_v valD_v pl_numsL pl_nilL ?_
    rw [eqD_nilL]
    refine ⟨_, rfl, nbr (fun hn => ?_) (fun hn => ?_)⟩
    · obtain ⟨zs, z, rfl⟩ : ∃ zs z, ys = zs ++ [z] := ⟨_, _, (List.dropLast_concat_getLast hn).symm⟩
      repeat walk_at "e"
      refine w_ixL lstD_v atI_m1n ?_
      repeat walk_at "e"
      refine br (fun hz => ?_) (fun hz => ?_)
      · subst hz
        rw [List.length_append, List.length_singleton] at hl2 ⊢
        repeat walk_at "e"
        rw [cut_last1]
        exact ⟨zs.length, Nat.lt_succ_self _, zs, rfl, rfl, rfl, by rw [← hc, My.cut_snoc0], by omega⟩
      · rw [My.cut_snoc hz] at hc
        rw [hc]
        repeat walk_at "e"
        exact ⟨rfl, p⟩
    · subst hn
      have hc : [] = tr m xs := hc
      rw [hc]
      refine ff_ ?_
      repeat walk_at "e"
      exact ⟨rfl, p⟩
theorem sc_law_is_written : FnScope ["_law_word", "_law_most", ".0", "_law_sign"] ["_law_word", "_law_most"] (defScope (top 42)) := ⟨rfl, rfl, rfl, by decide +kernel, rfl, by decide +kernel, by decide +kernel⟩
theorem ok_law_is_written {P : Program} {w : World} {K : PySem.W.Frag} {mg : Str → Option Value} {base : Heap} (T : Tx K mg)  : Fn P w K mg base 1 (He.fAd K ("_law_is_written", none)) ["_law_word", "_law_most"] (sp_l_written K) := by
  obtain ⟨fd, F⟩ := T.d_law_is_written
  refine ⟨fd, F.ok sc_law_is_written (lift_len ?_) (fun cdv A outer s H vs Q E hr h => ?_), F.bindsN fun _ _ _ _ _ _ us hl => (match us, hl with | [_, _], _ => rfl), F.kp, lk_of F⟩
  · intro ts O P X h
    exact sp_l_written_len h
  · have hu := hr.units
    refine ⟨_, (PSs.nox (pss_cons (ps_if (PW.pt (pw_or (pt_not (pt_chain op_le op_le pe_int (pe_callB (cr_lenK K) (by rfl) T.n_len boot_len (pa_cons (pv 0) pa_nil)) pe_int)) (pw_or1 (pt_cmpR (op_neDK K hu) (pe_lc (own := [(".0", 2), ("_law_sign", 3)]) rfl sc_law_is_written.nd (pi_str (pv 0)) (blkOk_by (own := [(".0", 2), ("_law_sign", 3)]) (N := ["_law_word", "_law_most", ".0", "_law_sign"]) (sc := defScope (top 42)) (by decide +kernel)) (fun _ _ _ _ _ => (pg_name (i := 3) sc_law_is_written.nd rfl (.inl rfl))) (fun _ _ _ _ _ => (pts_one (pt_cmpR op_notInSign (pv 3) pe_str (by with_unfolding_all rfl)))) (fun _ _ _ _ _ => (pv 3))) (pe_lst pa_nil) (nomark _)))))
    (pss_one (ps_ret pe_bl))
    pss_nil)
    (pss_one (ps_ret (pe_and (pe_or (pe_cmpR op_eq (pv 0) pe_str (nomark _)) (pe_one (pe_cmpR op_ne (pe_ix ix_str (pv 0) pe_int (fun _ _ => rfl)) pe_str (nomark _)))) (pe_one (pe_cmpR op_lt (pe_callTy call_intS (by rfl) T.n_int boot_int (pa_cons (pv 0) pa_nil)) (pv 1) (nomark _)))))))), enter h fun ts O P X h _ => ?_⟩
    try dsimp only [cxOf, Cx.nox, Cx.wish]
    
    obtain ⟨w, most, rfl, rfl, hl, hso, p⟩ := h
    show WS _ _ _ _ [.v (.str w), .v (.int most), .no, .no] _
    refine s_cut (fun ts' O' => O' = [] ∧ (decide (1 ≤ w.length) && decide (w.length ≤ 40)) = true ∧ (w.cps.toList.all isD) = true ∧ ∃ a b : G.T, ts' = [.v (.str w), .v (.int most), a, b]) ?_ ?_
    · repeat walk_at "e"
      refine c_lenS hl ?_
      repeat walk_at "e"
      by_cases h1 : 1 ≤ w.length
      · rw [decide_eq_true (show (1 : Int) ≤ w.length by omega)]
        repeat walk_at "e"
        by_cases h2 : w.length ≤ 40
        · rw [decide_eq_true (show (w.length : Int) ≤ 40 by omega)]
          repeat walk_at "e"
          refine w_lcF1 ?_ (by decide)
          refine i_str ?_
          repeat walk_at "e"
          refine lcF_A w.cps.toList (fun c => D.str ⟨#[c]⟩) (fun c => !isD c) (fun c => D.str ⟨#[c]⟩) (by have := TL.len_tl w; unfold TL.tl at this; omega) (fun c acc hc => ?_) ?_
          · refine g_name ?_
            repeat walk_at "e"
            refine w_notInSign ?_
            repeat walk_at "e"
            intro _
            repeat walk_at "e"
            exact ⟨rfl, rfl⟩
          repeat walk_at "e"
          refine w_neD valD_v valD_v (pl_lstA fun d hd => by
            obtain ⟨c, hc, rfl⟩ := List.mem_map.mp hd
            exact pl_s (_root_.G.one_sign hso (List.mem_filter.mp hc).1)) pl_nilL ?_
          rw [eqD_nil]
          cases ha : w.cps.toList.all isD
          · have en : ¬ (((w.cps.toList.filter fun c => !isD c).map fun c => D.str ⟨#[c]⟩) = []) := fun z => by
              have z2 := List.filter_eq_nil_iff.mp (List.map_eq_nil_iff.mp z)
              have : w.cps.toList.all isD = true := List.all_eq_true.mpr fun c hc => by
                have := z2 c hc
                cases q : isD c
                · rw [q] at this
                  exact absurd rfl this
                · rfl
              rw [ha] at this
              cases this
            rw [decide_eq_false en]
            have ew : isW w = false := by unfold isW; rw [ha]; simp
            rw [wrB_no ew] at p
            repeat walk_at "e"
            exact ⟨rfl, p⟩
          · have en : (((w.cps.toList.filter fun c => !isD c).map fun c => D.str ⟨#[c]⟩) = []) := by
              rw [List.filter_eq_nil_iff.mpr (fun c hc => by rw [List.all_eq_true.mp ha c hc]; decide)] <;> rfl
            rw [decide_eq_true en]
            repeat walk_at "e"
            exact ⟨rfl, by rw [decide_eq_true h1, decide_eq_true h2] <;> rfl, rfl, _, _, rfl⟩
        · rw [decide_eq_false (show ¬ (w.length : Int) ≤ 40 by omega)]
          have ew : isW w = false := by unfold isW; rw [decide_eq_false h2]; simp
          rw [wrB_no ew] at p
          repeat walk_at "e"
          exact ⟨rfl, p⟩
      · rw [decide_eq_false (show ¬ (1 : Int) ≤ w.length by omega)]
        have ew : isW w = false := by unfold isW; rw [decide_eq_false h1]; simp
        rw [wrB_no ew] at p
        repeat walk_at "e"
        exact ⟨rfl, p⟩
    rintro _ _ ⟨rfl, h12, h3, a, b, rfl⟩
    repeat walk_at "e"
    refine w_eq rfl rfl rfl ?_
    by_cases h0 : w = "0"
    · rw [decide_eq_true (congrArg L2.V.str h0)]
      have ew : isW w = true := by unfold isW; rw [h12, h3, decide_eq_true h0] <;> rfl
      obtain ⟨n, en, hn⟩ := isW_num ew
      rw [en, wrB_yes hn] at p
      repeat walk_at "e"
      refine c_intS (by rw [en]; exact numS_int hn) (by rw [en]; exact Nat.le_trans (numS_len hn).1 (by decide)) ?_
      repeat walk_at "e"
      exact ⟨rfl, p⟩
    · rw [decide_eq_false (fun z => h0 (by injection z))]
      repeat walk_at "e"
      obtain ⟨h1, h2⟩ := He.ba h12
      have h1 := of_decide_eq_true h1
      obtain ⟨c, r, e1⟩ : ∃ c r, w.cps.toList = c :: r := by
        have := TL.len_tl w
        unfold TL.tl at this
        cases q : w.cps.toList with
        | nil =>
          rw [q] at this
          rw [this] at h1
          exact absurd h1 (by decide)
        | cons c r => exact ⟨c, r, rfl⟩
      have e2 : atI w.cps.toList 0 = some c := by
        rw [e1]
        exact atI_0
      refine w_ixS hl e2 ?_
      repeat walk_at "e"
      refine w_ne rfl rfl rfl ?_
      have ew : isW w = !decide (w.cps.toList.head? = some 48) := by unfold isW; rw [h12, h3, decide_eq_false h0]; simp
      by_cases q : c = 48
      · have ew2 : isW w = false := by
          rw [ew, e1, q]
          rfl
        rw [wrB_no ew2] at p
        rw [decide_eq_true (show (L2.V.str ⟨#[c]⟩ : L2.V) = L2.V.str "0" by rw [q] <;> rfl)]
        repeat walk_at "e"
        exact ⟨rfl, p⟩
      · have ew2 : isW w = true := by
          rw [ew, e1, decide_eq_false (show ¬ ((c :: r).head? = some 48) from fun z => q (Option.some.inj z))] <;> rfl
        rw [decide_eq_false (fun z => (by
          have z2 : (⟨#[c]⟩ : Str) = "0" := by injection z
          have z3 : [c] = [48] := congrArg (fun s : Str => s.cps.toList) z2
          exact q (by injection z3)))]
        obtain ⟨n, en, hn⟩ := isW_num ew2
        rw [en, wrB_yes hn] at p
        repeat walk_at "e"
        refine c_intS (by rw [en]; exact numS_int hn) (by rw [en]; exact Nat.le_trans (numS_len hn).1 (by decide)) ?_
        repeat walk_at "e"
        exact ⟨rfl, p⟩
end My

set_option Elab.async false
set_option linter.all false
set_option maxRecDepth 100000
set_option maxHeartbeats 0
namespace My
open PySem PySem.Spec PyProof.Rows L2 G

local macro_rules | `(tactic| walk_at "ws") => `(tactic| first
  | with_reducible refine s_set ?_
  | with_reducible refine s_if ?_
  | refine s_fldaug (by assumption) (by assumption) ?_
  | with_reducible refine s_ret ?_
  | with_reducible refine s_retN ?_
  | with_reducible refine s_drop ?_
  | with_reducible refine s_next ?_
  | with_reducible refine s_par ?_
  | with_reducible refine s_par3 ?_
  | refine s_fldN (by assumption) (by assumption) ?_
  | with_reducible refine s_asg ?_
  | refine s_raise1 ?_
  | refine s_raise2 ?_)
local macro_rules | `(tactic| walk_at "we") => `(tactic| first
  | ((with_reducible refine w_v (d := ?k2) ?k1 ?_); (case k1 => exact rfl))
  | ((with_reducible refine w_o (j := ?k2) ?k1 ?_); (case k1 => exact rfl))
  | ((guard_target = G.WE _ _ (tFld _ _ _) _ _ _ _); (refine w_fldN (by assumption) (by assumption) ?_))
  | ((guard_target = G.WE _ _ (tC (.ref _)) _ _ _ _); (refine w_ctup (by assumption) ?_))
  | with_reducible refine w_ci ?_
  | with_reducible refine w_op ?_
  | with_reducible refine w_call ?_
  | with_reducible refine w_cty ?_
  | with_reducible refine w_cb ?_
  | with_reducible refine w_cn ?_
  | with_reducible refine w_cs ?_
  | with_reducible refine w_cr ?_
  | with_reducible refine w_un ?_
  | with_reducible refine w_andV ?_
  | with_reducible refine w_orV ?_
  | with_reducible refine w_notV ?_
  | with_reducible refine w_ife ?_
  | with_reducible refine w_chain ?_
  | with_reducible refine w_tup ?_
  | with_reducible refine w_revL ?_
  | with_reducible refine w_slL ?_
  | with_reducible refine w_slT ?_
  | (guard_target = G.WE _ _ (tCall (lift _ (sp_draw _)) _ _ _) _ _ _ _; refine w_fn10 0 ?_)
  | (guard_target = G.WE _ _ (tCall (lift _ (sp_pick _)) _ _ _) _ _ _ _; refine w_fn10 0 ?_)
  | (guard_target = G.WE _ _ (tMethX _ _ (lift _ (sp_wx_word _)) _ _ _) _ _ _ _; refine w_methOX 0 ?_)
  | (guard_target = G.WE _ _ (tMethX _ _ (lift _ (sp_wx_number _)) _ _ _) _ _ _ _; refine w_methOX 0 ?_)
  | (guard_target = G.WE _ _ (tMethX _ _ (lift _ (sp_wx_end _)) _ _ _) _ _ _ _; refine w_methOX 0 ?_)
  | (guard_target = G.WE _ _ (tMethX _ _ (lift _ (sp_wx_refuse _)) _ _ _) _ _ _ _; refine w_methOX 0 ?_)
  | (guard_target = G.WE _ _ (tMakeX _ (lift _ (sp_wx_init _)) _ _) _ _ _ _; refine w_makeOX ?_)
  | (guard_target = G.WE _ _ (tCallS (lift _ (sp_rx_coefs _)) _ _) _ _ _ _; refine w_fnOX 0 ?_)
  | (guard_target = G.WE _ _ (tMeth _ _ (lift _ (sp_wx_next _)) _ _ _ _) _ _ _ _; refine w_methO 0 ?_)
  | with_reducible refine w_fn0 ?_
  | with_reducible refine w_fnS0 ?_
  | with_reducible refine w_meth0 ?_
  | with_reducible refine w_make0 ?_
  | with_reducible refine w_bmL ?_
  | with_reducible refine w_bmL0 ?_
  | with_reducible refine w_lst ?_
  | with_reducible refine w_callKX ?_
  | with_reducible refine w_makeKX ?_
  | with_reducible refine w_makeX ?_
  | with_reducible refine w_smethX ?_
  | with_reducible refine w_smethK ?_
  | with_reducible refine w_fnV ?_
  | with_reducible refine w_fnX ?_
  | with_reducible refine w_fnSX ?_
  | with_reducible refine w_methX ?_
  | with_reducible refine w_callX ?_
  | with_reducible refine w_methK ?_
  | with_reducible refine w_callK2 ?_
  | with_reducible refine w_callI ?_
  | with_reducible refine w_prop ?_
  | with_reducible refine w_dic0 ?_
  | with_reducible refine w_jcons ?_
  | with_reducible refine w_jnil ?_
  | with_reducible refine w_join ?_
  | with_reducible refine w_split ?_
  | with_reducible refine w_smeth ?_
  | with_reducible refine w_fnKr ?_)
local macro_rules | `(tactic| walk_at "wt") => `(tactic| first
  | with_reducible refine w_test ?_
  | with_reducible refine w_B ?_
  | with_reducible refine w_and ?_
  | with_reducible refine w_or ?_
  | with_reducible refine w_not ?_)
local macro_rules | `(tactic| walk_at "wa") => `(tactic| first
  | with_reducible refine w_cons ?_
  | with_reducible refine w_nil ?_
  | with_reducible refine w_star ?_)
local macro_rules | `(tactic| walk_at "wr") => `(tactic| first
  | with_reducible refine w_add ?_
  | with_reducible refine w_sub ?_
  | with_reducible refine w_lt ?_
  | with_reducible refine w_le ?_
  | with_reducible refine w_gt ?_
  | with_reducible refine w_ge ?_
  | with_reducible refine w_eqI ?_
  | with_reducible refine w_neI ?_
  | with_reducible refine w_isN ?_
  | with_reducible refine w_notN ?_
  | ((with_reducible refine w_mod ?k1 ?_); (case k1 => first | decide | omega))
  | ((with_reducible refine w_mul ?k1 ?_); (case k1 => first | exact Or.inl ⟨by decide, by decide⟩ | exact Or.inr ⟨by decide, by decide⟩ | exact Or.inl ⟨by omega, by omega⟩ | exact Or.inr ⟨by omega, by omega⟩))
  | ((with_reducible refine w_pow ?k1 ?_); (case k1 => first | exact ⟨by decide, by decide, by decide⟩ | exact ⟨by omega, by omega, by omega⟩))
  | ((with_reducible refine w_fdivW ?k1 ?_); (case k1 => exact divW_ok (by first | decide | omega) (by first | decide | omega)))
  | ((with_reducible refine w_mulW ?k1 ?_); (case k1 => exact mulW_ok ⟨by omega, by omega⟩ ⟨by omega, by omega⟩))
  | ((guard_target = G.WR _ (rIxT _) _ _ _ _); (refine w_ixT (by first | exact atI_0 | exact atI_1 | exact atI_2 | exact atI_3 | exact atI_4 | exact atI_5 | exact atI_6 | assumption) ?_))
  | ((guard_target = G.WR _ (rIxL _) _ _ _ _); (refine w_ixL (by first | exact lstD_v | exact lstD_o rfl) (by first | exact atI_0 | exact atI_1 | exact atI_2 | exact atI_3 | exact atI_4 | exact atI_5 | exact atI_6 | assumption) ?_)))
local macro_rules | `(tactic| walk_at "wc") => `(tactic| first
  | with_reducible refine c_int ?_
  | with_reducible refine c_intB ?_
  | with_reducible refine c_abs ?_
  | ((guard_target = G.WC _ (G.rLen _) _ _ _); (refine c_lenL (by first | exact lstD_v | exact lstD_o rfl) ?_))
  | with_reducible refine c_lenT ?_
  | ((guard_target = G.WC _ (G.rListOf _) _ _ _); (refine c_listL (by first | exact lstD_v | exact lstD_o rfl) ?_))
  | with_reducible refine c_listT ?_
  | ((guard_target = G.WC _ (G.rTupOf _) _ _ _); (refine c_tupL (by first | exact lstD_v | exact lstD_o rfl) ?_))
  | with_reducible refine c_tupT ?_)
local macro_rules | `(tactic| walk_at "e") => `(tactic| first
  | (guard_target = G.WE _ _ _ _ _ _ _; walk_at "we")
  | (guard_target = G.WS _ _ _ _ _ _; walk_at "ws")
  | (guard_target = G.WA _ _ _ _ _ _ _; walk_at "wa")
  | (guard_target = G.WR _ _ _ _ _ _; walk_at "wr")
  | (guard_target = G.WT _ _ _ _ _ _ _; walk_at "wt")
  | (guard_target = G.WC _ _ _ _ _; walk_at "wc")
  | (guard_target = G.WU _ _ _ _ _; with_reducible refine w_neg ?_)
  | (guard_target = G.WG _ _ _ _ _ _ _; first | with_reducible refine g_name ?_ | with_reducible refine g_setL ?_ | refine g_pair rfl ?_ | refine g_trip rfl ?_ | refine g_quad rfl ?_)
  | (guard_target = G.WO _ _ _ _ _ _ _; first | with_reducible refine o_none ?_ | with_reducible refine o_some ?_)
  | with_reducible refine tt_ ?_
  | with_reducible refine ff_ ?_
  | with_reducible refine ntt_ ?_
  | with_reducible refine nff_ ?_
  | ((guard_target = ((!G.isNon _) = true → _) ∧ _); (first | refine bnF rfl ?_ | refine bnT rfl ?_))
  | ((guard_target = (G.isNon _ = true → _) ∧ _); (first | refine bF rfl ?_ | refine bT rfl ?_))
  | (guard_target = Exists _; first
    | refine ⟨_, rfl, rfl, rfl, ?_⟩
    | refine ⟨_, _, _, rfl, rfl, rfl, Nat.le_of_ble_eq_true rfl, ?_⟩
    | refine ⟨_, _, _, rfl, rfl, rfl, ?_⟩
    | refine ⟨_, _, rfl, rfl, Nat.le_of_ble_eq_true rfl, ?_⟩
    | refine ⟨_, rfl, Nat.le_of_ble_eq_true rfl, Nat.le_of_ble_eq_true rfl, ?_⟩
    | refine ⟨_, _, _, _, _, rfl, rfl, rfl, rfl, rfl, ?_⟩
    | refine ⟨_, _, _, rfl, rfl, rfl, Nat.le_of_ble_eq_true rfl, ?_⟩
    | refine ⟨_, _, rfl, rfl, rfl, ?_⟩
    | refine ⟨_, _, _, rfl, ?_⟩
    | refine ⟨_, _, (by first | exact insD_v | exact insD_o rfl), rfl, ?_⟩
    | refine ⟨_, _, rfl, ?_⟩
    | refine ⟨_, rfl, rfl, ?_⟩
    | refine ⟨_, rfl, Nat.le_of_ble_eq_true rfl, ?_⟩
    | refine ⟨_, (by first | exact lstD_v | exact lstD_o rfl), ?_⟩
    | refine ⟨_, rfl, ?_⟩))
local macro_rules | `(tactic| walk_at "o") => `(tactic| first | with_reducible refine w_lstO ?_ | walk_at "e")
local macro_rules | `(tactic| walk_at "g") => `(tactic| first | walk_at "e" | with_reducible refine s_seq ?_)
local macro_rules | `(tactic| walk_at "n") => `(tactic| (with_reducible refine s_seq ?_); (repeat walk_at "e"))
theorem sc_law_wrong : FnScope ["_law_line", "_law_words", "_law_at"] ["_law_line"] (defScope (top 43)) := ⟨rfl, rfl, rfl, by decide +kernel, rfl, by decide +kernel, by decide +kernel⟩
theorem ok_law_wrong {P : Program} {w : World} {K : PySem.W.Frag} {mg : Str → Option Value} {base : Heap} (T : Tx K mg) (h_law_is_written : Fn P w K mg base 1 (He.fAd K ("_law_is_written", none)) ["_law_word", "_law_most"] (sp_l_written K)) : Fn P w K mg base 2 (He.fAd K ("_law_wrong", none)) ["_law_line"] (sp_l_wrong K) := by
  obtain ⟨_, F_law_is_written, b_law_is_written, kp_law_is_written, lk_law_is_written⟩ := h_law_is_written
  obtain ⟨fd, F⟩ := T.d_law_wrong
  refine ⟨fd, F.ok sc_law_wrong (lift_len ?_) (fun cdv A outer s H vs Q E hr h => ?_), F.bindsN fun _ _ _ _ _ _ us hl => (match us, hl with | [_], _ => rfl), F.kp, lk_of F⟩
  · intro ts O P X h
    exact sp_l_wrong_len h
  · have hu := hr.units
    refine ⟨_, (PSs.nox (pss_cons (ps_set (i := 1) sc_law_wrong.nd rfl (.inl rfl) (pe_splitK (pv 0) pe_str))
    (pss_cons (ps_if (pt_cmpR op_ne (pe_ix (ix_listK K) (pv 1) pe_int (fun _ _ => rfl)) pe_str (nomark _))
    (pss_one (ps_ret pe_int))
    pss_nil)
    (pss_cons (ps_if (PW.pt (pw_or (pt_cmpR op_lt (pe_callB (cr_lenK K) (by rfl) T.n_len boot_len (pa_cons (pv 1) pa_nil)) pe_int (nomark _)) (pw_or (pt_not (pt_val (pe_call F_law_is_written (hr.mono (by decide)) (by rfl) T.g__law_is_written kp_law_is_written b_law_is_written .nil passL (pa_cons (pe_ix (ix_listK K) (pv 1) pe_int (fun _ _ => rfl)) (pa_cons (pe_op op_add (pe_op op_pow pe_int pe_int) pe_int) pa_nil))))) (pw_or1 (pt_cmpR op_lt (pe_callTy call_intS (by rfl) T.n_int boot_int (pa_cons (pe_ix (ix_listK K) (pv 1) pe_int (fun _ _ => rfl)) pa_nil)) pe_int (nomark _))))))
    (pss_one (ps_ret pe_int))
    pss_nil)
    (pss_cons (ps_if (PW.pt (pw_or (pt_cmpR op_lt (pe_callB (cr_lenK K) (by rfl) T.n_len boot_len (pa_cons (pv 1) pa_nil)) pe_int (nomark _)) (pw_or1 (pt_cmpR op_ne (pe_ix (ix_listK K) (pv 1) pe_int (fun _ _ => rfl)) pe_str (nomark _)))))
    (pss_one (ps_ret pe_int))
    pss_nil)
    (pss_cons (ps_for PassesOwn.never rfl (pi_range2 (by rfl) T.n_range (pa_cons pe_int (pa_cons (pe_callB (call_max2 rfl) (by rfl) T.n_max boot_max (pa_cons pe_int (pa_cons (pe_callB (cr_lenK K) (by rfl) T.n_len boot_len (pa_cons (pv 1) pa_nil)) pa_nil))) pa_nil))) (pg_name (i := 2) sc_law_wrong.nd rfl (.inl rfl))
    (pss_one (ps_if (PW.pt (pw_or (pt_cmpR op_gt (pv 2) pe_int (nomark _)) (pw_or (pt_cmpR op_ge (pv 2) (pe_callB (cr_lenK K) (by rfl) T.n_len boot_len (pa_cons (pv 1) pa_nil)) (nomark _)) (pw_or1 (pt_not (pt_val (pe_call F_law_is_written (hr.mono (by decide)) (by rfl) T.g__law_is_written kp_law_is_written b_law_is_written .nil passL (pa_cons (pe_ix (ix_listK K) (pv 1) (pv 2) (fun _ _ => rfl)) (pa_cons (pe_callTy call_intS (by rfl) T.n_int boot_int (pa_cons (pe_ix (ix_listK K) (pv 1) pe_int (fun _ _ => rfl)) pa_nil)) pa_nil)))))))))
    (pss_one (ps_ret (pv 2)))
    pss_nil)))
    (pss_one (ps_ret (pe_ifExp (PW.pt (pw_and (pt_cmpR op_gt (pe_callB (cr_lenK K) (by rfl) T.n_len boot_len (pa_cons (pv 1) pa_nil)) pe_int (nomark _)) (pw_and1 (pt_cmpR op_eq (pe_ix (ix_listK K) (pv 1) (pe_un un_neg pe_int) (fun _ _ => rfl)) pe_str (nomark _))))) (pe_callB (cr_lenK K) (by rfl) T.n_len boot_len (pa_cons (pv 1) pa_nil)) pe_non))))))))), enter h fun ts O P X h _ => ?_⟩
    try dsimp only [cxOf, Cx.nox, Cx.wish]
    
    obtain ⟨t, rfl, rfl, hl, hso, p⟩ := h
    show WS _ _ _ _ [.v (.str t), .no, .no] _
    refine s_seq ?_
    repeat walk_at "e"
    refine ⟨Nat.le_trans (show t.length + 2 ≤ 2000000 by omega) (Nat.le_of_ble_eq_true rfl), ?_⟩
    repeat walk_at "e"
    have hn := len_wsz (Txt.split t " ")
    rw [wsz_split] at hn
    have hws : ∀ w ∈ Txt.split t " ", w.length ≤ sizeLine := fun w hw => by
      have h1 := wsz_mem hw
      rw [wsz_split] at h1
      exact Nat.le_trans (show w.length ≤ 1000000 by omega) (Nat.le_of_ble_eq_true rfl)
    have hwo := so_split hso
    have hne := split_ne t
    generalize Txt.split t " " = ws at p hn hws hwo hne ⊢
    have at_ : ∀ {j : Nat} {w : Str}, ws[j]? = some w → atI (ws.map D.str) (j : Int) = some (.str w) := fun h => atI_nat (by rw [List.getElem?_map, h] <;> rfl)
    have e30 : (10 : Int) ^ Int.toNat 30 = 1000000000000000000000000000000 := by decide
    obtain ⟨w0, h0⟩ : ∃ w, ws[0]? = some w := ⟨_, List.getElem?_eq_getElem (List.length_pos_iff.mpr hne)⟩
    refine s_seq ?_
    repeat walk_at "e"
    refine w_ixL lstD_v (at_ (j := 0) h0) ?_
    repeat walk_at "e"
    refine w_ne rfl rfl rfl ?_
    by_cases c0 : w0 = "modulo"
    case neg =>
      have e : wrD ws = .int 0 := by
        unfold wrD rscan
        rw [if_neg (fun z => c0 (by rw [h0] at z; exact Option.some.inj z))]
        rfl
      rw [e] at p
      rw [decide_eq_false (fun z => c0 (by injection z))]
      repeat walk_at "e"
      exact ⟨rfl, p⟩
    subst c0
    rw [decide_eq_true rfl]
    repeat walk_at "e"
    refine s_seq ?_
    repeat walk_at "e"
    rw [List.length_map]
    have r1 : numAt ws[1]? 2 1000000000000000000000000000000 = none → wrD ws = .int 1 := fun z => by
      unfold wrD rscan
      rw [if_pos h0, z]
      rfl
    by_cases l2 : ws.length < 2
    · rw [r1 (by rw [List.getElem?_eq_none (by omega)] <;> rfl)] at p
      rw [decide_eq_true (show (ws.length : Int) < 2 by omega)]
      repeat walk_at "e"
      exact ⟨rfl, p⟩
    rw [decide_eq_false (show ¬ (ws.length : Int) < 2 by omega)]
    repeat walk_at "e"
    obtain ⟨w1, h1⟩ : ∃ w, ws[1]? = some w := ⟨_, List.getElem?_eq_getElem (by omega)⟩
    refine w_ixL lstD_v (at_ (j := 1) h1) ?_
    repeat walk_at "e"
    rw [e30]
    refine ⟨w1, _, rfl, rfl, hws w1 (List.mem_of_getElem? h1), hwo w1 (List.mem_of_getElem? h1), ⟨⟨_, rfl⟩, ?_⟩⟩
    cases hn1 : wdNum w1 with
    | none =>
      rw [r1 (by rw [h1]; unfold numAt; simp only [hn1])] at p
      rw [show wrB w1 (1000000000000000000000000000000 + 1) = false by unfold wrB; rw [hn1]]
      repeat walk_at "e"
      exact ⟨rfl, p⟩
    | some m =>
    obtain ⟨rfl, m40⟩ := wdNum_some hn1
    have mlen := Nat.le_trans (numS_len m40).1 (show 40 ≤ 640 by decide)
    rw [wrB_yes m40]
    by_cases cm : (m : Int) < 1000000000000000000000000000000 + 1
    case neg =>
      rw [r1 (by rw [h1]; unfold numAt; simp only [hn1]; rw [if_neg (fun z => cm (by have := z.2; omega))])] at p
      rw [decide_eq_false cm]
      repeat walk_at "e"
      exact ⟨rfl, p⟩
    rw [decide_eq_true cm]
    repeat walk_at "e"
    refine w_ixL lstD_v (at_ (j := 1) h1) ?_
    repeat walk_at "e"
    refine c_intS (numS_int m40) mlen ?_
    repeat walk_at "e"
    by_cases c2 : (m : Int) < 2
    · rw [r1 (by rw [h1]; unfold numAt; simp only [hn1]; rw [if_neg (fun z => by have := z.1; omega)])] at p
      rw [decide_eq_true c2]
      repeat walk_at "e"
      exact ⟨rfl, p⟩
    rw [decide_eq_false c2]
    repeat walk_at "e"
    have n1 : numAt ws[1]? 2 1000000000000000000000000000000 = some m := by rw [h1]; exact numAt_of m40 (by omega) (by omega)
    have r2 : ws[2]? ≠ some (":" : Str) → wrD ws = .int 2 := fun z => by
      unfold wrD rscan
      rw [if_pos h0, n1]
      simp only [if_neg z]
      rfl
    have r3 : ws[2]? = some (":" : Str) → wrD ws = (match cscan ws m with
        | .error k => .int (k : Nat)
        | .ok _ => .non) := fun z => by
      unfold wrD rscan
      rw [if_pos h0, n1]
      simp only [if_pos z]
      cases cscan ws m <;> rfl
    refine s_seq ?_
    repeat walk_at "e"
    rw [List.length_map]
    by_cases l3 : ws.length < 3
    · rw [r2 (by rw [List.getElem?_eq_none (by omega)]; exact fun z => by cases z)] at p
      rw [decide_eq_true (show (ws.length : Int) < 3 by omega)]
      repeat walk_at "e"
      exact ⟨rfl, p⟩
    rw [decide_eq_false (show ¬ (ws.length : Int) < 3 by omega)]
    repeat walk_at "e"
    obtain ⟨w2, h2⟩ : ∃ w, ws[2]? = some w := ⟨_, List.getElem?_eq_getElem (by omega)⟩
    refine w_ixL lstD_v (at_ (j := 2) h2) ?_
    repeat walk_at "e"
    refine w_ne rfl rfl rfl ?_
    by_cases cc : w2 = ":"
    case neg =>
      rw [r2 (fun z => cc (by rw [h2] at z; exact Option.some.inj z))] at p
      rw [decide_eq_false (fun z => cc (by injection z))]
      repeat walk_at "e"
      exact ⟨rfl, p⟩
    subst cc
    rw [decide_eq_true rfl]
    repeat walk_at "e"
    rw [r3 h2] at p
    obtain ⟨N, hN, hN2⟩ : ∃ N : Nat, (if ((ws.length : Nat) : Int) > 4 then ((ws.length : Nat) : Int) else 4) = ((3 + N : Nat) : Int) ∧ (ws.length = 3 ∧ N = 1 ∨ 4 ≤ ws.length ∧ ws.length = 3 + N) := by
      by_cases h4 : 4 < ws.length
      · exact ⟨ws.length - 3, by rw [if_pos (by omega)]; omega, .inr ⟨by omega, by omega⟩⟩
      · exact ⟨1, by rw [if_neg (by omega)] <;> rfl, by omega⟩
    refine s_seq ?_
    refine s_forE ?_
    refine i_rng2 ?_
    repeat walk_at "e"
    refine c_max2 ?_
    rw [List.length_map, hN]
    repeat walk_at "e"
    refine ⟨⟨by decide, by decide, by omega, by omega⟩, ?_⟩
    rw [show (((3 + N : Nat) : Int) - 3).toNat = N by omega]
    refine for_R (fun i ts' O' => ∃ (acc : List Nat) (a : G.T), O' = [] ∧ ts' = [.v (.str t), .v (.lst (ws.map D.str)), a] ∧ acc.length = i ∧ i ≤ 13 ∧ (1 ≤ i → 3 + i ≤ ws.length ∧ cscan ws m = cgo ws m (13 - i) (3 + i) acc ∧ ∃ z, acc.getLast? = some z ∧ ws[2 + i]? = some (numS z))) ⟨[], _, rfl, rfl, rfl, by decide, fun z => absurd z (by decide)⟩ ?_ ?_
    · rintro i _ _ hi ⟨acc, a, rfl, rfl, ha, h13, hc⟩
      rw [show (3 : Int) + (i : Int) * 1 = ((3 + i : Nat) : Int) by omega]
      have rr : cscan ws m = .error (3 + i) → P (.v (.int ((3 + i : Nat) : Int))) [] := fun z => by
        rw [z] at p
        exact p
      refine g_name ?_
      repeat walk_at "e"
      by_cases c15 : i = 13
      · obtain ⟨h5, h6, _⟩ := hc (by omega)
        have := rr (by
          rw [h6, c15]
          show cfin ws 16 acc = _
          unfold cfin
          rw [if_pos (by omega)])
        rw [decide_eq_true (show ((3 + i : Nat) : Int) > 15 by omega)]
        repeat walk_at "e"
        exact ⟨rfl, this⟩
      rw [decide_eq_false (show ¬ ((3 + i : Nat) : Int) > 15 by omega)]
      repeat walk_at "e"
      rw [List.length_map]
      by_cases cl : ws.length ≤ 3 + i
      · have hi0 : i = 0 := by
          rcases hN2 with ⟨a1, a2⟩ | ⟨a1, a2⟩
          · omega
          · omega
        have := rr (by
          subst hi0
          unfold cscan
          rw [show cAt ws m 3 = none by unfold cAt; rw [List.getElem?_eq_none (by omega)] <;> rfl])
        rw [decide_eq_true (show ((3 + i : Nat) : Int) ≥ (ws.length : Int) by omega)]
        repeat walk_at "e"
        exact ⟨rfl, this⟩
      rw [decide_eq_false (show ¬ ((3 + i : Nat) : Int) ≥ (ws.length : Int) by omega)]
      repeat walk_at "e"
      obtain ⟨w, hw⟩ : ∃ w, ws[3 + i]? = some w := ⟨_, List.getElem?_eq_getElem (by omega)⟩
      refine w_ixL lstD_v (at_ hw) ?_
      repeat walk_at "e"
      refine w_ixL lstD_v (at_ (j := 1) h1) ?_
      repeat walk_at "e"
      refine c_intS (numS_int m40) mlen ?_
      repeat walk_at "e"
      refine ⟨w, _, rfl, rfl, hws w (List.mem_of_getElem? hw), hwo w (List.mem_of_getElem? hw), ⟨⟨_, rfl⟩, ?_⟩⟩
      have ec : cAt ws m (3 + i) = numAt (some w) 0 ((m : Int) - 1) := by unfold cAt; rw [hw]
      have es : 1 ≤ i → cscan ws m = (match cAt ws m (3 + i) with
          | none => .error (3 + i)
          | some n => cgo ws m (12 - i) (3 + i + 1) (acc ++ [n])) := fun z => by
        rw [(hc z).2.1, show 13 - i = (12 - i) + 1 by omega]
        show (if 3 + i < ws.length then _ else _) = _
        rw [if_pos (by omega)] <;> rfl
      have es2 : cscan ws m = (match cAt ws m (3 + i) with
          | none => .error (3 + i)
          | some n => cgo ws m (12 - i) (3 + i + 1) (acc ++ [n])) := by
        by_cases hi1 : 1 ≤ i
        · exact es hi1
        · obtain rfl : i = 0 := by omega
          obtain rfl : acc = [] := List.length_eq_zero_iff.mp ha
          rfl
      rw [ec] at es2
      cases hq : numAt (some w) 0 ((m : Int) - 1) with
      | none =>
        rw [hq] at es2
        have := rr es2
        rw [num_wrB.mp hq]
        repeat walk_at "e"
        exact ⟨rfl, this⟩
      | some n =>
        rw [hq] at es2
        have hb : wrB w m = true := by
          cases q : wrB w m
          · rw [num_wrB.mpr q] at hq
            cases hq
          · rfl
        rw [hb]
        obtain ⟨hwn, _⟩ := numAt_word hq
        obtain rfl := Option.some.inj hwn
        repeat walk_at "e"
        exact ⟨acc ++ [n], _, rfl, rfl, by rw [List.length_append, ha] <;> rfl, by omega, fun _ => ⟨by omega, by rw [es2, show 13 - (i + 1) = 12 - i by omega] <;> rfl, n, by rw [List.getLast?_append] <;> rfl, by rw [show 2 + (i + 1) = 3 + i by omega]; exact hw⟩⟩
    · rintro _ _ ⟨acc, a, rfl, rfl, ha, h13, hc⟩
      have hN1 : 1 ≤ N := by omega
      obtain ⟨h5, h6, z, hz, hwz⟩ := hc hN1
      have hlen : ws.length = 3 + N := by omega
      rw [cgo_end (by omega)] at h6
      unfold cfin at h6
      rw [if_neg (by omega), hz, ha] at h6
      rw [h6] at p
      repeat walk_at "e"
      rw [List.length_map]
      by_cases c4 : 1 < N
      · rw [decide_eq_true (show (ws.length : Int) > 4 by omega)]
        repeat walk_at "e"
        have elast : ∃ pre, ws = pre ++ [numS z] := by
          refine ⟨ws.take (2 + N), ?_⟩
          rw [← take_s hwz, List.take_of_length_le (by omega)]
        obtain ⟨pre, rfl⟩ := elast
        refine w_ixL lstD_v atI_m1M ?_
        repeat walk_at "e"
        refine w_eq rfl rfl rfl ?_
        by_cases z0 : z = 0
        · rw [if_pos ⟨c4, by rw [z0]⟩] at p
          rw [decide_eq_true (show L2.V.str (numS z) = L2.V.str "0" by rw [z0, numS_zero])]
          repeat walk_at "e"
          rw [List.length_map, hlen]
          exact ⟨rfl, p⟩
        · rw [if_neg (fun q => z0 (Option.some.inj q.2))] at p
          rw [decide_eq_false (fun q => numS_ne z0 (by injection q))]
          repeat walk_at "e"
          exact ⟨rfl, p⟩
      · rw [if_neg (fun q => c4 q.1)] at p
        rw [decide_eq_false (show ¬ (ws.length : Int) > 4 by omega)]
        repeat walk_at "e"
        exact ⟨rfl, p⟩
end My

set_option Elab.async false
set_option linter.all false
set_option maxRecDepth 100000
set_option maxHeartbeats 0
namespace My
open PySem PySem.Spec PyProof.Rows L2 G

local macro_rules | `(tactic| walk_at "ws") => `(tactic| first
  | with_reducible refine s_set ?_
  | with_reducible refine s_if ?_
  | refine s_fldaug (by assumption) (by assumption) ?_
  | with_reducible refine s_ret ?_
  | with_reducible refine s_retN ?_
  | with_reducible refine s_drop ?_
  | with_reducible refine s_next ?_
  | with_reducible refine s_par ?_
  | with_reducible refine s_par3 ?_
  | refine s_fldN (by assumption) (by assumption) ?_
  | with_reducible refine s_asg ?_
  | refine s_raise1 ?_
  | refine s_raise2 ?_)
local macro_rules | `(tactic| walk_at "we") => `(tactic| first
  | ((with_reducible refine w_v (d := ?k2) ?k1 ?_); (case k1 => exact rfl))
  | ((with_reducible refine w_o (j := ?k2) ?k1 ?_); (case k1 => exact rfl))
  | ((guard_target = G.WE _ _ (tFld _ _ _) _ _ _ _); (refine w_fldN (by assumption) (by assumption) ?_))
  | ((guard_target = G.WE _ _ (tC (.ref _)) _ _ _ _); (refine w_ctup (by assumption) ?_))
  | with_reducible refine w_ci ?_
  | with_reducible refine w_op ?_
  | with_reducible refine w_call ?_
  | with_reducible refine w_cty ?_
  | with_reducible refine w_cb ?_
  | with_reducible refine w_cn ?_
  | with_reducible refine w_cs ?_
  | with_reducible refine w_cr ?_
  | with_reducible refine w_un ?_
  | with_reducible refine w_andV ?_
  | with_reducible refine w_orV ?_
  | with_reducible refine w_notV ?_
  | with_reducible refine w_ife ?_
  | with_reducible refine w_chain ?_
  | with_reducible refine w_tup ?_
  | with_reducible refine w_revL ?_
  | with_reducible refine w_slL ?_
  | with_reducible refine w_slT ?_
  | (guard_target = G.WE _ _ (tCall (lift _ (sp_draw _)) _ _ _) _ _ _ _; refine w_fn10 0 ?_)
  | (guard_target = G.WE _ _ (tCall (lift _ (sp_pick _)) _ _ _) _ _ _ _; refine w_fn10 0 ?_)
  | (guard_target = G.WE _ _ (tMethX _ _ (lift _ (sp_wx_word _)) _ _ _) _ _ _ _; refine w_methOX 0 ?_)
  | (guard_target = G.WE _ _ (tMethX _ _ (lift _ (sp_wx_number _)) _ _ _) _ _ _ _; refine w_methOX 0 ?_)
  | (guard_target = G.WE _ _ (tMethX _ _ (lift _ (sp_wx_end _)) _ _ _) _ _ _ _; refine w_methOX 0 ?_)
  | (guard_target = G.WE _ _ (tMethX _ _ (lift _ (sp_wx_refuse _)) _ _ _) _ _ _ _; refine w_methOX 0 ?_)
  | (guard_target = G.WE _ _ (tMakeX _ (lift _ (sp_wx_init _)) _ _) _ _ _ _; refine w_makeOX ?_)
  | (guard_target = G.WE _ _ (tCallS (lift _ (sp_rx_coefs _)) _ _) _ _ _ _; refine w_fnOX 0 ?_)
  | (guard_target = G.WE _ _ (tMeth _ _ (lift _ (sp_wx_next _)) _ _ _ _) _ _ _ _; refine w_methO 0 ?_)
  | with_reducible refine w_fn0 ?_
  | with_reducible refine w_fnS0 ?_
  | with_reducible refine w_meth0 ?_
  | with_reducible refine w_make0 ?_
  | with_reducible refine w_bmL ?_
  | with_reducible refine w_bmL0 ?_
  | with_reducible refine w_lst ?_
  | with_reducible refine w_callKX ?_
  | with_reducible refine w_makeKX ?_
  | with_reducible refine w_makeX ?_
  | with_reducible refine w_smethX ?_
  | with_reducible refine w_smethK ?_
  | with_reducible refine w_fnV ?_
  | with_reducible refine w_fnX ?_
  | with_reducible refine w_fnSX ?_
  | with_reducible refine w_methX ?_
  | with_reducible refine w_callX ?_
  | with_reducible refine w_methK ?_
  | with_reducible refine w_callK2 ?_
  | with_reducible refine w_callI ?_
  | with_reducible refine w_prop ?_
  | with_reducible refine w_dic0 ?_
  | with_reducible refine w_jcons ?_
  | with_reducible refine w_jnil ?_
  | with_reducible refine w_join ?_
  | with_reducible refine w_split ?_
  | with_reducible refine w_smeth ?_
  | with_reducible refine w_fnKr ?_)
local macro_rules | `(tactic| walk_at "wt") => `(tactic| first
  | with_reducible refine w_test ?_
  | with_reducible refine w_B ?_
  | with_reducible refine w_and ?_
  | with_reducible refine w_or ?_
  | with_reducible refine w_not ?_)
local macro_rules | `(tactic| walk_at "wa") => `(tactic| first
  | with_reducible refine w_cons ?_
  | with_reducible refine w_nil ?_
  | with_reducible refine w_star ?_)
local macro_rules | `(tactic| walk_at "wr") => `(tactic| first
  | with_reducible refine w_add ?_
  | with_reducible refine w_sub ?_
  | with_reducible refine w_lt ?_
  | with_reducible refine w_le ?_
  | with_reducible refine w_gt ?_
  | with_reducible refine w_ge ?_
  | with_reducible refine w_eqI ?_
  | with_reducible refine w_neI ?_
  | with_reducible refine w_isN ?_
  | with_reducible refine w_notN ?_
  | ((with_reducible refine w_mod ?k1 ?_); (case k1 => first | decide | omega))
  | ((with_reducible refine w_mul ?k1 ?_); (case k1 => first | exact Or.inl ⟨by decide, by decide⟩ | exact Or.inr ⟨by decide, by decide⟩ | exact Or.inl ⟨by omega, by omega⟩ | exact Or.inr ⟨by omega, by omega⟩))
  | ((with_reducible refine w_pow ?k1 ?_); (case k1 => first | exact ⟨by decide, by decide, by decide⟩ | exact ⟨by omega, by omega, by omega⟩))
  | ((with_reducible refine w_fdivW ?k1 ?_); (case k1 => exact divW_ok (by first | decide | omega) (by first | decide | omega)))
  | ((with_reducible refine w_mulW ?k1 ?_); (case k1 => exact mulW_ok ⟨by omega, by omega⟩ ⟨by omega, by omega⟩))
  | ((guard_target = G.WR _ (rIxT _) _ _ _ _); (refine w_ixT (by first | exact atI_0 | exact atI_1 | exact atI_2 | exact atI_3 | exact atI_4 | exact atI_5 | exact atI_6 | assumption) ?_))
  | ((guard_target = G.WR _ (rIxL _) _ _ _ _); (refine w_ixL (by first | exact lstD_v | exact lstD_o rfl) (by first | exact atI_0 | exact atI_1 | exact atI_2 | exact atI_3 | exact atI_4 | exact atI_5 | exact atI_6 | assumption) ?_)))
local macro_rules | `(tactic| walk_at "wc") => `(tactic| first
  | with_reducible refine c_int ?_
  | with_reducible refine c_intB ?_
  | with_reducible refine c_abs ?_
  | ((guard_target = G.WC _ (G.rLen _) _ _ _); (refine c_lenL (by first | exact lstD_v | exact lstD_o rfl) ?_))
  | with_reducible refine c_lenT ?_
  | ((guard_target = G.WC _ (G.rListOf _) _ _ _); (refine c_listL (by first | exact lstD_v | exact lstD_o rfl) ?_))
  | with_reducible refine c_listT ?_
  | ((guard_target = G.WC _ (G.rTupOf _) _ _ _); (refine c_tupL (by first | exact lstD_v | exact lstD_o rfl) ?_))
  | with_reducible refine c_tupT ?_)
local macro_rules | `(tactic| walk_at "e") => `(tactic| first
  | (guard_target = G.WE _ _ _ _ _ _ _; walk_at "we")
  | (guard_target = G.WS _ _ _ _ _ _; walk_at "ws")
  | (guard_target = G.WA _ _ _ _ _ _ _; walk_at "wa")
  | (guard_target = G.WR _ _ _ _ _ _; walk_at "wr")
  | (guard_target = G.WT _ _ _ _ _ _ _; walk_at "wt")
  | (guard_target = G.WC _ _ _ _ _; walk_at "wc")
  | (guard_target = G.WU _ _ _ _ _; with_reducible refine w_neg ?_)
  | (guard_target = G.WG _ _ _ _ _ _ _; first | with_reducible refine g_name ?_ | with_reducible refine g_setL ?_ | refine g_pair rfl ?_ | refine g_trip rfl ?_ | refine g_quad rfl ?_)
  | (guard_target = G.WO _ _ _ _ _ _ _; first | with_reducible refine o_none ?_ | with_reducible refine o_some ?_)
  | with_reducible refine tt_ ?_
  | with_reducible refine ff_ ?_
  | with_reducible refine ntt_ ?_
  | with_reducible refine nff_ ?_
  | ((guard_target = ((!G.isNon _) = true → _) ∧ _); (first | refine bnF rfl ?_ | refine bnT rfl ?_))
  | ((guard_target = (G.isNon _ = true → _) ∧ _); (first | refine bF rfl ?_ | refine bT rfl ?_))
  | (guard_target = Exists _; first
    | refine ⟨_, rfl, rfl, rfl, ?_⟩
    | refine ⟨_, _, _, rfl, rfl, rfl, Nat.le_of_ble_eq_true rfl, ?_⟩
    | refine ⟨_, _, _, rfl, rfl, rfl, ?_⟩
    | refine ⟨_, _, rfl, rfl, Nat.le_of_ble_eq_true rfl, ?_⟩
    | refine ⟨_, rfl, Nat.le_of_ble_eq_true rfl, Nat.le_of_ble_eq_true rfl, ?_⟩
    | refine ⟨_, _, _, _, _, rfl, rfl, rfl, rfl, rfl, ?_⟩
    | refine ⟨_, _, _, rfl, rfl, rfl, Nat.le_of_ble_eq_true rfl, ?_⟩
    | refine ⟨_, _, rfl, rfl, rfl, ?_⟩
    | refine ⟨_, _, _, rfl, ?_⟩
    | refine ⟨_, _, (by first | exact insD_v | exact insD_o rfl), rfl, ?_⟩
    | refine ⟨_, _, rfl, ?_⟩
    | refine ⟨_, rfl, rfl, ?_⟩
    | refine ⟨_, rfl, Nat.le_of_ble_eq_true rfl, ?_⟩
    | refine ⟨_, (by first | exact lstD_v | exact lstD_o rfl), ?_⟩
    | refine ⟨_, rfl, ?_⟩))
local macro_rules | `(tactic| walk_at "o") => `(tactic| first | with_reducible refine w_lstO ?_ | walk_at "e")
local macro_rules | `(tactic| walk_at "g") => `(tactic| first | walk_at "e" | with_reducible refine s_seq ?_)
local macro_rules | `(tactic| walk_at "n") => `(tactic| (with_reducible refine s_seq ?_); (repeat walk_at "e"))

theorem cgo_err {ws : List Str} {m : Int} : ∀ (f k : Nat) (acc : List Nat) (j : Nat), cgo ws m f k acc = .error j → j ≤ k + f
  | 0, k, acc, j, h => by
    have h : cfin ws k acc = .error j := h
    unfold cfin at h
    by_cases h1 : k < ws.length
    · rw [if_pos h1] at h
      cases h
      omega
    · rw [if_neg h1] at h
      by_cases h2 : 1 < acc.length ∧ acc.getLast? = some 0
      · rw [if_pos h2] at h
        cases h
        omega
      · rw [if_neg h2] at h
        cases h
  | f + 1, k, acc, j, h => by
    by_cases h1 : k < ws.length
    · unfold cgo at h
      rw [if_pos h1] at h
      cases hc : cAt ws m k with
      | none =>
        rw [hc] at h
        cases h
        omega
      | some n =>
        rw [hc] at h
        have := cgo_err f (k + 1) _ j h
        omega
    · rw [cgo_end h1] at h
      have := cgo_err (ws := ws) (m := m) 0 k acc j h
      omega
theorem rscan_err {ws : List Str} {j : Nat} (h : rscan ws = .error j) : j ≤ 16 := by
  unfold rscan at h
  by_cases h0 : ws[0]? = some ("modulo" : Str)
  · rw [if_pos h0] at h
    cases h1 : numAt ws[1]? 2 1000000000000000000000000000000 with
    | none =>
      rw [h1] at h
      cases h
      decide
    | some m' =>
      rw [h1] at h
      by_cases h2 : ws[2]? = some (":" : Str)
      · simp only [if_pos h2] at h
        cases hc : cscan ws m' with
        | error k =>
          rw [hc] at h
          cases h
          unfold cscan at hc
          cases h3 : cAt ws m' 3 with
          | none =>
            rw [h3] at hc
            cases hc
            decide
          | some n0 =>
            rw [h3] at hc
            exact cgo_err 12 4 _ _ hc
        | ok ns' =>
          rw [hc] at h
          cases h
      · simp only [if_neg h2] at h
        cases h
        decide
  · rw [if_neg h0] at h
    cases h
    decide
theorem mok40 : PySem.MulOk "9" 40 := ⟨by decide, fun _ _ => by decide +kernel, fun _ _ => by decide +kernel⟩
theorem mok41 : PySem.MulOk "9" 41 := ⟨by decide, fun _ _ => by decide +kernel, fun _ _ => by decide +kernel⟩
theorem sm30 : Sm 1000000000000000000000000000000 := by unfold Sm; decide
theorem sm31 : Sm (1000000000000000000000000000000 + 1) := by unfold Sm; decide
theorem wsz_one (x : Str) : wsz [x] = x.length + 1 := by
  unfold wsz
  rw [List.map_cons, List.map_nil, List.sum_cons, List.sum_nil]
  rfl
def Wd (d : D) : Prop := ∃ x : Str, d = .str x ∧ x.length ≤ 300 ∧ PyData.strOk x = true
theorem wd_at {l : List D} (h : ∀ d ∈ l, Wd d) {j : Nat} {d : D} (e : l[j]? = some d) : Wd d := h d (List.mem_of_getElem? e)
theorem wd_nil : ∀ d ∈ ([] : List D), Wd d := fun d h => by cases h
theorem wd_cons {x : Str} {l : List D} (h1 : x.length ≤ 300) (h2 : PyData.strOk x = true) (h : ∀ d ∈ l, Wd d) : ∀ d ∈ D.str x :: l, Wd d := fun d hd => by
  rcases List.mem_cons.mp hd with rfl | hd
  · exact ⟨x, rfl, h1, h2⟩
  · exact h d hd
def sp_l_right (K : PySem.W.Frag) : SpD := fun ts O P X => ∃ (t : Str), ts = [.v (.str t)] ∧ O = [] ∧ t.length ≤ 1000000 ∧ PyData.strOk t = true ∧ P (.v (.bl true)) []
theorem sp_l_right_len {K : PySem.W.Frag} {ts O P X} (h : sp_l_right K ts O P X) : ts.length = 1 := by
  obtain ⟨t, rfl, _⟩ := h
  rfl
def sp_l_bent (K : PySem.W.Frag) : SpD := fun ts O P X => ∃ (n : Nat) (p : List D) (t : Str) (m : Int), ts = [.own 0, .v (.str t), .v (.int m)] ∧ O = [.lst p] ∧ Pen n p ∧ n < 800000 ∧ t.length ≤ 100000 ∧ PyData.strOk t = true ∧ 2 ≤ m ∧ m ≤ 1000000000000000000000000000000 ∧ ∀ p' t', Pen (n + 10) p' → t'.length ≤ 2 * t.length + 1000 → PyData.strOk t' = true → P (.v (.str t')) [.lst p']
theorem sp_l_bent_len {K : PySem.W.Frag} {ts O P X} (h : sp_l_bent K ts O P X) : ts.length = 3 := by
  obtain ⟨n, p, t, m, rfl, _⟩ := h
  rfl
theorem sc_law_right : FnScope ["_law_line", "_law_caught", "_law_found", "_law_due", "error"] ["_law_line"] (defScope (top 44)) := ⟨rfl, rfl, rfl, by decide +kernel, rfl, by decide +kernel, by decide +kernel⟩
theorem ok_law_right {P : Program} {w : World} {K : PySem.W.Frag} {mg : Str → Option Value} {base : Heap} (T : Tx K mg) (h_law_wrong : Fn P w K mg base 2 (He.fAd K ("_law_wrong", none)) ["_law_line"] (sp_l_wrong K)) (h_Sum_read : Fn P w K mg base 7 (pr_Sum_read.g K) ["text"] (sp_rx_read K)) (h_SumU_strU : Fn P w K mg base 1 (He.fAd K ("Sum", some "__str__")) ["self"] (sp_s_str K)) : FnG P w K mg base 8 (He.fAd K ("_law_right", none)) 1 (sp_l_right K) := by
  obtain ⟨_, F_law_wrong, b_law_wrong, kp_law_wrong, lk_law_wrong⟩ := h_law_wrong
  obtain ⟨_, F_Sum_read, b_Sum_read, kp_Sum_read, lk_Sum_read⟩ := h_Sum_read
  obtain ⟨_, FK_Sum_read⟩ := T.d_Sum_read
  have kw_Sum_read := kwB (ps := ["text"]) FK_Sum_read lk_Sum_read fun _ _ _ _ _ _ ws hl => (match ws, hl with | [_], _ => rfl)
  obtain ⟨_, F_SumU_strU, b_SumU_strU, kp_SumU_strU, lk_SumU_strU⟩ := h_SumU_strU
  obtain ⟨fd, F⟩ := T.d_law_right
  refine fnG (ps := ["_law_line"]) F sc_law_right (lift_len ?_) (F.bindsN fun _ _ _ _ _ _ us hl => (match us, hl with | [_], _ => rfl)) (fun cdv A outer s H vs Q E hgd hr h => ?_)
  · intro ts O P X h
    exact sp_l_right_len h
  · have hu := hr.units
    refine ⟨_, (pss_cons (ps_par3 (i := 1) (j := 2) (l := 3) rfl sc_law_right.nd rfl rfl rfl (by decide) (by decide) (by decide) rfl rfl rfl (pa_cons pe_non (pa_cons pe_non (pa_cons (pe_call F_law_wrong (hr.mono (by decide)) (by rfl) T.g__law_wrong kp_law_wrong b_law_wrong .nil passL (pa_cons (pv 0) pa_nil)) pa_nil))) rfl)
    (pss_cons (ps_tryK K rfl rfl sc_law_right.nd (i := 4) rfl rfl ⟨by rfl, by decide, .inl T.g_RestError⟩ rfl (takes_of rfl rfl rfl rfl) (fun W pn xe tk1 po1 => (pss_one (ps_set (i := 2) sc_law_right.nd rfl (.inl rfl) (pe_smethK (tw := false) (pe_glob (v := .ref (He.ga K "Sum")) (by rfl) T.g_Sum rfl) T.sm_Sum_read F_Sum_read (hr.mono (by decide)) kw_Sum_read.t (fun σ => passAt tk1 σ) (pk_cons (pv 0) pk_nil))))) (fun a oe cls d pn hz hd => (pss_one (ps_asg (pv 4) (pg_name (i := 1) sc_law_right.nd rfl (.inl rfl))))))
    (pss_cons (ps_if (pt_cmpR op_isN1 (pv 3) pe_non (nomark _))
    (pss_one (ps_ret (pe_and (pe_cmpR op_isN1 (pv 1) pe_non (nomark _)) (pe_one (pe_cmpR op_eq (pe_callTy (call_strO T.me_SumU_strU (rOf F_SumU_strU b_SumU_strU) (hr.mono (by decide)) passL) (by rfl) T.n_str boot_str (pa_cons (pv 2) pa_nil)) (pv 0) (nomark _))))))
    pss_nil)
    (pss_one (ps_ret (pe_and (pe_callB (call_isiEK K) (by rfl) T.n_isinstance boot_isinstance (pa_cons (pv 1) (pa_cons (pe_glob (v := .ref (He.ga K "BadText")) (by rfl) T.g_BadText rfl) pa_nil))) (pe_one (pe_cmpR op_eq (pe_callB (call_reprG hgd hr K) (by rfl) T.n_repr boot_repr (pa_cons (pe_tup (pa_cons (pe_xfHK K (pv 1)) (pa_cons (pe_xfHK K (pv 1)) pa_nil))) pa_nil)) (pe_callB (call_reprG hgd hr K) (by rfl) T.n_repr boot_repr (pa_cons (pe_tup (pa_cons pe_int (pa_cons (pv 3) pa_nil))) pa_nil)) (nomark _))))))))), enter h fun ts O P X h _ => ?_⟩
    try dsimp only [cxOf, Cx.nox, Cx.wish]
    
    obtain ⟨t, rfl, rfl, hl, hso, p⟩ := h
    show WS _ _ _ _ [.v (.str t), .no, .no, .no, .no] _
    refine s_seq ?_
    repeat walk_at "e"
    refine ⟨t, rfl, rfl, hl, hso, ⟨⟨_, rfl⟩, ?_⟩⟩
    repeat walk_at "e"
    refine s_seq ?_
    refine s_try fun W' => ?_
    repeat walk_at "e"
    refine ⟨rfl, ?_⟩
    repeat walk_at "e"
    cases hr : rscan (Txt.split t " ") with
    | error k =>
      have hk := rscan_err hr
      have ew : wrD (Txt.split t " ") = .int (k : Nat) := by unfold wrD; rw [hr]
      rw [ew]
      refine ⟨_, rfl, rfl, .inl ⟨t, rfl, hl, .inl ⟨k, hr, ?_⟩⟩⟩
      refine ⟨_, _, _, rfl, rfl, T.xm_BadText_RestError, Nat.le_of_ble_eq_true rfl, fun _ => ?_, fun z => by cases z⟩
      show G.WS _ _ _ _ [.v (.str t), .v (.exc _ _), .v .non, .v (.int ((k : Nat) : Int)), .no] _
      refine s_seq ?_
      repeat walk_at "e"
      refine c_isiE T.ek_BadText.k.exc (.own _) T.kit_BadText_BadText ?_
      repeat walk_at "e"
      refine w_xf ?_
      repeat walk_at "e"
      refine ⟨_, _, _, rfl, T.ek_BadText.k.xf, T.ek_BadText.no _ List.mem_cons_self, rfl, ?_⟩
      repeat walk_at "e"
      refine w_xf ?_
      repeat walk_at "e"
      refine ⟨_, _, _, rfl, T.ek_BadText.k.xf, T.ek_BadText.no _ (List.mem_cons_of_mem _ List.mem_cons_self), rfl, ?_⟩
      repeat walk_at "e"
      have hsm : ∀ x ∈ [(0 : Int), ((k : Nat) : Int)], Sm x := fun x hx => by
        rcases List.mem_cons.mp hx with rfl | hx
        · show _ < 2 ^ 200
          decide
        · rw [List.mem_singleton.mp hx]
          show _ < 2 ^ 200
          omega
      refine c_repr (shows_tup (ns := [0, ((k : Nat) : Int)]) hsm (show 2 ≤ 100 by decide)) ?_
      repeat walk_at "e"
      refine c_repr (shows_tup (ns := [0, ((k : Nat) : Int)]) hsm (show 2 ≤ 100 by decide)) ?_
      repeat walk_at "e"
      refine w_eq rfl rfl rfl ?_
      rw [decide_eq_true rfl]
      exact ⟨rfl, p⟩
    | ok z =>
      obtain ⟨m, ns⟩ := z
      obtain ⟨so, ht⟩ := read_text hr
      have ew : wrD (Txt.split t " ") = .non := by unfold wrD; rw [hr]
      rw [ew]
      refine ⟨_, rfl, rfl, .inl ⟨t, rfl, hl, .inr ⟨m, ns, hr, ⟨⟨_, rfl⟩, ?_⟩⟩⟩⟩
      repeat walk_at "e"
      refine s_seq ?_
      repeat walk_at "e"
      refine c_strO ?_
      refine ⟨_, _, rfl, rfl, so, ⟨_, rfl, ?_⟩⟩
      rw [ht]
      repeat walk_at "e"
      refine w_eq rfl rfl rfl ?_
      rw [decide_eq_true rfl]
      exact ⟨rfl, p⟩
theorem sc_law_bent : FnScope ["_law_pen_here", "_law_line", "_law_modulus_here", "_law_words", "_law_way", "_law_at", "_law_odd", "_law_word"] ["_law_pen_here", "_law_line", "_law_modulus_here"] (defScope (top 45)) := ⟨rfl, rfl, rfl, by decide +kernel, rfl, by decide +kernel, by decide +kernel⟩
theorem ok_law_bent {P : Program} {w : World} {K : PySem.W.Frag} {mg : Str → Option Value} {base : Heap} (T : Tx K mg) (h_law_draw : Fn P w K mg base 1 (He.fAd K ("_law_draw", none)) ["_law_pen_here", "_law_many"] (sp_draw K)) (h_law_pick : Fn P w K mg base 2 (He.fAd K ("_law_pick", none)) ["_law_pen_here", "_law_some"] (sp_pick K)) : Fn P w K mg base 3 (He.fAd K ("_law_bent", none)) ["_law_pen_here", "_law_line", "_law_modulus_here"] (sp_l_bent K) := by
  obtain ⟨_, F_law_draw, b_law_draw, kp_law_draw, lk_law_draw⟩ := h_law_draw
  obtain ⟨_, F_law_pick, b_law_pick, kp_law_pick, lk_law_pick⟩ := h_law_pick
  obtain ⟨fd, F⟩ := T.d_law_bent
  refine ⟨fd, F.ok sc_law_bent (lift_len ?_) (fun cdv A outer s H vs Q E hr h => ?_), F.bindsN fun _ _ _ _ _ _ us hl => (match us, hl with | [_, _, _], _ => rfl), F.kp, lk_of F⟩
  · intro ts O P X h
    exact sp_l_bent_len h
  · have hu := hr.units
    refine ⟨_, (PSs.nox (pss_cons (ps_par (i := 3) (j := 4) rfl sc_law_bent.nd rfl rfl (by decide) rfl rfl (pa_cons (pe_splitK (pv 1) pe_str) (pa_cons (pe_call F_law_draw (hr.mono (by decide)) (by rfl) T.g__law_draw kp_law_draw b_law_draw .nil passL (pa_cons (pv 0) (pa_cons pe_int pa_nil))) pa_nil)) rfl)
    (pss_cons (ps_set (i := 5) sc_law_bent.nd rfl (.inl rfl) (pe_call F_law_draw (hr.mono (by decide)) (by rfl) T.g__law_draw kp_law_draw b_law_draw .nil passL (pa_cons (pv 0) (pa_cons (pe_callB (cr_lenK K) (by rfl) T.n_len boot_len (pa_cons (pv 3) pa_nil)) pa_nil))))
    (pss_cons (ps_set (i := 6) sc_law_bent.nd rfl (.inl rfl) (pe_lst (pa_cons pe_str (pa_cons pe_str (pa_cons pe_str (pa_cons pe_str (pa_cons pe_str (pa_cons pe_str (pa_cons pe_str (pa_cons pe_str (pa_cons pe_str (pa_cons pe_str (pa_cons pe_str (pa_cons pe_str (pa_cons (pe_op op_mulS pe_str pe_int) (pa_cons (pe_op op_mulS pe_str pe_int) (pa_cons pe_str (pa_cons (pe_callTy call_str_int (by rfl) T.n_str boot_str (pa_cons (pv 2) pa_nil)) pa_nil))))))))))))))))))
    (pss_cons (ps_set (i := 6) sc_law_bent.nd rfl (.inl rfl) (pe_op op_cat (pv 6) (pe_lst (pa_cons (pe_callTy call_str_int (by rfl) T.n_str boot_str (pa_cons (pe_op op_sub (pv 2) pe_int) pa_nil)) (pa_cons (pe_callTy call_str_int (by rfl) T.n_str boot_str (pa_cons (pe_op op_pow pe_int pe_int) pa_nil)) (pa_cons (pe_callTy call_str_int (by rfl) T.n_str boot_str (pa_cons (pe_op op_add (pe_op op_pow pe_int pe_int) pe_int) pa_nil)) (pa_cons pe_str pa_nil)))))))
    (pss_cons (ps_set (i := 7) sc_law_bent.nd rfl (.inl rfl) (pe_call F_law_pick (hr.mono (by decide)) (by rfl) T.g__law_pick kp_law_pick b_law_pick .nil passL (pa_cons (pv 0) (pa_cons (pv 6) pa_nil))))
    (pss_cons (ps_if (pt_cmpR op_eq (pv 4) pe_int (nomark _))
    (pss_one (ps_ret (pe_joinK K pe_str (pe_op op_cat (pe_slice (sl_listK K) (pv 3) po_none (po_some (pv 5))) (pe_slice (sl_listK K) (pv 3) (po_some (pe_op op_add (pv 5) pe_int)) po_none)))))
    pss_nil)
    (pss_cons (ps_if (pt_cmpR op_eq (pv 4) pe_int (nomark _))
    (pss_one (ps_ret (pe_joinK K pe_str (pe_op op_cat (pe_op op_cat (pe_slice (sl_listK K) (pv 3) po_none (po_some (pv 5))) (pe_lst (pa_cons (pv 7) pa_nil))) (pe_slice (sl_listK K) (pv 3) (po_some (pv 5)) po_none)))))
    pss_nil)
    (pss_cons (ps_if (pt_cmpR op_eq (pv 4) pe_int (nomark _))
    (pss_one (ps_ret (pe_joinK K pe_str (pe_op op_cat (pe_slice (sl_listK K) (pv 3) po_none (po_some (pe_op op_add (pv 5) pe_int))) (pe_slice (sl_listK K) (pv 3) (po_some (pv 5)) po_none)))))
    pss_nil)
    (pss_one (ps_ret (pe_ifExp (pt_cmpR op_eq (pv 4) pe_int (nomark _)) (pe_joinK K pe_str (pe_op op_cat (pe_op op_cat (pe_slice (sl_listK K) (pv 3) po_none (po_some (pv 5))) (pe_lst (pa_cons (pv 7) pa_nil))) (pe_slice (sl_listK K) (pv 3) (po_some (pe_op op_add (pv 5) pe_int)) po_none))) (pe_op op_addS (pv 1) (pe_call F_law_pick (hr.mono (by decide)) (by rfl) T.g__law_pick kp_law_pick b_law_pick .nil passL (pa_cons (pv 0) (pa_cons (pe_lst (pa_cons pe_str (pa_cons pe_str (pa_cons pe_str (pa_cons pe_str (pa_cons pe_str pa_nil)))))) pa_nil)))))))))))))))), enter h fun ts O P X h _ => ?_⟩
    try dsimp only [cxOf, Cx.nox, Cx.wish]
    
    obtain ⟨n, p, t, m, rfl, rfl, hp, hn, hl, hso, m1, m2, k⟩ := h
    have smm : Sm m := by unfold Sm; omega
    have smm1 : Sm (m - 1) := by unfold Sm; omega
    have e30 : (10 : Int) ^ Int.toNat 30 = 1000000000000000000000000000000 := by decide
    show WS _ _ _ _ [.own 0, .v (.str t), .v (.int m), .no, .no, .no, .no, .no] _
    refine s_seq ?_
    repeat walk_at "e"
    refine ⟨Nat.le_trans (show t.length + 2 ≤ 2000000 by omega) (Nat.le_of_ble_eq_true rfl), ?_⟩
    repeat walk_at "e"
    refine u_draw hp (by omega) (by decide) (by decide) fun p1 way hp1 y0 y1 => ⟨_, rfl, nno, ?_⟩
    have hz := wsz_split t
    have hn2 := len_wsz (Txt.split t " ")
    have hwo := so_split hso
    have hne := split_ne t
    generalize Txt.split t " " = ws at hz hn2 hwo hne ⊢
    have ct : ∀ j : Nat, j ≤ ws.length → cutD (ws.map D.str) none (some (j : Int)) = (ws.take j).map D.str := fun j hj => by rw [cutD_take (by rw [List.length_map]; exact hj), List.map_take]
    have cd : ∀ j : Nat, j ≤ ws.length → cutD (ws.map D.str) (some (j : Int)) none = (ws.drop j).map D.str := fun j hj => by rw [cutD_drop (by rw [List.length_map]; exact hj), List.map_drop]
    have hpos := List.length_pos_iff.mpr hne
    repeat walk_at "e"
    refine s_seq ?_
    repeat walk_at "e"
    rw [List.length_map]
    refine u_draw hp1 (by omega) (by omega) (by omega) fun p2 at_ hp2 a0 a1 => ⟨_, rfl, nno, ?_⟩
    obtain ⟨a, rfl⟩ : ∃ a : Nat, at_ = a := ⟨at_.toNat, by omega⟩
    repeat walk_at "e"
    refine s_seq ?_
    repeat walk_at "e"
    refine w_mulS mok40 ?_
    repeat walk_at "e"
    refine w_mulS mok41 ?_
    repeat walk_at "e"
    refine c_strI (sm_1920 smm) ?_
    repeat walk_at "e"
    refine s_seq ?_
    repeat walk_at "e"
    refine c_strI (sm_1920 smm1) ?_
    repeat walk_at "e"
    refine c_strI (by rw [e30]; exact sm_1920 sm30) ?_
    repeat walk_at "e"
    refine c_strI (by rw [e30]; exact sm_1920 sm31) ?_
    repeat walk_at "e"
    refine w_catL lstD_v lstD_v (by exact Nat.le_of_ble_eq_true rfl) ?_
    repeat walk_at "e"
    refine s_seq ?_
    repeat walk_at "e"
    rw [e30]
    refine u_pick hp2 (by omega) (Nat.le_of_ble_eq_true rfl) (Nat.le_of_ble_eq_true rfl) fun p3 j d hp3 hd => ⟨_, rfl, nno, ?_⟩
    obtain ⟨x, rfl, hx, hxo⟩ : Wd d := wd_at (wd_cons (by decide +kernel) (by decide +kernel) (wd_cons (by decide +kernel) (by decide +kernel) (wd_cons (by decide +kernel) (by decide +kernel) (wd_cons (by decide +kernel) (by decide +kernel) (wd_cons (by decide +kernel) (by decide +kernel) (wd_cons (by decide +kernel) (by decide +kernel) (wd_cons (by decide +kernel) (by decide +kernel) (wd_cons (by decide +kernel) (by decide +kernel) (wd_cons (by decide +kernel) (by decide +kernel) (wd_cons (by decide +kernel) (by decide +kernel) (wd_cons (by decide +kernel) (by decide +kernel) (wd_cons (by decide +kernel) (by decide +kernel) (wd_cons (by decide +kernel) (by decide +kernel) (wd_cons (by decide +kernel) (by decide +kernel) (wd_cons (by decide +kernel) (by decide +kernel) (wd_cons (Nat.le_trans (text_len smm) (by decide)) (so_int m) (wd_cons (Nat.le_trans (text_len smm1) (by decide)) (so_int (m - 1)) (wd_cons (Nat.le_trans (text_len sm30) (by decide)) (so_int _) (wd_cons (Nat.le_trans (text_len sm31) (by decide)) (so_int _) (wd_cons (by decide +kernel) (by decide +kernel) (wd_nil))))))))))))))))))))) hd
    repeat walk_at "e"
    refine s_seq ?_
    repeat walk_at "e"
    refine br (fun _ => ?_) (fun _ => ?_)
    · have jl := join_wsz (ws.take a ++ ws.drop (a + 1))
      have js : wsz (ws.take a ++ ws.drop (a + 1)) ≤ 2 * t.length + 1000 := by
        have q1 := wsz_take ws a
        have q2 := wsz_drop ws (a + 1)
        have q3 := wsz_take ws (a + 1)
        have q4 := wsz_drop ws a
        have q5 := wsz_one x
        repeat rw [wsz_app]
        omega
      have jo : ∀ w ∈ ws.take a ++ ws.drop (a + 1), PyData.strOk w = true := fun w hw => by
        simp only [List.mem_append, List.mem_singleton] at hw
        rcases hw with hw | hw
        · exact hwo w (List.mem_of_mem_take hw)
        · exact hwo w (List.mem_of_mem_drop hw)
      repeat walk_at "e"
      rw [show (a : Int) + 1 = ((a + 1 : Nat) : Int) by omega]
      rw [ct _ (by omega), cd _ (by omega)]
      refine w_catL lstD_v lstD_v (by simp only [List.length_append, List.length_map, List.length_take, List.length_drop, List.length_cons, List.length_nil]; omega) ?_
      repeat walk_at "e"
      rw [← List.map_append]
      refine ⟨_, lstD_v, ?_, ?_⟩
      · have e1 : (" " : Str).length = 1 := by decide
        rw [e1, Nat.mul_one]
        exact Nat.le_trans js (by omega)
      exact ⟨rfl, k _ _ (hp3.mono (by omega)) (Nat.le_trans jl js) (so_join jo)⟩
    repeat walk_at "e"
    refine s_seq ?_
    repeat walk_at "e"
    refine br (fun _ => ?_) (fun _ => ?_)
    · have jl := join_wsz (ws.take a ++ [x] ++ ws.drop a)
      have js : wsz (ws.take a ++ [x] ++ ws.drop a) ≤ 2 * t.length + 1000 := by
        have q1 := wsz_take ws a
        have q2 := wsz_drop ws (a + 1)
        have q3 := wsz_take ws (a + 1)
        have q4 := wsz_drop ws a
        have q5 := wsz_one x
        repeat rw [wsz_app]
        omega
      have jo : ∀ w ∈ ws.take a ++ [x] ++ ws.drop a, PyData.strOk w = true := fun w hw => by
        simp only [List.mem_append, List.mem_singleton] at hw
        rcases hw with (hw | hw) | hw
        · exact hwo w (List.mem_of_mem_take hw)
        · rw [hw]
          exact hxo
        · exact hwo w (List.mem_of_mem_drop hw)
      repeat walk_at "e"
      rw [ct _ (by omega)]
      refine w_catL lstD_v lstD_v (by simp only [List.length_append, List.length_map, List.length_take, List.length_drop, List.length_cons, List.length_nil]; omega) ?_
      repeat walk_at "e"
      rw [cd _ (by omega)]
      refine w_catL lstD_v lstD_v (by simp only [List.length_append, List.length_map, List.length_take, List.length_drop, List.length_cons, List.length_nil]; omega) ?_
      repeat walk_at "e"
      rw [show (ws.take a).map D.str ++ [D.str x] ++ (ws.drop a).map D.str = (ws.take a ++ [x] ++ ws.drop a).map D.str by rw [List.map_append, List.map_append] <;> rfl]
      refine ⟨_, lstD_v, ?_, ?_⟩
      · have e1 : (" " : Str).length = 1 := by decide
        rw [e1, Nat.mul_one]
        exact Nat.le_trans js (by omega)
      exact ⟨rfl, k _ _ (hp3.mono (by omega)) (Nat.le_trans jl js) (so_join jo)⟩
    repeat walk_at "e"
    refine s_seq ?_
    repeat walk_at "e"
    refine br (fun _ => ?_) (fun _ => ?_)
    · have jl := join_wsz (ws.take (a + 1) ++ ws.drop a)
      have js : wsz (ws.take (a + 1) ++ ws.drop a) ≤ 2 * t.length + 1000 := by
        have q1 := wsz_take ws a
        have q2 := wsz_drop ws (a + 1)
        have q3 := wsz_take ws (a + 1)
        have q4 := wsz_drop ws a
        have q5 := wsz_one x
        repeat rw [wsz_app]
        omega
      have jo : ∀ w ∈ ws.take (a + 1) ++ ws.drop a, PyData.strOk w = true := fun w hw => by
        simp only [List.mem_append, List.mem_singleton] at hw
        rcases hw with hw | hw
        · exact hwo w (List.mem_of_mem_take hw)
        · exact hwo w (List.mem_of_mem_drop hw)
      repeat walk_at "e"
      rw [show (a : Int) + 1 = ((a + 1 : Nat) : Int) by omega]
      rw [ct _ (by omega), cd _ (by omega)]
      refine w_catL lstD_v lstD_v (by simp only [List.length_append, List.length_map, List.length_take, List.length_drop, List.length_cons, List.length_nil]; omega) ?_
      repeat walk_at "e"
      rw [← List.map_append]
      refine ⟨_, lstD_v, ?_, ?_⟩
      · have e1 : (" " : Str).length = 1 := by decide
        rw [e1, Nat.mul_one]
        exact Nat.le_trans js (by omega)
      exact ⟨rfl, k _ _ (hp3.mono (by omega)) (Nat.le_trans jl js) (so_join jo)⟩
    repeat walk_at "e"
    refine br (fun _ => ?_) (fun _ => ?_)
    · have jl := join_wsz (ws.take a ++ [x] ++ ws.drop (a + 1))
      have js : wsz (ws.take a ++ [x] ++ ws.drop (a + 1)) ≤ 2 * t.length + 1000 := by
        have q1 := wsz_take ws a
        have q2 := wsz_drop ws (a + 1)
        have q3 := wsz_take ws (a + 1)
        have q4 := wsz_drop ws a
        have q5 := wsz_one x
        repeat rw [wsz_app]
        omega
      have jo : ∀ w ∈ ws.take a ++ [x] ++ ws.drop (a + 1), PyData.strOk w = true := fun w hw => by
        simp only [List.mem_append, List.mem_singleton] at hw
        rcases hw with (hw | hw) | hw
        · exact hwo w (List.mem_of_mem_take hw)
        · rw [hw]
          exact hxo
        · exact hwo w (List.mem_of_mem_drop hw)
      repeat walk_at "e"
      rw [ct _ (by omega)]
      refine w_catL lstD_v lstD_v (by simp only [List.length_append, List.length_map, List.length_take, List.length_drop, List.length_cons, List.length_nil]; omega) ?_
      repeat walk_at "e"
      rw [show (a : Int) + 1 = ((a + 1 : Nat) : Int) by omega]
      rw [cd _ (by omega)]
      refine w_catL lstD_v lstD_v (by simp only [List.length_append, List.length_map, List.length_take, List.length_drop, List.length_cons, List.length_nil]; omega) ?_
      repeat walk_at "e"
      rw [show (ws.take a).map D.str ++ [D.str x] ++ (ws.drop (a + 1)).map D.str = (ws.take a ++ [x] ++ ws.drop (a + 1)).map D.str by rw [List.map_append, List.map_append] <;> rfl]
      refine ⟨_, lstD_v, ?_, ?_⟩
      · have e1 : (" " : Str).length = 1 := by decide
        rw [e1, Nat.mul_one]
        exact Nat.le_trans js (by omega)
      exact ⟨rfl, k _ _ (hp3.mono (by omega)) (Nat.le_trans jl js) (so_join jo)⟩
    repeat walk_at "e"
    refine u_pick hp3 (by omega) (Nat.le_of_ble_eq_true rfl) (Nat.le_of_ble_eq_true rfl) fun p4 j2 d2 hp4 hd2 => ⟨_, rfl, nno, ?_⟩
    obtain ⟨y, rfl, hy, hyo⟩ : Wd d2 := wd_at (wd_cons (by decide +kernel) (by decide +kernel) (wd_cons (by decide +kernel) (by decide +kernel) (wd_cons (by decide +kernel) (by decide +kernel) (wd_cons (by decide +kernel) (by decide +kernel) (wd_cons (by decide +kernel) (by decide +kernel) (wd_nil)))))) hd2
    repeat walk_at "e"
    refine w_addS (Nat.le_trans (show t.length + y.length ≤ 200000 by omega) (Nat.le_of_ble_eq_true rfl)) ?_
    repeat walk_at "e"
    exact ⟨rfl, k _ _ (hp4.mono (by omega)) (by rw [Str.length_append]; omega) (so_app hso hyo)⟩
end My

set_option Elab.async false
set_option linter.all false
set_option maxRecDepth 100000
set_option maxHeartbeats 0
namespace My
open PySem PySem.Spec PyProof.Rows L2 G

local macro_rules | `(tactic| walk_at "ws") => `(tactic| first
  | with_reducible refine s_set ?_
  | with_reducible refine s_if ?_
  | refine s_fldaug (by assumption) (by assumption) ?_
  | with_reducible refine s_ret ?_
  | with_reducible refine s_retN ?_
  | with_reducible refine s_drop ?_
  | with_reducible refine s_next ?_
  | with_reducible refine s_par ?_
  | with_reducible refine s_par3 ?_
  | refine s_fldN (by assumption) (by assumption) ?_
  | with_reducible refine s_asg ?_
  | refine s_raise1 ?_
  | refine s_raise2 ?_)
local macro_rules | `(tactic| walk_at "we") => `(tactic| first
  | ((with_reducible refine w_v (d := ?k2) ?k1 ?_); (case k1 => exact rfl))
  | ((with_reducible refine w_o (j := ?k2) ?k1 ?_); (case k1 => exact rfl))
  | ((guard_target = G.WE _ _ (tFld _ _ _) _ _ _ _); (refine w_fldN (by assumption) (by assumption) ?_))
  | ((guard_target = G.WE _ _ (tC (.ref _)) _ _ _ _); (refine w_ctup (by assumption) ?_))
  | with_reducible refine w_ci ?_
  | with_reducible refine w_op ?_
  | with_reducible refine w_call ?_
  | with_reducible refine w_cty ?_
  | with_reducible refine w_cb ?_
  | with_reducible refine w_cn ?_
  | with_reducible refine w_cs ?_
  | with_reducible refine w_cr ?_
  | with_reducible refine w_un ?_
  | with_reducible refine w_andV ?_
  | with_reducible refine w_orV ?_
  | with_reducible refine w_notV ?_
  | with_reducible refine w_ife ?_
  | with_reducible refine w_chain ?_
  | with_reducible refine w_tup ?_
  | with_reducible refine w_revL ?_
  | with_reducible refine w_slL ?_
  | with_reducible refine w_slT ?_
  | (guard_target = G.WE _ _ (tCall (lift _ (sp_draw _)) _ _ _) _ _ _ _; refine w_fn10 0 ?_)
  | (guard_target = G.WE _ _ (tCall (lift _ (sp_pick _)) _ _ _) _ _ _ _; refine w_fn10 0 ?_)
  | (guard_target = G.WE _ _ (tCall (lift _ (sp_l_modulus _)) _ _ _) _ _ _ _; refine w_fn10 0 ?_)
  | (guard_target = G.WE _ _ (tCall (lift _ (sp_l_numbers _)) _ _ _) _ _ _ _; refine w_fn10 0 ?_)
  | (guard_target = G.WE _ _ (tCall (lift _ (sp_l_bent _)) _ _ _) _ _ _ _; refine w_fn10 0 ?_)
  | (guard_target = G.WE _ _ (tMethX _ _ (lift _ (sp_wx_word _)) _ _ _) _ _ _ _; refine w_methOX 0 ?_)
  | (guard_target = G.WE _ _ (tMethX _ _ (lift _ (sp_wx_number _)) _ _ _) _ _ _ _; refine w_methOX 0 ?_)
  | (guard_target = G.WE _ _ (tMethX _ _ (lift _ (sp_wx_end _)) _ _ _) _ _ _ _; refine w_methOX 0 ?_)
  | (guard_target = G.WE _ _ (tMethX _ _ (lift _ (sp_wx_refuse _)) _ _ _) _ _ _ _; refine w_methOX 0 ?_)
  | (guard_target = G.WE _ _ (tMakeX _ (lift _ (sp_wx_init _)) _ _) _ _ _ _; refine w_makeOX ?_)
  | (guard_target = G.WE _ _ (tCallS (lift _ (sp_rx_coefs _)) _ _) _ _ _ _; refine w_fnOX 0 ?_)
  | (guard_target = G.WE _ _ (tMeth _ _ (lift _ (sp_wx_next _)) _ _ _ _) _ _ _ _; refine w_methO 0 ?_)
  | with_reducible refine w_fn0 ?_
  | with_reducible refine w_fnS0 ?_
  | with_reducible refine w_meth0 ?_
  | with_reducible refine w_make0 ?_
  | with_reducible refine w_bmL ?_
  | with_reducible refine w_bmL0 ?_
  | with_reducible refine w_lst ?_
  | with_reducible refine w_callKX ?_
  | with_reducible refine w_makeKX ?_
  | with_reducible refine w_makeX ?_
  | with_reducible refine w_smethX ?_
  | with_reducible refine w_smethK ?_
  | with_reducible refine w_fnV ?_
  | with_reducible refine w_fnX ?_
  | with_reducible refine w_fnSX ?_
  | with_reducible refine w_methX ?_
  | with_reducible refine w_callX ?_
  | with_reducible refine w_methK ?_
  | with_reducible refine w_callK2 ?_
  | with_reducible refine w_callI ?_
  | with_reducible refine w_prop ?_
  | with_reducible refine w_dic0 ?_
  | with_reducible refine w_jcons ?_
  | with_reducible refine w_jnil ?_
  | with_reducible refine w_join ?_
  | with_reducible refine w_split ?_
  | with_reducible refine w_smeth ?_
  | with_reducible refine w_fnKr ?_)
local macro_rules | `(tactic| walk_at "wt") => `(tactic| first
  | with_reducible refine w_test ?_
  | with_reducible refine w_B ?_
  | with_reducible refine w_and ?_
  | with_reducible refine w_or ?_
  | with_reducible refine w_not ?_)
local macro_rules | `(tactic| walk_at "wa") => `(tactic| first
  | with_reducible refine w_cons ?_
  | with_reducible refine w_nil ?_
  | with_reducible refine w_star ?_)
local macro_rules | `(tactic| walk_at "wr") => `(tactic| first
  | with_reducible refine w_add ?_
  | with_reducible refine w_sub ?_
  | with_reducible refine w_lt ?_
  | with_reducible refine w_le ?_
  | with_reducible refine w_gt ?_
  | with_reducible refine w_ge ?_
  | with_reducible refine w_eqI ?_
  | with_reducible refine w_neI ?_
  | with_reducible refine w_isN ?_
  | with_reducible refine w_notN ?_
  | ((with_reducible refine w_mod ?k1 ?_); (case k1 => first | decide | omega))
  | ((with_reducible refine w_mul ?k1 ?_); (case k1 => first | exact Or.inl ⟨by decide, by decide⟩ | exact Or.inr ⟨by decide, by decide⟩ | exact Or.inl ⟨by omega, by omega⟩ | exact Or.inr ⟨by omega, by omega⟩))
  | ((with_reducible refine w_pow ?k1 ?_); (case k1 => first | exact ⟨by decide, by decide, by decide⟩ | exact ⟨by omega, by omega, by omega⟩))
  | ((with_reducible refine w_fdivW ?k1 ?_); (case k1 => exact divW_ok (by first | decide | omega) (by first | decide | omega)))
  | ((with_reducible refine w_mulW ?k1 ?_); (case k1 => exact mulW_ok ⟨by omega, by omega⟩ ⟨by omega, by omega⟩))
  | ((guard_target = G.WR _ (rIxT _) _ _ _ _); (refine w_ixT (by first | exact atI_0 | exact atI_1 | exact atI_2 | exact atI_3 | exact atI_4 | exact atI_5 | exact atI_6 | assumption) ?_))
  | ((guard_target = G.WR _ (rIxL _) _ _ _ _); (refine w_ixL (by first | exact lstD_v | exact lstD_o rfl) (by first | exact atI_0 | exact atI_1 | exact atI_2 | exact atI_3 | exact atI_4 | exact atI_5 | exact atI_6 | assumption) ?_)))
local macro_rules | `(tactic| walk_at "wc") => `(tactic| first
  | with_reducible refine c_int ?_
  | with_reducible refine c_intB ?_
  | with_reducible refine c_abs ?_
  | ((guard_target = G.WC _ (G.rLen _) _ _ _); (refine c_lenL (by first | exact lstD_v | exact lstD_o rfl) ?_))
  | with_reducible refine c_lenT ?_
  | ((guard_target = G.WC _ (G.rListOf _) _ _ _); (refine c_listL (by first | exact lstD_v | exact lstD_o rfl) ?_))
  | with_reducible refine c_listT ?_
  | ((guard_target = G.WC _ (G.rTupOf _) _ _ _); (refine c_tupL (by first | exact lstD_v | exact lstD_o rfl) ?_))
  | with_reducible refine c_tupT ?_)
local macro_rules | `(tactic| walk_at "e") => `(tactic| first
  | (guard_target = G.WE _ _ _ _ _ _ _; walk_at "we")
  | (guard_target = G.WS _ _ _ _ _ _; walk_at "ws")
  | (guard_target = G.WA _ _ _ _ _ _ _; walk_at "wa")
  | (guard_target = G.WR _ _ _ _ _ _; walk_at "wr")
  | (guard_target = G.WT _ _ _ _ _ _ _; walk_at "wt")
  | (guard_target = G.WC _ _ _ _ _; walk_at "wc")
  | (guard_target = G.WU _ _ _ _ _; with_reducible refine w_neg ?_)
  | (guard_target = G.WG _ _ _ _ _ _ _; first | with_reducible refine g_name ?_ | with_reducible refine g_setL ?_ | refine g_pair rfl ?_ | refine g_trip rfl ?_ | refine g_quad rfl ?_)
  | (guard_target = G.WO _ _ _ _ _ _ _; first | with_reducible refine o_none ?_ | with_reducible refine o_some ?_)
  | with_reducible refine tt_ ?_
  | with_reducible refine ff_ ?_
  | with_reducible refine ntt_ ?_
  | with_reducible refine nff_ ?_
  | ((guard_target = ((!G.isNon _) = true → _) ∧ _); (first | refine bnF rfl ?_ | refine bnT rfl ?_))
  | ((guard_target = (G.isNon _ = true → _) ∧ _); (first | refine bF rfl ?_ | refine bT rfl ?_))
  | (guard_target = Exists _; first
    | refine ⟨_, rfl, rfl, rfl, ?_⟩
    | refine ⟨_, _, _, rfl, rfl, rfl, Nat.le_of_ble_eq_true rfl, ?_⟩
    | refine ⟨_, _, _, rfl, rfl, rfl, ?_⟩
    | refine ⟨_, _, rfl, rfl, Nat.le_of_ble_eq_true rfl, ?_⟩
    | refine ⟨_, rfl, Nat.le_of_ble_eq_true rfl, Nat.le_of_ble_eq_true rfl, ?_⟩
    | refine ⟨_, _, _, _, _, rfl, rfl, rfl, rfl, rfl, ?_⟩
    | refine ⟨_, _, _, rfl, rfl, rfl, Nat.le_of_ble_eq_true rfl, ?_⟩
    | refine ⟨_, _, rfl, rfl, rfl, ?_⟩
    | refine ⟨_, _, _, rfl, ?_⟩
    | refine ⟨_, _, (by first | exact insD_v | exact insD_o rfl), rfl, ?_⟩
    | refine ⟨_, _, rfl, ?_⟩
    | refine ⟨_, rfl, rfl, ?_⟩
    | refine ⟨_, rfl, Nat.le_of_ble_eq_true rfl, ?_⟩
    | refine ⟨_, (by first | exact lstD_v | exact lstD_o rfl), ?_⟩
    | refine ⟨_, rfl, ?_⟩))
local macro_rules | `(tactic| walk_at "o") => `(tactic| first | with_reducible refine w_lstO ?_ | walk_at "e")
local macro_rules | `(tactic| walk_at "g") => `(tactic| first | walk_at "e" | with_reducible refine s_seq ?_)
local macro_rules | `(tactic| walk_at "n") => `(tactic| (with_reducible refine s_seq ?_); (repeat walk_at "e"))

def wI (es : List Int) : List Int := if es = [] then [0] else es
def lineW (m : Int) (es : List Int) : List Str := ("modulo" : Str) :: Str.ofString (toString m) :: (":" : Str) :: sumRows es
theorem rows_wI (es : List Int) : (wI es).map (fun c => D.str (Str.ofString (toString c))) = (sumRows es).map D.str := by
  unfold wI sumRows
  by_cases h : es = []
  · rw [if_pos h, if_pos h]
    show [D.str (Str.ofString (toString (0 : Int)))] = [D.str "0"]
    rw [show Str.ofString (toString (0 : Int)) = ("0" : Str) by decide +kernel]
  · rw [if_neg h, if_neg h, List.map_map]
    rfl
theorem line_eq {m : Int} {es : List Int} (so : SumOk m es) : Txt.join " " (lineW m es) = sumText m es := by
  have h2 := so.two
  rw [text_eq, ← join_split (textOf m es), split_textOf so, ← wrote_rows (fun c hc => (so.inr c hc).1), ← numS_of (by omega : 0 ≤ m)]
  rfl
theorem line_so {m : Int} {es : List Int} (so : SumOk m es) : PyData.strOk (sumText m es) = true := by
  rw [← line_eq so]
  refine so_join fun w hw => ?_
  rcases List.mem_cons.mp hw with rfl | hw
  · decide +kernel
  rcases List.mem_cons.mp hw with rfl | hw
  · exact so_int m
  rcases List.mem_cons.mp hw with rfl | hw
  · decide +kernel
  unfold sumRows at hw
  by_cases h : es = []
  · rw [if_pos h] at hw
    rw [List.mem_singleton.mp hw]
    decide +kernel
  · rw [if_neg h] at hw
    obtain ⟨c, _, rfl⟩ := List.mem_map.mp hw
    exact so_int c
theorem line_sz {m : Int} {es : List Int} (so : SumOk m es) : ((lineW m es).map (·.length)).sum + (lineW m es).length * (" " : Str).length ≤ 16777216 := by
  have ok1 := so.two
  have ok2 := so.most
  have sm : ∀ c ∈ es, Sm c := fun c hc => Nat.lt_of_lt_of_le (so.sml c hc) (Nat.pow_le_pow_right (by decide) (by decide))
  have smm : Sm m := by unfold Sm; omega
  obtain ⟨r1, r2⟩ := sumRows_len sm so.len
  have t1 := text_len smm
  have e1 : (" " : Str).length = 1 := by decide
  have e6 : ("modulo" : Str).length = 6 := by decide
  have e3 : (":" : Str).length = 1 := by decide
  unfold lineW
  simp only [List.map_cons, List.sum_cons, List.length_cons]
  rw [e1, e6, e3]
  omega
theorem line_len {m : Int} {es : List Int} (so : SumOk m es) : (sumText m es).length ≤ 4000 := by
  rw [text_eq]
  exact textOf_len so
theorem sc_law : FnScope ["_law_script", "_law_pen_here", "_law_turn", "_law_modulus_here", "_law_told", "_law_made_here", "_law_due", "_law_line", "_law_again", "_law_bent_here", "_law_odd", "_law_caught", "error", "_law_some", ".0", "_law_one"] ["_law_script"] (defScope (top 46)) := ⟨rfl, rfl, rfl, by decide +kernel, rfl, by decide +kernel, by decide +kernel⟩
theorem ok_law {P : Program} {w : World} {K : PySem.W.Frag} {mg : Str → Option Value} {base : Heap} (T : Tx K mg) (h_law_pen : FnRaw P w K mg base 1 (He.fAd K ("_law_pen", none)) ["_law_script"] (penSp K 63)) (h_law_modulus : Fn P w K mg base 3 (He.fAd K ("_law_modulus", none)) ["_law_pen_here"] (sp_l_modulus K)) (h_law_numbers : Fn P w K mg base 3 (He.fAd K ("_law_numbers", none)) ["_law_pen_here", "_law_modulus_here", "_law_most"] (sp_l_numbers K)) (h_law_trimmed : Fn P w K mg base 1 (He.fAd K ("_law_trimmed", none)) ["_law_modulus_here", "_law_told"] (sp_l_trim K)) (h_law_made : Fn P w K mg base 6 (He.fAd K ("_law_made", none)) ["_law_modulus_here", "_law_told"] (sp_l_made K)) (h_SumU_strU : Fn P w K mg base 1 (He.fAd K ("Sum", some "__str__")) ["self"] (sp_s_str K)) (h_Sum_read : Fn P w K mg base 7 (pr_Sum_read.g K) ["text"] (sp_rx_read K)) (h_SumU_eqU : Fn P w K mg base 1 (He.fAd K ("Sum", some "__eq__")) ["self", "other"] (sp_s_eq K)) (h_law_wrong : Fn P w K mg base 2 (He.fAd K ("_law_wrong", none)) ["_law_line"] (sp_l_wrong K)) (h_law_bent : Fn P w K mg base 3 (He.fAd K ("_law_bent", none)) ["_law_pen_here", "_law_line", "_law_modulus_here"] (sp_l_bent K)) (h_law_right : FnG P w K mg base 8 (He.fAd K ("_law_right", none)) 1 (sp_l_right K)) (h_law_pick : Fn P w K mg base 2 (He.fAd K ("_law_pick", none)) ["_law_pen_here", "_law_some"] (sp_pick K)) : FnG P w K mg base 9 (He.fAd K ("law", none)) 1 (sp_law K) := by
  obtain ⟨_, F_law_pen, b_law_pen, kp_law_pen, lk_law_pen⟩ := h_law_pen
  obtain ⟨_, F_law_modulus, b_law_modulus, kp_law_modulus, lk_law_modulus⟩ := h_law_modulus
  obtain ⟨_, F_law_numbers, b_law_numbers, kp_law_numbers, lk_law_numbers⟩ := h_law_numbers
  obtain ⟨_, F_law_trimmed, b_law_trimmed, kp_law_trimmed, lk_law_trimmed⟩ := h_law_trimmed
  obtain ⟨_, F_law_made, b_law_made, kp_law_made, lk_law_made⟩ := h_law_made
  obtain ⟨_, F_SumU_strU, b_SumU_strU, kp_SumU_strU, lk_SumU_strU⟩ := h_SumU_strU
  obtain ⟨_, F_Sum_read, b_Sum_read, kp_Sum_read, lk_Sum_read⟩ := h_Sum_read
  obtain ⟨_, F_SumU_eqU, b_SumU_eqU, kp_SumU_eqU, lk_SumU_eqU⟩ := h_SumU_eqU
  obtain ⟨_, F_law_wrong, b_law_wrong, kp_law_wrong, lk_law_wrong⟩ := h_law_wrong
  obtain ⟨_, F_law_bent, b_law_bent, kp_law_bent, lk_law_bent⟩ := h_law_bent
  obtain ⟨F_law_right, kp_law_right⟩ := h_law_right
  obtain ⟨_, F_law_pick, b_law_pick, kp_law_pick, lk_law_pick⟩ := h_law_pick
  obtain ⟨fd, F⟩ := T.d_law
  refine fnG (ps := ["_law_script"]) F sc_law (lift_len ?_) (F.bindsN fun _ _ _ _ _ _ us hl => (match us, hl with | [_], _ => rfl)) (fun cdv A outer s H vs Q E hgd hr h => ?_)
  · intro ts O P X h
    exact sp_law_len h
  · have hu := hr.units
    refine ⟨_, (pss_cons (ps_set (i := 1) sc_law.nd rfl (.inl rfl) (pe_call F_law_pen (hr.mono (by decide)) (by rfl) T.g__law_pen kp_law_pen b_law_pen .nil passL (pa_cons (pv 0) pa_nil)))
    (pss_cons (ps_for (passes_of rfl) rfl (pi_range1 (by rfl) T.n_range (pa_cons pe_int pa_nil)) (pg_name (i := 2) sc_law.nd rfl (.inl rfl))
    (pss_cons (ps_set (i := 3) sc_law.nd rfl (.inl rfl) (pe_call F_law_modulus (hr.mono (by decide)) (by rfl) T.g__law_modulus kp_law_modulus b_law_modulus .nil passL (pa_cons (pv 1) pa_nil)))
    (pss_cons (ps_set (i := 4) sc_law.nd rfl (.inl rfl) (pe_call F_law_numbers (hr.mono (by decide)) (by rfl) T.g__law_numbers kp_law_numbers b_law_numbers .nil passL (pa_cons (pv 1) (pa_cons (pv 3) (pa_cons pe_int pa_nil)))))
    (pss_cons (ps_par (i := 5) (j := 6) rfl sc_law.nd rfl rfl (by decide) rfl rfl (pa_cons (pe_call F_law_made (hr.mono (by decide)) (by rfl) T.g__law_made kp_law_made b_law_made .nil passL (pa_cons (pv 3) (pa_cons (pv 4) pa_nil))) (pa_cons (pe_call F_law_trimmed (hr.mono (by decide)) (by rfl) T.g__law_trimmed kp_law_trimmed b_law_trimmed .nil passL (pa_cons (pv 3) (pa_cons (pv 4) pa_nil))) pa_nil)) rfl)
    (pss_cons (ps_set (i := 7) sc_law.nd rfl (.inl rfl) (pe_joinK K pe_str (pe_op op_cat (pe_lst (pa_cons pe_str (pa_cons (pe_callTy call_str_int (by rfl) T.n_str boot_str (pa_cons (pv 3) pa_nil)) (pa_cons pe_str pa_nil)))) (pe_lc (own := [(".0", 14), ("_law_one", 15)]) rfl sc_law.nd (pi_listK K (pe_orTK K (pv 6) (pe_one (pe_lst (pa_cons pe_int pa_nil))))) (blkOk_by (own := [(".0", 14), ("_law_one", 15)]) (N := ["_law_script", "_law_pen_here", "_law_turn", "_law_modulus_here", "_law_told", "_law_made_here", "_law_due", "_law_line", "_law_again", "_law_bent_here", "_law_odd", "_law_caught", "error", "_law_some", ".0", "_law_one"]) (sc := defScope (top 46)) (by decide +kernel)) (fun _ _ _ _ _ => (pg_name (i := 15) sc_law.nd rfl (.inl rfl))) (fun _ _ _ _ _ => pts_nil) (fun _ _ _ _ _ => (pe_callTy call_str_int (by rfl) T.n_str boot_str (pa_cons (pv 15) pa_nil)))))))
    (pss_cons (ps_if (PW.pt (pw_or (pt_cmpR op_ne (pe_callTy (call_strO T.me_SumU_strU (rOf F_SumU_strU b_SumU_strU) (hr.mono (by decide)) passL) (by rfl) T.n_str boot_str (pa_cons (pv 5) pa_nil)) (pv 7) (nomark _)) (pw_or (pt_cmpR (op_neO T.me_SumU_eqU T.ne_Sum (rOf F_SumU_eqU b_SumU_eqU) (hr.mono (by decide)) passL) (pe_smethX (pe_glob (v := .ref (He.ga K "Sum")) (by rfl) T.g_Sum rfl) T.sm_Sum_read (rOf F_Sum_read b_Sum_read) (hr.mono (by decide)) (fun σ => passAt (takes_of rfl rfl rfl rfl) σ) (pa_cons (pv 7) pa_nil)) (pv 5) (nomark _)) (pw_or1 (pt_cmpR op_notN1 (pe_call F_law_wrong (hr.mono (by decide)) (by rfl) T.g__law_wrong kp_law_wrong b_law_wrong .nil passL (pa_cons (pv 7) pa_nil)) pe_non (nomark _))))))
    (pss_one (ps_ret pe_bl))
    pss_nil)
    (pss_cons (ps_for (passes_of rfl) rfl (pi_range1 (by rfl) T.n_range (pa_cons pe_int pa_nil)) (pg_name (i := 8) sc_law.nd rfl (.inl rfl))
    (pss_cons (ps_set (i := 9) sc_law.nd rfl (.inl rfl) (pe_call F_law_bent (hr.mono (by decide)) (by rfl) T.g__law_bent kp_law_bent b_law_bent .nil passL (pa_cons (pv 1) (pa_cons (pv 7) (pa_cons (pv 3) pa_nil)))))
    (pss_one (ps_if (PW.pt (pw_or (pt_not (pt_val (pe_callG F_law_right hgd (hr.mono (by decide)) (by rfl) T.g__law_right kp_law_right passL (pa_cons (pv 9) pa_nil)))) (pw_or1 (pt_not (pt_val (pe_callG F_law_right hgd (hr.mono (by decide)) (by rfl) T.g__law_right kp_law_right passL (pa_cons (pe_call F_law_bent (hr.mono (by decide)) (by rfl) T.g__law_bent kp_law_bent b_law_bent .nil passL (pa_cons (pv 1) (pa_cons (pv 9) (pa_cons (pv 3) pa_nil)))) pa_nil)))))))
    (pss_one (ps_ret pe_bl))
    pss_nil))))
    (pss_cons (ps_par (i := 10) (j := 11) rfl sc_law.nd rfl rfl (by decide) rfl rfl (pa_cons (pe_call F_law_pick (hr.mono (by decide)) (by rfl) T.g__law_pick kp_law_pick b_law_pick .nil passL (pa_cons (pv 1) (pa_cons (pe_lst (pa_cons pe_non (pa_cons pe_int (pa_cons pe_bl (pa_cons (pe_lst (pa_cons pe_str pa_nil)) (pa_cons (pe_tup (pa_cons pe_str pa_nil)) (pa_cons pe_dnewK (pa_cons (pv 5) pa_nil)))))))) pa_nil))) (pa_cons pe_non pa_nil)) rfl)
    (pss_cons (ps_tryK K rfl rfl sc_law.nd (i := 12) rfl rfl ⟨by rfl, by decide, .inl T.g_RestError⟩ rfl (takes_of rfl rfl rfl rfl) (fun W pn xe tk1 po1 => (pss_one (ps_expr (pe_smethX (pe_glob (v := .ref (He.ga K "Sum")) (by rfl) T.g_Sum rfl) T.sm_Sum_read (rOf F_Sum_read b_Sum_read) (hr.mono (by decide)) (fun σ => passAt tk1 σ) (pa_cons (pv 10) pa_nil))))) (fun a oe cls d pn hz hd => (pss_one (ps_asg (pv 12) (pg_name (i := 11) sc_law.nd rfl (.inl rfl))))))
    (pss_one (ps_if (PW.pt (pw_or (pt_not (pt_val (pe_callB (call_isiEK K) (by rfl) T.n_isinstance boot_isinstance (pa_cons (pv 11) (pa_cons (pe_glob (v := .ref (He.ga K "BadText")) (by rfl) T.g_BadText rfl) pa_nil))))) (pw_or1 (pt_cmpR (op_neDK K hu) (pe_tup (pa_cons (pe_xfHK K (pv 11)) (pa_cons (pe_xfHK K (pv 11)) pa_nil))) (pe_tup (pa_cons pe_int (pa_cons pe_int pa_nil))) (nomark _)))))
    (pss_one (ps_ret pe_bl))
    pss_nil)))))))))))
    (pss_cons (ps_set (i := 13) sc_law.nd rfl (.inl rfl) (pe_lst (pa_cons pe_str (pa_cons pe_str (pa_cons pe_str (pa_cons pe_str (pa_cons pe_str (pa_cons pe_str (pa_cons pe_str (pa_cons pe_str (pa_cons pe_str (pa_cons pe_str pa_nil))))))))))))
    (pss_one (ps_ret (pe_cmpR (op_eqDK K hu) (pe_lc (own := [(".0", 14), ("_law_line", 7)]) rfl sc_law.nd (pi_listK K (pv 13)) (blkOk_by (own := [(".0", 14), ("_law_line", 7)]) (N := ["_law_script", "_law_pen_here", "_law_turn", "_law_modulus_here", "_law_told", "_law_made_here", "_law_due", "_law_line", "_law_again", "_law_bent_here", "_law_odd", "_law_caught", "error", "_law_some", ".0", "_law_one"]) (sc := defScope (top 46)) (by decide +kernel)) (fun _ _ _ _ _ => (pg_name (i := 7) sc_law.nd rfl (.inl rfl))) (fun _ _ _ _ _ => (pts_one (pt_not (pt_val (pe_callG F_law_right hgd (hr.mono (by decide)) (by rfl) T.g__law_right kp_law_right passL (pa_cons (pv 7) pa_nil)))))) (fun _ _ _ _ _ => (pv 7))) (pe_lst pa_nil) (nomark _))))))), enter h fun ts O P X h _ => ?_⟩
    try dsimp only [cxOf, Cx.nox, Cx.wish]
    
    obtain ⟨cs, rfl, rfl, hcs, p⟩ := h
    show WS _ _ _ _ [.v (.scr cs), .no, .no, .no, .no, .no, .no, .no, .no, .no, .no, .no, .no, .no, .no, .no] _
    refine s_seq ?_
    refine s_set ?_
    refine w_pen ?_
    repeat walk_at "e"
    intro p0 hp0
    refine s_seq ?_
    refine s_forE ?_
    refine i_rng1 ?_
    repeat walk_at "e"
    refine ⟨by decide, ?_⟩
    refine for_R1 (n := 6) (fun i ts' O' => ∃ (q : List D) (a b c d e f g h' j k' : G.T), Pen (300 * i) q ∧ O' = [.lst q] ∧ ts' = [.v (.scr cs), .own 0, a, b, c, d, e, f, g, h', j, k', .no, .no, .no, .no]) ⟨_, _, _, _, _, _, _, _, _, _, _, hp0, rfl, rfl⟩ ?_ ?_
    · rintro i _ _ hi ⟨q0, a, b, c, d, e, f, g, h', j, k', hpq, rfl, rfl⟩
      refine g_name ?_
      refine s_seq ?_
      repeat walk_at "e"
      refine ⟨_, _, rfl, rfl, hpq, by omega, fun q1 m hq1 m1 m2 => ⟨_, rfl, nno, ?_⟩⟩
      repeat walk_at "e"
      refine s_seq ?_
      repeat walk_at "e"
      refine ⟨_, _, m, rfl, rfl, hq1, by omega, m1, m2, fun q2 xs hq2 xl xsm => ⟨_, rfl, nno, ?_⟩⟩
      obtain ⟨es, hes⟩ : ∃ es, es = tr m xs := ⟨_, rfl⟩
      have so : SumOk m es := by rw [hes]; exact .of m1 m2 xl
      have smm : Sm m := by unfold Sm; omega
      repeat walk_at "e"
      refine s_seq ?_
      repeat walk_at "e"
      refine ⟨m, xs, rfl, rfl, m1, m2, xl, ⟨⟨_, rfl⟩, ?_⟩⟩
      repeat walk_at "e"
      refine ⟨m, xs, rfl, rfl, m1, xl, ⟨⟨_, rfl⟩, ?_⟩⟩
      rw [← hes]
      repeat walk_at "e"
      refine s_seq ?_
      repeat walk_at "e"
      refine c_strI (sm_1920 smm) ?_
      repeat walk_at "e"
      refine w_lc1 ?_ (by decide)
      refine i_list ?_
      refine w_orL2 ?_
      repeat walk_at "e"
      refine ⟨nums es, .v (.lst (nums (wI es))), lstD_v, fun hn => ?_, fun h0 => ?_, ?_⟩
      · have : es ≠ [] := fun z => hn (by rw [z] <;> rfl)
        unfold wI
        rw [if_neg this]
      · have : es = [] := List.map_eq_nil_iff.mp h0
        repeat walk_at "e"
        exact ⟨by unfold wI; rw [if_pos this] <;> rfl, rfl⟩
      have wl : (wI es).length ≤ 13 := by
        unfold wI
        by_cases z : es = []
        · rw [if_pos z]
          decide
        · rw [if_neg z]
          exact so.len
      have wsm : ∀ x ∈ wI es, Sm x := fun x hx => by
        unfold wI at hx
        by_cases z : es = []
        · rw [if_pos z] at hx
          rw [List.mem_singleton.mp hx]
          show _ < 2 ^ 200
          decide
        · rw [if_neg z] at hx
          exact Nat.lt_of_lt_of_le (so.sml x hx) (Nat.pow_le_pow_right (by decide) (by decide))
      refine ⟨_, rfl, ?_⟩
      refine lc_A (wI es) D.int (fun c => .str (toString c)) (by omega) (fun x acc hx => ?_) ?_
      · refine g_name ?_
        repeat walk_at "e"
        refine c_strI (sm_1920 (wsm x hx)) ?_
        exact ⟨rfl, rfl⟩
      rw [rows_wI]
      repeat walk_at "e"
      refine w_catL lstD_v lstD_v (by have := (sumRows_len (cs := es) (fun c hc => Nat.lt_of_lt_of_le (so.sml c hc) (Nat.pow_le_pow_right (by decide) (by decide))) so.len).2; rw [List.length_map]; show 3 + _ ≤ _; omega) ?_
      repeat walk_at "e"
      rw [show [D.str "modulo", D.str (toString m), D.str ":"] ++ (sumRows es).map D.str = (lineW m es).map D.str from rfl]
      refine ⟨lineW m es, lstD_v, line_sz so, ?_⟩
      rw [line_eq so]
      have hll := line_len so
      have hso := line_so so
      have hr := made_text so
      obtain ⟨rok, rtr⟩ := wrote_ok so
      have em : ((m.toNat : Nat) : Int) = m := Int.toNat_of_nonneg (by omega)
      repeat walk_at "e"
      refine s_seq ?_
      repeat walk_at "e"
      refine c_strO ?_
      refine ⟨_, _, rfl, rfl, so, ⟨_, rfl, ?_⟩⟩
      repeat walk_at "e"
      refine w_ne rfl rfl rfl ?_
      rw [decide_eq_true rfl]
      repeat walk_at "e"
      refine ⟨rfl, ?_⟩
      repeat walk_at "e"
      refine ⟨_, rfl, rfl, .inl ⟨_, rfl, by omega, .inr ⟨_, _, hr, ⟨⟨_, rfl⟩, ?_⟩⟩⟩⟩
      rw [em, rtr]
      repeat walk_at "e"
      refine w_neO ?_
      refine ⟨m, es, m, es, rfl, rfl, ⟨_, rfl, ?_⟩⟩
      rw [decide_eq_true rfl, decide_eq_true rfl, Bool.and_self]
      repeat walk_at "e"
      refine ⟨_, rfl, rfl, by omega, hso, ⟨⟨_, rfl⟩, ?_⟩⟩
      rw [show wrD (Txt.split (sumText m es) " ") = .non by unfold wrD; rw [hr]]
      repeat walk_at "e"
      refine s_seq ?_
      refine s_forE ?_
      refine i_rng1 ?_
      repeat walk_at "e"
      refine ⟨by decide, ?_⟩
      refine for_R1 (n := 6) (fun i2 ts' O' => ∃ (q : List D) (a b : G.T), Pen (300 * i + 100 + 20 * i2) q ∧ O' = [.lst q] ∧ ts' = [.v (.scr cs), .own 0, .v (.int (i : Nat)), .v (.int m), .v (.lst (nums xs)), .v (sumD K m es), .v (.lst (nums es)), .v (.str (sumText m es)), a, b, j, k', .no, .no, .no, .no]) ⟨_, _, _, hq2.mono (by omega), rfl, rfl⟩ ?_ ?_
      · rintro i2 _ _ hi2 ⟨q3, a, b, hq3, rfl, rfl⟩
        refine g_name ?_
        refine s_seq ?_
        repeat walk_at "e"
        refine ⟨_, _, _, m, rfl, rfl, hq3, by omega, by omega, hso, m1, m2, fun q4 t4 hq4 l4 s4 => ⟨_, rfl, nno, ?_⟩⟩
        repeat walk_at "e"
        refine ⟨t4, rfl, rfl, by omega, s4, ⟨⟨_, rfl⟩, ?_⟩⟩
        repeat walk_at "e"
        refine ⟨_, _, _, m, rfl, rfl, hq4, by omega, by omega, s4, m1, m2, fun q5 t5 hq5 l5 s5 => ⟨_, rfl, nno, ?_⟩⟩
        repeat walk_at "e"
        refine ⟨t5, rfl, rfl, by omega, s5, ⟨⟨_, rfl⟩, ?_⟩⟩
        repeat walk_at "e"
        exact ⟨_, _, _, hq5.mono (by omega), rfl, rfl⟩
      · rintro _ _ ⟨q3, a, b, hq3, rfl, rfl⟩
        refine s_seq ?_
        repeat walk_at "e"
        refine u_pick hq3 (by omega) (Nat.le_of_ble_eq_true rfl) (Nat.le_of_ble_eq_true rfl) fun q4 j4 d4 hq4 hd4 => ⟨_, rfl, nno, ?_⟩
        have hno : ∃ t, TyD K d4 t ∧ PySem.W.kitOne K t (.type "str") = some false := by
          match j4, hd4 with
          | 0, h => cases h; exact ⟨_, .non, kit_ty (by decide +kernel)⟩
          | 1, h => cases h; exact ⟨_, .int _, kit_ty (by decide +kernel)⟩
          | 2, h => cases h; exact ⟨_, .bl _, kit_ty (by decide +kernel)⟩
          | 3, h => cases h; exact ⟨_, .lst _, kit_ty (by decide +kernel)⟩
          | 4, h => cases h; exact ⟨_, .tup _, kit_ty (by decide +kernel)⟩
          | 5, h => cases h; exact ⟨_, .dic _, kit_ty (by decide +kernel)⟩
          | 6, h => cases h; exact ⟨_, .ins _ _ T.it_Sum, T.kit_Sum_str⟩
          | n + 7, h => cases h
        repeat walk_at "e"
        refine s_seq ?_
        refine s_try fun W' => ?_
        repeat walk_at "e"
        refine ⟨rfl, ?_⟩
        repeat walk_at "e"
        refine ⟨_, rfl, rfl, .inr ⟨hno, ?_⟩⟩
        refine ⟨_, _, _, rfl, rfl, T.xm_BadText_RestError, Nat.le_of_ble_eq_true rfl, fun _ => ?_, fun z => by cases z⟩
        show G.WS _ _ _ _ [.v (.scr cs), .own 0, .v (.int (i : Nat)), .v (.int m), .v (.lst (nums xs)), .v (sumD K m es), .v (.lst (nums es)), .v (.str (sumText m es)), a, b, .v d4, .v (.exc _ _), .no, .no, .no, .no] _
        repeat walk_at "e"
        refine c_isiE T.ek_BadText.k.exc (.own _) T.kit_BadText_BadText ?_
        repeat walk_at "e"
        refine w_xf ?_
        repeat walk_at "e"
        refine ⟨_, _, _, rfl, T.ek_BadText.k.xf, T.ek_BadText.no _ List.mem_cons_self, rfl, ?_⟩
        repeat walk_at "e"
        refine w_xf ?_
        repeat walk_at "e"
        refine ⟨_, _, _, rfl, T.ek_BadText.k.xf, T.ek_BadText.no _ (List.mem_cons_of_mem _ List.mem_cons_self), rfl, ?_⟩
        repeat walk_at "e"
        refine w_neF (d := .tup [.int 0, .int 0]) valD_v valD_v (by decide +kernel) ?_
        repeat walk_at "e"
        exact ⟨q4, _, _, _, _, _, _, _, _, _, _, hq4.mono (by omega), rfl, rfl⟩
    · rintro _ _ ⟨q0, a, b, c, d, e, f, g, h', j, k', hpq, rfl, rfl⟩
      refine s_seq ?_
      repeat walk_at "e"
      refine w_lcF1 ?_ (by decide)
      refine i_list ?_
      repeat walk_at "e"
      refine lcF_A (["", " ", "modulo", "modulo 4", "modulo 4 :", "modulo 4 : ", "modulo 1 : 0", "modulo 4 : 0 0", "modulo 4 : 1 0", " modulo 4 : 0"] : List Str) D.str (fun _ => false) D.str (by decide) (fun x acc hx => ?_) ?_
      · refine g_name ?_
        have hx2 : x.length ≤ 20 ∧ PyData.strOk x = true := by
          have h : ((["", " ", "modulo", "modulo 4", "modulo 4 :", "modulo 4 : ", "modulo 1 : 0", "modulo 4 : 0 0", "modulo 4 : 1 0", " modulo 4 : 0"] : List Str).all fun x => decide (x.length ≤ 20) && PyData.strOk x) = true := by decide +kernel
          obtain ⟨h1, h2⟩ := He.ba (List.all_eq_true.mp h x hx)
          exact ⟨of_decide_eq_true h1, h2⟩
        repeat walk_at "e"
        refine ⟨x, rfl, rfl, by omega, hx2.2, ⟨⟨_, rfl⟩, ?_⟩⟩
        repeat walk_at "e"
        intro z
        cases z
      repeat walk_at "e"
      refine w_eqT (d := .lst []) valD_v valD_v (by decide +kernel) ?_
      exact ⟨rfl, p⟩
end My

set_option Elab.async false
set_option linter.all false
set_option maxRecDepth 100000
set_option maxHeartbeats 0
namespace My
open PySem PySem.Spec PyProof.Rows L2 G
theorem facts {P : Program} {w : World} {K : PySem.W.Frag} {h : Heap} {mg : Str → Option Value} {f : Addr} (X : K.In h) (G : h.Ns mainGlobals mg) (hfa : mg ("law" : Str) = some (.ref f)) (c : He.SaysD fa fn K) (e : ex K = true) (ee : es.map (fun d => fnE K (d.f K)) ++ prs.map (fun d => fnE K (d.g K)) = es.map ExD.val ++ prs.map PrD.val) (hP : POk P "/claim/cut.py") :
    ∀ base : Heap, K.In base → base.Ns mainGlobals mg → TabsB K mg base → FnRG P w K mg base (CXa P) 9 f (lift K (_root_.G.sp_law K)) := by
  have T := tx X G c e ee
  have ef := hfa.symm.trans T.g_law
  cases ef
  intro base _ _ TB
  have hx_BadText : FnX P w K mg base 1 (e_BadText.f K) ["self", "line", "word"] (spX2 (He.ga K "BadText") "line" "word") := okx_BadText hP T
  have h_is_integer : Fn P w K mg base 1 (He.fAd K ("is_integer", none)) ["value"] (sp_is_integer K) := ok_is_integer T 
  have h_is_between : Fn P w K mg base 2 (He.fAd K ("is_between", none)) ["value", "low", "high"] (sp_is_between K) := ok_is_between T h_is_integer
  have h_fits_modulus : Fn P w K mg base 3 (He.fAd K ("fits_modulus", none)) ["value"] (sp_fits_modulus K) := ok_fits_modulus T h_is_between
  have h_law_pen : FnRaw P w K mg base 1 (He.fAd K ("_law_pen", none)) ["_law_script"] (penSp K 63) := ok_law_pen T 
  have h_law_draw : Fn P w K mg base 1 (He.fAd K ("_law_draw", none)) ["_law_pen_here", "_law_many"] (sp_draw K) := ok_law_draw T 
  have h_law_pick : Fn P w K mg base 2 (He.fAd K ("_law_pick", none)) ["_law_pen_here", "_law_some"] (sp_pick K) := ok_law_pick T h_law_draw
  have h_is_written : Fn P w K mg base 1 (He.fAd K ("is_written", none)) ["word"] (sp_wx_written K) := ok_is_written T 
  have h_WordsU_initU : Fn P w K mg base 4 (He.fAd K ("Words", some "__init__")) ["self", "line", "text"] (sp_wx_init K) := ok_WordsU_initU T hx_BadText
  have h_Words_next_word : Fn P w K mg base 1 (He.fAd K ("Words", some "next_word")) ["self"] (sp_wx_next K) := ok_Words_next_word T 
  have h_Words_refuse : Fn P w K mg base 4 (He.fAd K ("Words", some "refuse")) ["self"] (sp_wx_refuse K) := ok_Words_refuse T hx_BadText
  have h_Words_take_word : Fn P w K mg base 5 (He.fAd K ("Words", some "take_word")) ["self", "menu"] (sp_wx_word K) := ok_Words_take_word T h_Words_next_word h_Words_refuse
  have h_Words_take_number : Fn P w K mg base 5 (He.fAd K ("Words", some "take_number")) ["self", "least", "most"] (sp_wx_number K) := ok_Words_take_number T h_Words_next_word h_is_written h_Words_refuse
  have h_Words_take_end : Fn P w K mg base 5 (He.fAd K ("Words", some "take_end")) ["self"] (sp_wx_end K) := ok_Words_take_end T h_Words_next_word h_Words_refuse
  have h_trimmed : Fn P w K mg base 1 (He.fAd K ("trimmed", none)) ["modulus", "numbers"] (sp_s_trimmed K) := ok_trimmed T 
  have h_SumU_initU : FnS P w K mg base 4 (He.fAd K ("Sum", some "__init__")) 2 (sp_s_init K) := ok_SumU_initU T h_fits_modulus h_is_integer h_trimmed
  have h_SumU_eqU : Fn P w K mg base 1 (He.fAd K ("Sum", some "__eq__")) ["self", "other"] (sp_s_eq K) := ok_SumU_eqU T 
  have h_SumU_strU : Fn P w K mg base 1 (He.fAd K ("Sum", some "__str__")) ["self"] (sp_s_str K) := ok_SumU_strU T 
  have h_coefs_read : Fn P w K mg base 6 (He.fAd K ("coefs_read", none)) ["words", "modulus"] (sp_rx_coefs K) := ok_coefs_read T h_Words_take_number h_Words_next_word h_Words_take_end h_Words_refuse
  have h_Sum_read : Fn P w K mg base 7 (pr_Sum_read.g K) ["text"] (sp_rx_read K) := ok_Sum_read T h_WordsU_initU h_Words_take_word h_Words_take_number h_coefs_read h_SumU_initU
  have h_law_modulus : Fn P w K mg base 3 (He.fAd K ("_law_modulus", none)) ["_law_pen_here"] (sp_l_modulus K) := ok_law_modulus T h_law_draw h_law_pick
  have h_law_numbers : Fn P w K mg base 3 (He.fAd K ("_law_numbers", none)) ["_law_pen_here", "_law_modulus_here", "_law_most"] (sp_l_numbers K) := ok_law_numbers T h_law_draw h_law_pick
  have h_law_made : Fn P w K mg base 6 (He.fAd K ("_law_made", none)) ["_law_modulus_here", "_law_told"] (sp_l_made K) := ok_law_made T h_SumU_initU
  have h_law_trimmed : Fn P w K mg base 1 (He.fAd K ("_law_trimmed", none)) ["_law_modulus_here", "_law_told"] (sp_l_trim K) := ok_law_trimmed T 
  have h_law_is_written : Fn P w K mg base 1 (He.fAd K ("_law_is_written", none)) ["_law_word", "_law_most"] (sp_l_written K) := ok_law_is_written T 
  have h_law_wrong : Fn P w K mg base 2 (He.fAd K ("_law_wrong", none)) ["_law_line"] (sp_l_wrong K) := ok_law_wrong T h_law_is_written
  have h_law_right : FnG P w K mg base 8 (He.fAd K ("_law_right", none)) 1 (sp_l_right K) := ok_law_right T h_law_wrong h_Sum_read h_SumU_strU
  have h_law_bent : Fn P w K mg base 3 (He.fAd K ("_law_bent", none)) ["_law_pen_here", "_law_line", "_law_modulus_here"] (sp_l_bent K) := ok_law_bent T h_law_draw h_law_pick
  have h_law : FnG P w K mg base 9 (He.fAd K ("law", none)) 1 (sp_law K) := ok_law T h_law_pen h_law_modulus h_law_numbers h_law_trimmed h_law_made h_SumU_strU h_Sum_read h_SumU_eqU h_law_wrong h_law_bent h_law_right h_law_pick
  exact fn_endG h_law (by decide)
end My
open PySem PySem.W PySem.Calls PyProof.Rows
theorem PySem.Challenge.cw_restchains_k15_sums_written_and_read_holds : PySem.Challenge.rw_restchains_k15_sums_written_and_read.Holds := by
  w_on; o_law
  refine HandSHeadRun.head_any (r := My.R) (q := view My.R.prog [46]) (H := My.hk) (ob := My.ob) (M := 9000) (loose := My.loose) (d := HandSHeadRun.topDef My.R.prog 46) (kwd := []) My.ob_eq
    (by kernel_rfl) (fun s => by kernel_rfl) My.run (by kernel_rfl) (by kernel_rfl) (by kernel_rfl) (by rfl) (by first | assumption | decide +kernel) (by decide +kernel) ⟨rfl, rfl, rfl, rfl, rfl, by decide +kernel⟩ ?hw ?hc
  case hw => w_witness2

  case hc =>
    refine _root_.G.walk_ofG (l := PySem.Challenge.rw_restchains_k15_sums_written_and_read) (n := 63) (k := 9) (CX := G.CXa My.R.prog) rfl (by decide) (by kernel_rfl) ⟨rfl, by decide, by decide⟩ ?F (fun _ _ _ _ z => G.cxa_nil z)
    intro w mg fa h Y G hmg0
    obtain ⟨K, KX, c, e, ee, th⟩ := Y
    have hmg : mg ("law" : PySem.Str) = some (.ref fa) := by
      have e0 : (HandSHeadRun.topDef My.R.prog 46).name = ("law" : PySem.Str) := by kernel_rfl
      rw [← e0]
      exact hmg0
    exact ⟨K, KX, th, My.facts (P := My.R.prog) (w := w) KX G hmg c e ee (⟨by kernel_rfl, by kernel_rfl⟩ : _root_.G.POk My.R.prog "/claim/cut.py")⟩


