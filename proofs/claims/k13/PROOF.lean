import PyProof.Rows.All
import Wide.All
import OpenK.AllK
import Wide.FinOn
import KE.KStateDown
import HandS.ForMost
import HandS.Defaults
import HandS.Head2
import HandS.HeadEnd
import HandS.HeadHook2
import HandS.Wide
import HandS.IsInst
import HandS.Star
import HandS.Evl
import HandS.TryOnly
import HandS.ExcOwn
import HandS.WordsExc
import HandS.Zip
import HandS.Rev
import HandS.TupAny
import HandS.Style
import HandS.Steps
import KE.GoesEnum
import PySem.Challenge.RW_restchains_k13_sums_of_values
import HandS.Lambda
import HandS.More
import HandS.ExcInit
import HandS.ExcSuper
import HandS.ExcIs
import HandS.ExcField
import HandS.Nested
import KE.KExcSuper
import HandS.ExcValue
import KE.KIsAll
import KE.KTryMore
import HandS.EndTab
import PyProof.ReprRoads
import HandS.HeadNt
import HandS.HeadHook4
import HandS.Property
import HandS.SlotsOwn
import HandS.TupMul
import HandS.IterVal
import KE.KOwnIter
import HandS.Conv
import HandS.FStr
import HandS.Text
import KE.KCallOwn
import PyProof.FitsInt
import HandS.ClsMeth
import HandS.HeadHook3
import HandS.HeadWalk
import KE.GoesNew
import HandS.OwnEq
import HandS.MakeKwOnly
import HandS.Small
import HandS.WideBits
import HandS.Flow
import PyProof.StrBlock2
import HandS.Exc
import HandS.Comp
import PyProof.Conv_bool
import HandS.DictComp
import HandS.SortInts
import HandS.Iter
set_option Elab.async false
set_option linter.all false
set_option maxRecDepth 100000
set_option maxHeartbeats 4000000
namespace G
open PySem PySem.Spec PyProof.Rows L2

inductive D where
  | non | bl (b : Bool) | int (i : Int) | str (x : Str) | ty (n : String) | ref (a : Addr)
  | lst (xs : List D) | tup (xs : List D) | ins (C : Addr) (fs : List (Str × D)) | dic (kvs : List (Key × D)) | scr (ns : List Int) | exc (C : Addr) (fs : List (Str × D)) | ext (R : Hp → Addr → Prop)
/-- a slot, a value: plain data, or the i-th thing that is owned, or unknown -/
inductive T where
  | v (d : D) | own (i : Nat) | no | clo (R : Hp → List Addr → Prop) (f : Addr)
/-- what an owned thing holds -/
inductive OD where
  | lst (xs : List D) | ins (C : Addr) (fs : List (Str × D)) | dic (kvs : List (Key × D)) | gone

/-- at a: an exception that was caught, of the class C, its dict at d -/
def excH (a C : Addr) (d : Option Addr) : HO := .ext fun h => ∃ oe : Obj, h.get? a = some oe ∧ oe.cls = .ref C ∧ oe.dict = d ∧ ∃ vs, oe.data = .fields vs
/-- no table of code objects -/
def NT (o : HO) : Prop := ∀ ps, o ≠ .tbl ps
/-- all but the tables stay -/
def Ex (H H' : Hp) : Prop := ∀ a o, H a = some o → NT o → H' a = some o
theorem Ex.of {H H' : Hp} (e : ∀ a o, H a = some o → H' a = some o) : Ex H H' := fun a o h _ => e a o h
theorem Ex.refl (H : Hp) : Ex H H := fun _ _ h _ => h
theorem Ex.trans {H H1 H2 : Hp} (a : Ex H H1) (b : Ex H1 H2) : Ex H H2 := fun x o h n => b x o (a x o h n) n
mutual
def Rep (K : PySem.W.Frag) (H : Hp) : D → V → Prop
  | .non, v => v = .non
  | .bl b, v => v = .bl b
  | .int i, v => v = .int i
  | .str x, v => v = .str x
  | .ty n, v => v = .ty n
  | .ref a, v => v = .ref a
  | .lst ds, v => ∃ a vs, v = .ref a ∧ H a = some (.lst vs) ∧ RepL K H ds vs
  | .scr ns, v => ∃ a, v = .ref a ∧ SqL K H a (ns.map V.int)
  | .ext R, v => ∃ a H0, v = .ref a ∧ Ex H0 H ∧ R H0 a
  | .exc C fs, v => ∃ a d vs, v = .ref a ∧ H a = some (excH a C (some d)) ∧ H d = some (.xd vs) ∧ RepF K H fs vs
  | .tup ds, v => ∃ a vs, v = .ref a ∧ SqT K H a vs ∧ RepL K H ds vs
  | .ins C fs, v => ∃ a dx vs, v = .ref a ∧ H a = some (.ins C dx vs) ∧ RepF K H fs vs
  | .dic kvs, v => ∃ a ws, v = .ref a ∧ H a = some (.dK ws) ∧ RepK K H kvs ws
def RepL (K : PySem.W.Frag) (H : Hp) : List D → List V → Prop
  | [], vs => vs = []
  | d :: ds, vs => ∃ v r, vs = v :: r ∧ Rep K H d v ∧ RepL K H ds r
def RepF (K : PySem.W.Frag) (H : Hp) : List (Str × D) → List (Str × V) → Prop
  | [], vs => vs = []
  | p :: ds, vs => ∃ v r, vs = (p.1, v) :: r ∧ Rep K H p.2 v ∧ RepF K H ds r
def RepK (K : PySem.W.Frag) (H : Hp) : List (Key × D) → List (Key × V) → Prop
  | [], vs => vs = []
  | p :: ds, vs => ∃ v r, vs = (p.1, v) :: r ∧ Rep K H p.2 v ∧ RepK K H ds r
end

theorem nt_exc {a C : Addr} {d : Option Addr} : NT (excH a C d) := fun _ z => by
  unfold excH at z
  cases z
/-- neither a table nor a code object -/
def OB (o : HO) : Prop := NT o ∧ ∀ c q, o ≠ LamX.CodeO c q
theorem ob_of {o : HO} (n : NT o) (h : ∀ P, o ≠ .ext P) : OB o := ⟨n, fun c q z => by
  unfold LamX.CodeO at z
  exact h _ z⟩
theorem ob_lst {vs : List V} : OB (.lst vs) := ob_of (fun _ z => by cases z) fun _ z => by cases z
theorem ob_ins {C dx : Addr} {vs : List (Str × V)} : OB (.ins C dx vs) := ob_of (fun _ z => by cases z) fun _ z => by cases z
theorem ob_dK {vs : List (Key × V)} : OB (.dK vs) := ob_of (fun _ z => by cases z) fun _ z => by cases z
theorem Ex.l {K : PySem.W.Frag} {H H' : Hp} {a : Addr} {xs : List V} (e : Ex H H') (h : SqL K H a xs) : SqL K H' a xs := by
  rcases h with (h | ⟨o, h⟩) | h
  · exact .inl (.inl (e _ _ h (by (first | assumption | exact nt_exc | exact fun _ z => (by cases z)))))
  · exact .inl (.inr ⟨o, e _ _ h (by (first | assumption | exact nt_exc | exact fun _ z => (by cases z)))⟩)
  · exact .inr h
theorem Ex.t {K : PySem.W.Frag} {H H' : Hp} {a : Addr} {xs : List V} (e : Ex H H') (h : SqT K H a xs) : SqT K H' a xs := by
  rcases h with (h | ⟨o, h⟩) | h
  · exact .inl (.inl (e _ _ h (by (first | assumption | exact nt_exc | exact fun _ z => (by cases z)))))
  · exact .inl (.inr ⟨o, e _ _ h (by (first | assumption | exact nt_exc | exact fun _ z => (by cases z)))⟩)
  · exact .inr h
/-- the code objects that the written part has, their tables where these are not in it, the names of the code objects that they will tell -/
def csT (K : PySem.W.Frag) : List ((Addr × Addr) × Str) := K.filterMap fun p => match p.2 with
  | ⟨.type c, _, .fields vs, _⟩ => if c = "code" then (match (vs[11]? : Option Value), (vs[1]? : Option Value) with
    | some (.ref P), some (.str n _) => if (K.lookup P).isNone then some ((p.1, P), n ++ (".<locals>." : Str) ++ ("<lambda>" : Str)) else none
    | _, _ => none) else none
  | _ => none
def tabT (K : PySem.W.Frag) : List (Addr × Str) := (csT K).map fun q => (q.1.2, q.2)
/-- every one of them is in order -/
def TabsK (K : PySem.W.Frag) (H : Hp) : Prop := LamX.Tabs (tabT K) H
theorem TabsK.ext {K : PySem.W.Frag} {H H' : Hp} (t : TabsK K H) (e : ∀ b o, H b = some o → H' b = some o) : TabsK K H' := LamX.Tabs.ext t e
/-- an object that is neither a table nor a code object changes -/
theorem TabsK.upd {K : PySem.W.Frag} {H : Hp} {a : Addr} {o : HO} (t : TabsK K H) (h : H a = some o) (n : NT o) (nc : ∀ c q, o ≠ LamX.CodeO c q) (w : HO) : TabsK K (upd H a w) := fun p hp => by
  obtain ⟨ps, h1, h2, h3⟩ := t p hp
  refine ⟨ps, ?_, h2, fun pos cv hc => ?_⟩
  · rw [upd_ne (fun z => by rw [z, h] at h1; exact n ps (Option.some.inj h1))]
    exact h1
  · obtain ⟨c, e1, e2⟩ := h3 pos cv hc
    refine ⟨c, e1, ?_⟩
    rw [upd_ne (fun z => by rw [z, h] at e2; exact nc _ _ (Option.some.inj e2))]
    exact e2

mutual
theorem Rep.ex {K : PySem.W.Frag} {H H' : Hp} (e : Ex H H') : ∀ (d : D) {v : V}, Rep K H d v → Rep K H' d v
  | .non, _, h => h
  | .bl _, _, h => h
  | .int _, _, h => h
  | .str _, _, h => h
  | .ty _, _, h => h
  | .ref _, _, h => h
  | .lst ds, _, h => by
    obtain ⟨a, vs, e1, h1, h2⟩ := h
    exact ⟨a, vs, e1, e _ _ h1 (by (first | assumption | exact nt_exc | exact fun _ z => (by cases z))), RepL.ex e ds h2⟩
  | .ext R, _, h => by
    obtain ⟨a, H0, e1, e0, r⟩ := h
    exact ⟨a, H0, e1, e0.trans e, r⟩
  | .scr ns, _, h => by
    obtain ⟨a, e1, h1⟩ := h
    exact ⟨a, e1, e.l h1⟩
  | .exc C fs, _, h => by
    obtain ⟨a, d, vs, e1, h1, h2, h3⟩ := h
    exact ⟨a, d, vs, e1, e _ _ h1 (by (first | assumption | exact nt_exc | exact fun _ z => (by cases z))), e _ _ h2 (by (first | assumption | exact nt_exc | exact fun _ z => (by cases z))), RepF.ex e fs h3⟩
  | .tup ds, _, h => by
    obtain ⟨a, vs, e1, h1, h2⟩ := h
    exact ⟨a, vs, e1, e.t h1, RepL.ex e ds h2⟩
  | .ins C fs, _, h => by
    obtain ⟨a, dx, vs, e1, h1, h2⟩ := h
    exact ⟨a, dx, vs, e1, e _ _ h1 (by (first | assumption | exact nt_exc | exact fun _ z => (by cases z))), RepF.ex e fs h2⟩
  | .dic kvs, _, h => by
    obtain ⟨a, ws, e1, h1, h2⟩ := h
    exact ⟨a, ws, e1, e _ _ h1 (by (first | assumption | exact nt_exc | exact fun _ z => (by cases z))), RepK.ex e kvs h2⟩
theorem RepL.ex {K : PySem.W.Frag} {H H' : Hp} (e : Ex H H') : ∀ (ds : List D) {vs : List V}, RepL K H ds vs → RepL K H' ds vs
  | [], _, h => h
  | d :: ds, _, h => by
    obtain ⟨v, r, e1, h1, h2⟩ := h
    exact ⟨v, r, e1, Rep.ex e d h1, RepL.ex e ds h2⟩
theorem RepF.ex {K : PySem.W.Frag} {H H' : Hp} (e : Ex H H') : ∀ (ds : List (Str × D)) {vs : List (Str × V)}, RepF K H ds vs → RepF K H' ds vs
  | [], _, h => h
  | p :: ds, _, h => by
    obtain ⟨v, r, e1, h1, h2⟩ := h
    exact ⟨v, r, e1, Rep.ex e p.2 h1, RepF.ex e ds h2⟩
theorem RepK.ex {K : PySem.W.Frag} {H H' : Hp} (e : Ex H H') : ∀ (ds : List (Key × D)) {vs : List (Key × V)}, RepK K H ds vs → RepK K H' ds vs
  | [], _, h => h
  | p :: ds, _, h => by
    obtain ⟨v, r, e1, h1, h2⟩ := h
    exact ⟨v, r, e1, Rep.ex e p.2 h1, RepK.ex e ds h2⟩
end
theorem RepL.length {K : PySem.W.Frag} {H : Hp} : ∀ {ds : List D} {vs : List V}, RepL K H ds vs → vs.length = ds.length
  | [], _, h => by rw [show _ = [] from h] <;> rfl
  | d :: ds, _, h => by
    obtain ⟨v, r, e1, h1, h2⟩ := h
    rw [e1, List.length_cons, List.length_cons, RepL.length h2]
theorem RepL.get {K : PySem.W.Frag} {H : Hp} : ∀ {ds : List D} {vs : List V} {i : Nat} {d : D}, RepL K H ds vs → ds[i]? = some d → ∃ v, vs[i]? = some v ∧ Rep K H d v
  | [], _, _, _, _, h => by simp at h
  | d :: ds, _, 0, _, h, q => by
    obtain ⟨v, r, e1, h1, h2⟩ := h
    have e : d = _ := Option.some.inj q
    subst e e1
    exact ⟨v, rfl, h1⟩
  | d :: ds, _, i + 1, _, h, q => by
    obtain ⟨v, r, e1, h1, h2⟩ := h
    subst e1
    exact RepL.get (i := i) h2 q
theorem RepL.append {K : PySem.W.Frag} {H : Hp} : ∀ {ds es : List D} {vs ws : List V}, RepL K H ds vs → RepL K H es ws → RepL K H (ds ++ es) (vs ++ ws)
  | [], _, _, _, h, q => by
    rw [show _ = [] from h]
    exact q
  | d :: ds, _, _, _, h, q => by
    obtain ⟨v, r, e1, h1, h2⟩ := h
    subst e1
    exact ⟨v, _, rfl, h1, RepL.append h2 q⟩
theorem RepL.take {K : PySem.W.Frag} {H : Hp} : ∀ {ds : List D} {vs : List V} (n : Nat), RepL K H ds vs → RepL K H (ds.take n) (vs.take n)
  | ds, vs, 0, _ => by
    rw [List.take_zero, List.take_zero]
    exact rfl
  | [], _, n + 1, h => by
    rw [show _ = [] from h]
    exact rfl
  | d :: ds, _, n + 1, h => by
    obtain ⟨v, r, e1, h1, h2⟩ := h
    subst e1
    exact ⟨v, _, rfl, h1, RepL.take n h2⟩
theorem RepL.drop {K : PySem.W.Frag} {H : Hp} : ∀ {ds : List D} {vs : List V} (n : Nat), RepL K H ds vs → RepL K H (ds.drop n) (vs.drop n)
  | ds, vs, 0, h => h
  | [], _, n + 1, h => by
    rw [show _ = [] from h]
    exact rfl
  | d :: ds, _, n + 1, h => by
    obtain ⟨v, r, e1, h1, h2⟩ := h
    subst e1
    exact RepL.drop n h2
theorem RepL.set {K : PySem.W.Frag} {H : Hp} {e : D} {w : V} (q : Rep K H e w) : ∀ {ds : List D} {vs : List V} (n : Nat), RepL K H ds vs → RepL K H (ds.set n e) (vs.set n w)
  | [], _, n, h => by
    rw [show _ = [] from h]
    exact rfl
  | d :: ds, _, 0, h => by
    obtain ⟨v, r, e1, h1, h2⟩ := h
    subst e1
    exact ⟨w, _, rfl, q, h2⟩
  | d :: ds, _, n + 1, h => by
    obtain ⟨v, r, e1, h1, h2⟩ := h
    subst e1
    exact ⟨v, _, rfl, h1, RepL.set q n h2⟩
theorem RepF.look {K : PySem.W.Frag} {H : Hp} {f : Str} : ∀ {ds : List (Str × D)} {vs : List (Str × V)} {d : D}, RepF K H ds vs → ds.lookup f = some d → ∃ v, vs.lookup f = some v ∧ Rep K H d v
  | [], _, _, _, h => by cases h
  | p :: ds, _, d, h, q => by
    obtain ⟨v, r, e1, h1, h2⟩ := h
    subst e1
    rw [List.lookup_cons] at q ⊢
    cases e : (f == p.1) with
    | true =>
      rw [e] at q
      have e2 : p.2 = d := Option.some.inj q
      subst e2
      exact ⟨v, rfl, h1⟩
    | false =>
      rw [e] at q
      exact RepF.look h2 q
theorem RepF.none {K : PySem.W.Frag} {H : Hp} {f : Str} : ∀ {ds : List (Str × D)} {vs : List (Str × V)}, RepF K H ds vs → ds.lookup f = none → vs.lookup f = none
  | [], _, h, _ => by rw [show _ = [] from h] <;> rfl
  | p :: ds, _, h, q => by
    obtain ⟨v, r, e1, h1, h2⟩ := h
    subst e1
    rw [List.lookup_cons] at q ⊢
    cases e : (f == p.1) with
    | true =>
      rw [e] at q
      cases q
    | false =>
      rw [e] at q
      exact RepF.none h2 q
theorem RepF.length {K : PySem.W.Frag} {H : Hp} : ∀ {ds : List (Str × D)} {vs : List (Str × V)}, RepF K H ds vs → vs.length = ds.length
  | [], _, h => by rw [show _ = [] from h] <;> rfl
  | d :: ds, _, h => by
    obtain ⟨v, r, e1, h1, h2⟩ := h
    rw [e1, List.length_cons, List.length_cons, RepF.length h2]

structure Bs where
  B : Hp
  Z : List Addr
  A0 : List Addr
def live : List Addr → List OD → List Addr
  | _ :: A, .gone :: O => live A O
  | a :: A, _ :: O => a :: live A O
  | _, _ => []
def hid (L : List Addr) (H : Hp) : Hp := fun a => if a ∈ L then none else H a
theorem hid_some {L : List Addr} {H : Hp} {a : Addr} {o : HO} : hid L H a = some o ↔ a ∉ L ∧ H a = some o := by
  unfold hid
  by_cases h : a ∈ L
  · rw [if_pos h]
    exact ⟨fun z => (nomatch z), fun z => absurd h z.1⟩
  · rw [if_neg h]
    exact ⟨fun z => ⟨h, z⟩, fun z => z.2⟩
theorem hid_ex {L : List Addr} {H : Hp} : Ex (hid L H) H := fun _ _ h _ => (hid_some.mp h).2
theorem hid_mono {L M : List Addr} {H H' : Hp} (e : ∀ a o, a ∉ L → H a = some o → H' a = some o) (s : ∀ a o, a ∉ L → H a = some o → a ∉ M) : Ex (hid L H) (hid M H') := fun a o h _ => by
  obtain ⟨h1, h2⟩ := hid_some.mp h
  exact hid_some.mpr ⟨s a o h1 h2, e a o h1 h2⟩

theorem hid_monoW {L M : List Addr} {H H' : Hp} (e : ∀ a o, a ∉ L → H a = some o → NT o → H' a = some o) (s : ∀ a o, a ∉ L → H a = some o → a ∉ M) : Ex (hid L H) (hid M H') := fun a o h n => by
  obtain ⟨h1, h2⟩ := hid_some.mp h
  exact hid_some.mpr ⟨s a o h1 h2, e a o h1 h2 n⟩
def CellOk (K : PySem.W.Frag) (F H : Hp) (a : Addr) : OD → Prop
  | .lst ds => ∃ vs, H a = some (.lst vs) ∧ RepL K F ds vs
  | .ins C fs => ∃ dx vs, H a = some (.ins C dx vs) ∧ RepF K F fs vs
  | .dic kvs => ∃ ws, H a = some (.dK ws) ∧ RepK K F kvs ws
  | .gone => True
theorem CellOk.ex {K : PySem.W.Frag} {F F' H H' : Hp} {a : Addr} {o : OD} (e : Ex F F') (h : ∀ u, H a = some u → H' a = some u) (c : CellOk K F H a o) : CellOk K F' H' a o := by
  cases o with
  | lst ds =>
    obtain ⟨vs, h1, h2⟩ := c
    exact ⟨vs, h _ h1, h2.ex e⟩
  | ins C fs =>
    obtain ⟨dx, vs, h1, h2⟩ := c
    exact ⟨dx, vs, h _ h1, h2.ex e⟩
  | dic kvs =>
    obtain ⟨ws, h1, h2⟩ := c
    exact ⟨ws, h _ h1, h2.ex e⟩
  | gone => trivial
theorem CellOk.exW {K : PySem.W.Frag} {F F' H H' : Hp} {a : Addr} {o : OD} (e : Ex F F') (h : ∀ u, H a = some u → NT u → H' a = some u) (c : CellOk K F H a o) : CellOk K F' H' a o := by
  cases o with
  | lst ds =>
    obtain ⟨vs, h1, h2⟩ := c
    exact ⟨vs, h _ h1 (by (first | assumption | exact nt_exc | exact fun _ z => (by cases z))), h2.ex e⟩
  | ins C fs =>
    obtain ⟨dx, vs, h1, h2⟩ := c
    exact ⟨dx, vs, h _ h1 (by (first | assumption | exact nt_exc | exact fun _ z => (by cases z))), h2.ex e⟩
  | dic kvs =>
    obtain ⟨ws, h1, h2⟩ := c
    exact ⟨ws, h _ h1 (by (first | assumption | exact nt_exc | exact fun _ z => (by cases z))), h2.ex e⟩
  | gone => trivial
/-- what is frozen -/
def Fz (b : Bs) (A : List Addr) (O : List OD) (H : Hp) : Hp := hid (live A O ++ b.Z) H

structure StO (K : PySem.W.Frag) (b : Bs) (A : List Addr) (O : List OD) (H : Hp) : Prop where
  len : A.length = O.length
  pre : ∃ M, A = b.A0 ++ M
  ext : Ex b.B (hid (live A O) H)
  zs : ∀ z ∈ b.Z, ∃ o, b.B z = some o ∧ OB o
  nd : A.Nodup
  inh : ∀ a ∈ A, ∃ o, H a = some o ∧ NT o
  cell : ∀ (i : Nat) (a : Addr) (o : OD), A[i]? = some a → O[i]? = some o → CellOk K (Fz b A O H) H a o
  tb : TabsK K H

theorem live_mem : ∀ {A : List Addr} {O : List OD} {a : Addr}, a ∈ live A O → ∃ (i : Nat) (o : OD), A[i]? = some a ∧ O[i]? = some o ∧ o ≠ OD.gone
  | [], _, _, h => by simp [live] at h
  | _ :: _, [], _, h => by simp [live] at h
  | c :: A, o :: O, a, h => by
    have key : a ∈ live A O → ∃ (i : Nat) (o' : OD), (c :: A)[i]? = some a ∧ (o :: O)[i]? = some o' ∧ o' ≠ OD.gone := fun h => by
      obtain ⟨i, o', h1, h2, h3⟩ := live_mem h
      exact ⟨i + 1, o', h1, h2, h3⟩
    cases o with
    | gone => exact key h
    | lst ds =>
      rcases List.mem_cons.mp h with e | h
      · exact ⟨0, _, by rw [e] <;> rfl, rfl, fun z => by cases z⟩
      · exact key h
    | ins C fs =>
      rcases List.mem_cons.mp h with e | h
      · exact ⟨0, _, by rw [e] <;> rfl, rfl, fun z => by cases z⟩
      · exact key h
    | dic kvs =>
      rcases List.mem_cons.mp h with e | h
      · exact ⟨0, _, by rw [e] <;> rfl, rfl, fun z => by cases z⟩
      · exact key h
theorem live_at : ∀ {A : List Addr} {O : List OD} {i : Nat} {a : Addr} {o : OD}, A[i]? = some a → O[i]? = some o → o ≠ .gone → a ∈ live A O
  | [], _, _, _, _, h, _, _ => by simp at h
  | _ :: _, [], _, _, _, _, h, _ => by simp at h
  | c :: A, u :: O, 0, a, o, h1, h2, h3 => by
    have e1 : c = a := Option.some.inj h1
    have e2 : u = o := Option.some.inj h2
    subst e1 e2
    cases u with
    | gone => exact absurd rfl h3
    | lst ds => exact List.mem_cons_self
    | ins C fs => exact List.mem_cons_self
    | dic kvs => exact List.mem_cons_self
  | c :: A, u :: O, i + 1, a, o, h1, h2, h3 => by
    have ih : a ∈ live A O := live_at (i := i) h1 h2 h3
    cases u with
    | gone => exact ih
    | lst ds => exact List.mem_cons_of_mem _ ih
    | ins C fs => exact List.mem_cons_of_mem _ ih
    | dic kvs => exact List.mem_cons_of_mem _ ih

section
variable {K : PySem.W.Frag} {b : Bs} {A A' A2 : List Addr} {O O' O2 : List OD} {H H' H2 : Hp}
theorem StO.some_at (s : StO K b A O H) {a : Addr} (h : a ∈ live A O) : ∃ o, H a = some o ∧ OB o := by
  obtain ⟨i, o, h1, h2, h3⟩ := live_mem h
  have c := s.cell i a o h1 h2
  cases o with
  | gone => exact absurd rfl h3
  | lst ds =>
    obtain ⟨vs, q, _⟩ := c
    exact ⟨_, q, ob_lst⟩
  | ins C fs =>
    obtain ⟨dx, vs, q, _⟩ := c
    exact ⟨_, q, ob_ins⟩
  | dic kvs =>
    obtain ⟨ws, q, _⟩ := c
    exact ⟨_, q, ob_dK⟩
theorem StO.z_at (s : StO K b A O H) {a : Addr} (h : a ∈ b.Z) : a ∉ live A O ∧ ∃ o, H a = some o ∧ OB o := by
  obtain ⟨o, q, n⟩ := s.zs a h
  obtain ⟨h1, h2⟩ := hid_some.mp (s.ext a o q n.1)
  exact ⟨h1, o, h2, n⟩
theorem StO.fresh (s : StO K b A O H) {p : Addr} (h : H p = none) : p ∉ live A O ++ b.Z := fun hm => by
  rcases List.mem_append.mp hm with hm | hm
  · obtain ⟨o, q, _⟩ := s.some_at hm
    rw [h] at q
    cases q
  · obtain ⟨_, o, q, _⟩ := s.z_at hm
    rw [h] at q
    cases q
/-- the next state sees what this one sees -/
structure Nxt (b : Bs) (A : List Addr) (O : List OD) (H : Hp) (A' : List Addr) (O' : List OD) (H' : Hp) : Prop where
  pre : ∃ M, A' = A ++ M
  ext : Ex (Fz b A O H) (Fz b A' O' H')
theorem Nxt.refl : Nxt b A O H A O H := ⟨⟨[], (List.append_nil A).symm⟩, Ex.refl _⟩
theorem Nxt.trans (x : Nxt b A O H A' O' H') (y : Nxt b A' O' H' A2 O2 H2) : Nxt b A O H A2 O2 H2 := by
  obtain ⟨M, e⟩ := x.pre
  obtain ⟨N, e2⟩ := y.pre
  exact ⟨⟨M ++ N, by rw [e2, e, List.append_assoc]⟩, x.ext.trans y.ext⟩
theorem Nxt.at_ (x : Nxt b A O H A' O' H') {i : Nat} {a : Addr} (h : A[i]? = some a) : A'[i]? = some a := by
  obtain ⟨M, e⟩ := x.pre
  rw [e, List.getElem?_append_left (List.getElem?_eq_some_iff.mp h).1]
  exact h

def RepT (K : PySem.W.Frag) (F : Hp) (A : List Addr) : T → Option V → Prop
  | .v d, o => ∃ v, o = some v ∧ Rep K F d v
  | .own i, o => ∃ a, A[i]? = some a ∧ o = some (.ref a)
  | .no, _ => True
  | .clo R f, o => o = some (.ref f) ∧ ∀ F' A', Ex F F' → (∃ M, A' = A ++ M) → R F' A'
theorem RepT.nxt {t : T} {o : Option V} (x : Nxt b A O H A' O' H') (h : RepT K (Fz b A O H) A t o) : RepT K (Fz b A' O' H') A' t o := by
  cases t with
  | v d =>
    obtain ⟨v, e, r⟩ := h
    exact ⟨v, e, r.ex x.ext⟩
  | own i =>
    obtain ⟨a, e, r⟩ := h
    exact ⟨a, x.at_ e, r⟩
  | no => trivial
  | clo R f => exact ⟨h.1, fun F' A2 e p => h.2 F' A2 (x.ext.trans e) (by
      obtain ⟨M, e1⟩ := x.pre
      obtain ⟨N, e2⟩ := p
      exact ⟨M ++ N, by rw [e2, e1, List.append_assoc]⟩)⟩
/-- under any growth -/
theorem RepT.mono {K : PySem.W.Frag} {F F' : Hp} {A A' : List Addr} {t : T} {o : Option V} (x : Ex F F') (p : ∃ M, A' = A ++ M) (h : RepT K F A t o) : RepT K F' A' t o := by
  cases t with
  | v d =>
    obtain ⟨v, e, r⟩ := h
    exact ⟨v, e, r.ex x⟩
  | own i =>
    obtain ⟨a, e, r⟩ := h
    obtain ⟨M, rfl⟩ := p
    exact ⟨a, by rw [List.getElem?_append_left (List.getElem?_eq_some_iff.mp e).1]; exact e, r⟩
  | no => trivial
  | clo R f => exact ⟨h.1, fun F2 A2 e q => h.2 F2 A2 (x.trans e) (by
      obtain ⟨M, e1⟩ := p
      obtain ⟨N, e2⟩ := q
      exact ⟨M ++ N, by rw [e2, e1, List.append_assoc]⟩)⟩
def RepS (K : PySem.W.Frag) (F : Hp) (A : List Addr) (ts : List T) (σ : L2.St) : Prop := ts.length = σ.length ∧ ∀ (i : Nat) (t : T), ts[i]? = some t → ∃ o, σ[i]? = some o ∧ RepT K F A t o
theorem RepS.nxt {ts : List T} {σ : L2.St} (x : Nxt b A O H A' O' H') (h : RepS K (Fz b A O H) A ts σ) : RepS K (Fz b A' O' H') A' ts σ :=
  ⟨h.1, fun i t e => let ⟨o, e1, r⟩ := h.2 i t e; ⟨o, e1, r.nxt x⟩⟩
theorem RepS.mono {F F' : Hp} {B B' : List Addr} {ts : List T} {σ : L2.St} (x : Ex F F') (p : ∃ M, B' = B ++ M) (h : RepS K F B ts σ) : RepS K F' B' ts σ :=
  ⟨h.1, fun i t e => let ⟨o, e1, r⟩ := h.2 i t e; ⟨o, e1, r.mono x p⟩⟩
theorem RepS.set {F : Hp} {ts : List T} {σ : L2.St} {t : T} {v : V} (h : RepS K F A ts σ) (r : RepT K F A t (some v)) (i : Nat) : RepS K F A (ts.set i t) (σ.set i (some v)) := by
  refine ⟨by rw [List.length_set, List.length_set]; exact h.1, fun j u e => ?_⟩
  rw [List.getElem?_set] at e
  by_cases hij : i = j
  · subst hij
    rw [if_pos rfl] at e
    by_cases hl : i < ts.length
    · rw [if_pos hl] at e
      have e2 : t = u := Option.some.inj e
      subst e2
      refine ⟨some v, ?_, r⟩
      rw [List.getElem?_set_self (by rw [← h.1]; exact hl)]
    · rw [if_neg hl] at e
      cases e
  · rw [if_neg hij] at e
    obtain ⟨o, e1, r1⟩ := h.2 j u e
    refine ⟨o, ?_, r1⟩
    rw [List.getElem?_set_ne hij]
    exact e1
/-- what a list of values stands for -/
def RepTs (K : PySem.W.Frag) (F : Hp) (A : List Addr) : List T → List V → Prop
  | [], vs => vs = []
  | t :: ts, vs => ∃ v r, vs = v :: r ∧ RepT K F A t (some v) ∧ RepTs K F A ts r
theorem RepTs.nxt (x : Nxt b A O H A' O' H') : ∀ {ts : List T} {vs : List V}, RepTs K (Fz b A O H) A ts vs → RepTs K (Fz b A' O' H') A' ts vs
  | [], _, h => h
  | t :: ts, _, h => by
    obtain ⟨v, r, e, h1, h2⟩ := h
    exact ⟨v, r, e, h1.nxt x, RepTs.nxt x h2⟩
theorem RepTs.length {F : Hp} : ∀ {ts : List T} {vs : List V}, RepTs K F A ts vs → vs.length = ts.length
  | [], _, h => by rw [show _ = [] from h] <;> rfl
  | t :: ts, _, h => by
    obtain ⟨v, r, e, h1, h2⟩ := h
    rw [e, List.length_cons, List.length_cons, RepTs.length h2]
theorem RepTs.get {F : Hp} : ∀ {ts : List T} {vs : List V} {i : Nat} {t : T}, RepTs K F A ts vs → ts[i]? = some t → ∃ v, vs[i]? = some v ∧ RepT K F A t (some v)
  | [], _, _, _, _, h => by simp at h
  | t :: ts, _, 0, _, h, q => by
    obtain ⟨v, r, e1, h1, h2⟩ := h
    have e : t = _ := Option.some.inj q
    subst e e1
    exact ⟨v, rfl, h1⟩
  | t :: ts, _, i + 1, _, h, q => by
    obtain ⟨v, r, e1, h1, h2⟩ := h
    subst e1
    exact RepTs.get (i := i) h2 q
/-- plain data only -/
def unv : List T → Option (List D)
  | [] => some []
  | .v d :: r => (unv r).map (d :: ·)
  | _ :: _ => none
theorem RepTs.plain {F : Hp} : ∀ {ts : List T} {vs : List V} {ds : List D}, unv ts = some ds → RepTs K F A ts vs → RepL K F ds vs
  | [], _, ds, e, h => by
    have e2 : [] = ds := Option.some.inj e
    subst e2
    exact h
  | .v d :: ts, _, ds, e, h => by
    obtain ⟨v, r, e1, h1, h2⟩ := h
    have e3 : (unv ts).map (d :: ·) = some ds := e
    cases q : unv ts with
    | none =>
      rw [q] at e3
      cases e3
    | some es =>
      rw [q] at e3
      have e4 : d :: es = ds := Option.some.inj e3
      subst e4
      obtain ⟨w, e5, r5⟩ := h1
      have e6 := Option.some.inj e5
      subst e6
      exact ⟨v, r, e1, r5, RepTs.plain q h2⟩
  | .own _ :: _, _, _, e, _ => by cases e
  | .no :: _, _, _, e, _ => by cases e
  | .clo _ _ :: _, _, _, e, _ => by cases e

theorem StO.lay (s : StO K b A O H) {p : Addr} (hp : H p = none) (o : HO) : StO K b A O (upd H p o) ∧ Nxt b A O H A O (upd H p o) ∧ Fz b A O (upd H p o) p = some o := by
  have hn := s.fresh hp
  have e1 : ∀ a u, H a = some u → upd H p o a = some u := fun a u h => by
    rw [upd_ne (ne_of_none h hp)]
    exact h
  have e2 : Ex (Fz b A O H) (Fz b A O (upd H p o)) := hid_mono (fun a u _ h => e1 a u h) fun a u h _ => h
  refine ⟨⟨s.len, s.pre, s.ext.trans (hid_mono (fun a u _ h => e1 a u h) fun a u h _ => h), s.zs, s.nd, fun a h => let ⟨u, q, n⟩ := s.inh a h; ⟨u, e1 a u q, n⟩, fun i a u h1 h2 => (s.cell i a u h1 h2).ex e2 (e1 a), s.tb.ext e1⟩, ⟨⟨[], (List.append_nil A).symm⟩, e2⟩, ?_⟩
  exact hid_some.mpr ⟨hn, upd_same⟩
theorem live_append : ∀ {A : List Addr} {O : List OD}, A.length = O.length → ∀ (p : Addr) (o : OD), live (A ++ [p]) (O ++ [o]) = live A O ++ live [p] [o]
  | [], [], _, p, o => rfl
  | [], _ :: _, h, _, _ => by simp at h
  | _ :: _, [], h, _, _ => by simp at h
  | a :: A, u :: O, h, p, o => by
    have ih := live_append (A := A) (O := O) (by simpa using h) p o
    cases u <;> simp only [List.cons_append, live, ih]
theorem live1_sub {p : Addr} {o : OD} : ∀ a ∈ live [p] [o], a = p := fun a h => by
  cases o <;> simp [live] at h <;> exact h
/-- p, new, becomes the next owned thing -/
theorem StO.own (s : StO K b A O H) {p : Addr} (hp : H p = none) {u : HO} {o : OD} (c : CellOk K (Fz b A O H) (upd H p u) p o) (nu : NT u := by (first | assumption | exact nt_exc | exact fun _ z => (by cases z))) : StO K b (A ++ [p]) (O ++ [o]) (upd H p u) ∧ Nxt b A O H (A ++ [p]) (O ++ [o]) (upd H p u) := by
  have hn := s.fresh hp
  have hA : p ∉ A := fun z => by
    obtain ⟨x, q, _⟩ := s.inh p z
    rw [hp] at q
    cases q
  have e1 : ∀ a w, H a = some w → upd H p u a = some w := fun a w h => by
    rw [upd_ne (ne_of_none h hp)]
    exact h
  have hl := live_append s.len p o
  have sub : ∀ a w, a ∉ live A O → H a = some w → a ∉ live (A ++ [p]) (O ++ [o]) := fun a w h1 h2 h3 => by
    rw [hl] at h3
    rcases List.mem_append.mp h3 with h3 | h3
    · exact h1 h3
    · have e := live1_sub a h3
      rw [e, hp] at h2
      cases h2
  have e2 : Ex (Fz b A O H) (Fz b (A ++ [p]) (O ++ [o]) (upd H p u)) := hid_mono (fun a w _ h => e1 a w h) fun a w h1 h2 h3 => by
    rcases List.mem_append.mp h3 with h3 | h3
    · exact sub a w (fun z => h1 (List.mem_append_left _ z)) h2 h3
    · exact h1 (List.mem_append_right _ h3)
  obtain ⟨M, eM⟩ := s.pre
  refine ⟨⟨by rw [List.length_append, List.length_append, s.len] <;> rfl, ⟨M ++ [p], by rw [eM, List.append_assoc]⟩, s.ext.trans (hid_mono (fun a w _ h => e1 a w h) sub), s.zs, ?_, fun a h => ?_, fun i a w h1 h2 => ?_, s.tb.ext e1⟩, ⟨⟨[p], rfl⟩, e2⟩⟩
  · rw [List.nodup_append]
    refine ⟨s.nd, by simp, fun x hx y hy => ?_⟩
    rw [List.mem_singleton.mp hy]
    intro z
    exact hA (z ▸ hx)
  · rcases List.mem_append.mp h with h | h
    · obtain ⟨x, q, n⟩ := s.inh a h
      exact ⟨x, e1 a x q, n⟩
    · rw [List.mem_singleton.mp h]
      exact ⟨u, upd_same, nu⟩
  · by_cases hi : i < A.length
    · rw [List.getElem?_append_left hi] at h1
      rw [List.getElem?_append_left (by rw [← s.len]; exact hi)] at h2
      exact (s.cell i a w h1 h2).ex e2 (e1 a)
    · rw [List.getElem?_append_right (by omega)] at h1
      rw [List.getElem?_append_right (by rw [← s.len]; omega)] at h2
      have hz : i - A.length = 0 := by
        cases q : i - A.length with
        | zero => rfl
        | succ n =>
          rw [q] at h1
          simp at h1
      rw [hz] at h1
      rw [show i - O.length = 0 by rw [← s.len]; exact hz] at h2
      have e3 : p = a := Option.some.inj h1
      have e4 : o = w := Option.some.inj h2
      subst e3 e4
      exact c.ex e2 fun _ h => h
/-- the i-th owned thing changes -/
theorem live_set : ∀ {A : List Addr} {O : List OD} {i : Nat} {o u : OD}, O[i]? = some u → u ≠ .gone → o ≠ .gone → live A (O.set i o) = live A O
  | [], O, _, _, _, _, _, _ => by cases O <;> rfl
  | _ :: _, [], _, _, _, h, _, _ => by simp at h
  | a :: A, w :: O, 0, o, u, h, h1, h2 => by
    have e : w = u := Option.some.inj h
    subst e
    cases w <;> cases o <;> first | rfl | exact absurd rfl h1 | exact absurd rfl h2
  | a :: A, w :: O, i + 1, o, u, h, h1, h2 => by
    have ih := live_set (A := A) (O := O) (i := i) h h1 h2
    cases w <;> simp only [List.set_cons_succ, live, ih]
theorem StO.obj (s : StO K b A O H) {i : Nat} {a : Addr} {u : OD} (hA : A[i]? = some a) (hO : O[i]? = some u) (hu : u ≠ .gone) : ∃ o, H a = some o ∧ NT o ∧ ∀ c q, o ≠ LamX.CodeO c q := by
  have c := s.cell i a u hA hO
  have key : ∀ o : HO, (∀ P, o ≠ .ext P) → ∀ c q, o ≠ LamX.CodeO c q := fun o h c q z => by
    unfold LamX.CodeO at z
    exact h _ z
  cases u with
  | gone => exact absurd rfl hu
  | lst ds =>
    obtain ⟨vs, q, _⟩ := c
    exact ⟨_, q, by (first | assumption | exact nt_exc | exact fun _ z => (by cases z)), key _ fun _ z => by cases z⟩
  | ins C fs =>
    obtain ⟨dx, vs, q, _⟩ := c
    exact ⟨_, q, by (first | assumption | exact nt_exc | exact fun _ z => (by cases z)), key _ fun _ z => by cases z⟩
  | dic kvs =>
    obtain ⟨ws, q, _⟩ := c
    exact ⟨_, q, by (first | assumption | exact nt_exc | exact fun _ z => (by cases z)), key _ fun _ z => by cases z⟩
theorem StO.tb_put (s : StO K b A O H) {i : Nat} {a : Addr} {u : OD} (hA : A[i]? = some a) (hO : O[i]? = some u) (hu : u ≠ .gone) (w : HO) : TabsK K (upd H a w) := by
  obtain ⟨o, h1, h2, h3⟩ := s.obj hA hO hu
  exact s.tb.upd h1 h2 h3 w
theorem StO.put (s : StO K b A O H) {i : Nat} {a : Addr} {u o : OD} {w : HO} (hA : A[i]? = some a) (hO : O[i]? = some u) (hu : u ≠ .gone) (ho : o ≠ .gone) (c : CellOk K (Fz b A O H) (upd H a w) a o) (nw : NT w := by (first | assumption | exact nt_exc | exact fun _ z => (by cases z))) :
    StO K b A (O.set i o) (upd H a w) ∧ Nxt b A O H A (O.set i o) (upd H a w) := by
  have hl : live A (O.set i o) = live A O := live_set hO hu ho
  have hm : a ∈ live A O := live_at hA hO hu
  have e2 : Ex (Fz b A O H) (Fz b A (O.set i o) (upd H a w)) := by
    unfold Fz
    rw [hl]
    refine hid_mono (fun y x h1 h2 => ?_) fun _ _ h _ => h
    have hne : y ≠ a := fun z => h1 (List.mem_append_left _ (by rw [z]; exact hm))
    rw [upd_ne hne]
    exact h2
  refine ⟨⟨by rw [List.length_set]; exact s.len, s.pre, ?_, s.zs, s.nd, fun c h => ?_, fun j y x h1 h2 => ?_, s.tb_put hA hO hu w⟩, ⟨⟨[], (List.append_nil A).symm⟩, e2⟩⟩
  · rw [hl]
    refine s.ext.trans (hid_mono (fun y x h1 h2 => ?_) fun _ _ h _ => h)
    have hne : y ≠ a := fun z => h1 (by rw [z]; exact hm)
    rw [upd_ne hne]
    exact h2
  · by_cases z : c = a
    · exact ⟨w, by rw [z, upd_same], nw⟩
    · obtain ⟨x, q, n⟩ := s.inh c h
      exact ⟨x, by rw [upd_ne z]; exact q, n⟩
  · rw [List.getElem?_set] at h2
    by_cases hij : i = j
    · subst hij
      rw [if_pos rfl] at h2
      rw [hA] at h1
      have e3 : a = y := Option.some.inj h1
      subst e3
      by_cases hlt : i < O.length
      · rw [if_pos hlt] at h2
        have e4 : o = x := Option.some.inj h2
        subst e4
        exact c.ex e2 fun _ h => h
      · rw [if_neg hlt] at h2
        cases h2
    · rw [if_neg hij] at h2
      have hne : y ≠ a := fun z => hij (nd_ix s.nd hA (z ▸ h1))
      refine (s.cell j y x h1 h2).ex e2 fun q hq => ?_
      rw [upd_ne hne]
      exact hq
end
end G

set_option Elab.async false
set_option linter.all false
set_option maxRecDepth 100000
set_option maxHeartbeats 4000000
namespace G
open PySem PySem.Spec PyProof.Rows L2

abbrev PT' := T → List OD → Prop
abbrev PB := Bool → List OD → Prop
abbrev PL := List T → List OD → Prop
/-- an exception: its class, its own fields (none: no dict of its own) -/
abbrev XX := Value → Option (List (Str × D)) → List OD → Prop
def RepX (K : PySem.W.Frag) (F H : Hp) : Option (List (Str × D)) → Option Addr → Prop
  | none, d => d = none
  | some fs, d => ∃ dx vs, d = some dx ∧ F dx = some (.xd vs) ∧ RepF K F fs vs
/-- what an exception leaves is wanted -/
def KX (K : PySem.W.Frag) (W : WX) (b : Bs) (A : List Addr) (O : List OD) (σ : L2.St) (H : Hp) (X : XX) : Prop :=
  ∀ C fs A' O' H' d, X C fs O' → StO K b A' O' H' → Nxt b A O H A' O' H' → RepX K (Fz b A' O' H') H' fs d → W C d σ H'
def KV' (K : PySem.W.Frag) (b : Bs) (A : List Addr) (O : List OD) (H : Hp) (P : PT') (Q : VK) : Prop :=
  ∀ t v A' O' H', P t O' → StO K b A' O' H' → Nxt b A O H A' O' H' → RepT K (Fz b A' O' H') A' t (some v) → Q v H'
def KB (K : PySem.W.Frag) (b : Bs) (A : List Addr) (O : List OD) (H : Hp) (P : PB) (Q : Bool → Hp → Prop) : Prop :=
  ∀ c A' O' H', P c O' → StO K b A' O' H' → Nxt b A O H A' O' H' → Q c H'
def KL (K : PySem.W.Frag) (b : Bs) (A : List Addr) (O : List OD) (H : Hp) (P : PL) (Q : List V → Hp → Prop) : Prop :=
  ∀ ts vs A' O' H', P ts O' → StO K b A' O' H' → Nxt b A O H A' O' H' → RepTs K (Fz b A' O' H') A' ts vs → Q vs H'
section
variable {K : PySem.W.Frag} {W : WX} {b : Bs} {A A' : List Addr} {O O' : List OD} {H H' : Hp} {σ : L2.St}
theorem KX.nxt {X : XX} (k : KX K W b A O σ H X) (n : Nxt b A O H A' O' H') : KX K W b A' O' σ H' X := fun C fs A2 O2 H2 d x s m r => k C fs A2 O2 H2 d x s (n.trans m) r
theorem KV'.nxt {P : PT'} {Q : VK} (k : KV' K b A O H P Q) (n : Nxt b A O H A' O' H') : KV' K b A' O' H' P Q := fun t v A2 O2 H2 x s m r => k t v A2 O2 H2 x s (n.trans m) r
theorem KB.nxt {P : PB} {Q : Bool → Hp → Prop} (k : KB K b A O H P Q) (n : Nxt b A O H A' O' H') : KB K b A' O' H' P Q := fun c A2 O2 H2 x s m => k c A2 O2 H2 x s (n.trans m)
theorem KL.nxt {P : PL} {Q : List V → Hp → Prop} (k : KL K b A O H P Q) (n : Nxt b A O H A' O' H') : KL K b A' O' H' P Q := fun ts vs A2 O2 H2 x s m r => k ts vs A2 O2 H2 x s (n.trans m) r
end

def WE (K : PySem.W.Frag) (W : WX) (te : TE) (O : List OD) (ts : List T) (P : PT') (X : XX) : Prop :=
  ∀ b A σ H Q, StO K b A O H → RepS K (Fz b A O H) A ts σ → KV' K b A O H P Q → KX K W b A O σ H X → te σ H Q
def WT (K : PySem.W.Frag) (W : WX) (tt : TT) (O : List OD) (ts : List T) (P : PB) (X : XX) : Prop :=
  ∀ b A σ H Q, StO K b A O H → RepS K (Fz b A O H) A ts σ → KB K b A O H P Q → KX K W b A O σ H X → tt σ H Q
def WA (K : PySem.W.Frag) (W : WX) (ta : TA) (O : List OD) (ts : List T) (P : PL) (X : XX) : Prop :=
  ∀ b A σ H Q, StO K b A O H → RepS K (Fz b A O H) A ts σ → KL K b A O H P Q → KX K W b A O σ H X → ta σ H Q
/-- by values -/
def WR (K : PySem.W.Frag) (r : R2) (x y : T) (O : List OD) (P : PT') : Prop :=
  ∀ b A H Q v u, StO K b A O H → RepT K (Fz b A O H) A x (some v) → RepT K (Fz b A O H) A y (some u) → KV' K b A O H P Q → r v u H Q
def WU (K : PySem.W.Frag) (r : V → Hp → VK → Prop) (x : T) (O : List OD) (P : PT') : Prop :=
  ∀ b A H Q v, StO K b A O H → RepT K (Fz b A O H) A x (some v) → KV' K b A O H P Q → r v H Q
def WC (K : PySem.W.Frag) (r : List V → Hp → VK → Prop) (xs : List T) (O : List OD) (P : PT') : Prop :=
  ∀ b A H Q vs, StO K b A O H → RepTs K (Fz b A O H) A xs vs → KV' K b A O H P Q → r vs H Q
def WM (K : PySem.W.Frag) (r : V → List V → Hp → VK → Prop) (x : T) (xs : List T) (O : List OD) (P : PT') : Prop :=
  ∀ b A H Q v vs, StO K b A O H → RepT K (Fz b A O H) A x (some v) → RepTs K (Fz b A O H) A xs vs → KV' K b A O H P Q → r v vs H Q

structure DE where
  nx : List T → List OD → Prop
  rt : PT'
  bk : List T → List OD → Prop := fun _ _ => False
  ct : List T → List OD → Prop := fun _ _ => False
  xe : Value → Option (List (Str × D)) → List T → List OD → Prop := fun _ _ _ _ => False
def KN (K : PySem.W.Frag) (b : Bs) (A : List Addr) (O : List OD) (H : Hp) (N : List T → List OD → Prop) (Q : L2.St → Hp → Prop) : Prop :=
  ∀ ts σ A' O' H', N ts O' → StO K b A' O' H' → Nxt b A O H A' O' H' → RepS K (Fz b A' O' H') A' ts σ → Q σ H'
structure KS (K : PySem.W.Frag) (W : WX) (b : Bs) (A : List Addr) (O : List OD) (H : Hp) (E : DE) (D : Ends) : Prop where
  nx : KN K b A O H E.nx D.nx
  rt : KV' K b A O H E.rt D.rt
  bk : KN K b A O H E.bk D.bk
  ct : KN K b A O H E.ct D.ct
  xe : ∀ C fs ts σ A' O' H' d, E.xe C fs ts O' → StO K b A' O' H' → Nxt b A O H A' O' H' → RepS K (Fz b A' O' H') A' ts σ → RepX K (Fz b A' O' H') H' fs d → W C d σ H'
def WS (K : PySem.W.Frag) (W : WX) (t : TS) (O : List OD) (ts : List T) (E : DE) : Prop :=
  ∀ b A σ H D, StO K b A O H → RepS K (Fz b A O H) A ts σ → KS K W b A O H E D → t D σ H
section
variable {K : PySem.W.Frag} {W : WX} {b : Bs} {A A' : List Addr} {O O' : List OD} {H H' : Hp} {σ : L2.St}
theorem KN.nxt {N : List T → List OD → Prop} {Q : L2.St → Hp → Prop} (k : KN K b A O H N Q) (n : Nxt b A O H A' O' H') : KN K b A' O' H' N Q := fun ts σ A2 O2 H2 x s m r => k ts σ A2 O2 H2 x s (n.trans m) r
theorem KS.nxt {E : DE} {D : Ends} (k : KS K W b A O H E D) (n : Nxt b A O H A' O' H') : KS K W b A' O' H' E D :=
  ⟨k.nx.nxt n, k.rt.nxt n, k.bk.nxt n, k.ct.nxt n, fun C fs ts σ A2 O2 H2 d x s m r q => k.xe C fs ts σ A2 O2 H2 d x s (n.trans m) r q⟩
theorem KS.kx {E : DE} {D : Ends} {ts : List T} (k : KS K W b A O H E D) (rs : RepS K (Fz b A O H) A ts σ) : KX K W b A O σ H (fun C fs O' => E.xe C fs ts O') :=
  fun C fs A' O' H' d x s m r => k.xe C fs ts σ A' O' H' d x s m (rs.nxt m) r
end

section
variable {K : PySem.W.Frag} {W : WX} {O : List OD} {ts : List T} {P : PT'} {PB' : PB} {PL' : PL} {X : XX} {te ta tb tc : TE} {tt uu : TT} {tr : TA} {r r' : R2}
theorem WE.imp {P' : PT'} (h : WE K W te O ts P X) (q : ∀ t O', P t O' → P' t O') : WE K W te O ts P' X := fun b A σ H Q s rs k kx => h b A σ H Q s rs (fun t v A' O' H' p => k t v A' O' H' (q t O' p)) kx
theorem w_var {i : Nat} {t : T} (h : ts[i]? = some t) (hn : t ≠ .no) (k : P t O) : WE K W (tVar i) O ts P X := fun b A σ H Q s rs kv _ => by
  obtain ⟨o, e, rt⟩ := rs.2 i t h
  cases t with
  | v d =>
    obtain ⟨v, e2, rd⟩ := rt
    subst e2
    exact ⟨v, e, kv _ v A O H k s Nxt.refl ⟨v, rfl, rd⟩⟩
  | own j =>
    obtain ⟨a, e1, e2⟩ := rt
    subst e2
    exact ⟨_, e, kv _ _ A O H k s Nxt.refl ⟨a, e1, rfl⟩⟩
  | no => exact absurd rfl hn
  | clo R f =>
    obtain ⟨e1, m⟩ := rt
    subst e1
    exact ⟨_, e, kv _ _ A O H k s Nxt.refl ⟨rfl, m⟩⟩
theorem w_v {i : Nat} {d : D} (h : ts[i]? = some (.v d)) (k : P (.v d) O) : WE K W (tVar i) O ts P X := w_var h (fun z => by cases z) k
theorem w_o {i j : Nat} (h : ts[i]? = some (.own j)) (k : P (.own j) O) : WE K W (tVar i) O ts P X := w_var h (fun z => by cases z) k
theorem w_c {v : V} {d : D} (h : ∀ H, Rep K H d v) (k : P (.v d) O) : WE K W (tC v) O ts P X := fun b A σ H Q s rs kv _ => kv _ v A O H k s Nxt.refl ⟨v, rfl, h _⟩
theorem w_ci {i : Int} (k : P (.v (.int i)) O) : WE K W (tC (.int i)) O ts P X := w_c (d := .int i) (fun _ => rfl) k
theorem w_cb {i : Bool} (k : P (.v (.bl i)) O) : WE K W (tC (.bl i)) O ts P X := w_c (d := .bl i) (fun _ => rfl) k
theorem w_cs {i : Str} (k : P (.v (.str i)) O) : WE K W (tC (.str i)) O ts P X := w_c (d := .str i) (fun _ => rfl) k
theorem w_cn (k : P (.v .non) O) : WE K W (tC .non) O ts P X := w_c (d := .non) (fun _ => rfl) k
theorem w_cr {a : Addr} (k : P (.v (.ref a)) O) : WE K W (tC (.ref a)) O ts P X := w_c (d := .ref a) (fun _ => rfl) k
theorem w_cty {a : String} (k : P (.v (.ty a)) O) : WE K W (tC (.ty a)) O ts P X := w_c (d := .ty a) (fun _ => rfl) k
theorem w_op (h : WE K W ta O ts (fun x O1 => WE K W tb O1 ts (fun y O2 => WR K r x y O2 P) X) X) : WE K W (tOp r ta tb) O ts P X := fun b A σ H Q s rs kv kx => by
  refine h b A σ H _ s rs (fun x v A1 O1 H1 p1 s1 n1 r1 => ?_) kx
  refine p1 b A1 σ H1 _ s1 (rs.nxt n1) (fun y u A2 O2 H2 p2 s2 n2 r2 => ?_) (kx.nxt n1)
  exact p2 b A2 H2 Q v u s2 (r1.nxt n2) r2 (kv.nxt (n1.trans n2))
theorem w_un {r : V → Hp → VK → Prop} (h : WE K W ta O ts (fun x O1 => WU K r x O1 P) X) : WE K W (tUn r ta) O ts P X := fun b A σ H Q s rs kv kx =>
  h b A σ H _ s rs (fun x v A1 O1 H1 p1 s1 n1 r1 => p1 b A1 H1 Q v s1 r1 (kv.nxt n1)) kx
theorem w_I0 {g : Int → Int → V} {i j : Int} {d : D} (hd : ∀ H, Rep K H d (g i j)) (k : P (.v d) O) : WR K (rI0 g) (.v (.int i)) (.v (.int j)) O P := fun b A H Q v u s r1 r2 kv => by
  obtain ⟨_, e1, rfl⟩ := r1
  obtain ⟨_, e2, rfl⟩ := r2
  cases e1
  cases e2
  exact ⟨i, j, rfl, rfl, kv _ _ A O H k s Nxt.refl ⟨_, rfl, hd _⟩⟩
theorem w_I {C : Int → Int → Prop} {g : Int → Int → V} {i j : Int} {d : D} (hc : C i j) (hd : ∀ H, Rep K H d (g i j)) (k : P (.v d) O) : WR K (rI C g) (.v (.int i)) (.v (.int j)) O P := fun b A H Q v u s r1 r2 kv => by
  obtain ⟨_, e1, rfl⟩ := r1
  obtain ⟨_, e2, rfl⟩ := r2
  cases e1
  cases e2
  exact ⟨i, j, rfl, rfl, hc, kv _ _ A O H k s Nxt.refl ⟨_, rfl, hd _⟩⟩
theorem w_Ui {g : Int → V} {i : Int} {d : D} (hd : ∀ H, Rep K H d (g i)) (k : P (.v d) O) : WU K (rU g) (.v (.int i)) O P := fun b A H Q v s r1 kv => by
  obtain ⟨_, e1, rfl⟩ := r1
  cases e1
  exact ⟨i, rfl, kv _ _ A O H k s Nxt.refl ⟨_, rfl, hd _⟩⟩
/-- values that are no objects -/
def scalD : D → Option V
  | .non => some .non
  | .bl b => some (.bl b)
  | .int i => some (.int i)
  | .str x => some (.str x)
  | _ => none
theorem scalD_rep {K : PySem.W.Frag} {H : Hp} {d : D} {v w : V} (h : scalD d = some v) (r : Rep K H d w) : w = v := by
  cases d <;> first | (have e := Option.some.inj h; subst e; exact r) | cases h
theorem w_eq {d e : D} {v u : V} (h1 : scalD d = some v) (h2 : scalD e = some u) (hs : scal v u = true) (k : P (.v (.bl (decide (v = u)))) O) : WR K rEq (.v d) (.v e) O P := fun b A H Q x y s r1 r2 kv => by
  obtain ⟨_, e1, q1⟩ := r1
  obtain ⟨_, e2, q2⟩ := r2
  cases e1
  cases e2
  rw [scalD_rep h1 q1, scalD_rep h2 q2]
  exact ⟨hs, kv _ _ A O H k s Nxt.refl ⟨_, rfl, rfl⟩⟩
theorem w_ne {d e : D} {v u : V} (h1 : scalD d = some v) (h2 : scalD e = some u) (hs : scal v u = true) (k : P (.v (.bl (!decide (v = u)))) O) : WR K rNe (.v d) (.v e) O P := fun b A H Q x y s r1 r2 kv => by
  obtain ⟨_, e1, q1⟩ := r1
  obtain ⟨_, e2, q2⟩ := r2
  cases e1
  cases e2
  rw [scalD_rep h1 q1, scalD_rep h2 q2]
  exact ⟨hs, kv _ _ A O H k s Nxt.refl ⟨_, rfl, rfl⟩⟩
theorem dI (i j : Int) : decide (V.int i = V.int j) = decide (i = j) := by
  by_cases h : i = j
  · subst h
    simp
  · rw [decide_eq_false h, decide_eq_false (fun z => h (V.int.inj z))]
theorem w_eqI {i j : Int} (k : P (.v (.bl (decide (i = j)))) O) : WR K rEq (.v (.int i)) (.v (.int j)) O P := w_eq rfl rfl rfl (by rw [dI]; exact k)
theorem w_neI {i j : Int} (k : P (.v (.bl (!decide (i = j)))) O) : WR K rNe (.v (.int i)) (.v (.int j)) O P := w_ne rfl rfl rfl (by rw [dI]; exact k)
theorem w_test (h : WE K W te O ts (fun t O' => ∃ c, t = .v (.bl c) ∧ PB' c O') X) : WT K W (tTest te) O ts PB' X := fun b A σ H Q s rs kb kx =>
  h b A σ H _ s rs (fun t v A1 O1 H1 p1 s1 n1 r1 => by
    obtain ⟨c, rfl, p⟩ := p1
    obtain ⟨_, e, rfl⟩ := r1
    cases e
    exact ⟨c, rfl, kb c A1 O1 H1 p s1 n1⟩) kx
theorem w_B (h : WE K W te O ts (fun t O' => ∃ c, t = .v (.bl c) ∧ PB' c O') X) : WT K W (tB te) O ts PB' X := w_test h
theorem w_and (h : WT K W tt O ts (fun c O' => (c = true → WT K W uu O' ts PB' X) ∧ (c = false → PB' false O')) X) : WT K W (tAnd tt uu) O ts PB' X := fun b A σ H Q s rs kb kx =>
  h b A σ H _ s rs (fun c A1 O1 H1 p1 s1 n1 => by
    cases c with
    | true => exact iteT (p1.1 rfl b A1 σ H1 Q s1 (rs.nxt n1) (kb.nxt n1) (kx.nxt n1))
    | false => exact iteF (kb false A1 O1 H1 (p1.2 rfl) s1 n1)) kx
theorem w_or (h : WT K W tt O ts (fun c O' => (c = true → PB' true O') ∧ (c = false → WT K W uu O' ts PB' X)) X) : WT K W (tOr tt uu) O ts PB' X := fun b A σ H Q s rs kb kx =>
  h b A σ H _ s rs (fun c A1 O1 H1 p1 s1 n1 => by
    cases c with
    | true => exact iteT (kb true A1 O1 H1 (p1.1 rfl) s1 n1)
    | false => exact iteF (p1.2 rfl b A1 σ H1 Q s1 (rs.nxt n1) (kb.nxt n1) (kx.nxt n1))) kx
theorem w_not (h : WT K W tt O ts (fun c O' => PB' (!c) O') X) : WT K W (tNot tt) O ts PB' X := fun b A σ H Q s rs kb kx =>
  h b A σ H _ s rs (fun c A1 O1 H1 p1 s1 n1 => kb (!c) A1 O1 H1 p1 s1 n1) kx
theorem w_andV (h : WE K W ta O ts (fun t O' => ∃ c, t = .v (.bl c) ∧ (c = true → WE K W tb O' ts P X) ∧ (c = false → P (.v (.bl false)) O')) X) : WE K W (tAndV ta tb) O ts P X := fun b A σ H Q s rs kv kx =>
  h b A σ H _ s rs (fun t v A1 O1 H1 p1 s1 n1 r1 => by
    obtain ⟨c, rfl, pt, pf⟩ := p1
    obtain ⟨_, e, rfl⟩ := r1
    cases e
    refine ⟨c, rfl, ?_⟩
    cases c with
    | true => exact iteT (pt rfl b A1 σ H1 Q s1 (rs.nxt n1) (kv.nxt n1) (kx.nxt n1))
    | false => exact iteF (kv _ _ A1 O1 H1 (pf rfl) s1 n1 ⟨_, rfl, rfl⟩)) kx
theorem w_orV (h : WE K W ta O ts (fun t O' => ∃ c, t = .v (.bl c) ∧ (c = true → P (.v (.bl true)) O') ∧ (c = false → WE K W tb O' ts P X)) X) : WE K W (tOrV ta tb) O ts P X := fun b A σ H Q s rs kv kx =>
  h b A σ H _ s rs (fun t v A1 O1 H1 p1 s1 n1 r1 => by
    obtain ⟨c, rfl, pt, pf⟩ := p1
    obtain ⟨_, e, rfl⟩ := r1
    cases e
    refine ⟨c, rfl, ?_⟩
    cases c with
    | true => exact iteT (kv _ _ A1 O1 H1 (pt rfl) s1 n1 ⟨_, rfl, rfl⟩)
    | false => exact iteF (pf rfl b A1 σ H1 Q s1 (rs.nxt n1) (kv.nxt n1) (kx.nxt n1))) kx
theorem w_notV (h : WE K W ta O ts (fun t O' => ∃ c, t = .v (.bl c) ∧ P (.v (.bl (!c))) O') X) : WE K W (tNotV ta) O ts P X := fun b A σ H Q s rs kv kx =>
  h b A σ H _ s rs (fun t v A1 O1 H1 p1 s1 n1 r1 => by
    obtain ⟨c, rfl, p⟩ := p1
    obtain ⟨_, e, rfl⟩ := r1
    cases e
    exact ⟨c, rfl, kv _ _ A1 O1 H1 p s1 n1 ⟨_, rfl, rfl⟩⟩) kx
theorem w_ife (h : WT K W tt O ts (fun c O' => (c = true → WE K W ta O' ts P X) ∧ (c = false → WE K W tb O' ts P X)) X) : WE K W (tIf tt ta tb) O ts P X := fun b A σ H Q s rs kv kx =>
  h b A σ H _ s rs (fun c A1 O1 H1 p1 s1 n1 => by
    cases c with
    | true => exact iteT (p1.1 rfl b A1 σ H1 Q s1 (rs.nxt n1) (kv.nxt n1) (kx.nxt n1))
    | false => exact iteF (p1.2 rfl b A1 σ H1 Q s1 (rs.nxt n1) (kv.nxt n1) (kx.nxt n1))) kx
theorem w_chain {t3 : TE} (h : WE K W ta O ts (fun x O1 => WE K W tb O1 ts (fun y O2 => WR K r x y O2 (fun z O3 => ∃ c, z = .v (.bl c) ∧ (c = true → WE K W t3 O3 ts (fun w' O4 => WR K r' y w' O4 P) X) ∧ (c = false → P (.v (.bl false)) O3))) X) X) :
    WE K W (tChain r r' ta tb t3) O ts P X := fun b A σ H Q s rs kv kx => by
  refine h b A σ H _ s rs (fun x v A1 O1 H1 p1 s1 n1 r1 => ?_) kx
  refine p1 b A1 σ H1 _ s1 (rs.nxt n1) (fun y u A2 O2 H2 p2 s2 n2 r2 => ?_) (kx.nxt n1)
  refine p2 b A2 H2 _ v u s2 (r1.nxt n2) r2 (fun z w' A3 O3 H3 p3 s3 n3 r3 => ?_)
  obtain ⟨c, rfl, pt, pf⟩ := p3
  obtain ⟨_, e, rfl⟩ := r3
  cases e
  refine ⟨c, rfl, ?_⟩
  have n13 := (n1.trans n2).trans n3
  cases c with
  | true => exact iteT (pt rfl b A3 σ H3 _ s3 (rs.nxt n13) (fun y4 u4 A4 O4 H4 p4 s4 n4 r4 => p4 b A4 H4 Q u u4 s4 (r2.nxt (n3.trans n4)) r4 (kv.nxt (n13.trans n4))) (kx.nxt n13))
  | false => exact iteF (kv _ _ A3 O3 H3 (pf rfl) s3 n13 ⟨_, rfl, rfl⟩)
theorem w_nil (k : PL' [] O) : WA K W tNil O ts PL' X := fun b A σ H Q s rs kl _ => kl [] [] A O H k s Nxt.refl rfl
theorem w_cons (h : WE K W te O ts (fun x O1 => WA K W tr O1 ts (fun xs O2 => PL' (x :: xs) O2) X) X) : WA K W (tCons te tr) O ts PL' X := fun b A σ H Q s rs kl kx =>
  h b A σ H _ s rs (fun x v A1 O1 H1 p1 s1 n1 r1 => p1 b A1 σ H1 _ s1 (rs.nxt n1) (fun xs vs A2 O2 H2 p2 s2 n2 r2 => kl _ _ A2 O2 H2 p2 s2 (n1.trans n2) ⟨v, vs, rfl, r1.nxt n2, r2⟩) (kx.nxt n1)) kx
theorem w_tup (h : WA K W tr O ts (fun xs O1 => ∃ ds, unv xs = some ds ∧ xs.length ≤ sizeLine ∧ P (.v (.tup ds)) O1) X) : WE K W (tTup tr) O ts P X := fun b A σ H Q s rs kv kx =>
  h b A σ H _ s rs (fun xs vs A1 O1 H1 p1 s1 n1 r1 => by
    obtain ⟨ds, e, l, p⟩ := p1
    refine ⟨by rw [r1.length]; exact l, fun p' hp => ?_⟩
    obtain ⟨s2, n2, q⟩ := s1.lay hp (.tup vs)
    exact kv _ _ A1 O1 _ p s2 (n1.trans n2) ⟨_, rfl, p', vs, rfl, SqT.of q, (r1.plain e).ex n2.ext⟩) kx
theorem w_lst (h : WA K W tr O ts (fun xs O1 => ∃ ds, unv xs = some ds ∧ xs.length ≤ sizeLine ∧ P (.v (.lst ds)) O1) X) : WE K W (tLst tr) O ts P X := fun b A σ H Q s rs kv kx =>
  h b A σ H _ s rs (fun xs vs A1 O1 H1 p1 s1 n1 r1 => by
    obtain ⟨ds, e, l, p⟩ := p1
    refine ⟨by rw [r1.length]; exact l, fun p' hp => ?_⟩
    obtain ⟨s2, n2, q⟩ := s1.lay hp (.lst vs)
    exact kv _ _ A1 O1 _ p s2 (n1.trans n2) ⟨_, rfl, p', vs, rfl, q, (r1.plain e).ex n2.ext⟩) kx
/-- a list that is owned -/
theorem w_lstO (h : WA K W tr O ts (fun xs O1 => ∃ ds, unv xs = some ds ∧ xs.length ≤ sizeLine ∧ P (.own O1.length) (O1 ++ [.lst ds])) X) : WE K W (tLst tr) O ts P X := fun b A σ H Q s rs kv kx =>
  h b A σ H _ s rs (fun xs vs A1 O1 H1 p1 s1 n1 r1 => by
    obtain ⟨ds, e, l, p⟩ := p1
    refine ⟨by rw [r1.length]; exact l, fun p' hp => ?_⟩
    obtain ⟨s2, n2⟩ := s1.own (o := .lst ds) hp ⟨vs, upd_same, r1.plain e⟩
    refine kv _ _ _ _ _ p s2 (n1.trans n2) ⟨p', ?_, rfl⟩
    rw [← s1.len, List.getElem?_append_right (Nat.le_refl _), Nat.sub_self]
    exact rfl) kx
theorem w_call {rc : List V → Hp → VK → Prop} (h : WA K W tr O ts (fun xs O1 => WC K rc xs O1 P) X) : WE K W (tCB rc tr) O ts P X := fun b A σ H Q s rs kv kx =>
  h b A σ H _ s rs (fun xs vs A1 O1 H1 p1 s1 n1 r1 => p1 b A1 H1 Q vs s1 r1 (kv.nxt n1)) kx
end
end G

set_option Elab.async false
set_option linter.all false
set_option maxRecDepth 100000
set_option maxHeartbeats 4000000
namespace G
open PySem PySem.Spec PyProof.Rows L2

section
variable {K : PySem.W.Frag} {W : WX} {O : List OD} {ts : List T} {E : DE} {t u : TS} {te : TE} {tt : TT} {ta : TA}
theorem WS.imp {E' : DE} (h : WS K W t O ts E) (hn : ∀ ts O, E.nx ts O → E'.nx ts O) (hr : ∀ t O, E.rt t O → E'.rt t O) (hb : ∀ ts O, E.bk ts O → E'.bk ts O) (hc : ∀ ts O, E.ct ts O → E'.ct ts O) (hx : ∀ C fs ts O, E.xe C fs ts O → E'.xe C fs ts O) : WS K W t O ts E' :=
  fun b A σ H D s rs ks => h b A σ H D s rs ⟨fun ts σ A' O' H' p => ks.nx ts σ A' O' H' (hn _ _ p), fun t v A' O' H' p => ks.rt t v A' O' H' (hr _ _ p), fun ts σ A' O' H' p => ks.bk ts σ A' O' H' (hb _ _ p), fun ts σ A' O' H' p => ks.ct ts σ A' O' H' (hc _ _ p),
    fun C fs ts σ A' O' H' d p => ks.xe C fs ts σ A' O' H' d (hx _ _ _ _ p)⟩
theorem s_next (k : E.nx ts O) : WS K W tNext O ts E := fun b A σ H D s rs ks => ks.nx ts σ A O H k s Nxt.refl rs
theorem s_seq (h : WS K W t O ts { E with nx := fun ts' O' => WS K W u O' ts' E }) : WS K W (tSeq t u) O ts E := fun b A σ H D s rs ks =>
  h b A σ H { D with nx := u D } s rs ⟨fun ts' σ' A' O' H' p s' n' rs' => p b A' σ' H' D s' rs' (ks.nxt n'), ks.rt, ks.bk, ks.ct, ks.xe⟩
/-- the same, with a word between -/
theorem s_cut (M : List T → List OD → Prop) (h : WS K W t O ts { E with nx := M }) (k : ∀ ts' O', M ts' O' → WS K W u O' ts' E) : WS K W (tSeq t u) O ts E :=
  s_seq (WS.imp h (fun ts O p => k ts O p) (fun _ _ p => p) (fun _ _ p => p) (fun _ _ p => p) (fun _ _ _ _ p => p))
theorem s_drop (h : WE K W te O ts (fun _ O' => E.nx ts O') (fun C fs O' => E.xe C fs ts O')) : WS K W (tDrop te) O ts E := fun b A σ H D s rs ks =>
  h b A σ H _ s rs (fun t v A' O' H' p s' n' r' => ks.nx ts σ A' O' H' p s' n' (rs.nxt n')) (ks.kx rs)
theorem s_ret (h : WE K W te O ts E.rt (fun C fs O' => E.xe C fs ts O')) : WS K W (tRet te) O ts E := fun b A σ H D s rs ks => h b A σ H _ s rs ks.rt (ks.kx rs)
theorem s_retN (k : E.rt (.v .non) O) : WS K W tRetN O ts E := fun b A σ H D s rs ks => ks.rt (.v .non) .non A O H k s Nxt.refl ⟨_, rfl, rfl⟩
theorem s_if (h : WT K W tt O ts (fun c O' => (c = true → WS K W t O' ts E) ∧ (c = false → WS K W u O' ts E)) (fun C fs O' => E.xe C fs ts O')) : WS K W (tIfS tt t u) O ts E := fun b A σ H D s rs ks =>
  h b A σ H _ s rs (fun c A1 O1 H1 p1 s1 n1 => by
    cases c with
    | true => exact iteT (p1.1 rfl b A1 σ H1 D s1 (rs.nxt n1) (ks.nxt n1))
    | false => exact iteF (p1.2 rfl b A1 σ H1 D s1 (rs.nxt n1) (ks.nxt n1))) (ks.kx rs)

def WG (K : PySem.W.Frag) (W : WX) (g : TG) (t : T) (O : List OD) (ts : List T) (N : List T → List OD → Prop) : Prop :=
  ∀ b A σ H Q v, StO K b A O H → RepS K (Fz b A O H) A ts σ → RepT K (Fz b A O H) A t (some v) → KN K b A O H N Q → g v σ H Q
def WGs (K : PySem.W.Frag) (W : WX) (g : TGs) (xs : List T) (O : List OD) (ts : List T) (N : List T → List OD → Prop) : Prop :=
  ∀ b A σ H Q vs, StO K b A O H → RepS K (Fz b A O H) A ts σ → RepTs K (Fz b A O H) A xs vs → KN K b A O H N Q → g vs σ H Q
theorem g_name {i : Nat} {x : T} {N : List T → List OD → Prop} (k : N (ts.set i x) O) : WG K W (gName i) x O ts N := fun b A σ H Q v s rs r kn => kn _ _ A O H k s Nxt.refl (rs.set r i)
theorem g_nil {N : List T → List OD → Prop} (k : N ts O) : WGs K W gNil [] O ts N := fun b A σ H Q vs s rs r kn => ⟨r, kn ts σ A O H k s Nxt.refl rs⟩
theorem g_cons {g : TG} {gs : TGs} {x : T} {xs : List T} {N : List T → List OD → Prop} (h : WG K W g x O ts (fun ts' O' => WGs K W gs xs O' ts' N)) : WGs K W (gCons g gs) (x :: xs) O ts N := fun b A σ H Q vs s rs r kn => by
  obtain ⟨v, r', rfl, r1, r2⟩ := r
  exact ⟨v, r', rfl, h b A σ H _ v s rs r1 fun ts' σ' A' O' H' p s' n' rs' => p b A' σ' H' Q r' s' rs' (r2.nxt n') (kn.nxt n')⟩
theorem repTs_v {F : Hp} {A : List Addr} : ∀ {ds : List D} {vs : List V}, RepL K F ds vs → RepTs K F A (ds.map T.v) vs
  | [], _, h => h
  | d :: ds, _, h => by
    obtain ⟨v, r, e, h1, h2⟩ := h
    exact ⟨v, r, e, ⟨v, rfl, h1⟩, repTs_v h2⟩
/-- a, b = a tuple -/
theorem g_tup {n : Nat} {gs : TGs} {ds : List D} {N : List T → List OD → Prop} (hl : ds.length = n) (h : WGs K W gs (ds.map T.v) O ts N) : WG K W (gTup K n gs) (.v (.tup ds)) O ts N := fun b A σ H Q v s rs r kn => by
  obtain ⟨_, e, a, vs, rfl, h1, h2⟩ := r
  cases e
  exact ⟨a, vs, rfl, (hid_ex : Ex (Fz b A O H) H).t h1, by rw [h2.length]; exact hl, h b A σ H Q vs s rs (repTs_v h2) kn⟩
theorem s_asg {g : TG} (h : WE K W te O ts (fun t O' => WG K W g t O' ts E.nx) (fun C fs O' => E.xe C fs ts O')) : WS K W (tAsg te g) O ts E := fun b A σ H D s rs ks =>
  h b A σ H _ s rs (fun t v A' O' H' p s' n' r' => p b A' σ H' D.nx v s' (rs.nxt n') r' (ks.nx.nxt n')) (ks.kx rs)
theorem s_set {i : Nat} (h : WE K W te O ts (fun t O' => E.nx (ts.set i t) O') (fun C fs O' => E.xe C fs ts O')) : WS K W (tAsg te (gName i)) O ts E := s_asg (h.imp fun t O' p => g_name p)
theorem s_par {i j : Nat} (h : WA K W ta O ts (fun xs O' => ∃ x y, xs = [x, y] ∧ E.nx ((ts.set i x).set j y) O') (fun C fs O' => E.xe C fs ts O')) : WS K W (tPar i j ta) O ts E := fun b A σ H D s rs ks =>
  h b A σ H _ s rs (fun xs vs A' O' H' p s' n' r' => by
    obtain ⟨x, y, rfl, q⟩ := p
    obtain ⟨v, _, rfl, r1, w', _, rfl, r2, rfl⟩ := r'
    exact ⟨v, w', rfl, ks.nx _ _ A' O' H' q s' n' (((rs.nxt n').set r1 i).set r2 j)⟩) (ks.kx rs)
/-- what a for loop's source is, over data: the items, as they come -/
def WI (K : PySem.W.Frag) (W : WX) (wi : TI) (O : List OD) (ts : List T) (S : (Nat → Option T) → List OD → Prop) (X : XX) : Prop :=
  ∀ b A σ H R, StO K b A O H → RepS K (Fz b A O H) A ts σ →
    (∀ J f A' O' H', S f O' → StO K b A' O' H' → Nxt b A O H A' O' H' →
      (∀ i A2 O2 H2, StO K b A2 O2 H2 → Nxt b A' O' H' A2 O2 H2 → (f i = none → (∀ j, j < i → f j ≠ none) → J.stop i H2) ∧ (∀ t, f i = some t → J.go i H2 ∧ ∀ x H3, J.yld i H2 x H3 → StO K b A2 O2 H3 ∧ Nxt b A2 O2 H2 A2 O2 H3 ∧ RepT K (Fz b A2 O2 H3) A2 t (some x))) → R J H') →
    KX K W b A O σ H X → wi σ H R
/-- the items of a list of data -/
def itD (ds : List D) : Nat → Option T := fun i => (ds[i]?).map T.v
theorem itD_none {ds : List D} {i : Nat} (h : itD ds i = none) : ds.length ≤ i := by
  unfold itD at h
  cases q : ds[i]? with
  | none => exact List.getElem?_eq_none_iff.mp q
  | some d =>
    rw [q] at h
    cases h
theorem itD_some {ds : List D} {i : Nat} {t : T} (h : itD ds i = some t) : ∃ d, ds[i]? = some d ∧ t = .v d := by
  unfold itD at h
  cases q : ds[i]? with
  | none =>
    rw [q] at h
    cases h
  | some d =>
    rw [q] at h
    exact ⟨d, rfl, (Option.some.inj h).symm⟩
theorem i_list {tl : TE} {S : (Nat → Option T) → List OD → Prop} {X : XX} (h : WE K W tl O ts (fun t O' => ∃ ds, t = .v (.lst ds) ∧ S (itD ds) O') X) : WI K W (iList K tl) O ts S X := fun b A σ H R s rs k kx =>
  h b A σ H _ s rs (fun t v A' O' H' p s' n' r' => by
    obtain ⟨ds, rfl, q⟩ := p
    obtain ⟨_, e, a, vs, rfl, h1, h2⟩ := r'
    replace h1 := SqL.of (K := K) h1
    cases e
    have h1' := (hid_ex : Ex (Fz b A' O' H') H').l h1
    refine ⟨a, rfl, ⟨vs, h1'⟩, k _ _ A' O' H' q s' n' fun i A2 O2 H2 s2 n2 => ⟨fun hn _ => ⟨vs, hid_ex.l (n2.ext.l h1), by rw [h2.length]; exact itD_none hn⟩, fun t ht => ?_⟩⟩
    obtain ⟨d, e1, rfl⟩ := itD_some ht
    obtain ⟨v, e2, r⟩ := h2.get e1
    have h2' : SqL K H2 a vs := hid_ex.l (n2.ext.l h1)
    refine ⟨⟨vs, v, h2', e2⟩, fun x H3 y => ?_⟩
    obtain ⟨rfl, y⟩ := y
    have e3 := (y vs h2').symm.trans e2
    have e4 : x = v := Option.some.inj e3
    subst e4
    exact ⟨s2, Nxt.refl, ⟨_, rfl, r.ex n2.ext⟩⟩) kx
theorem i_tup {tl : TE} {S : (Nat → Option T) → List OD → Prop} {X : XX} (h : WE K W tl O ts (fun t O' => ∃ ds, t = .v (.tup ds) ∧ S (itD ds) O') X) : WI K W (iTup K tl) O ts S X := fun b A σ H R s rs k kx =>
  h b A σ H _ s rs (fun t v A' O' H' p s' n' r' => by
    obtain ⟨ds, rfl, q⟩ := p
    obtain ⟨_, e, a, vs, rfl, h1, h2⟩ := r'
    cases e
    have h1' := (hid_ex : Ex (Fz b A' O' H') H').t h1
    refine ⟨a, rfl, ⟨vs, h1'⟩, k _ _ A' O' H' q s' n' fun i A2 O2 H2 s2 n2 => ⟨fun hn _ => ⟨vs, hid_ex.t (n2.ext.t h1), by rw [h2.length]; exact itD_none hn⟩, fun t ht => ?_⟩⟩
    obtain ⟨d, e1, rfl⟩ := itD_some ht
    obtain ⟨v, e2, r⟩ := h2.get e1
    have h2' : SqT K H2 a vs := hid_ex.t (n2.ext.t h1)
    refine ⟨⟨vs, v, h2', e2⟩, fun x H3 y => ?_⟩
    obtain ⟨rfl, y⟩ := y
    have e3 := (y vs h2').symm.trans e2
    have e4 : x = v := Option.some.inj e3
    subst e4
    exact ⟨s2, Nxt.refl, ⟨_, rfl, r.ex n2.ext⟩⟩) kx
/-- the integers from lo on, n of them -/
def itR (lo c : Int) (n : Nat) : Nat → Option T := fun i => if i < n then some (.v (.int (lo + (i : Int) * c))) else none
theorem itR_none {lo c : Int} {n i : Nat} (h : itR lo c n i = none) : n ≤ i := by
  unfold itR at h
  by_cases q : i < n
  · rw [if_pos q] at h
    cases h
  · omega
theorem itR_some {lo c : Int} {n i : Nat} {t : T} (h : itR lo c n i = some t) : i < n ∧ t = .v (.int (lo + (i : Int) * c)) := by
  unfold itR at h
  by_cases q : i < n
  · rw [if_pos q] at h
    exact ⟨q, (Option.some.inj h).symm⟩
  · rw [if_neg q] at h
    cases h
theorem r_facts {b : Bs} {lo : Int} {n : Nat} {A' : List Addr} {O' : List OD} {H' : Hp} (i : Nat) (A2 : List Addr) (O2 : List OD) (H2 : Hp) (s2 : StO K b A2 O2 H2) :
    (itR lo 1 n i = none → (∀ j, j < i → itR lo 1 n j ≠ none) → (Itr lo n).stop i H2) ∧ (∀ t, itR lo 1 n i = some t → (Itr lo n).go i H2 ∧ ∀ x H3, (Itr lo n).yld i H2 x H3 → StO K b A2 O2 H3 ∧ Nxt b A2 O2 H2 A2 O2 H3 ∧ RepT K (Fz b A2 O2 H3) A2 t (some x)) := by
  refine ⟨fun hn _ => itR_none hn, fun t ht => ?_⟩
  obtain ⟨hi, rfl⟩ := itR_some ht
  refine ⟨hi, fun x H3 y => ?_⟩
  obtain ⟨rfl, rfl⟩ := y
  exact ⟨s2, Nxt.refl, ⟨_, rfl, by rw [Int.mul_one]; exact rfl⟩⟩
theorem i_rng1 {S : (Nat → Option T) → List OD → Prop} {X : XX} (h : WA K W ta O ts (fun xs O' => ∃ j : Int, xs = [.v (.int j)] ∧ (-(2 ^ 62) ≤ j ∧ j < 2 ^ 62) ∧ S (itR 0 1 j.toNat) O') X) : WI K W (iRng1 ta) O ts S X := fun b A σ H R s rs k kx =>
  h b A σ H _ s rs (fun xs vs A' O' H' p s' n' r' => by
    obtain ⟨j, rfl, hj, q⟩ := p
    obtain ⟨v, _, rfl, ⟨_, e, rfl⟩, rfl⟩ := r'
    cases e
    exact ⟨j, rfl, hj.1, hj.2, k _ _ A' O' H' q s' n' fun i A2 O2 H2 s2 _ => r_facts (A' := A') (O' := O') (H' := H') i A2 O2 H2 s2⟩) kx
/-- a for loop by an invariant over the turn, the slots and the owned things; n: the number of items -/
theorem s_for {wi : TI} {g : TG} {tb : TS} (h : WI K W wi O ts (fun f O1 => ∃ (n : Nat) (I : Nat → List T → List OD → Prop), (∀ i, i < n → f i ≠ none) ∧ f n = none ∧ I 0 ts O1 ∧
      (∀ i t ts' O', i < n → f i = some t → I i ts' O' → WG K W g t O' ts' (fun ts2 O2 => WS K W tb O2 ts2 { E with nx := I (i + 1), ct := I (i + 1), bk := E.nx })) ∧ (∀ ts' O', I n ts' O' → E.nx ts' O')) (fun C fs O' => E.xe C fs ts O')) : WS K W (tFor wi g tb) O ts E := fun b A σ H D s rs ks =>
  h b A σ H _ s rs (fun J f A1 O1 H1 p s1 n1 fc => by
    obtain ⟨n, I, hf, hn, h0, hs, hd⟩ := p
    refine ⟨fun i m σ' H' => m = n - i ∧ i ≤ n ∧ ∃ ts' A' O', I i ts' O' ∧ StO K b A' O' H' ∧ Nxt b A1 O1 H1 A' O' H' ∧ RepS K (Fz b A' O' H') A' ts' σ', ⟨n, by omega, Nat.zero_le _, ts, A1, O1, h0, s1, Nxt.refl, rs.nxt n1⟩, ?_⟩
    rintro i m σ' H' ⟨rfl, hi, ts', A', O', hI, s', n', rs'⟩
    obtain ⟨c1, c2⟩ := fc i A' O' H' s' n'
    by_cases hlt : i < n
    · right
      obtain ⟨t, ht⟩ := Option.ne_none_iff_exists'.mp (hf i hlt)
      obtain ⟨hgo, hy⟩ := c2 t ht
      refine ⟨hgo, fun σ2 H2 => ∃ ts2 A2 O2, I (i + 1) ts2 O2 ∧ StO K b A2 O2 H2 ∧ Nxt b A1 O1 H1 A2 O2 H2 ∧ RepS K (Fz b A2 O2 H2) A2 ts2 σ2, fun σ2 H2 q => ⟨n - (i + 1), by omega, rfl, hlt, q⟩, fun x H3 y => ?_⟩
      obtain ⟨s3, n3, r3⟩ := hy x H3 y
      refine hs i t ts' O' hlt ht hI b A' σ' H3 _ x s3 (rs'.nxt n3) r3 fun ts4 σ4 A4 O4 H4 p4 s4 n4 rs4 => ?_
      have n14 := (n'.trans n3).trans n4
      refine p4 b A4 σ4 H4 _ s4 rs4 ⟨fun ts5 σ5 A5 O5 H5 p5 s5 n5 rs5 => ⟨ts5, A5, O5, p5, s5, n14.trans n5, rs5⟩, ks.rt.nxt (n1.trans n14), ks.nx.nxt (n1.trans n14), fun ts5 σ5 A5 O5 H5 p5 s5 n5 rs5 => ⟨ts5, A5, O5, p5, s5, n14.trans n5, rs5⟩,
        fun C fs ts5 σ5 A5 O5 H5 d p5 s5 n5 rs5 rx => ks.xe C fs ts5 σ5 A5 O5 H5 d p5 s5 ((n1.trans n14).trans n5) rs5 rx⟩
    · left
      have e : i = n := by omega
      subst e
      exact ⟨c1 hn hf, ks.nx ts' σ' A' O' H' (hd ts' O' hI) s' (n1.trans n') rs'⟩) (ks.kx rs)
/-- while: an invariant with a measure -/
theorem s_while {tb : TS} (I : Nat → List T → List OD → Prop) (m0 : Nat) (h0 : I m0 ts O)
    (hs : ∀ m ts' O', I m ts' O' → WT K W tt O' ts' (fun c O2 => (c = true → WS K W tb O2 ts' { E with nx := fun ts3 O3 => ∃ m', m' < m ∧ I m' ts3 O3, ct := fun ts3 O3 => ∃ m', m' < m ∧ I m' ts3 O3, bk := E.nx }) ∧ (c = false → E.nx ts' O2)) (fun C fs O2 => E.xe C fs ts' O2)) :
    WS K W (tWhile tt tb) O ts E := fun b A σ H D s rs ks => by
  refine ⟨fun m σ' H' => ∃ ts' A' O', I m ts' O' ∧ StO K b A' O' H' ∧ Nxt b A O H A' O' H' ∧ RepS K (Fz b A' O' H') A' ts' σ', ⟨m0, ts, A, O, h0, s, Nxt.refl, rs⟩, ?_⟩
  rintro m σ' H' ⟨ts', A', O', hI, s', n', rs'⟩
  refine hs m ts' O' hI b A' σ' H' _ s' rs' (fun c A2 O2 H2 p2 s2 n2 => ?_) ((ks.nxt n').kx rs')
  cases c with
  | true =>
    refine iteT ⟨fun σ3 H3 => ∃ m', m' < m ∧ ∃ ts3 A3 O3, I m' ts3 O3 ∧ StO K b A3 O3 H3 ∧ Nxt b A O H A3 O3 H3 ∧ RepS K (Fz b A3 O3 H3) A3 ts3 σ3, fun σ3 H3 q => q, ?_⟩
    have n12 := n'.trans n2
    exact p2.1 rfl b A2 σ' H2 _ s2 (rs'.nxt n2) ⟨fun ts3 σ3 A3 O3 H3 ⟨m', l, p3⟩ s3 n3 rs3 => ⟨m', l, ts3, A3, O3, p3, s3, n12.trans n3, rs3⟩, ks.rt.nxt n12, ks.nx.nxt n12, fun ts3 σ3 A3 O3 H3 ⟨m', l, p3⟩ s3 n3 rs3 => ⟨m', l, ts3, A3, O3, p3, s3, n12.trans n3, rs3⟩,
      fun C fs ts3 σ3 A3 O3 H3 d p3 s3 n3 rs3 rx => ks.xe C fs ts3 σ3 A3 O3 H3 d p3 s3 (n12.trans n3) rs3 rx⟩
  | false => exact iteF (ks.nx ts' σ' A2 O2 H2 (p2.2 rfl) s2 (n'.trans n2) (rs'.nxt n2))
end
end G

set_option Elab.async false
set_option linter.all false
set_option maxRecDepth 100000
set_option maxHeartbeats 4000000
namespace G
open PySem PySem.Spec PyProof.Rows L2

theorem live_app : ∀ {A M : List Addr} {O N : List OD}, A.length = O.length → live (A ++ M) (O ++ N) = live A O ++ live M N
  | [], _, [], _, _ => rfl
  | [], _, _ :: _, _, h => by simp at h
  | _ :: _, _, [], _, h => by simp at h
  | a :: A, M, u :: O, N, h => by
    have ih := live_app (A := A) (O := O) (M := M) (N := N) (by simpa using h)
    cases u <;> simp only [List.cons_append, live, ih]
section
variable {K : PySem.W.Frag} {b : Bs} {A M : List Addr} {O N : List OD} {H : Hp}
theorem StO.drop (s : StO K b (A ++ M) (O ++ N) H) (hl : A.length = O.length) (hp : ∃ L, A = b.A0 ++ L) : StO K b A O H ∧ Ex (Fz b (A ++ M) (O ++ N) H) (Fz b A O H) := by
  have e := live_app (M := M) (N := N) hl
  have sub : ∀ a, a ∈ live A O → a ∈ live (A ++ M) (O ++ N) := fun a h => by
    rw [e]
    exact List.mem_append_left _ h
  have x : Ex (Fz b (A ++ M) (O ++ N) H) (Fz b A O H) := hid_mono (fun _ _ _ h => h) fun a o h _ z => by
    rcases List.mem_append.mp z with z | z
    · exact h (List.mem_append_left _ (sub a z))
    · exact h (List.mem_append_right _ z)
  refine ⟨⟨hl, hp, s.ext.trans (hid_mono (fun _ _ _ h => h) fun a o h _ z => h (sub a z)), s.zs, (List.nodup_append.mp s.nd).1, fun a h => s.inh a (List.mem_append_left _ h), fun i a o h1 h2 => ?_, s.tb⟩, x⟩
  have l1 : i < A.length := (List.getElem?_eq_some_iff.mp h1).1
  exact (s.cell i a o (by rw [List.getElem?_append_left l1]; exact h1) (by rw [List.getElem?_append_left (by rw [← hl]; exact l1)]; exact h2)).ex x fun _ h => h
end

def okG : List OD → Bool
  | [] => true
  | .gone :: _ => false
  | _ :: r => okG r
theorem okG_live : ∀ {A : List Addr} {O : List OD}, A.length = O.length → okG O = true → live A O = A
  | [], [], _, _ => rfl
  | [], _ :: _, h, _ => by simp at h
  | _ :: _, [], h, _ => by simp at h
  | a :: A, o :: O, h, g => by
    cases o with
    | gone => cases g
    | lst ds => exact congrArg (a :: ·) (okG_live (A := A) (O := O) (by simpa using h) g)
    | ins C fs => exact congrArg (a :: ·) (okG_live (A := A) (O := O) (by simpa using h) g)
    | dic kvs => exact congrArg (a :: ·) (okG_live (A := A) (O := O) (by simpa using h) g)
theorem okG_at : ∀ {O : List OD} {i : Nat} {o : OD}, okG O = true → O[i]? = some o → o ≠ .gone
  | [], _, _, _, h => by simp at h
  | o :: O, 0, _, g, h => by
    have e : o = _ := Option.some.inj h
    subst e
    intro z
    subst z
    cases g
  | o :: O, i + 1, _, g, h => by
    have g2 : okG O = true := by
      cases o with
      | gone => cases g
      | lst ds => exact g
      | ins C fs => exact g
      | dic kvs => exact g
    exact okG_at (i := i) g2 h

abbrev SpD := List T → List OD → PT' → XX → Prop
/-- the promise, over the heap -/
def lift (K : PySem.W.Frag) (sp : SpD) : Sp := fun vs H Q E => ∃ (Z A : List Addr) (O : List OD) (ts : List T) (P : PT') (X : XX),
  StO K ⟨hid A H, Z, A⟩ A O H ∧ okG O = true ∧ RepTs K (Fz ⟨hid A H, Z, A⟩ A O H) A ts vs ∧ sp ts O P X ∧
  (∀ t v O' H', P t O' → okG O' = true → StO K ⟨hid A H, Z, A⟩ A O' H' → RepT K (Fz ⟨hid A H, Z, A⟩ A O' H') A t (some v) → Q v H') ∧
  (∀ C fs O' H' d, X C fs O' → okG O' = true → StO K ⟨hid A H, Z, A⟩ A O' H' → RepX K (Fz ⟨hid A H, Z, A⟩ A O' H') H' fs d → E C d H')
theorem lift_len {K : PySem.W.Frag} {sp : SpD} {n : Nat} (h : ∀ ts O P X, sp ts O P X → ts.length = n) : ∀ vs H Q E, lift K sp vs H Q E → vs.length = n := fun vs H Q E ⟨_, _, _, ts, _, _, _, _, r, p, _, _⟩ => by
  rw [r.length]
  exact h _ _ _ _ p
/-- what a def hands back: an owned list of its own becomes plain data -/
def retOk (n : Nat) (P : PT') (t : T) (O : List OD) : Prop := okG (O.take n) = true ∧ match t with
  | .v d => P (.v d) (O.take n)
  | .own i => if i < n then P (.own i) (O.take n) else (match O[i]? with
    | some (.lst ds) => P (.v (.lst ds)) (O.take n)
    | some (.ins C fs) => P (.v (.ins C fs)) (O.take n)
    | some (.dic kvs) => P (.v (.dic kvs)) (O.take n)
    | _ => False)
  | _ => False
def bodyE (n : Nat) (P : PT') (X : XX) : DE where
  nx := fun _ O' => okG (O'.take n) = true ∧ P (.v .non) (O'.take n)
  rt := retOk n P
  xe := fun C fs _ O' => okG (O'.take n) = true ∧ X C fs (O'.take n)
def startT (N : Nat) (ts : List T) : List T := ts ++ List.replicate (N - ts.length) .no
theorem repS_start {K : PySem.W.Frag} {F : Hp} {A : List Addr} {N : List Str} {ts : List T} {vs : List V} (r : RepTs K F A ts vs) : RepS K F A (startT N.length ts) (L2.start N vs) := by
  have hl := r.length
  refine ⟨?_, fun i t h => ?_⟩
  · unfold startT L2.start
    rw [List.length_append, List.length_append, List.length_replicate, List.length_replicate, List.length_map, hl]
  · unfold startT at h
    unfold L2.start
    by_cases hi : i < ts.length
    · rw [List.getElem?_append_left hi] at h
      obtain ⟨v, e, q⟩ := r.get h
      refine ⟨some v, ?_, q⟩
      rw [List.getElem?_append_left (by rw [List.length_map, hl]; exact hi), List.getElem?_map, e]
      exact rfl
    · rw [List.getElem?_append_right (by omega)] at h
      rw [List.getElem?_append_right (by rw [List.length_map, hl]; omega), List.length_map, hl]
      rw [List.getElem?_replicate] at h ⊢
      by_cases h2 : i - ts.length < N.length - ts.length
      · rw [if_pos h2] at h ⊢
        have e : T.no = t := Option.some.inj h
        subst e
        exact ⟨_, rfl, trivial⟩
      · rw [if_neg h2] at h
        cases h
theorem enter {K : PySem.W.Frag} {sp : SpD} {t : TS} {N : List Str} {vs : List V} {H : Hp} {Q : VK} {E : XK} (h : lift K sp vs H Q E)
    (hb : ∀ ts O P X, sp ts O P X → okG O = true → WS K (fun c d _ H => E c d H) t O (startT N.length ts) (bodyE O.length P X)) : t { nx := fun _ H' => Q .non H', rt := Q } (L2.start N vs) H := by
  obtain ⟨Z, A, O, ts, P, X, s, g, r, p, hq, hx⟩ := h
  have hlen := s.len
  have shut : ∀ {A' O' H'}, StO K ⟨hid A H, Z, A⟩ A' O' H' → ∃ M, A' = A ++ M ∧ StO K ⟨hid A H, Z, A⟩ A (O'.take O.length) H' ∧ Ex (Fz ⟨hid A H, Z, A⟩ A' O' H') (Fz ⟨hid A H, Z, A⟩ A (O'.take O.length) H') := fun {A' O' H'} s' => by
    obtain ⟨M, e⟩ := s'.pre
    have e : A' = A ++ M := e
    subst e
    have l1 := s'.len
    rw [List.length_append] at l1
    have e2 : O' = O'.take O.length ++ O'.drop O.length := (List.take_append_drop _ _).symm
    have s2 := s'
    rw [e2] at s2
    obtain ⟨s3, x3⟩ := s2.drop (by rw [List.length_take]; omega) ⟨[], (List.append_nil A).symm⟩
    refine ⟨M, rfl, s3, ?_⟩
    rw [← e2] at x3
    exact x3
  refine hb ts O P X p g _ A _ H _ s (repS_start r) ⟨fun ts' σ' A' O' H' q s' _ _ => ?_, fun t v A' O' H' q s' _ rt => ?_, fun _ _ _ _ _ q => q.elim, fun _ _ _ _ _ q => q.elim, fun C fs ts' σ' A' O' H' d q s' _ _ rx => ?_⟩
  · obtain ⟨M, _, s3, _⟩ := shut s'
    exact hq (.v .non) .non _ H' q.2 q.1 s3 ⟨_, rfl, rfl⟩
  · obtain ⟨M, e, s3, x3⟩ := shut s'
    obtain ⟨q1, q2⟩ := q
    cases t with
    | v d =>
      obtain ⟨w, e4, r4⟩ := rt
      exact hq (.v d) v _ H' q2 q1 s3 ⟨w, e4, r4.ex x3⟩
    | own i =>
      obtain ⟨a, e4, e5⟩ := rt
      have ev : v = .ref a := Option.some.inj e5
      subst ev
      have q3 : if i < O.length then P (.own i) (O'.take O.length) else (match O'[i]? with
        | some (.lst ds) => P (.v (.lst ds)) (O'.take O.length)
        | some (.ins C fs) => P (.v (.ins C fs)) (O'.take O.length)
        | some (.dic kvs) => P (.v (.dic kvs)) (O'.take O.length)
        | _ => False) := q2
      by_cases hi : i < O.length
      · rw [if_pos hi] at q3
        refine hq (.own i) _ _ H' q3 q1 s3 ⟨a, ?_, rfl⟩
        rw [e, List.getElem?_append_left (by rw [hlen]; exact hi)] at e4
        exact e4
      · rw [if_neg hi] at q3
        have hn : a ∉ A := fun hm => by
          have nd := s'.nd
          rw [e] at nd e4
          rw [List.getElem?_append_right (by rw [hlen]; omega)] at e4
          exact (List.nodup_append.mp nd).2.2 a hm a (List.mem_of_getElem? e4) rfl
        have fz : ∀ o, H' a = some o → Fz ⟨hid A H, Z, A⟩ A (O'.take O.length) H' a = some o := fun o ho => hid_some.mpr ⟨fun z => by
          rcases List.mem_append.mp z with z | z
          · rw [okG_live s3.len q1] at z
            exact hn z
          · obtain ⟨o2, z2, _⟩ := s3.zs a z
            have z3 := (hid_some.mp z2).2
            have zz := s'.z_at (a := a) z
            cases ho' : O'[i]? with
            | none =>
              rw [ho'] at q3
              exact q3
            | some w =>
              rw [ho'] at q3
              have ng : w ≠ .gone := fun zz2 => by
                subst zz2
                exact q3
              exact zz.1 (live_at e4 ho' ng), ho⟩
        cases ho : O'[i]? with
        | none =>
          rw [ho] at q3
          exact q3.elim
        | some w =>
          rw [ho] at q3
          have c := s'.cell i a w e4 ho
          cases w with
          | gone => exact q3.elim
          | lst ds =>
            obtain ⟨us, c1, c2⟩ := c
            exact hq (.v (.lst ds)) _ _ H' q3 q1 s3 ⟨_, rfl, a, us, rfl, fz _ c1, c2.ex x3⟩
          | ins C fs =>
            obtain ⟨dx, us, c1, c2⟩ := c
            exact hq (.v (.ins C fs)) _ _ H' q3 q1 s3 ⟨_, rfl, a, dx, us, rfl, fz _ c1, c2.ex x3⟩
          | dic kvs =>
            obtain ⟨us, c1, c2⟩ := c
            exact hq (.v (.dic kvs)) _ _ H' q3 q1 s3 ⟨_, rfl, a, us, rfl, fz _ c1, c2.ex x3⟩
    | no => exact q2.elim
    | clo R f => exact q2.elim
  · obtain ⟨M, _, s3, x3⟩ := shut s'
    refine hx C fs _ H' d q.2 q.1 s3 ?_
    cases fs with
    | none => exact rx
    | some l =>
      obtain ⟨dx, us, r1, r2, r3⟩ := rx
      exact ⟨dx, us, r1, x3 _ _ r2 (by (first | assumption | exact nt_exc | exact fun _ z => (by cases z))), r3.ex x3⟩

section
variable {K : PySem.W.Frag} {W : WX} {O : List OD} {ts : List T} {P : PT'} {X : XX} {sp : SpD} {te ta : TE} {tr : TA} {E : XK}
theorem unv_reps {F : Hp} {A A' : List Addr} : ∀ {xs : List T} {vs : List V} {ds : List D}, unv xs = some ds → RepTs K F A xs vs → RepTs K F A' xs vs
  | [], _, _, _, h => h
  | .v d :: xs, _, ds, e, h => by
    obtain ⟨v, r, e1, ⟨w, e2, r2⟩, h2⟩ := h
    have e3 : (unv xs).map (d :: ·) = some ds := e
    cases q : unv xs with
    | none =>
      rw [q] at e3
      cases e3
    | some es => exact ⟨v, r, e1, ⟨w, e2, r2⟩, unv_reps q h2⟩
  | .own _ :: _, _, _, e, _ => by cases e
  | .no :: _, _, _, e, _ => by cases e
  | .clo _ _ :: _, _, _, e, _ => by cases e
/-- into a def that is handed plain data alone -/
theorem lift_p {b : Bs} {A : List Addr} {O : List OD} {H : Hp} {σ : L2.St} {Q : VK} {vs : List V} {xs : List T} {ds : List D} (s : StO K b A O H) (r : RepTs K (Fz b A O H) A xs vs) (hx : unv xs = some ds) (hE : ∀ C d H, W C d σ H → E C d H)
    (p : sp xs [] (fun t _ => (∃ d, t = .v d) ∧ P t O) (fun C fs _ => X C fs O)) (kv : KV' K b A O H P Q) (kx : KX K W b A O σ H X) : lift K sp vs H Q E := by
  have eh : hid [] H = H := by
    funext a
    unfold hid
    rw [if_neg (by simp)]
  have nz : ∀ a, a ∈ live A O ++ b.Z → ∃ o, H a = some o ∧ OB o := fun a h => by
    rcases List.mem_append.mp h with h | h
    · exact s.some_at h
    · exact (s.z_at h).2
  have back : ∀ {H'}, StO K ⟨hid [] H, live A O ++ b.Z, []⟩ [] [] H' → StO K b A O H' ∧ Nxt b A O H A O H' := fun {H'} s' => by
    have x : Ex H H' := by
      have x1 := s'.ext
      have e2 : hid (live [] []) H' = H' := by
        funext a
        show hid [] H' a = H' a
        unfold hid
        rw [if_neg (by simp)]
      rw [e2] at x1
      have x2 : Ex (hid [] H) H' := x1
      rw [eh] at x2
      exact x2
    have x3 : Ex (Fz b A O H) (Fz b A O H') := hid_monoW (fun a o _ h n => x a o h n) fun _ _ h _ => h
    exact ⟨⟨s.len, s.pre, s.ext.trans (hid_monoW (fun a o _ h n => x a o h n) fun _ _ h _ => h), s.zs, s.nd, fun a h => let ⟨o, q, n⟩ := s.inh a h; ⟨o, x a o q n, n⟩, fun i a o h1 h2 => (s.cell i a o h1 h2).exW x3 (x a), s'.tb⟩, ⟨[], (List.append_nil A).symm⟩, x3⟩
  refine ⟨live A O ++ b.Z, [], [], xs, _, _, ⟨rfl, ⟨[], rfl⟩, ?_, fun z hz => ?_, List.nodup_nil, fun a h => (by simp at h), fun i a o h _ => (by simp at h), s.tb⟩, rfl, unv_reps hx r, p, fun t v O' H' ⟨⟨d, e⟩, q⟩ g s' rt => ?_, fun C fs O' H' d q g s' rx => ?_⟩
  · show Ex (hid [] H) (hid [] H)
    exact Ex.refl _
  · obtain ⟨o, q, n⟩ := nz z hz
    exact ⟨o, by show hid [] H z = some o; rw [eh]; exact q, n⟩
  · have e0 : O' = [] := List.length_eq_zero_iff.mp s'.len.symm
    subst e0
    obtain ⟨s2, n2⟩ := back s'
    subst e
    exact kv _ v A O H' q s2 n2 rt
  · have e0 : O' = [] := List.length_eq_zero_iff.mp s'.len.symm
    subst e0
    obtain ⟨s2, n2⟩ := back s'
    exact hE C d H' (kx C fs A O H' d q s2 n2 rx)
/-- .. one that lets no exception out -/
theorem w_fn0 (h : WA K W tr O ts (fun xs O1 => ∃ ds, unv xs = some ds ∧ sp xs [] (fun t _ => (∃ d, t = .v d) ∧ P t O1) (fun _ _ _ => False)) X) : WE K W (tCall (lift K sp) [] E0 tr) O ts P X := fun b A σ H Q s rs kv kx =>
  h b A σ H _ s rs (fun xs vs A1 O1 H1 p1 s1 n1 r1 => by
    obtain ⟨ds, e, p⟩ := p1
    rw [List.append_nil]
    exact lift_p (W := fun _ _ _ _ => False) (X := fun _ _ _ => False) (σ := σ) s1 r1 e (fun C d H z => z) p (kv.nxt n1) (fun C fs A' O' H' d z => z.elim)) kx
end
end G

set_option Elab.async false
set_option linter.all false
set_option maxRecDepth 100000
set_option maxHeartbeats 4000000
namespace G
open PySem PySem.Spec PyProof.Rows L2

section
variable {K : PySem.W.Frag} {W : WX} {O : List OD} {ts : List T} {P : PT'} {X : XX} {sp : SpD} {te ta : TE} {tr : TA} {E : XK}
/-- into a def that is handed one owned thing, the i-th one (by it .own 0) -/
def tr1 (i : Nat) : List T → Option (List T)
  | [] => some []
  | .v d :: r => (tr1 i r).map (.v d :: ·)
  | .own j :: r => if j = i then (tr1 i r).map (.own 0 :: ·) else none
  | _ :: _ => none
/-- what a def may hand back -/
def okR : T → Bool
  | .v _ => true
  | .own _ => true
  | _ => false
abbrev un1 (i : Nat) : T → T
  | .own _ => .own i
  | t => t
theorem tr1_reps {F : Hp} {A : List Addr} {i : Nat} {a : Addr} (ha : A[i]? = some a) : ∀ {xs ys : List T} {vs : List V}, tr1 i xs = some ys → RepTs K F A xs vs → RepTs K F [a] ys vs
  | [], ys, _, e, h => by
    have e2 : [] = ys := Option.some.inj e
    subst e2
    exact h
  | .v d :: xs, ys, _, e, h => by
    obtain ⟨v, r, e1, ⟨w, e2, r2⟩, h2⟩ := h
    have e3 : (tr1 i xs).map (.v d :: ·) = some ys := e
    cases q : tr1 i xs with
    | none =>
      rw [q] at e3
      cases e3
    | some es =>
      rw [q] at e3
      have e4 : .v d :: es = ys := Option.some.inj e3
      subst e4
      exact ⟨v, r, e1, ⟨w, e2, r2⟩, tr1_reps ha q h2⟩
  | .own j :: xs, ys, _, e, h => by
    obtain ⟨v, r, e1, ⟨c, e2, r2⟩, h2⟩ := h
    have e3 : (if j = i then (tr1 i xs).map (.own 0 :: ·) else none) = some ys := e
    by_cases hj : j = i
    · rw [if_pos hj] at e3
      subst hj
      cases q : tr1 j xs with
      | none =>
        rw [q] at e3
        cases e3
      | some es =>
        rw [q] at e3
        have e4 : .own 0 :: es = ys := Option.some.inj e3
        subst e4
        rw [ha] at e2
        have e5 : a = c := Option.some.inj e2
        subst e5
        exact ⟨v, r, e1, ⟨a, rfl, r2⟩, tr1_reps ha q h2⟩
    · rw [if_neg hj] at e3
      cases e3
  | .no :: _, _, _, e, _ => by cases e
  | .clo _ _ :: _, _, _, e, _ => by cases e
theorem lift_1 {b : Bs} {A : List Addr} {H : Hp} {σ : L2.St} {Q : VK} {vs : List V} {xs ys : List T} {i : Nat} {o : OD} (s : StO K b A O H) (r : RepTs K (Fz b A O H) A xs vs) (hx : tr1 i xs = some ys) (ho : O[i]? = some o) (ng : okG [o] = true) (hE : ∀ C d H, W C d σ H → E C d H)
    (p : sp ys [o] (fun t O' => ∃ o', O' = [o'] ∧ okR t = true ∧ P (un1 i t) (O.set i o')) (fun C fs O' => ∃ o', O' = [o'] ∧ X C fs (O.set i o'))) (kv : KV' K b A O H P Q) (kx : KX K W b A O σ H X) : lift K sp vs H Q E := by
  have ng1 : o ≠ .gone := fun z => by
    subst z
    cases ng
  have hi : i < A.length := by
    rw [s.len]
    exact (List.getElem?_eq_some_iff.mp ho).1
  obtain ⟨a, ha⟩ : ∃ a, A[i]? = some a := ⟨A[i], List.getElem?_eq_getElem hi⟩
  have hl : a ∈ live A O := live_at ha ho ng1
  have lv1 : ∀ {o' : OD}, o' ≠ .gone → live [a] [o'] = [a] := fun {o'} h => by
    cases o' with
    | gone => exact absurd rfl h
    | _ => rfl
  have mem : ∀ x, x ∈ [a] ++ ((live A O).filter (fun y => y != a) ++ b.Z) ↔ x ∈ live A O ++ b.Z := fun x => by
    simp only [List.mem_append, List.mem_singleton, List.mem_filter, bne_iff_ne, ne_eq]
    constructor
    · rintro (rfl | ⟨h, _⟩ | h)
      · exact .inl hl
      · exact .inl h
      · exact .inr h
    · rintro (h | h)
      · by_cases hx : x = a
        · exact .inl hx
        · exact .inr (.inl ⟨h, hx⟩)
      · exact .inr (.inr h)
  have hid_eq : ∀ H0 : Hp, hid ([a] ++ ((live A O).filter (fun y => y != a) ++ b.Z)) H0 = hid (live A O ++ b.Z) H0 := fun H0 => by
    funext x
    unfold hid
    by_cases hx : x ∈ live A O ++ b.Z
    · rw [if_pos hx, if_pos ((mem x).mpr hx)]
    · rw [if_neg hx, if_neg fun z => hx ((mem x).mp z)]
  have fzc : ∀ {o' : OD} {H0 : Hp}, o' ≠ .gone → Fz ⟨hid [a] H, (live A O).filter (fun y => y != a) ++ b.Z, [a]⟩ [a] [o'] H0 = hid (live A O ++ b.Z) H0 := fun {o' H0} h => by
    show hid (live [a] [o'] ++ ((live A O).filter (fun y => y != a) ++ b.Z)) H0 = _
    rw [lv1 h]
    exact hid_eq H0
  have back : ∀ {o' : OD} {H' : Hp}, o' ≠ .gone → StO K ⟨hid [a] H, (live A O).filter (fun y => y != a) ++ b.Z, [a]⟩ [a] [o'] H' → StO K b A (O.set i o') H' ∧ Nxt b A O H A (O.set i o') H' ∧ Fz b A (O.set i o') H' = hid (live A O ++ b.Z) H' := fun {o' H'} g s' => by
    have x : ∀ c u, c ≠ a → H c = some u → NT u → H' c = some u := fun c u hc h n => by
      have x1 : Ex (hid [a] H) (hid (live [a] [o']) H') := s'.ext
      exact (hid_some.mp (x1 c u (hid_some.mpr ⟨by simpa using hc, h⟩) n)).2
    have el : live A (O.set i o') = live A O := live_set ho ng1 g
    have x3 : Ex (Fz b A O H) (Fz b A (O.set i o') H') := by
      unfold Fz
      rw [el]
      exact hid_monoW (fun c u hc h n => x c u (fun z => hc (List.mem_append_left _ (by rw [z]; exact hl))) h n) fun _ _ h _ => h
    refine ⟨⟨by rw [List.length_set]; exact s.len, s.pre, ?_, s.zs, s.nd, fun c h => ?_, fun j c u h1 h2 => ?_, s'.tb⟩, ⟨⟨[], (List.append_nil A).symm⟩, x3⟩, by unfold Fz; rw [el]⟩
    · rw [el]
      exact s.ext.trans (hid_monoW (fun c u hc h n => x c u (fun z => hc (by rw [z]; exact hl)) h n) fun _ _ h _ => h)
    · by_cases z : c = a
      · rw [z]
        exact s'.inh a List.mem_cons_self
      · obtain ⟨u, q, n⟩ := s.inh c h
        exact ⟨u, x c u z q n, n⟩
    · rw [List.getElem?_set] at h2
      by_cases hij : i = j
      · subst hij
        rw [if_pos rfl] at h2
        rw [ha] at h1
        have e3 : a = c := Option.some.inj h1
        subst e3
        by_cases hlt : i < O.length
        · rw [if_pos hlt] at h2
          have e4 : o' = u := Option.some.inj h2
          subst e4
          have c := s'.cell 0 a o' rfl rfl
          refine c.ex (fun y w h _ => ?_) fun _ h => h
          rw [fzc g] at h
          unfold Fz
          rw [el]
          exact h
        · rw [if_neg hlt] at h2
          cases h2
      · rw [if_neg hij] at h2
        have hne : c ≠ a := fun z => hij (nd_ix s.nd ha (z ▸ h1))
        exact (s.cell j c u h1 h2).exW x3 fun w h n => x c w hne h n
  have one : ∀ {o' : OD}, okG [o'] = true → o' ≠ .gone := fun {o'} g z => by
    subst z
    cases g
  refine ⟨(live A O).filter (fun y => y != a) ++ b.Z, [a], [o], ys, _, _, ⟨rfl, ⟨[], rfl⟩, ?_, fun z hz => ?_, by simp, fun c h => ?_, fun j c u h1 h2 => ?_, s.tb⟩, ng, ?_, p, fun t v O' H' ⟨o', e, hn, q⟩ g s' rt => ?_, fun C fs O' H' d ⟨o', e, q⟩ g s' rx => ?_⟩
  · show Ex (hid [a] H) (hid (live [a] [o]) H)
    rw [lv1 ng1]
    exact Ex.refl _
  · have hz' : z ≠ a ∧ ∃ u, H z = some u ∧ OB u := by
      rcases List.mem_append.mp hz with hz | hz
      · obtain ⟨h1, h2⟩ := List.mem_filter.mp hz
        exact ⟨by simpa using h2, s.some_at h1⟩
      · obtain ⟨h1, h2⟩ := s.z_at hz
        exact ⟨fun z => h1 (by rw [z]; exact hl), h2⟩
    obtain ⟨h1, u, h2, n⟩ := hz'
    exact ⟨u, hid_some.mpr ⟨by simpa using h1, h2⟩, n⟩
  · rw [List.mem_singleton.mp h]
    obtain ⟨o2, q2, q3⟩ := s.some_at hl
    exact ⟨o2, q2, q3.1⟩
  · have hj : j = 0 := by
      cases j with
      | zero => rfl
      | succ n => simp at h1
    subst hj
    have e1 : a = c := Option.some.inj h1
    have e2 : o = u := Option.some.inj h2
    subst e1 e2
    rw [fzc ng1]
    exact s.cell i a o ha ho
  · rw [fzc ng1]
    exact tr1_reps ha hx r
  · subst e
    have g1 := one g
    obtain ⟨s2, n2, f2⟩ := back g1 s'
    rw [fzc g1] at rt
    refine kv _ v A _ H' q s2 n2 ?_
    rw [f2]
    cases t with
    | v d => exact rt
    | own j =>
      obtain ⟨c, e1, e2⟩ := rt
      have hj : j = 0 := by
        cases j with
        | zero => rfl
        | succ n => simp at e1
      subst hj
      have e3 : a = c := Option.some.inj e1
      subst e3
      exact ⟨a, ha, e2⟩
    | no => cases hn
    | clo R f => cases hn
  · subst e
    have g1 := one g
    obtain ⟨s2, n2, f2⟩ := back g1 s'
    refine hE C d H' (kx C fs A _ H' d q s2 n2 ?_)
    rw [f2]
    rw [fzc g1] at rx
    exact rx
theorem w_fn10 (i : Nat) (h : WA K W tr O ts (fun xs O1 => ∃ ys o, tr1 i xs = some ys ∧ O1[i]? = some o ∧ okG [o] = true ∧
    sp ys [o] (fun t O' => ∃ o', O' = [o'] ∧ okR t = true ∧ P (un1 i t) (O1.set i o')) (fun C fs O' => False)) X) : WE K W (tCall (lift K sp) [] E0 tr) O ts P X := fun b A σ H Q s rs kv kx =>
  h b A σ H _ s rs (fun xs vs A1 O1 H1 p1 s1 n1 r1 => by
    obtain ⟨ys, o, e, ho, ng, p⟩ := p1
    rw [List.append_nil]
    have x0 : (fun (C : Value) (fs : Option (List (Str × D))) (O' : List OD) => ∃ o', O' = [o'] ∧ (fun _ _ _ => False : XX) C fs (O1.set i o')) = fun _ _ _ => False := by
      funext C fs O'
      exact propext ⟨fun ⟨_, _, z⟩ => z, fun z => z.elim⟩
    exact lift_1 (W := fun _ _ _ _ => False) (X := fun _ _ _ => False) (σ := σ) s1 r1 e ho ng (fun C d H z => z) (by rw [x0]; exact p) (kv.nxt n1) (fun C fs A' O' H' d z => z.elim)) kx

theorem StO.lay2 {b : Bs} {A : List Addr} {H : Hp} (s : StO K b A O H) {p : Addr} (hp : H p = none) (o : HO) : StO K b A O (upd H p o) ∧ Nxt b A O H A O (upd H p o) := ⟨(s.lay hp o).1, (s.lay hp o).2.1⟩
/-- C(..): __init__ is handed the new instance as the owned thing 0, of no fields -/
theorem w_make0 {C : Addr} (h : WA K W tr O ts (fun xs O1 => ∃ ds, unv xs = some ds ∧ sp (.own 0 :: xs) [.ins C []] (fun t O' => t = .v .non ∧ ∃ fs, O' = [.ins C fs] ∧ P (.v (.ins C fs)) O1) (fun _ _ _ => False)) X) :
    WE K W (tMake C (lift K sp) [] E0 tr) O ts P X := fun b A σ H Q s rs kv kx =>
  h b A σ H _ s rs (fun xs vs A1 O1 H1 p1 s1 n1 r1 x dx hx hdx hne => by
    obtain ⟨ds, e, p⟩ := p1
    rw [List.append_nil]
    obtain ⟨s2, n2⟩ := s1.lay2 hdx (.own x)
    have hx2 : upd H1 dx (.own x) x = none := by
      rw [upd_ne hne.symm]
      exact hx
    obtain ⟨s3, n3⟩ := s2.own (u := .ins C dx []) (o := .ins C []) hx2 ⟨dx, [], upd_same, rfl⟩
    have n13 := n2.trans n3
    have hat : (A1 ++ [x])[A1.length]? = some x := by
      rw [List.getElem?_append_right (Nat.le_refl _), Nat.sub_self]
      exact rfl
    have hoat : (O1 ++ [OD.ins C []])[A1.length]? = some (.ins C []) := by
      rw [s1.len, List.getElem?_append_right (Nat.le_refl _), Nat.sub_self]
      exact rfl
    have tr : tr1 A1.length (.own A1.length :: xs) = some (.own 0 :: xs) := by
      have z : ∀ {xs : List T} {ds : List D}, unv xs = some ds → tr1 A1.length xs = some xs := fun {xs} => by
        induction xs with
        | nil => exact fun _ => rfl
        | cons t xs ih =>
          intro ds e
          cases t with
          | v d =>
            have e3 : (unv xs).map (d :: ·) = some ds := e
            cases q : unv xs with
            | none =>
              rw [q] at e3
              cases e3
            | some es =>
              show (tr1 A1.length xs).map (T.v d :: ·) = _
              rw [ih q]
              exact rfl
          | own j => cases e
          | no => cases e
          | clo R f => cases e
      show (if A1.length = A1.length then (tr1 A1.length xs).map (T.own 0 :: ·) else none) = _
      rw [if_pos rfl, z e]
      exact rfl
    refine lift_1 (W := fun _ _ _ _ => False) (X := fun _ _ _ => False) (σ := σ) (P := fun t O' => t = .v .non ∧ ∃ fs, O' = O1 ++ [.ins C fs] ∧ P (.v (.ins C fs)) O1) s3 (xs := .own A1.length :: xs) ⟨.ref x, vs, rfl, ⟨x, hat, rfl⟩, r1.nxt n13⟩ tr hoat rfl (fun C d H z => z) ?_
      (fun t v A' O' H' q s' n' rt => ?_) (fun C fs A' O' H' d z => z.elim)
    · have x0 : (fun (C' : Value) (fs : Option (List (Str × D))) (O' : List OD) => ∃ o', O' = [o'] ∧ (fun _ _ _ => False : XX) C' fs ((O1 ++ [OD.ins C []]).set A1.length o')) = fun _ _ _ => False := by
        funext C fs O'
        exact propext ⟨fun ⟨_, _, z⟩ => z, fun z => z.elim⟩
      rw [x0]
      have pq : (fun (t : T) (O' : List OD) => ∃ o', O' = [o'] ∧ okR t = true ∧ (un1 A1.length t = .v .non ∧ ∃ fs, (O1 ++ [OD.ins C []]).set A1.length o' = O1 ++ [.ins C fs] ∧ P (.v (.ins C fs)) O1)) = fun t O' => t = .v .non ∧ ∃ fs, O' = [.ins C fs] ∧ P (.v (.ins C fs)) O1 := by
        have es : ∀ o' : OD, (O1 ++ [OD.ins C []]).set A1.length o' = O1 ++ [o'] := fun o' => by
          rw [s1.len, List.set_append_right _ _ (Nat.le_refl _), Nat.sub_self]
          exact rfl
        funext t O'
        refine propext ⟨?_, ?_⟩
        · rintro ⟨o', rfl, hn, hu, fs, e1, q⟩
          rw [es] at e1
          have e2 : o' = .ins C fs := by
            have := List.append_cancel_left e1
            injection this
          subst e2
          refine ⟨?_, fs, rfl, q⟩
          cases t with
          | v d => exact hu
          | own j => cases hu
          | no => cases hn
          | clo R f => cases hn
        · rintro ⟨rfl, fs, rfl, q⟩
          exact ⟨_, rfl, rfl, rfl, fs, es _, q⟩
      rw [pq]
      exact p
    · obtain ⟨rfl, fs, rfl, q⟩ := q
      obtain ⟨_, e1, e2⟩ := rt
      cases e1
      obtain ⟨M, eM⟩ := n'.pre
      have l2 := s'.len
      have eM0 : M = [] := by
        have l3 : A'.length = (A1 ++ [x] ++ M).length := by rw [eM]
        rw [List.length_append, List.length_append] at l3
        rw [List.length_append] at l2
        have l4 := s1.len
        refine List.length_eq_zero_iff.mp ?_
        simp only [List.length_singleton] at l2 l3
        omega
      subst eM0
      rw [List.append_nil] at eM
      subst eM
      have c := s'.cell A1.length x (.ins C fs) hat (by rw [s1.len, List.getElem?_append_right (Nat.le_refl _), Nat.sub_self]; exact rfl)
      obtain ⟨s4, x4⟩ := s'.drop s1.len s1.pre
      obtain ⟨dx', us, c1, c2⟩ := c
      have nA : x ∉ A1 := fun hm => (List.nodup_append.mp s'.nd).2.2 x hm x (List.mem_singleton.mpr rfl) rfl
      have nz : x ∉ live A1 O1 ++ b.Z := fun z => by
        rcases List.mem_append.mp z with z | z
        · obtain ⟨j, o, z1, _, _⟩ := live_mem z
          exact nA (List.mem_of_getElem? z1)
        · have zz := s1.z_at (a := x) z
          obtain ⟨o, zz, _⟩ := zz.2
          rw [hx] at zz
          cases zz
      have fz : Fz b A1 O1 H' x = some (.ins C dx' us) := hid_some.mpr ⟨nz, c1⟩
      refine ⟨e2, kv _ _ A1 O1 H' q s4 (n1.trans ⟨⟨[], (List.append_nil A1).symm⟩, ?_⟩) ⟨_, rfl, x, dx', us, rfl, fz, c2.ex x4⟩⟩
      exact (n13.ext.trans n'.ext).trans x4) kx
end
end G

set_option Elab.async false
set_option linter.all false
set_option maxRecDepth 100000
set_option maxHeartbeats 4000000
namespace G
open PySem PySem.Spec PyProof.Rows L2

/-- an instance: plain, or owned -/
def InsD (x : T) (O : List OD) (C : Addr) (fs : List (Str × D)) : Prop := x = .v (.ins C fs) ∨ ∃ i, x = .own i ∧ O[i]? = some (.ins C fs)
theorem insD_v {O : List OD} {C : Addr} {fs : List (Str × D)} : InsD (.v (.ins C fs)) O C fs := .inl rfl
theorem insD_o {O : List OD} {C : Addr} {fs : List (Str × D)} {i : Nat} (h : O[i]? = some (.ins C fs)) : InsD (.own i) O C fs := .inr ⟨i, rfl, h⟩
theorem insD_at {K : PySem.W.Frag} {b : Bs} {A : List Addr} {O : List OD} {H : Hp} {x : T} {C : Addr} {fs : List (Str × D)} {v : V} (h : InsD x O C fs) (s : StO K b A O H) (r : RepT K (Fz b A O H) A x (some v)) :
    ∃ a dx vs, v = .ref a ∧ H a = some (.ins C dx vs) ∧ RepF K (Fz b A O H) fs vs := by
  rcases h with rfl | ⟨i, rfl, ho⟩
  · obtain ⟨_, e, a, dx, vs, rfl, h1, h2⟩ := r
    cases e
    exact ⟨a, dx, vs, rfl, (hid_some.mp h1).2, h2⟩
  · obtain ⟨a, ha, e⟩ := r
    cases e
    obtain ⟨dx, vs, h1, h2⟩ := s.cell i a _ ha ho
    exact ⟨a, dx, vs, rfl, h1, h2⟩
section
variable {K : PySem.W.Frag} {W : WX} {O : List OD} {ts : List T} {P : PT'} {X : XX} {sp : SpD} {te ta tv : TE} {tr : TA} {E : XK} {DE' : DE} {C : Addr} {f m : Str}
theorem w_fld (c : Cls K C) (n : NoAttr K C f) (h : WE K W ta O ts (fun x O1 => ∃ fs d, InsD x O1 C fs ∧ fs.lookup f = some d ∧ P (.v d) O1) X) : WE K W (tFld K ta f) O ts P X := fun b A σ H Q s rs kv kx =>
  h b A σ H _ s rs (fun x v A1 O1 H1 p1 s1 n1 r1 => by
    obtain ⟨fs, d, hi, hl, p⟩ := p1
    obtain ⟨a, dx, vs, rfl, h1, h2⟩ := insD_at hi s1 r1
    obtain ⟨w, e, r⟩ := h2.look hl
    exact ⟨a, C, dx, vs, w, rfl, h1, c, n, e, kv _ w A1 O1 H1 p s1 n1 ⟨w, rfl, r⟩⟩) kx
def putD (f : Str) (d : D) : List (Str × D) → List (Str × D)
  | [] => [(f, d)]
  | p :: r => if p.1 = f then (f, d) :: r else p :: putD f d r
theorem repF_put {F : Hp} {f : Str} {d : D} {v : V} (q : Rep K F d v) : ∀ {fs : List (Str × D)} {vs : List (Str × V)}, RepF K F fs vs → RepF K F (putD f d fs) (putF f v vs)
  | [], _, h => by
    rw [show _ = [] from h]
    exact ⟨v, [], rfl, q, rfl⟩
  | p :: fs, _, h => by
    obtain ⟨w, r, e1, h1, h2⟩ := h
    subst e1
    show RepF K F (if p.1 = f then (f, d) :: fs else p :: putD f d fs) (putF f v ((p.1, w) :: r))
    unfold putF
    by_cases e : p.1 = f
    · rw [if_pos e]
      first
        | (rw [if_pos e]; exact ⟨v, r, rfl, q, h2⟩)
        | (rw [if_pos e.symm]; exact ⟨v, r, rfl, q, h2⟩)
        | (simp only [e, beq_self_eq_true, if_true]; exact ⟨v, r, rfl, q, h2⟩)
    · rw [if_neg e]
      first
        | (rw [if_neg e]; exact ⟨w, _, rfl, h1, repF_put q h2⟩)
        | (rw [if_neg (Ne.symm e)]; exact ⟨w, _, rfl, h1, repF_put q h2⟩)
        | (simp only [beq_iff_eq, e, if_false]; exact ⟨w, _, rfl, h1, repF_put q h2⟩)
theorem s_fld (c : Cls K C) (n : NoAttr K C f) (h : WE K W tv O ts (fun y O1 => WE K W ta O1 ts (fun x O2 => ∃ i fs d, x = .own i ∧ y = .v d ∧ O2[i]? = some (.ins C fs) ∧ fs.length < 1000 ∧ DE'.nx ts (O2.set i (.ins C (putD f d fs)))) (fun C fs O' => DE'.xe C fs ts O')) (fun C fs O' => DE'.xe C fs ts O')) :
    WS K W (sFld K ta tv f) O ts DE' := fun b A σ H D s rs ks =>
  h b A σ H _ s rs (fun y v A1 O1 H1 p1 s1 n1 r1 => by
    refine p1 b A1 σ H1 _ s1 (rs.nxt n1) (fun x u A2 O2 H2 p2 s2 n2 r2 => ?_) ((ks.kx rs).nxt n1)
    obtain ⟨i, fs, d, rfl, rfl, ho, hz, q⟩ := p2
    obtain ⟨a, ha, e⟩ := r2
    cases e
    obtain ⟨dx, vs, h1, h2⟩ := s2.cell i a _ ha ho
    obtain ⟨w, e2, rw'⟩ := r1.nxt n2
    cases e2
    obtain ⟨s3, n3⟩ := s2.put (w := .ins C dx (putF f v vs)) (o := .ins C (putD f d fs)) ha ho (fun z => by cases z) (fun z => by cases z) ⟨dx, _, upd_same, repF_put rw' h2⟩
    refine ⟨a, C, dx, vs, rfl, h1, c, n, by rw [h2.length]; exact hz, ks.nx ts σ A2 _ _ q s3 ((n1.trans n2).trans n3) (rs.nxt ((n1.trans n2).trans n3))⟩) (ks.kx rs)
/-- o.m(..) of a plain instance -/
theorem w_meth0 (h : WE K W ta O ts (fun x O1 => ∃ fs, x = .v (.ins C fs) ∧ fs.lookup m = none ∧ WA K W tr O1 ts (fun xs O2 => ∃ ds, unv xs = some ds ∧ sp (.v (.ins C fs) :: xs) [] (fun t _ => (∃ d, t = .v d) ∧ P t O2) (fun _ _ _ => False)) X) X) :
    WE K W (tMeth C m (lift K sp) [] E0 ta tr) O ts P X := fun b A σ H Q s rs kv kx =>
  h b A σ H _ s rs (fun x v A1 O1 H1 p1 s1 n1 r1 => by
    obtain ⟨fs, rfl, hm, p⟩ := p1
    obtain ⟨a, dx, vs, rfl, h1, h2⟩ := insD_at insD_v s1 r1
    refine ⟨a, dx, vs, rfl, h1, h2.none hm, p b A1 σ H1 _ s1 (rs.nxt n1) (fun xs us A2 O2 H2 p2 s2 n2 r2 => ?_) (kx.nxt n1)⟩
    obtain ⟨ds, e, q⟩ := p2
    rw [List.append_nil]
    exact lift_p (W := fun _ _ _ _ => False) (X := fun _ _ _ => False) (σ := σ) s2 (xs := .v (.ins C fs) :: xs) (ds := .ins C fs :: ds) ⟨.ref a, us, rfl, r1.nxt n2, r2⟩ (by show (unv xs).map _ = _; rw [e] <;> rfl) (fun C d H z => z) q (kv.nxt (n1.trans n2)) (fun C fs A' O' H' d z => z.elim)) kx
end

def LstD (x : T) (O : List OD) (ds : List D) : Prop := x = .v (.lst ds) ∨ ∃ i, x = .own i ∧ O[i]? = some (.lst ds)
theorem lstD_v {O : List OD} {ds : List D} : LstD (.v (.lst ds)) O ds := .inl rfl
theorem lstD_o {O : List OD} {ds : List D} {i : Nat} (h : O[i]? = some (.lst ds)) : LstD (.own i) O ds := .inr ⟨i, rfl, h⟩
theorem lstD_atH {K : PySem.W.Frag} {b : Bs} {A : List Addr} {O : List OD} {H : Hp} {x : T} {ds : List D} {v : V} (h : LstD x O ds) (s : StO K b A O H) (r : RepT K (Fz b A O H) A x (some v)) :
    ∃ a vs, v = .ref a ∧ H a = some (.lst vs) ∧ RepL K (Fz b A O H) ds vs := by
  rcases h with rfl | ⟨i, rfl, ho⟩
  · obtain ⟨_, e, a, vs, rfl, h1, h2⟩ := r
    cases e
    exact ⟨a, vs, rfl, hid_ex _ _ h1 (by (first | assumption | exact nt_exc | exact fun _ z => (by cases z))), h2⟩
  · obtain ⟨a, ha, e⟩ := r
    cases e
    obtain ⟨vs, h1, h2⟩ := s.cell i a _ ha ho
    exact ⟨a, vs, rfl, h1, h2⟩
theorem lstD_at {K : PySem.W.Frag} {b : Bs} {A : List Addr} {O : List OD} {H : Hp} {x : T} {ds : List D} {v : V} (h : LstD x O ds) (s : StO K b A O H) (r : RepT K (Fz b A O H) A x (some v)) :
    ∃ a vs, v = .ref a ∧ SqL K H a vs ∧ RepL K (Fz b A O H) ds vs := by
  obtain ⟨a, vs, e, h1, h2⟩ := lstD_atH h s r
  exact ⟨a, vs, e, SqL.of h1, h2⟩
theorem tupD_at {K : PySem.W.Frag} {F H : Hp} {A : List Addr} {ds : List D} {v : V} (e : Ex F H) (r : RepT K F A (.v (.tup ds)) (some v)) : ∃ a vs, v = .ref a ∧ SqT K H a vs ∧ RepL K F ds vs := by
  obtain ⟨_, e1, a, vs, rfl, h1, h2⟩ := r
  cases e1
  exact ⟨a, vs, rfl, e.t h1, h2⟩
theorem atI_rep {K : PySem.W.Frag} {F : Hp} {ds : List D} {vs : List V} {i : Int} {d : D} (r : RepL K F ds vs) (h : atI ds i = some d) : ∃ v, atI vs i = some v ∧ Rep K F d v := by
  unfold atI at h ⊢
  rw [r.length]
  cases q : ixN ds.length i with
  | none =>
    rw [q] at h
    cases h
  | some j =>
    rw [q] at h
    exact r.get h
section
variable {K : PySem.W.Frag} {W : WX} {O : List OD} {ts : List T} {P : PT'} {X : XX} {te ta tv : TE} {tr : TA} {DE' : DE}
theorem w_ixL {x : T} {ds : List D} {i : Int} {d : D} (hx : LstD x O ds) (h : atI ds i = some d) (k : P (.v d) O) : WR K (rIxL K) x (.v (.int i)) O P := fun b A H Q v u s r1 r2 kv => by
  obtain ⟨a, vs, rfl, h1, h2⟩ := lstD_at hx s r1
  obtain ⟨_, e2, rfl⟩ := r2
  cases e2
  obtain ⟨w, e, r⟩ := atI_rep h2 h
  exact ⟨a, vs, i, w, rfl, rfl, h1, e, kv _ w A O H k s Nxt.refl ⟨w, rfl, r⟩⟩
theorem w_ixT {ds : List D} {i : Int} {d : D} (h : atI ds i = some d) (k : P (.v d) O) : WR K (rIxT K) (.v (.tup ds)) (.v (.int i)) O P := fun b A H Q v u s r1 r2 kv => by
  obtain ⟨a, vs, rfl, h1, h2⟩ := tupD_at (hid_ex : Ex (Fz b A O H) H) r1
  obtain ⟨_, e2, rfl⟩ := r2
  cases e2
  obtain ⟨w, e, r⟩ := atI_rep h2 h
  exact ⟨a, vs, i, w, rfl, rfl, h1, e, kv _ w A O H k s Nxt.refl ⟨w, rfl, r⟩⟩
theorem atI_0 {α : Type} {x : α} {r : List α} : atI (x :: r) 0 = some x := atI_nat (j := 0) rfl
theorem atI_1 {α : Type} {x y : α} {r : List α} : atI (x :: y :: r) 1 = some y := atI_nat (j := 1) rfl
theorem atI_2 {α : Type} {x y z : α} {r : List α} : atI (x :: y :: z :: r) 2 = some z := atI_nat (j := 2) rfl
theorem atI_3 {α : Type} {x y z u : α} {r : List α} : atI (x :: y :: z :: u :: r) 3 = some u := atI_nat (j := 3) rfl
theorem atI_4 {α : Type} {x y z u v : α} {r : List α} : atI (x :: y :: z :: u :: v :: r) 4 = some v := atI_nat (j := 4) rfl
theorem atI_5 {α : Type} {x y z u v w : α} {r : List α} : atI (x :: y :: z :: u :: v :: w :: r) 5 = some w := atI_nat (j := 5) rfl
theorem atI_6 {α : Type} {x y z u v w k : α} {r : List α} : atI (x :: y :: z :: u :: v :: w :: k :: r) 6 = some k := atI_nat (j := 6) rfl
/-- xs[i] = e -/
theorem g_setL {te ti : TE} {x : T} {N : List T → List OD → Prop} (h : WE K W te O ts (fun y O1 => WE K W ti O1 ts (fun z O2 => ∃ (i : Nat) (ds : List D) (k : Int) (j : Nat) (d : D), y = .own i ∧ z = .v (.int k) ∧ x = .v d ∧ O2[i]? = some (.lst ds) ∧ ixN ds.length k = some j ∧ N ts (O2.set i (.lst (ds.set j d)))) (fun _ _ _ => False)) (fun _ _ _ => False)) :
    WG K W (gSub te ti rSetL) x O ts N := fun b A σ H Q v s rs r kn => by
  refine h b A σ H _ s rs (fun y u A1 O1 H1 p1 s1 n1 r1 => ?_) (fun C fs A' O' H' d z => z.elim)
  refine p1 b A1 σ H1 _ s1 (rs.nxt n1) (fun z w A2 O2 H2 p2 s2 n2 r2 => ?_) (fun C fs A' O' H' d z => z.elim)
  obtain ⟨i, ds, k, j, d, rfl, rfl, rfl, ho, hk, q⟩ := p2
  obtain ⟨a, ha, e⟩ := r1.nxt n2
  cases e
  obtain ⟨_, e2, rfl⟩ := r2
  cases e2
  obtain ⟨vs, h1, h2⟩ := s2.cell i a _ ha ho
  obtain ⟨v', e3, rd⟩ := r.nxt (n1.trans n2)
  cases e3
  obtain ⟨s3, n3⟩ := s2.put (w := .lst (vs.set j v)) (o := .lst (ds.set j d)) ha ho (fun z => by cases z) (fun z => by cases z) ⟨_, upd_same, h2.set rd j⟩
  exact ⟨a, vs, k, j, rfl, rfl, h1, by rw [h2.length]; exact hk, kn ts σ A2 _ _ q s3 ((n1.trans n2).trans n3) (rs.nxt ((n1.trans n2).trans n3))⟩
theorem w_bmL {rm : V → List V → Hp → VK → Prop} (h : WE K W ta O ts (fun x O1 => ∃ ds, LstD x O1 ds ∧ WA K W tr O1 ts (fun xs O2 => WM K rm x xs O2 P) X) X) : WE K W (tBM K "list" rm ta tr) O ts P X := fun b A σ H Q s rs kv kx =>
  h b A σ H _ s rs (fun x v A1 O1 H1 p1 s1 n1 r1 => by
    obtain ⟨ds, hx, p⟩ := p1
    obtain ⟨a, vs, rfl, h1, h2⟩ := lstD_at hx s1 r1
    exact ⟨.inl ⟨rfl, vs, h1⟩, p b A1 σ H1 _ s1 (rs.nxt n1) (fun xs us A2 O2 H2 p2 s2 n2 r2 => p2 b A2 H2 Q _ us s2 (r1.nxt n2) r2 (kv.nxt (n1.trans n2))) (kx.nxt n1)⟩) kx
theorem w_bmL0 {rm : V → List V → Hp → VK → Prop} (h : WE K W ta O ts (fun x O1 => ∃ ds, LstD x O1 ds ∧ WM K rm x [] O1 P) X) : WE K W (tBM0 K "list" rm ta) O ts P X := fun b A σ H Q s rs kv kx =>
  h b A σ H _ s rs (fun x v A1 O1 H1 p1 s1 n1 r1 => by
    obtain ⟨ds, hx, p⟩ := p1
    obtain ⟨a, vs, rfl, h1, h2⟩ := lstD_at hx s1 r1
    exact ⟨.inl ⟨rfl, vs, h1⟩, p b A1 H1 Q _ [] s1 r1 rfl (kv.nxt n1)⟩) kx
theorem m_append {i : Nat} {ds : List D} {d : D} (ho : O[i]? = some (.lst ds)) (hz : ds.length < sizeLine) (k : P (.v .non) (O.set i (.lst (ds ++ [d])))) : WM K rAppend (.own i) [.v d] O P := fun b A H Q v vs s r1 r2 kv => by
  obtain ⟨a, ha, e⟩ := r1
  cases e
  obtain ⟨us, h1, h2⟩ := s.cell i a _ ha ho
  obtain ⟨w, _, rfl, ⟨w2, e2, rd⟩, rfl⟩ := r2
  cases e2
  obtain ⟨s3, n3⟩ := s.put (w := .lst (us ++ [w])) (o := .lst (ds ++ [d])) ha ho (fun z => by cases z) (fun z => by cases z) ⟨_, upd_same, h2.append ⟨w, [], rfl, rd, rfl⟩⟩
  exact ⟨a, us, w, rfl, rfl, h1, by rw [h2.length]; exact hz, kv _ .non A _ _ k s3 n3 ⟨_, rfl, rfl⟩⟩
theorem m_pop {i : Nat} {ds : List D} {d : D} (ho : O[i]? = some (.lst ds)) (hz : ds[ds.length - 1]? = some d) (k : P (.v d) (O.set i (.lst ds.dropLast))) : WM K rPop (.own i) [] O P := fun b A H Q v vs s r1 r2 kv => by
  obtain ⟨a, ha, e⟩ := r1
  cases e
  obtain ⟨us, h1, h2⟩ := s.cell i a _ ha ho
  obtain ⟨w, e2, rd⟩ := h2.get hz
  have dl : RepL K (Fz b A O H) ds.dropLast us.dropLast := by
    rw [List.dropLast_eq_take, List.dropLast_eq_take, h2.length]
    exact h2.take _
  obtain ⟨s3, n3⟩ := s.put (w := .lst us.dropLast) (o := .lst ds.dropLast) ha ho (fun z => by cases z) (fun z => by cases z) ⟨_, upd_same, dl⟩
  exact ⟨a, us, w, rfl, r2, h1, by rw [h2.length]; exact e2, kv _ w A _ _ k s3 n3 ⟨w, rfl, rd.ex n3.ext⟩⟩

def WO (K : PySem.W.Frag) (W : WX) (to : TO) (O : List OD) (ts : List T) (P : Option Int → List OD → Prop) (X : XX) : Prop :=
  ∀ b A σ H Q, StO K b A O H → RepS K (Fz b A O H) A ts σ → (∀ c A' O' H', P c O' → StO K b A' O' H' → Nxt b A O H A' O' H' → Q c H') → KX K W b A O σ H X → to σ H Q
theorem o_none {PO' : Option Int → List OD → Prop} (k : PO' none O) : WO K W tNoPart O ts PO' X := fun b A σ H Q s rs kb _ => kb none A O H k s Nxt.refl
theorem o_some {PO' : Option Int → List OD → Prop} (h : WE K W te O ts (fun t O' => ∃ i, t = .v (.int i) ∧ PO' (some i) O') X) : WO K W (tPart te) O ts PO' X := fun b A σ H Q s rs kb kx =>
  h b A σ H _ s rs (fun t v A1 O1 H1 p1 s1 n1 r1 => by
    obtain ⟨i, rfl, p⟩ := p1
    obtain ⟨_, e, rfl⟩ := r1
    cases e
    exact ⟨i, rfl, kb _ A1 O1 H1 p s1 n1⟩) kx
def cutD (xs : List D) (lo hi : Option Int) : List D := (xs.drop (HT.sIx xs.length 0 lo)).take (HT.sIx xs.length xs.length hi - HT.sIx xs.length 0 lo)
theorem cut_rep {F : Hp} {ds : List D} {vs : List V} (r : RepL K F ds vs) (lo hi : Option Int) : RepL K F (cutD ds lo hi) (cutV vs lo hi) := by
  unfold cutD cutV
  rw [r.length]
  exact (r.drop _).take _
theorem w_slL {tl th : TO} (h : WE K W te O ts (fun x O1 => WO K W tl O1 ts (fun lo O2 => WO K W th O2 ts (fun hi O3 => ∃ ds, LstD x O3 ds ∧ P (.v (.lst (cutD ds lo hi))) O3) X) X) X) : WE K W (tSl (rSlL K) te tl th) O ts P X := fun b A σ H Q s rs kv kx =>
  h b A σ H _ s rs (fun x v A1 O1 H1 p1 s1 n1 r1 => p1 b A1 σ H1 _ s1 (rs.nxt n1) (fun lo A2 O2 H2 p2 s2 n2 => p2 b A2 σ H2 _ s2 (rs.nxt (n1.trans n2)) (fun hi A3 O3 H3 p3 s3 n3 => by
    obtain ⟨ds, hx, p⟩ := p3
    obtain ⟨a, vs, rfl, h1, h2⟩ := lstD_at hx s3 (r1.nxt (n2.trans n3))
    refine ⟨a, vs, rfl, h1, fun p' hp => ?_⟩
    obtain ⟨s4, n4, q⟩ := s3.lay hp (.lst (cutV vs lo hi))
    exact kv _ _ A3 O3 _ p s4 (((n1.trans n2).trans n3).trans n4) ⟨_, rfl, p', _, rfl, q, (cut_rep h2 lo hi).ex n4.ext⟩) (kx.nxt (n1.trans n2))) (kx.nxt n1)) kx
theorem c_int {i : Int} (k : P (.v (.int i)) O) : WC K (fun xs H Q => (∃ i, xs = [.int i] ∧ Q (.int i) H) ∨ ∃ k, xs = [.bl k] ∧ Q (.int (if k then 1 else 0)) H) [.v (.int i)] O P := fun b A H Q vs s r kv => by
  obtain ⟨v, _, rfl, ⟨_, e, rfl⟩, rfl⟩ := r
  cases e
  exact .inl ⟨i, rfl, kv _ _ A O H k s Nxt.refl ⟨_, rfl, rfl⟩⟩
theorem c_intB {c : Bool} (k : P (.v (.int (if c then 1 else 0))) O) : WC K (fun xs H Q => (∃ i, xs = [.int i] ∧ Q (.int i) H) ∨ ∃ k, xs = [.bl k] ∧ Q (.int (if k then 1 else 0)) H) [.v (.bl c)] O P := fun b A H Q vs s r kv => by
  obtain ⟨v, _, rfl, ⟨_, e, rfl⟩, rfl⟩ := r
  cases e
  exact .inr ⟨c, rfl, kv _ _ A O H k s Nxt.refl ⟨_, rfl, rfl⟩⟩
theorem c_abs {i : Int} (k : P (.v (.int (if i < 0 then -i else i))) O) : WC K (fun xs H Q => ∃ i, xs = [.int i] ∧ Q (.int (if i < 0 then -i else i)) H) [.v (.int i)] O P := fun b A H Q vs s r kv => by
  obtain ⟨v, _, rfl, ⟨_, e, rfl⟩, rfl⟩ := r
  cases e
  exact ⟨i, rfl, kv _ _ A O H k s Nxt.refl ⟨_, rfl, rfl⟩⟩
def rLen (K : PySem.W.Frag) : List V → Hp → VK → Prop := fun xs H Q => ∃ x n, xs = [x] ∧ LenV K x H n ∧ Q (.int n) H
theorem cr_len {X : Cx} : CallR X (.builtin "len") (rLen X.K) := call_len
theorem c_lenL {x : T} {ds : List D} (hx : LstD x O ds) (k : P (.v (.int ds.length)) O) : WC K (rLen K) [x] O P := fun b A H Q vs s r kv => by
  obtain ⟨v, _, rfl, r1, rfl⟩ := r
  obtain ⟨a, us, rfl, h1, h2⟩ := lstD_at hx s r1
  refine ⟨.ref a, ds.length, rfl, .inl ⟨us, h1, h2.length.symm⟩, kv _ _ A O H k s Nxt.refl ⟨_, rfl, rfl⟩⟩
theorem c_lenT {ds : List D} (k : P (.v (.int ds.length)) O) : WC K (rLen K) [.v (.tup ds)] O P := fun b A H Q vs s r kv => by
  obtain ⟨v, _, rfl, r1, rfl⟩ := r
  obtain ⟨a, us, rfl, h1, h2⟩ := tupD_at (hid_ex : Ex (Fz b A O H) H) r1
  refine ⟨.ref a, ds.length, rfl, .inr ⟨us, h1, h2.length.symm⟩, kv _ _ A O H k s Nxt.refl ⟨_, rfl, rfl⟩⟩
def rListOf (K : PySem.W.Frag) : List V → Hp → VK → Prop := fun xs H Q => ∃ p ys, xs = [.ref p] ∧ (SqL K H p ys ∨ SqT K H p ys) ∧ ∀ l, H l = none → Q (.ref l) (upd H l (.lst ys))
theorem cr_list {X : Cx} : CallR X (.type "list") (rListOf X.K) := call_list_of
def rTupOf (K : PySem.W.Frag) : List V → Hp → VK → Prop := fun xs H Q => ∃ p ys, xs = [.ref p] ∧ ((SqL K H p ys ∧ ∀ l, H l = none → Q (.ref l) (upd H l (.tup ys))) ∨ (SqT K H p ys ∧ Q (.ref p) H))
theorem cr_tup {X : Cx} : CallR X (.type "tuple") (rTupOf X.K) := call_tuple_of
theorem c_listL {x : T} {ds : List D} (hx : LstD x O ds) (k : P (.v (.lst ds)) O) : WC K (rListOf K) [x] O P := fun b A H Q vs s r kv => by
  obtain ⟨v, _, rfl, r1, rfl⟩ := r
  obtain ⟨a, us, rfl, h1, h2⟩ := lstD_at hx s r1
  refine ⟨a, us, rfl, .inl h1, fun p hp => ?_⟩
  obtain ⟨s2, n2, q⟩ := s.lay hp (.lst us)
  exact kv _ _ A O _ k s2 n2 ⟨_, rfl, p, us, rfl, q, h2.ex n2.ext⟩
theorem c_listT {ds : List D} (k : P (.v (.lst ds)) O) : WC K (rListOf K) [.v (.tup ds)] O P := fun b A H Q vs s r kv => by
  obtain ⟨v, _, rfl, r1, rfl⟩ := r
  obtain ⟨a, us, rfl, h1, h2⟩ := tupD_at (hid_ex : Ex (Fz b A O H) H) r1
  refine ⟨a, us, rfl, .inr h1, fun p hp => ?_⟩
  obtain ⟨s2, n2, q⟩ := s.lay hp (.lst us)
  exact kv _ _ A O _ k s2 n2 ⟨_, rfl, p, us, rfl, q, h2.ex n2.ext⟩
theorem c_tupL {x : T} {ds : List D} (hx : LstD x O ds) (k : P (.v (.tup ds)) O) : WC K (rTupOf K) [x] O P := fun b A H Q vs s r kv => by
  obtain ⟨v, _, rfl, r1, rfl⟩ := r
  obtain ⟨a, us, rfl, h1, h2⟩ := lstD_at hx s r1
  refine ⟨a, us, rfl, .inl ⟨h1, fun p hp => ?_⟩⟩
  obtain ⟨s2, n2, q⟩ := s.lay hp (.tup us)
  exact kv _ _ A O _ k s2 n2 ⟨_, rfl, p, us, rfl, SqT.of q, h2.ex n2.ext⟩
theorem c_tupT {ds : List D} (k : P (.v (.tup ds)) O) : WC K (rTupOf K) [.v (.tup ds)] O P := fun b A H Q vs s r kv => by
  obtain ⟨v, _, rfl, r1, rfl⟩ := r
  obtain ⟨a, us, rfl, h1, h2⟩ := tupD_at (hid_ex : Ex (Fz b A O H) H) r1
  exact ⟨a, us, rfl, .inr ⟨h1, kv _ _ A O H k s Nxt.refl r1⟩⟩
theorem rep_ints {F : Hp} : ∀ {ns : List Int} {vs : List V}, RepL K F (ns.map D.int) vs → vs = ns.map V.int
  | [], _, h => h
  | n :: ns, _, h => by
    obtain ⟨v, r, rfl, rfl, h2⟩ := h
    rw [rep_ints h2] <;> rfl
theorem rep_bools {F : Hp} : ∀ {ns : List Bool} {vs : List V}, RepL K F (ns.map D.bl) vs → vs = ns.map V.bl
  | [], _, h => h
  | n :: ns, _, h => by
    obtain ⟨v, r, rfl, rfl, h2⟩ := h
    rw [rep_bools h2] <;> rfl
theorem c_sum {x : T} {ns : List Int} (hx : LstD x O (ns.map D.int)) (k : P (.v (.int ns.sum)) O) : WC K (rSum K) [x] O P := fun b A H Q vs s r kv => by
  obtain ⟨v, _, rfl, r1, rfl⟩ := r
  obtain ⟨a, us, rfl, h1, h2⟩ := lstD_at hx s r1
  rw [rep_ints h2] at h1
  exact ⟨a, ns, rfl, h1, kv _ _ A O H k s Nxt.refl ⟨_, rfl, rfl⟩⟩
theorem c_all {x : T} {bs : List Bool} (hx : LstD x O (bs.map D.bl)) (k : P (.v (.bl (bs.all id))) O) : WC K (rAll K) [x] O P := fun b A H Q vs s r kv => by
  obtain ⟨v, _, rfl, r1, rfl⟩ := r
  obtain ⟨a, us, rfl, h1, h2⟩ := lstD_at hx s r1
  rw [rep_bools h2] at h1
  exact ⟨a, bs, rfl, h1, kv _ _ A O H k s Nxt.refl ⟨_, rfl, rfl⟩⟩
end
end G

set_option Elab.async false
set_option linter.all false
set_option maxRecDepth 100000
set_option maxHeartbeats 4000000
namespace G
open PySem PySem.Spec PyProof.Rows L2

def wipeT (ts : List T) : List Nat → List T
  | [] => ts
  | v :: vs => (wipeT ts vs).set v .no
theorem repS_wipe {K : PySem.W.Frag} {F : Hp} {A : List Addr} {ts : List T} {σ : L2.St} (h : RepS K F A ts σ) : ∀ vs : List Nat, RepS K F A (wipeT ts vs) (wipe σ vs)
  | [] => h
  | v :: vs => by
    have ih := repS_wipe h vs
    refine ⟨by show ((wipeT ts vs).set v .no).length = ((wipe σ vs).set v none).length; rw [List.length_set, List.length_set]; exact ih.1, fun j u e => ?_⟩
    have e : ((wipeT ts vs).set v .no)[j]? = some u := e
    show ∃ o, ((wipe σ vs).set v none)[j]? = some o ∧ _
    rw [List.getElem?_set] at e
    by_cases hij : v = j
    · subst hij
      rw [if_pos rfl] at e
      by_cases hl : v < (wipeT ts vs).length
      · rw [if_pos hl] at e
        have e2 : T.no = u := Option.some.inj e
        subst e2
        refine ⟨none, ?_, trivial⟩
        rw [List.getElem?_set_self (by rw [← ih.1]; exact hl)]
      · rw [if_neg hl] at e
        cases e
    · rw [if_neg hij] at e
      obtain ⟨o, e1, r1⟩ := ih.2 j u e
      refine ⟨o, ?_, r1⟩
      rw [List.getElem?_set_ne hij]
      exact e1
/-- the target touches the block's own slots alone -/
def Tgt (g : TG) (vs : List Nat) : Prop := ∀ v σ H (Q : L2.St → Hp → Prop), g v σ H Q → g v σ H fun σ2 H2 => wipe σ2 vs = wipe σ vs ∧ Q σ2 H2
def Tgts (g : TGs) (vs : List Nat) : Prop := ∀ xs σ H (Q : L2.St → Hp → Prop), g xs σ H Q → g xs σ H fun σ2 H2 => wipe σ2 vs = wipe σ vs ∧ Q σ2 H2
theorem wipe_get {σ : L2.St} : ∀ (vs : List Nat) (i : Nat), (wipe σ vs)[i]? = if i ∈ vs then (σ[i]?).map (fun _ => none) else σ[i]?
  | [], i => by simp [wipe]
  | v :: vs, i => by
    show ((wipe σ vs).set v none)[i]? = _
    rw [List.getElem?_set, wipe_get vs i]
    by_cases h : v = i
    · subst h
      rw [if_pos rfl, if_pos List.mem_cons_self]
      by_cases hl : v < (wipe σ vs).length
      · rw [if_pos hl]
        rw [wipe_length] at hl
        rw [List.getElem?_eq_getElem hl] <;> rfl
      · rw [if_neg hl]
        rw [wipe_length] at hl
        rw [List.getElem?_eq_none (by omega)] <;> rfl
    · rw [if_neg h]
      by_cases hm : i ∈ vs
      · rw [if_pos hm, if_pos (List.mem_cons_of_mem _ hm)]
      · rw [if_neg hm, if_neg (fun z => by rcases List.mem_cons.mp z with z | z; exact h z.symm; exact hm z)]
theorem wipe_set {σ : L2.St} {j : Nat} {o : Option V} {vs : List Nat} (h : j ∈ vs) : wipe (σ.set j o) vs = wipe σ vs := by
  refine List.ext_getElem? fun i => ?_
  rw [wipe_get, wipe_get, List.getElem?_set]
  by_cases hi : i ∈ vs
  · rw [if_pos hi, if_pos hi]
    by_cases hj : j = i
    · subst hj
      rw [if_pos rfl]
      by_cases hl : j < σ.length
      · rw [if_pos hl, List.getElem?_eq_getElem hl] <;> rfl
      · rw [if_neg hl, List.getElem?_eq_none (by omega)]
    · rw [if_neg hj]
  · have hne : ¬ j = i := fun z => hi (z ▸ h)
    rw [if_neg hi, if_neg hi, if_neg hne]
theorem tgt_name {j : Nat} {vs : List Nat} (h : j ∈ vs) : Tgt (gName j) vs := fun v σ H Q q => ⟨wipe_set h, q⟩
theorem tgt_nil {vs : List Nat} : Tgts gNil vs := fun xs σ H Q q => ⟨q.1, rfl, q.2⟩
theorem tgt_cons1 {j : Nat} {gs : TGs} {vs : List Nat} (h : j ∈ vs) (hs : Tgts gs vs) : Tgts (gCons (gName j) gs) vs := fun xs σ H Q q => by
  obtain ⟨v, r, rfl, q⟩ := q
  refine ⟨v, r, rfl, ?_⟩
  have q2 := hs r (σ.set j (some v)) H Q q
  rw [wipe_set h] at q2
  exact q2
theorem tgt_tup {K : PySem.W.Frag} {n : Nat} {gs : TGs} {vs : List Nat} (h : Tgts gs vs) : Tgt (gTup K n gs) vs := fun v σ H Q q => by
  obtain ⟨a, xs, e, h1, h2, q⟩ := q
  exact ⟨a, xs, e, h1, h2, h xs σ H Q q⟩

section
variable {K : PySem.W.Frag} {W : WX} {O : List OD} {ts : List T} {P : PT'} {X : XX} {te : TE} {tt : TT}
/-- no exception may leave -/
abbrev X0 : XX := fun _ _ _ => False
theorem w_yes {PB' : PB} (k : PB' true O) : WT K W tYes O ts PB' X := fun b A σ H Q s rs kb _ => kb true A O H k s Nxt.refl
theorem w_lc {wi : TI} {g : TG} {vs : List Nat} (hg : Tgt g vs) (h : WI K W wi O ts (fun f O1 => ∃ (n : Nat) (I : Nat → List D → List OD → Prop), (∀ i, i < n → f i ≠ none) ∧ f n = none ∧ I 0 [] O1 ∧ (∀ i acc O', I i acc O' → O'.length = O1.length) ∧
      (∀ i t acc O', i < n → f i = some t → I i acc O' → WG K W g t (O' ++ [.lst acc]) (wipeT ts vs) (fun ts2 O2 => WT K W tt O2 ts2 (fun c O3 =>
        (c = true → WE K W te O3 ts2 (fun y O4 => ∃ d O5, y = .v d ∧ O4 = O5 ++ [.lst acc] ∧ acc.length < sizeLine ∧ I (i + 1) (acc ++ [d]) O5) X0) ∧ (c = false → ∃ O5, O3 = O5 ++ [.lst acc] ∧ I (i + 1) acc O5)) X0)) ∧
      (∀ acc O', I n acc O' → P (.v (.lst acc)) O')) X) : WE K W (tLc wi g tt te vs) O ts P X := fun b A σ H Q s rs kv kx =>
  h b A σ H _ s rs (fun J f A1 O1 H1 p s1 n1 fc => by
    obtain ⟨n, I, hf, hn, h0, hlen, hs, hd⟩ := p
    intro Dl hD
    obtain ⟨s2, n2⟩ := s1.own (u := .lst []) (o := .lst []) hD ⟨[], upd_same, rfl⟩
    have at_ : ∀ {O' : List OD} {acc : List D}, O'.length = O1.length → (O' ++ [OD.lst acc])[A1.length]? = some (.lst acc) := fun {O' acc} e => by
      rw [s1.len, List.getElem?_append_right (by omega), e, Nat.sub_self]
      exact rfl
    have atA : (A1 ++ [Dl])[A1.length]? = some Dl := by
      rw [List.getElem?_append_right (Nat.le_refl _), Nat.sub_self]
      exact rfl
    refine ⟨fun i m H' => m = n - i ∧ i ≤ n ∧ ∃ acc O', I i acc O' ∧ StO K b (A1 ++ [Dl]) (O' ++ [.lst acc]) H' ∧ Nxt b A1 O1 H1 (A1 ++ [Dl]) (O' ++ [.lst acc]) H', ⟨n, by omega, Nat.zero_le _, [], O1, h0, s2, n2⟩, ?_⟩
    rintro i m H' ⟨rfl, hi, acc, O', hI, s', n'⟩
    have hl := hlen i acc O' hI
    obtain ⟨c1, c2⟩ := fc i _ _ H' s' n'
    by_cases hlt : i < n
    · right
      obtain ⟨t, ht⟩ := Option.ne_none_iff_exists'.mp (hf i hlt)
      obtain ⟨hgo, hy⟩ := c2 t ht
      refine ⟨hgo, fun H2 => ∃ acc2 O2, I (i + 1) acc2 O2 ∧ StO K b (A1 ++ [Dl]) (O2 ++ [.lst acc2]) H2 ∧ Nxt b A1 O1 H1 (A1 ++ [Dl]) (O2 ++ [.lst acc2]) H2, fun H2 q => ⟨n - (i + 1), by omega, rfl, hlt, q⟩, fun x H3 y => ?_⟩
      obtain ⟨s3, n3, r3⟩ := hy x H3 y
      have rsw : RepS K (Fz b (A1 ++ [Dl]) (O' ++ [.lst acc]) H3) (A1 ++ [Dl]) (wipeT ts vs) (wipe σ vs) := repS_wipe (rs.nxt ((n1.trans n').trans n3)) vs
      have key := hs i t acc O' hlt ht hI b (A1 ++ [Dl]) (wipe σ vs) H3 (fun σ2 H2 => tt σ2 H2 fun c H4 => if c = true then te σ2 H4 fun y H5 => ∃ acc, H5 Dl = some (.lst acc) ∧ acc.length < sizeLine ∧ ∃ acc2 O2, I (i + 1) acc2 O2 ∧ StO K b (A1 ++ [Dl]) (O2 ++ [.lst acc2]) (upd H5 Dl (.lst (acc ++ [y]))) ∧ Nxt b A1 O1 H1 (A1 ++ [Dl]) (O2 ++ [.lst acc2]) (upd H5 Dl (.lst (acc ++ [y])))
        else ∃ acc2 O2, I (i + 1) acc2 O2 ∧ StO K b (A1 ++ [Dl]) (O2 ++ [.lst acc2]) H4 ∧ Nxt b A1 O1 H1 (A1 ++ [Dl]) (O2 ++ [.lst acc2]) H4) x s3 rsw r3 fun ts4 σ4 A4 O4 H4 p4 s4 n4 rs4 => ?_
      · have k2 := hg x (wipe σ vs) H3 _ key
        have ww : wipe (wipe σ vs) vs = wipe σ vs := by
          refine List.ext_getElem? fun i => ?_
          rw [wipe_get, wipe_get]
          by_cases hi : i ∈ vs
          · rw [if_pos hi, if_pos hi]
            cases σ[i]? <;> rfl
          · rw [if_neg hi, if_neg hi]
        rw [ww] at k2
        exact k2
      · have n14 := (n'.trans n3).trans n4
        refine p4 b A4 σ4 H4 _ s4 rs4 (fun c A5 O5 H5 p5 s5 n5 => ?_) (fun C fs A' O' H' d z => z.elim)
        have n15 := n14.trans n5
        have prefixA : ∀ {A6 O6 H6}, Nxt b A1 O1 H1 A6 O6 H6 → Nxt b (A1 ++ [Dl]) (O' ++ [.lst acc]) H' A6 O6 H6 → StO K b A6 O6 H6 → O6.length = O1.length + 1 → A6 = A1 ++ [Dl] := fun {A6 O6 H6} n6 m6 s6 l6 => by
          obtain ⟨M, e⟩ := m6.pre
          have l7 := s6.len
          rw [e, List.length_append, List.length_append, s1.len] at l7
          have : M.length = 0 := by
            simp only [List.length_singleton] at l7
            omega
          rw [e, List.length_eq_zero_iff.mp this, List.append_nil]
        cases c with
        | true =>
          refine iteT (p5.1 rfl b A5 σ4 H5 _ s5 (rs4.nxt n5) (fun y v A6 O6 H6 p6 s6 n6 r6 => ?_) (fun C fs A' O' H' d z => z.elim))
          obtain ⟨d, O7, rfl, rfl, hz, hI2⟩ := p6
          have hl7 := hlen _ _ _ hI2
          have eA := prefixA (n'.trans (((n3.trans n4).trans n5).trans n6)) (((n3.trans n4).trans n5).trans n6) s6 (by rw [List.length_append, hl7] <;> rfl)
          subst eA
          obtain ⟨us, h1, h2⟩ := s6.cell A1.length Dl _ atA (at_ hl7)
          obtain ⟨w, e2, rd⟩ := r6
          cases e2
          refine ⟨us, h1, by rw [h2.length]; exact hz, acc ++ [d], O7, hI2, ?_⟩
          obtain ⟨s8, n8⟩ := s6.put (w := .lst (us ++ [v])) (o := .lst (acc ++ [d])) atA (at_ hl7) (fun z => by cases z) (fun z => by cases z) ⟨_, upd_same, h2.append ⟨v, [], rfl, rd, rfl⟩⟩
          have es : (O7 ++ [OD.lst acc]).set A1.length (.lst (acc ++ [d])) = O7 ++ [.lst (acc ++ [d])] := by
            rw [s1.len, ← hl7, List.set_append_right _ _ (Nat.le_refl _), Nat.sub_self]
            exact rfl
          rw [es] at s8 n8
          exact ⟨s8, n'.trans ((((n3.trans n4).trans n5).trans n6).trans n8)⟩
        | false =>
          refine iteF ?_
          obtain ⟨O7, rfl, hI2⟩ := p5.2 rfl
          have hl7 := hlen _ _ _ hI2
          have eA := prefixA (n'.trans ((n3.trans n4).trans n5)) ((n3.trans n4).trans n5) s5 (by rw [List.length_append, hl7] <;> rfl)
          subst eA
          exact ⟨acc, O7, hI2, s5, n'.trans ((n3.trans n4).trans n5)⟩
    · left
      have e : i = n := by omega
      subst e
      refine ⟨c1 hn hf, ?_⟩
      obtain ⟨us, h1, h2⟩ := s'.cell A1.length Dl _ atA (at_ hl)
      obtain ⟨s5, x5⟩ := s'.drop (by rw [hl]; exact s1.len) s1.pre
      have nA : Dl ∉ A1 := fun hm => (List.nodup_append.mp s'.nd).2.2 Dl hm Dl (List.mem_singleton.mpr rfl) rfl
      have nz : Dl ∉ live A1 O' ++ b.Z := fun z => by
        rcases List.mem_append.mp z with z | z
        · obtain ⟨j, o, z1, _, _⟩ := live_mem z
          exact nA (List.mem_of_getElem? z1)
        · have zz := s1.z_at (a := Dl) z
          obtain ⟨o, zz, _⟩ := zz.2
          rw [hD] at zz
          cases zz
      exact kv _ _ A1 O' H' (hd acc O' hI) s5 (n1.trans ⟨⟨[], (List.append_nil A1).symm⟩, n'.ext.trans x5⟩) ⟨_, rfl, Dl, us, rfl, (hid_some.mpr ⟨nz, h1⟩), h2.ex x5⟩) kx
end

mutual
def toP : D → PyData
  | .non => .none
  | .bl b => .bool b
  | .int i => .int i
  | .str x => .str x
  | .lst ds => .list (toPs ds)
  | .tup ds => .tuple (toPs ds)
  | _ => .none
def toPs : List D → List PyData
  | [] => []
  | d :: ds => toP d :: toPs ds
end
mutual
/-- data that can be compared, of depth at most n -/
def pl : Nat → D → Bool
  | _, .non => true
  | _, .bl _ => true
  | _, .int _ => true
  | _, .str x => PyData.canLay0 (.str x)
  | n + 1, .lst ds => pls n ds
  | n + 1, .tup ds => pls n ds
  | _, _ => false
def pls : Nat → List D → Bool
  | _, [] => true
  | n, d :: ds => pl n d && pls n ds
end
mutual
theorem rep_dp {K : PySem.W.Frag} {H : Hp} : ∀ (n : Nat) (d : D) {v : V}, pl n d = true → Rep K H d v → Dp K H v (toP d)
  | _, .non, _, _, r => by rw [show _ = V.non from r]; exact .non
  | _, .bl b, _, _, r => by rw [show _ = V.bl b from r]; exact .bl b
  | _, .int b, _, _, r => by rw [show _ = V.int b from r]; exact .int b
  | _, .str b, _, _, r => by rw [show _ = V.str b from r]; exact .str b
  | n + 1, .lst ds, _, h, r => by
    obtain ⟨a, vs, rfl, h1, h2⟩ := r
    exact .lst (SqL.of h1) (reps_dp n ds h h2)
  | n + 1, .tup ds, _, h, r => by
    obtain ⟨a, vs, rfl, h1, h2⟩ := r
    exact .tup h1 (reps_dp n ds h h2)
  | 0, .lst ds, _, h, _ => by cases h
  | 0, .tup ds, _, h, _ => by cases h
  | 0, .ins _ _, _, h, _ => by cases h
  | _ + 1, .ins _ _, _, h, _ => by cases h
  | 0, .ref _, _, h, _ => by cases h
  | _ + 1, .ref _, _, h, _ => by cases h
  | 0, .ty _, _, h, _ => by cases h
  | _ + 1, .ty _, _, h, _ => by cases h
  | 0, .dic _, _, h, _ => by cases h
  | _ + 1, .dic _, _, h, _ => by cases h
  | 0, .scr _, _, h, _ => by cases h
  | _ + 1, .scr _, _, h, _ => by cases h
  | 0, .exc _ _, _, h, _ => by cases h
  | _ + 1, .exc _ _, _, h, _ => by cases h
theorem reps_dp {K : PySem.W.Frag} {H : Hp} : ∀ (n : Nat) (ds : List D) {vs : List V}, pls n ds = true → RepL K H ds vs → DpAll K H vs (toPs ds)
  | _, [], _, _, r => by rw [show _ = [] from r]; exact .nil
  | n, d :: ds, _, h, r => by
    obtain ⟨v, s, rfl, r1, r2⟩ := r
    have h' : (pl n d && pls n ds) = true := h
    obtain ⟨h1, h2⟩ := Bool.and_eq_true_iff.mp h'
    exact .cons (rep_dp n d h1 r1) (reps_dp n ds h2 r2)
end
mutual
theorem pl_shape : ∀ (n : Nat) (d : D), pl n d = true → (toP d).canLay0 = true ∧ (toP d).depth ≤ n
  | _, .non, _ => ⟨by simp only [toP, PyData.canLay0], by simp only [toP, PyData.depth]; omega⟩
  | _, .bl b, _ => ⟨by simp only [toP, PyData.canLay0], by simp only [toP, PyData.depth]; omega⟩
  | _, .int b, _ => ⟨by simp only [toP, PyData.canLay0], by simp only [toP, PyData.depth]; omega⟩
  | _, .str b, h => ⟨h, by simp only [toP, PyData.depth]; omega⟩
  | n + 1, .lst ds, h => by
    obtain ⟨h1, h2⟩ := pls_shape n ds h
    exact ⟨by simp only [toP, PyData.canLay0]; exact h1, by simp only [toP, PyData.depth]; omega⟩
  | n + 1, .tup ds, h => by
    obtain ⟨h1, h2⟩ := pls_shape n ds h
    exact ⟨by simp only [toP, PyData.canLay0]; exact h1, by simp only [toP, PyData.depth]; omega⟩
  | 0, .lst ds, h => by cases h
  | 0, .tup ds, h => by cases h
  | 0, .ins _ _, h => by cases h
  | _ + 1, .ins _ _, h => by cases h
  | 0, .ref _, h => by cases h
  | _ + 1, .ref _, h => by cases h
  | 0, .ty _, h => by cases h
  | _ + 1, .ty _, h => by cases h
  | 0, .scr _, h => by cases h
  | _ + 1, .scr _, h => by cases h
  | 0, .exc _ _, h => by cases h
  | _ + 1, .exc _ _, h => by cases h
  | 0, .dic _, h => by cases h
  | _ + 1, .dic _, h => by cases h
theorem pls_shape : ∀ (n : Nat) (ds : List D), pls n ds = true → PyData.canLayAll0 (toPs ds) = true ∧ PyData.depthAll (toPs ds) ≤ n
  | n, [], _ => ⟨by simp only [toPs, PyData.canLayAll0], by simp only [toPs, PyData.depthAll]; omega⟩
  | n, d :: ds, h => by
    have h' : (pl n d && pls n ds) = true := h
    obtain ⟨h1, h2⟩ := Bool.and_eq_true_iff.mp h'
    obtain ⟨a1, a2⟩ := pl_shape n d h1
    obtain ⟨b1, b2⟩ := pls_shape n ds h2
    exact ⟨by simp only [toPs, PyData.canLayAll0, a1, b1, Bool.and_self], by simp only [toPs, PyData.depthAll]; omega⟩
end
theorem pl_shaped {d : D} (h : pl 60 d = true) : SeqAt.shaped (toP d) = true := by
  obtain ⟨h1, h2⟩ := pl_shape 60 d h
  unfold SeqAt.shaped
  rw [h1, decide_eq_true (by omega)] <;> rfl
def eqD (d e : D) : Bool := PyData.eqv (toP d) (toP e)
/-- a value, or an owned list, as data -/
def ValD (x : T) (O : List OD) (d : D) : Prop := x = .v d ∨ ∃ i ds, x = .own i ∧ O[i]? = some (.lst ds) ∧ d = .lst ds
theorem valD_v {O : List OD} {d : D} : ValD (.v d) O d := .inl rfl
theorem valD_o {O : List OD} {i : Nat} {ds : List D} (h : O[i]? = some (.lst ds)) : ValD (.own i) O (.lst ds) := .inr ⟨i, ds, rfl, h, rfl⟩
theorem valD_dp {K : PySem.W.Frag} {b : Bs} {A : List Addr} {O : List OD} {H : Hp} {x : T} {d : D} {v : V} (hp : pl 60 d = true) (h : ValD x O d) (s : StO K b A O H) (r : RepT K (Fz b A O H) A x (some v)) : Dp K H v (toP d) := by
  rcases h with rfl | ⟨i, ds, rfl, ho, rfl⟩
  · obtain ⟨_, e, r⟩ := r
    cases e
    exact rep_dp 60 d hp (r.ex hid_ex)
  · obtain ⟨a, ha, e⟩ := r
    cases e
    obtain ⟨vs, h1, h2⟩ := s.cell i a _ ha ho
    have h2' : RepL K H ds vs := h2.ex hid_ex
    exact rep_dp 60 (.lst ds) hp ⟨a, vs, rfl, h1, h2'⟩
section
variable {K : PySem.W.Frag} {W : WX} {O : List OD} {ts : List T} {P : PT'} {X : XX} {te : TE} {tr : TA}
theorem w_eqD {x y : T} {d e : D} (hx : ValD x O d) (hy : ValD y O e) (h1 : pl 60 d = true) (h2 : pl 60 e = true) (k : P (.v (.bl (eqD d e))) O) : WR K (rEqD K) x y O P := fun b A H Q v u s r1 r2 kv =>
  ⟨toP d, toP e, valD_dp h1 hx s r1, valD_dp h2 hy s r2, pl_shaped h1, pl_shaped h2, kv _ _ A O H k s Nxt.refl ⟨_, rfl, rfl⟩⟩
theorem w_neD {x y : T} {d e : D} (hx : ValD x O d) (hy : ValD y O e) (h1 : pl 60 d = true) (h2 : pl 60 e = true) (k : P (.v (.bl (!eqD d e))) O) : WR K (rNeD K) x y O P := fun b A H Q v u s r1 r2 kv =>
  ⟨toP d, toP e, valD_dp h1 hx s r1, valD_dp h2 hy s r2, pl_shaped h1, pl_shaped h2, kv _ _ A O H k s Nxt.refl ⟨_, rfl, rfl⟩⟩
def isNon : D → Bool
  | .non => true
  | _ => false
theorem isNon_v {F : Hp} {d : D} {v : V} (r : Rep K F d v) : decide (v = .non) = isNon d := by
  cases d with
  | non => rw [show v = .non from r] <;> rfl
  | bl b => rw [show v = .bl b from r] <;> rfl
  | int b => rw [show v = .int b from r] <;> rfl
  | str b => rw [show v = .str b from r] <;> rfl
  | ty b => rw [show v = .ty b from r] <;> rfl
  | ref b => rw [show v = .ref b from r] <;> rfl
  | lst ds =>
    obtain ⟨a, vs, rfl, _⟩ := r
    rfl
  | tup ds =>
    obtain ⟨a, vs, rfl, _⟩ := r
    rfl
  | ins C fs =>
    obtain ⟨a, dx, vs, rfl, _⟩ := r
    rfl
  | dic kvs =>
    obtain ⟨a, vs, rfl, _⟩ := r
    rfl
  | scr kvs =>
    obtain ⟨a, rfl, _⟩ := r
    rfl
  | exc C fs =>
    obtain ⟨a, d, vs, rfl, _⟩ := r
    rfl
  | ext R =>
    obtain ⟨a, h0, rfl, _⟩ := r
    rfl
theorem w_isN {d : D} (k : P (.v (.bl (isNon d))) O) : WR K rIsN (.v d) (.v .non) O P := fun b A H Q v u s r1 r2 kv => by
  obtain ⟨_, e1, q1⟩ := r1
  obtain ⟨_, e2, rfl⟩ := r2
  cases e1
  cases e2
  refine ⟨rfl, ?_⟩
  rw [isNon_v q1]
  exact kv _ _ A O H k s Nxt.refl ⟨_, rfl, rfl⟩
theorem w_notN {d : D} (k : P (.v (.bl (!isNon d))) O) : WR K rNotN (.v d) (.v .non) O P := fun b A H Q v u s r1 r2 kv => by
  obtain ⟨_, e1, q1⟩ := r1
  obtain ⟨_, e2, rfl⟩ := r2
  cases e1
  cases e2
  refine ⟨rfl, ?_⟩
  rw [isNon_v q1]
  exact kv _ _ A O H k s Nxt.refl ⟨_, rfl, rfl⟩
theorem cutV_whole {xs : List V} {lo hi : Option Int} (h : HT.sIx xs.length 0 lo = 0 ∧ HT.sIx xs.length xs.length hi = xs.length) : cutV xs lo hi = xs := by
  unfold cutV
  rw [h.1, h.2, Nat.sub_zero, List.drop_zero, List.take_length]
theorem w_slT {tl th : TO} (h : WE K W te O ts (fun x O1 => WO K W tl O1 ts (fun lo O2 => WO K W th O2 ts (fun hi O3 => ∃ ds, x = .v (.tup ds) ∧ P (.v (.tup (cutD ds lo hi))) O3) X) X) X) : WE K W (tSl (rSlA K) te tl th) O ts P X := fun b A σ H Q s rs kv kx =>
  h b A σ H _ s rs (fun x v A1 O1 H1 p1 s1 n1 r1 => p1 b A1 σ H1 _ s1 (rs.nxt n1) (fun lo A2 O2 H2 p2 s2 n2 => p2 b A2 σ H2 _ s2 (rs.nxt (n1.trans n2)) (fun hi A3 O3 H3 p3 s3 n3 => by
    obtain ⟨ds, rfl, p⟩ := p3
    have r3 := r1.nxt (n2.trans n3)
    obtain ⟨_, e3, a, vs, rfl, h1, h2⟩ := r3
    cases e3
    refine ⟨a, vs, rfl, (hid_ex : Ex (Fz b A3 O3 H3) H3).t h1, fun hw => ?_, fun _ p' hp => ?_⟩
    · have c := cut_rep h2 lo hi
      rw [cutV_whole hw] at c
      exact kv _ _ A3 O3 _ p s3 ((n1.trans n2).trans n3) ⟨_, rfl, a, vs, rfl, h1, c⟩
    · obtain ⟨s4, n4, q⟩ := s3.lay hp (.tup (cutV vs lo hi))
      exact kv _ _ A3 O3 _ p s4 (((n1.trans n2).trans n3).trans n4) ⟨_, rfl, p', _, rfl, SqT.of q, (cut_rep h2 lo hi).ex n4.ext⟩) (kx.nxt (n1.trans n2))) (kx.nxt n1)) kx
theorem repTs_app {F : Hp} {A : List Addr} {ys : List T} {us : List V} (q : RepTs K F A ys us) : ∀ {ds : List D} {vs : List V}, RepL K F ds vs → RepTs K F A (ds.map T.v ++ ys) (vs ++ us)
  | [], _, h => by
    rw [show _ = [] from h]
    exact q
  | d :: ds, _, h => by
    obtain ⟨v, r, rfl, h1, h2⟩ := h
    exact ⟨v, r ++ us, rfl, ⟨v, rfl, h1⟩, repTs_app q h2⟩
/-- *xs in a display or a call -/
theorem w_star {PL' : PL} (h : WE K W te O ts (fun x O1 => ∃ ds, (ValD x O1 (.lst ds) ∨ x = .v (.tup ds)) ∧ WA K W tr O1 ts (fun ys O2 => PL' (ds.map T.v ++ ys) O2) X) X) : WA K W (StX.tStar K te tr) O ts PL' X := fun b A σ H Q s rs kl kx =>
  h b A σ H _ s rs (fun x v A1 O1 H1 p1 s1 n1 r1 => by
    obtain ⟨ds, hx, p⟩ := p1
    have key : ∃ a vs, v = .ref a ∧ (SqT K H1 a vs ∨ SqL K H1 a vs) ∧ RepL K (Fz b A1 O1 H1) ds vs := by
      rcases hx with hx | rfl
      · have hx' : LstD x O1 ds := by
          rcases hx with rfl | ⟨i, es, rfl, ho, e⟩
          · exact .inl rfl
          · cases e
            exact .inr ⟨i, rfl, ho⟩
        obtain ⟨a, vs, e, h1, h2⟩ := lstD_at hx' s1 r1
        exact ⟨a, vs, e, .inr h1, h2⟩
      · obtain ⟨a, vs, e, h1, h2⟩ := tupD_at (hid_ex : Ex (Fz b A1 O1 H1) H1) r1
        exact ⟨a, vs, e, .inl h1, h2⟩
    obtain ⟨a, vs, rfl, h1, h2⟩ := key
    refine ⟨a, vs, rfl, h1, p b A1 σ H1 _ s1 (rs.nxt n1) (fun ys us A2 O2 H2 p2 s2 n2 r2 => kl _ _ A2 O2 H2 p2 s2 (n1.trans n2) ?_) (kx.nxt n1)⟩
    exact repTs_app r2 (h2.ex n2.ext)) kx
end
end G

set_option Elab.async false
set_option linter.all false
set_option maxRecDepth 100000
set_option maxHeartbeats 4000000
namespace G
open PySem PySem.Spec PyProof.Rows L2

set_option maxHeartbeats 4000000 in
theorem meets_enum1 {v : Value} {o : Obj} {H : Heap → Prop} (B : Begins v o H) :
    Meets (Builtin.«enumerate.__new__» ⟨[.type "enumerate", v], []⟩) (fun _ R s => H s.heap ∧
      R (.ok (.ret (.ref (s.heap.push o).objs.size))) { s with heap := (s.heap.push o).push { cls := .type "enumerate", data := .fields #[.none, .bool false, .ref s.heap.objs.size, rawInt 0, .none, .none] } }) :=
  .of_wp fun prog w A R s h => by
    obtain ⟨hp, g, d, tk, os⟩ := s
    obtain ⟨h1, h⟩ := h
    have hsub := sub_enumerate
    have go : ∀ {A' : Around} {E : Value → Shared → Prop} {Q : Value → Shared → Prop}, Q (.ref hp.objs.size) ⟨hp.push o, g, d, tk, os⟩ → wpAny (model prog w) A' (pyIter v) Q E ⟨hp, g, d, tk, os⟩ :=
      fun q => B.iter prog w _ _ ⟨hp, g, d, tk, os⟩ _ h1 q
    wp_walk using go
    refine wpAny_stack_any fun st => wpAny_pure ?_
    split
    · rename_i c _ _ _ _ _
      cases (c == Value.type "enumerate") <;> (wp_walk using go; exact ⟨_, rfl, h⟩)
    · wp_walk using go
      exact ⟨_, rfl, h⟩
theorem call_enum1 {prog : Program} {w : World} {A : Around} {E : Value → Shared → Prop} {s : Shared} {v : Value} {o : Obj} {H : Heap → Prop} {Q : Value → Shared → Prop} (B : Begins v o H) (h1 : H s.heap)
    (h : ∀ h', IsEnum h' (s.heap.objs.size + 1) s.heap.objs.size 0 .none → h'.get? s.heap.objs.size = some o → (∀ b u, s.heap.get? b = some u → h'.get? b = some u) → Q (.ref (s.heap.objs.size + 1)) { s with heap := h' }) :
    wpAny (model prog w) A (call (.type "enumerate") [v]) Q E s := by
  refine callType_new F.called_enumerate (by decide) (F.typeCall_enumerate_1 _) (F.newCall_enumerate_1 _) (fun obj => F.args_object_init_2 obj _) F.entry_enumerate_new (meets_enum1 B) ⟨h1, ?_⟩
  have hz : (s.heap.push o).objs.size = s.heap.objs.size + 1 := Heap.size_push ..
  show _ ∧ _
  rw [hz]
  have he : IsEnum ((s.heap.push o).push { cls := .type "enumerate", data := .fields #[.none, .bool false, .ref s.heap.objs.size, rawInt 0, .none, .none] }) (s.heap.objs.size + 1) s.heap.objs.size 0 .none := by
    have q := Heap.get?_push_size (s.heap.push o) (o := { cls := .type "enumerate", data := .fields #[.none, .bool false, .ref s.heap.objs.size, rawInt 0, .none, .none] }) rfl
    rw [hz] at q
    exact q
  exact ⟨⟨_, he, rfl⟩, h _ he (Heap.get?_push_of_some _ (Heap.get?_push_size _ B.free)) fun b u x => Heap.get?_push_of_some _ (Heap.get?_push_of_some _ x)⟩
/-- the tuple at a, each item in a new pair -/
def IteT (K : PySem.W.Frag) (a : Addr) : It where
  go := fun i H => ∃ (xs : List V) (x : V), SqT K H a xs ∧ xs[i]? = some x
  yld := fun i H v H' => ∃ p x, v = .ref p ∧ H p = none ∧ H' = upd H p (.tup [.int (i : Nat), x]) ∧ ∀ xs, SqT K H a xs → xs[i]? = some x
  stop := fun i H => ∃ xs : List V, SqT K H a xs ∧ xs.length = i
theorem turn_enumT {P : Program} {w : World} {K : PySem.W.Frag} {elts : List Expr} {kk : Nat} {tpos : Pos} (a e it : Addr) (hae : a ≠ e) (hai : a ≠ it) :
    Turn P w K (.Tuple elts kk tpos) (IteT K a) [e, it] e (fun i h => (∃ old, IsEnum h e it ((i : Nat) : Int) old) ∧ h.IsTupleIter it a i ∧ e ≠ it) where
  mem := by simp
  obj := fun i h st b hb => by
    obtain ⟨⟨old, he⟩, ⟨o, ho, hc, hd⟩, _⟩ := st
    rcases (show b = e ∨ b = it by simpa using hb) with z | z
    · subst z
      exact ⟨_, he, fun v q => nomatch q⟩
    · subst z
      exact ⟨o, ho, fun v q => by rw [hd] at q; cases q⟩
  keep := fun i h h' st k => by
    obtain ⟨⟨old, he⟩, ⟨o, ho, r⟩, hne⟩ := st
    exact ⟨⟨old, k e (by simp) _ he⟩, ⟨o, k it (by simp) _ ho, r⟩, hne⟩
  item := by
    intro X hP hw hK hc i pins s σ H E I hf st hg
    subst hP hw hK
    obtain ⟨⟨old, he⟩, hit, hne⟩ := st
    obtain ⟨xs, x, hq, hx⟩ := hg
    obtain ⟨its, rv, p, hz⟩ := I.tuple hq
    obtain ⟨u, hu, ru⟩ := rv.get hx
    have hel : e < s.heap.objs.size := Heap.lt_size he
    have hil : it < s.heap.objs.size := by
      obtain ⟨_, q, _⟩ := hit
      exact Heap.lt_size q
    have hi : i < its.toArray.size := by
      rw [List.size_toArray]
      exact (List.getElem?_eq_some_iff.mp hu).1
    have D := Draws.tuple (prog := X.prog) (w := X.w) (A := X.A.in1) (I.ok.hd hc) it a hai its.toArray
    refine wpAny_pyNext_enum_itemC D he ⟨hit, p⟩ hi hne (by simp only [List.mem_cons, List.not_mem_nil, or_false, not_or]; exact ⟨hne, Ne.symm hae⟩) fun x' h' tk hx' ho hst hT hsz hk => ?_
    have ex : x' = u := by
      have q : its.toArray[i]? = some x' := hx'
      rw [List.getElem?_toArray, hu] at q
      exact (Option.some.inj q).symm
    subst ex
    refine ⟨_, rfl, wpAny_letOwnedTupleGo_enum (s := { s with heap := h', toks := tk + 1 }) ho fun h'' he' sb => ?_⟩
    have hT2 : h''.get? s.heap.objs.size = some { cls := .type "tuple", data := .seq #[.int i tk, x'] } := (sb.2 _ (Nat.ne_of_gt hel)).trans hT
    have new : ObjOk X.prog X.w (upd H s.heap.objs.size (.tup [.int (i : Nat), x])) h'' s.heap.objs.size (.tup [.int (i : Nat), x]) :=
      ⟨by show 2 ≤ sizeLine; decide, [.int i tk, x'], .cons ⟨_, rfl⟩ (.cons ru .nil), ⟨_, hT2, rfl, _, rfl⟩⟩
    have I1 : Inv X pins σ (upd H s.heap.objs.size (.tup [.int (i : Nat), x])) { s with heap := h'', toks := tk + 1 } :=
      I.turnedNew (ch := [e, it]) (fun b ob hb q => (sb.2 b (fun z => hb (by simp [z]))).trans (hk b ob (fun z => hb (by simp [z])) (fun z => hb (by simp [z])) q)) hf (Nat.le_refl _) new
    refine ⟨.ref s.heap.objs.size, _, I1, rfl, ⟨_, x, rfl, I.hok.fresh (Nat.le_refl _), rfl, fun ys hy => by rw [I.tuple_inj hy hq]; exact hx⟩, ⟨⟨x', ?_⟩, ?_, hne⟩, fun b hb => ?_⟩
    · have e1 : ((i + 1 : Nat) : Int) = (i : Int) + 1 := by omega
      rw [e1]
      exact he'
    · obtain ⟨o, ho2, r⟩ := hst.1
      exact ⟨o, (sb.2 it (Ne.symm hne)).trans ho2, r⟩
    · have hb' : b < s.heap.objs.size := by
        rcases (show b = e ∨ b = it by simpa using hb) with z | z
        · rw [z]; exact hel
        · rw [z]; exact hil
      rw [upd_ne (Nat.ne_of_lt hb')]
      exact (hf b hb).1
  done := by
    intro X hP hw hK hc i pins s σ H E I hf st hg
    subst hP hw hK
    obtain ⟨⟨old, he⟩, hit, hne⟩ := st
    obtain ⟨xs, hq, hx⟩ := hg
    obtain ⟨its, rv, p, hz⟩ := I.tuple hq
    obtain ⟨f0, f1, f2, f3, f4, f5⟩ := hf it (by simp)
    have hl := rv.length
    have D := Draws.tuple (prog := X.prog) (w := X.w) (A := X.A.in1) (I.ok.hd hc) it a hai its.toArray
    have hii : i = its.toArray.size := by
      rw [List.size_toArray]
      omega
    subst hii
    exact wpAny_pyNext_enum_endD D he ⟨hit, p⟩ fun h' eb => ⟨rfl, I.turned (t' := s.toks) (fun b o hb q => eb b o hb q) f0 f1 f3 f4 f5⟩
  self := fun A i s Q E st h => let ⟨⟨_, he⟩, _⟩ := st; wpAny_pyIter_enum he h

def iEnumT (K : PySem.W.Frag) (ta : TA) : TI := fun σ H R => ta σ H fun vs H1 => ∃ a xs, vs = [.ref a] ∧ SqT K H1 a xs ∧ R (IteT K a) H1
theorem pi_enumT {X : Cx} {e : Expr} {ta : TA} {p pos tpos : Pos} {elts : List Expr} {kk : Nat} (hg : Gl X "enumerate") (hm : X.mg "enumerate" = none) (ha : PA X [e] ta) (hs : starEach [e] X.env = [(false, eval e X.env)] := by rfl) :
    PI X (.Tuple elts kk tpos) (.Call (.Name "enumerate" p) [e] [] pos) (iEnumT X.K ta) := by
  refine ⟨fun pins s σ H R I h => ?_⟩
  refine Call_ (ld_blt I hg hm boot_enumerate (PyProof.Rows.callWith_type1 (thn (ha.run pos pins s σ H _ I h) fun us s1 ⟨vs, H1, I1, r1, q1⟩ => ?_) hs rfl))
  obtain ⟨a, xs, ex, hq, q⟩ := q1
  subst ex
  obtain rfl : us = [Value.ref a] := Vals.ref1 r1
  obtain ⟨its, rv, p', hz⟩ := I1.tuple hq
  have la : a < s1.heap.objs.size := by
    obtain ⟨o, ho, _⟩ := p'
    exact Heap.lt_size ho
  refine call_enum1 (begins_tuple a its.toArray) p' fun h' he hit hk => wpAny_pyIter_enum he ?_
  have I2 : Inv X pins σ H1 { s1 with heap := h' } := I1.kept (t' := s1.toks) hk
  refine ⟨s1.heap.objs.size + 1, [s1.heap.objs.size + 1, s1.heap.objs.size], _, _, H1, rfl, I2, turn_enumT a (s1.heap.objs.size + 1) s1.heap.objs.size (Nat.ne_of_lt (Nat.lt_succ_of_lt la)) (Nat.ne_of_lt la), ⟨⟨.none, he⟩, ⟨_, hit, rfl, rfl⟩, Nat.succ_ne_self _⟩, fun b hb => ?_, q⟩
  have hle : s1.heap.objs.size ≤ b := by
    rcases (show b = s1.heap.objs.size + 1 ∨ b = s1.heap.objs.size by simpa using hb) with z | z
    · rw [z]; exact Nat.le_add_right _ _
    · rw [z]; exact Nat.le_refl _
  exact I1.fpOk hle (I1.hok.fresh hle)

section
variable {K : PySem.W.Frag} {W : WX} {O : List OD} {ts : List T} {X : XX} {ta : TA}
def itE (ds : List D) : Nat → Option T := fun i => (ds[i]?).map fun d => T.v (.tup [.int (i : Nat), d])
theorem itE_none {ds : List D} {i : Nat} (h : itE ds i = none) : ds.length ≤ i := by
  unfold itE at h
  cases q : ds[i]? with
  | none => exact List.getElem?_eq_none_iff.mp q
  | some d =>
    rw [q] at h
    cases h
theorem itE_some {ds : List D} {i : Nat} {t : T} (h : itE ds i = some t) : ∃ d, ds[i]? = some d ∧ t = .v (.tup [.int (i : Nat), d]) := by
  unfold itE at h
  cases q : ds[i]? with
  | none =>
    rw [q] at h
    cases h
  | some d =>
    rw [q] at h
    exact ⟨d, rfl, (Option.some.inj h).symm⟩
theorem itE_len {ds : List D} {i : Nat} (h : itE ds i = none) (hj : ∀ j, j < i → itE ds j ≠ none) : ds.length = i := by
  have h1 := itE_none h
  by_cases e : ds.length = i
  · exact e
  · exact absurd (by unfold itE; rw [List.getElem?_eq_none (Nat.le_refl _)] <;> rfl) (hj ds.length (by omega))
theorem pair_laid {b : Bs} {A : List Addr} {H : Hp} {p : Addr} {x y : V} {d e : D} (s : StO K b A O H) (hp : H p = none) (r1 : Rep K (Fz b A O H) d x) (r2 : Rep K (Fz b A O H) e y) :
    StO K b A O (upd H p (.tup [x, y])) ∧ Nxt b A O H A O (upd H p (.tup [x, y])) ∧ RepT K (Fz b A O (upd H p (.tup [x, y]))) A (.v (.tup [d, e])) (some (.ref p)) := by
  obtain ⟨s2, n2, q⟩ := s.lay hp (.tup [x, y])
  exact ⟨s2, n2, _, rfl, p, _, rfl, SqT.of q, x, [y], rfl, r1.ex n2.ext, y, [], rfl, r2.ex n2.ext, rfl⟩
theorem i_enumT {S : (Nat → Option T) → List OD → Prop} (h : WA K W ta O ts (fun xs O' => ∃ ds, xs = [.v (.tup ds)] ∧ S (itE ds) O') X) : WI K W (iEnumT K ta) O ts S X := fun b A σ H R s rs k kx =>
  h b A σ H _ s rs (fun xs vs A' O' H' p s' n' r' => by
    obtain ⟨ds, rfl, q⟩ := p
    obtain ⟨v, _, rfl, ⟨_, e, a, us, rfl, h1, h2⟩, rfl⟩ := r'
    cases e
    refine ⟨a, us, rfl, hid_ex.t h1, k _ _ A' O' H' q s' n' fun i A2 O2 H2 s2 n2 => ⟨fun hn hj => ⟨us, hid_ex.t (n2.ext.t h1), by rw [h2.length]; exact itE_len hn hj⟩, fun t ht => ?_⟩⟩
    obtain ⟨d, e1, rfl⟩ := itE_some ht
    obtain ⟨v, e2, r⟩ := h2.get e1
    have h2' : SqT K H2 a us := hid_ex.t (n2.ext.t h1)
    refine ⟨⟨us, v, h2', e2⟩, fun x H3 y => ?_⟩
    obtain ⟨p, w, rfl, hp, rfl, y⟩ := y
    have e4 : w = v := Option.some.inj ((y us h2').symm.trans e2)
    subst e4
    exact pair_laid s2 hp (d := .int (i : Nat)) (by exact rfl) (r.ex n2.ext)) kx
/-- zip of two lists, of two tuples -/
def itZ (ds es : List D) : Nat → Option T := fun i => match ds[i]?, es[i]? with
  | some d, some e => some (.v (.tup [d, e]))
  | _, _ => none
theorem itZ_none {ds es : List D} {i : Nat} (h : itZ ds es i = none) : ds.length ≤ i ∨ es.length ≤ i := by
  unfold itZ at h
  cases q : ds[i]? with
  | none => exact .inl (List.getElem?_eq_none_iff.mp q)
  | some d =>
    cases q2 : es[i]? with
    | none => exact .inr (List.getElem?_eq_none_iff.mp q2)
    | some e =>
      rw [q, q2] at h
      cases h
theorem itZ_some {ds es : List D} {i : Nat} {t : T} (h : itZ ds es i = some t) : ∃ d e, ds[i]? = some d ∧ es[i]? = some e ∧ t = .v (.tup [d, e]) := by
  unfold itZ at h
  cases q : ds[i]? with
  | none =>
    rw [q] at h
    cases h
  | some d =>
    cases q2 : es[i]? with
    | none =>
      rw [q, q2] at h
      cases h
    | some e =>
      rw [q, q2] at h
      exact ⟨d, e, rfl, rfl, (Option.some.inj h).symm⟩
theorem i_zipL {S : (Nat → Option T) → List OD → Prop} (h : WA K W ta O ts (fun xs O' => ∃ ds es, xs = [.v (.lst ds), .v (.lst es)] ∧ S (itZ ds es) O') X) : WI K W (RZ.iZipA K ta) O ts S X := fun b A σ H R s rs k kx =>
  h b A σ H _ s rs (fun xs vs A' O' H' p s' n' r' => by
    obtain ⟨ds, es, rfl, q⟩ := p
    obtain ⟨v, _, rfl, ⟨_, e, a, us, rfl, h1, h2⟩, v', _, rfl, ⟨_, e', c, ws, rfl, h3, h4⟩, rfl⟩ := r'
    replace h1 := SqL.of (K := K) h1
    replace h3 := SqL.of (K := K) h3
    cases e
    cases e'
    refine ⟨a, c, us, ws, rfl, .inl ⟨hid_ex.l h1, hid_ex.l h3, k _ _ A' O' H' q s' n' fun i A2 O2 H2 s2 n2 => ⟨fun hn _ => ⟨us, ws, hid_ex.l (n2.ext.l h1), hid_ex.l (n2.ext.l h3), by rw [h2.length, h4.length]; exact itZ_none hn⟩, fun t ht => ?_⟩⟩⟩
    obtain ⟨d, e, e1, e2, rfl⟩ := itZ_some ht
    obtain ⟨v, e3, r3⟩ := h2.get e1
    obtain ⟨v', e4, r4⟩ := h4.get e2
    have k1 : SqL K H2 a us := hid_ex.l (n2.ext.l h1)
    have k2 : SqL K H2 c ws := hid_ex.l (n2.ext.l h3)
    refine ⟨⟨us, ws, v, v', k1, k2, e3, e4⟩, fun x H3 y => ?_⟩
    obtain ⟨p, w, w', rfl, hp, rfl, y1, y2⟩ := y
    have e5 : w = v := Option.some.inj ((y1 us k1).symm.trans e3)
    have e6 : w' = v' := Option.some.inj ((y2 ws k2).symm.trans e4)
    subst e5 e6
    exact pair_laid s2 hp (r3.ex n2.ext) (r4.ex n2.ext)) kx
theorem s_par3 {E : DE} {i j l : Nat} (h : WA K W ta O ts (fun xs O' => ∃ x y z, xs = [x, y, z] ∧ E.nx (((ts.set i x).set j y).set l z) O') (fun C fs O' => E.xe C fs ts O')) : WS K W (tPar3 i j l ta) O ts E := fun b A σ H D s rs ks =>
  h b A σ H _ s rs (fun xs vs A' O' H' p s' n' r' => by
    obtain ⟨x, y, z, rfl, q⟩ := p
    obtain ⟨v, _, rfl, r1, w', _, rfl, r2, w2, _, rfl, r3, rfl⟩ := r'
    exact ⟨v, w', w2, rfl, ks.nx _ _ A' O' H' q s' n' ((((rs.nxt n').set r1 i).set r2 j).set r3 l)⟩) (ks.kx rs)
/-- what of the text an own class must have that isinstance may look at its instances -/
structure InsTy (K : PySem.W.Frag) (C : Addr) : Prop where
  cl : Cls K C
  ha : PySem.W.findIn K (.ref C) "__class__" = some (some (.builtin "object.__class__"))
  hn : PySem.W.specialIn K (.builtin "object.__class__") "__get__" = some (some (.builtin "getset_descriptor.__get__"))
  ht : PySem.W.takesIn K (.builtin "object.__class__") = some true
  hm : PySem.W.mroIn K C (.type "object") = some true
inductive TyD (K : PySem.W.Frag) : D → Value → Prop where
  | non : TyD K .non (.type "NoneType")
  | bl (b : Bool) : TyD K (.bl b) (.type "bool")
  | int (i : Int) : TyD K (.int i) (.type "int")
  | str (x : Str) : TyD K (.str x) (.type "str")
  | lst (ds : List D) : TyD K (.lst ds) (.type "list")
  | tup (ds : List D) : TyD K (.tup ds) (.type "tuple")
  | dic (kvs : List (Key × D)) : TyD K (.dic kvs) (.type "dict")
  | ins (C : Addr) (fs : List (Str × D)) (h : InsTy K C) : TyD K (.ins C fs) (.ref C)
theorem sqL_ty {H : Hp} {a : Addr} {vs : List V} (h : SqL K H a vs) : TyX K H (.ref a) (.type "list") := by
  rcases h with (h | ⟨o, h⟩) | h
  · exact .base (.lst h)
  · exact .base (.frz h)
  · obtain ⟨o, its, n, h1, h2, _⟩ := h
    exact .kList h1 h2
theorem sqT_ty {H : Hp} {a : Addr} {vs : List V} (h : SqT K H a vs) : TyX K H (.ref a) (.type "tuple") := by
  rcases h with (h | ⟨o, h⟩) | h
  · exact .base (.tup h)
  · exact .fTuple h
  · obtain ⟨o, its, n, h1, h2, _⟩ := h
    exact .kTuple h1 h2
theorem TyD.tyX {H : Hp} {d : D} {t : Value} {v : V} (h : TyD K d t) (r : Rep K H d v) : TyX K H v t := by
  cases h with
  | non => rw [show v = .non from r]; exact .base .non
  | bl b => rw [show v = .bl b from r]; exact .base (.bl b)
  | int i => rw [show v = .int i from r]; exact .base (.int i)
  | str x => rw [show v = .str x from r]; exact .base (.str x)
  | lst ds =>
    obtain ⟨a, vs, rfl, h1, _⟩ := r
    exact sqL_ty (SqL.of h1)
  | tup ds =>
    obtain ⟨a, vs, rfl, h1, _⟩ := r
    exact sqT_ty h1
  | dic kvs =>
    obtain ⟨a, vs, rfl, h1, _⟩ := r
    exact .base (.dK h1)
  | ins C fs h =>
    obtain ⟨a, dx, vs, rfl, h1, _⟩ := r
    exact .base (.ins h1 h.cl h.ha h.hn h.ht h.hm)
/-- a class as data -/
inductive ClsD : D → Value → Prop where
  | ty (n : String) : ClsD (.ty n) (.type n)
  | own (C : Addr) : ClsD (.ref C) (.ref C)
theorem ClsD.cls {H : Hp} {d : D} {u : Value} {v : V} (h : ClsD d u) (r : Rep K H d v) : ClsV v u := by
  cases h with
  | ty n => rw [show v = .ty n from r]; exact .ty n
  | own C => rw [show v = .ref C from r]; exact .own C
theorem c_isi {P : PT'} {d c : D} {t u : Value} {b : Bool} (ht : TyD K d t) (hc : ClsD c u) (e : PySem.W.kitOne K t u = some b) (k : P (.v (.bl b)) O) : WC K (rIsi K) [.v d, .v c] O P := fun b' A H Q vs s r kv => by
  obtain ⟨v, _, rfl, ⟨_, e1, r1⟩, w, _, rfl, ⟨_, e2, r2⟩, rfl⟩ := r
  cases e1
  cases e2
  exact ⟨v, w, t, u, b, rfl, hc.cls r2, ht.tyX (r1.ex hid_ex), e, kv _ _ A O H k s Nxt.refl ⟨_, rfl, rfl⟩⟩
/-- isinstance(x, (c1, c2)): the tuple as it can be read -/
def rIsiS (K : PySem.W.Frag) : List V → Hp → VK → Prop := fun xs H Q => ∃ (x : V) (tp : Addr) (cs : List V) (t : Value) (us : List Value) (b : Bool), xs = [x, .ref tp] ∧ SqT K H tp cs ∧ Paired ClsV cs us ∧ TyX K H x t ∧ PySem.W.kitAny K t us = some b ∧ Q (.bl b) H
theorem call_isiS {X : Cx} : CallR X (.builtin "isinstance") (rIsiS X.K) := by
  intro pins s σ H xs us Q I r h
  obtain ⟨x, tp, cs, t, ws, b, rfl, hT, k, ty, e, q⟩ := h
  obtain ⟨u1, u2, rfl, r1, r2⟩ := vals2 r
  obtain rfl : u2 = Value.ref tp := r2
  obtain ⟨P, Z, p, hx⟩ := kit_of I r1 ty
  obtain ⟨its, rv, ⟨o, h1, h2, n, h3⟩, _⟩ := I.tuple hT
  have e3 := ClsV.all k rv
  subst e3
  obtain ⟨oc, od, dt, sl⟩ := o
  simp only at h2 h3
  subst h2 h3
  exact PySem.W.kia_tup Z I.kIn p h1 e hx fun tk => ⟨.bl b, H, I.tok tk, rfl, q⟩
theorem clsDs {H : Hp} : ∀ {ds : List D} {us : List Value} {vs : List V}, Paired ClsD ds us → RepL K H ds vs → Paired ClsV vs us
  | [], _, _, .nil, r => by
    rw [show _ = [] from r]
    exact .nil
  | d :: ds, _, _, .cons h t, r => by
    obtain ⟨v, r, rfl, h1, h2⟩ := r
    exact .cons (h.cls h1) (clsDs t h2)
theorem c_isiS {P : PT'} {d : D} {cs : List D} {t : Value} {us : List Value} {b : Bool} (ht : TyD K d t) (hc : Paired ClsD cs us) (e : PySem.W.kitAny K t us = some b) (k : P (.v (.bl b)) O) : WC K (rIsiS K) [.v d, .v (.tup cs)] O P := fun b' A H Q vs s r kv => by
  obtain ⟨v, _, rfl, ⟨_, e1, r1⟩, w, _, rfl, ⟨_, e2, a, xs, rfl, h1, h2⟩, rfl⟩ := r
  cases e1
  cases e2
  exact ⟨v, a, xs, t, us, b, rfl, (hid_ex : Ex (Fz b' A O H) H).t h1, clsDs hc h2, ht.tyX (r1.ex hid_ex), e, kv _ _ A O H k s Nxt.refl ⟨_, rfl, rfl⟩⟩
end
end G

set_option Elab.async false
set_option linter.all false
set_option maxRecDepth 100000
set_option maxHeartbeats 4000000
namespace G
open PySem PySem.Spec PyProof.Rows L2
section
variable {K : PySem.W.Frag} {W : WX} {O : List OD} {ts : List T} {P : PT'} {X : XX}
theorem w_add {i j : Int} (k : P (.v (.int (i + j))) O) : WR K (rI0 fun i j => .int (i + j)) (.v (.int i)) (.v (.int j)) O P := w_I0 (d := .int (i + j)) (fun _ => rfl) k
theorem w_sub {i j : Int} (k : P (.v (.int (i - j))) O) : WR K (rI0 fun i j => .int (i - j)) (.v (.int i)) (.v (.int j)) O P := w_I0 (d := .int (i - j)) (fun _ => rfl) k
theorem w_lt {i j : Int} (k : P (.v (.bl (decide (i < j)))) O) : WR K (rI0 fun i j => .bl (decide (i < j))) (.v (.int i)) (.v (.int j)) O P := w_I0 (d := .bl (decide (i < j))) (fun _ => rfl) k
theorem w_le {i j : Int} (k : P (.v (.bl (decide (i ≤ j)))) O) : WR K (rI0 fun i j => .bl (decide (i ≤ j))) (.v (.int i)) (.v (.int j)) O P := w_I0 (d := .bl (decide (i ≤ j))) (fun _ => rfl) k
theorem w_gt {i j : Int} (k : P (.v (.bl (decide (j < i)))) O) : WR K (rI0 fun i j => .bl (decide (j < i))) (.v (.int i)) (.v (.int j)) O P := w_I0 (d := .bl (decide (j < i))) (fun _ => rfl) k
theorem w_ge {i j : Int} (k : P (.v (.bl (decide (j ≤ i)))) O) : WR K (rI0 fun i j => .bl (decide (j ≤ i))) (.v (.int i)) (.v (.int j)) O P := w_I0 (d := .bl (decide (j ≤ i))) (fun _ => rfl) k
theorem w_mul {i j : Int} (h : CMul i j) (k : P (.v (.int (i * j))) O) : WR K (rI CMul fun i j => .int (i * j)) (.v (.int i)) (.v (.int j)) O P := w_I (d := .int (i * j)) h (fun _ => rfl) k
theorem w_mulW {i j : Int} (h : CMulW i j) (k : P (.v (.int (i * j))) O) : WR K (rI CMulW fun i j => .int (i * j)) (.v (.int i)) (.v (.int j)) O P := w_I (d := .int (i * j)) h (fun _ => rfl) k
theorem w_fdivW {i j : Int} (h : CDivW i j) (k : P (.v (.int (i / j))) O) : WR K (rI CDivW fun i j => .int (i / j)) (.v (.int i)) (.v (.int j)) O P := w_I (d := .int (i / j)) h (fun _ => rfl) k
theorem w_mod {i j : Int} (h : 0 < j) (k : P (.v (.int (i % j))) O) : WR K (rI (fun _ j => 0 < j) fun i j => .int (i % j)) (.v (.int i)) (.v (.int j)) O P := w_I (d := .int (i % j)) h (fun _ => rfl) k
theorem w_pow {i j : Int} (h : CPow i j) (k : P (.v (.int (i ^ j.toNat))) O) : WR K (rI CPow fun i j => .int (i ^ j.toNat)) (.v (.int i)) (.v (.int j)) O P := w_I (d := .int (i ^ j.toNat)) h (fun _ => rfl) k
theorem w_neg {i : Int} (k : P (.v (.int (-i))) O) : WU K (rU fun i => .int (-i)) (.v (.int i)) O P := w_Ui (d := .int (-i)) (fun _ => rfl) k
theorem brF {p : Prop} [Decidable p] {A B : Prop} (hp : ¬ p) (h : B) : (decide p = true → A) ∧ (decide p = false → B) := ⟨fun z => absurd (of_decide_eq_true z) hp, fun _ => h⟩
theorem br {p : Prop} [Decidable p] {A B : Prop} (h1 : p → A) (h2 : ¬ p → B) : (decide p = true → A) ∧ (decide p = false → B) := ⟨fun z => h1 (of_decide_eq_true z), fun z => h2 (of_decide_eq_false z)⟩
theorem nbr {p : Prop} [Decidable p] {A B : Prop} (h1 : ¬ p → A) (h2 : p → B) : ((!decide p) = true → A) ∧ ((!decide p) = false → B) := ⟨fun z => h1 fun hp => (by rw [decide_eq_true hp] at z; cases z), fun z => h2 (Decidable.byContradiction fun hp => (by rw [decide_eq_false hp] at z; cases z))⟩
theorem bT {c : Bool} {A B : Prop} (hp : c = true) (h : A) : (c = true → A) ∧ (c = false → B) := ⟨fun _ => h, fun z => by rw [hp] at z; cases z⟩
theorem bF {c : Bool} {A B : Prop} (hp : c = false) (h : B) : (c = true → A) ∧ (c = false → B) := ⟨fun z => (by rw [hp] at z; cases z), fun _ => h⟩
theorem bnT {c : Bool} {A B : Prop} (hp : c = false) (h : A) : ((!c) = true → A) ∧ ((!c) = false → B) := ⟨fun _ => h, fun z => by rw [hp] at z; cases z⟩
theorem bnF {c : Bool} {A B : Prop} (hp : c = true) (h : B) : ((!c) = true → A) ∧ ((!c) = false → B) := ⟨fun z => (by rw [hp] at z; cases z), fun _ => h⟩
theorem tt_ {A B : Prop} (h : A) : (true = true → A) ∧ (true = false → B) := ⟨fun _ => h, fun z => (nomatch z)⟩
theorem ff_ {A B : Prop} (h : B) : (false = true → A) ∧ (false = false → B) := ⟨fun z => (nomatch z), fun _ => h⟩
theorem ntt_ {A B : Prop} (h : B) : ((!true) = true → A) ∧ ((!true) = false → B) := ⟨fun z => (nomatch z), fun _ => h⟩
theorem nff_ {A B : Prop} (h : A) : ((!false) = true → A) ∧ ((!false) = false → B) := ⟨fun _ => h, fun z => (nomatch z)⟩
end
def LkF (K : PySem.W.Frag) (f : Addr) (fd : FuncData) : Prop := ∃ oc od osl, K.lookup f = some ⟨oc, od, .func fd, osl⟩
theorem lk_of {K : PySem.W.Frag} {x qual : Str} {params : Arguments} {body : List Stmt} {scope : Scope} {dvs : List V} {kws : List (Str × V)} {f : Addr} {fd : FuncData} (F : FunD K x qual params body scope dvs kws f fd) : LkF K f fd := by
  obtain ⟨oc, od, dV, kV, doc, pm, an, cdv, ct, osl, rfl, lk, _⟩ := F.ex
  exact ⟨oc, od, osl, lk⟩
/-- a def by its promise over data -/
def Fn (P : Program) (w : World) (K : PySem.W.Frag) (mg : Str → Option Value) (base : Heap) (k : Nat) (f : Addr) (ps : List Str) (sp : SpD) : Prop :=
  ∃ fd, FnOk P w K mg base (L2.CX P w) k f fd ps (lift K sp) ∧ Binds K fd ps [] ∧ PySem.W.keepIn K (.ref f) = true ∧ LkF K f fd
theorem natAbs_lt {i : Int} {n : Nat} (h0 : -(2 ^ n : Int) < i) (h1 : i < 2 ^ n) : i.natAbs < 2 ^ n := by
  have e : ((2 ^ n : Nat) : Int) = (2 ^ n : Int) := by simp
  omega
theorem mulW_ok {i j : Int} (hi : -(2 ^ 250 : Int) < i ∧ i < 2 ^ 250) (hj : -(2 ^ 250 : Int) < j ∧ j < 2 ^ 250) : CMulW i j :=
  wide_mul (a := 250) (b := 250) (natAbs_lt hi.1 hi.2) (natAbs_lt hj.1 hj.2) (by omega) (by omega) (by omega)
theorem divW_ok {i j : Int} (h : 0 < j) (hj : j < 2 ^ 250) : CDivW i j := by
  have h2 : -(2 ^ 250 : Int) < j := Int.lt_trans (by decide) h
  exact wide_div (b := 250) h (natAbs_lt h2 hj) (by omega) (by omega)
/-- whether a value is an integer and no bool, as isinstance tells it -/
def IntQ (K : PySem.W.Frag) (d : D) (b : Bool) : Prop := ∃ t b1 b2, TyD K d t ∧ PySem.W.kitOne K t (.type "int") = some b1 ∧ PySem.W.kitOne K t (.type "bool") = some b2 ∧ b = (b1 && !b2)
theorem intQ_int {K : PySem.W.Frag} {n : Int} : IntQ K (.int n) true := ⟨_, true, false, .int n, kit_ty (by decide +kernel), kit_ty (by decide +kernel), rfl⟩
end G

set_option Elab.async false
set_option linter.all false
set_option maxRecDepth 100000
set_option maxHeartbeats 4000000
namespace G
open PySem PySem.Spec PyProof.Rows L2

def nums (ns : List Int) : List D := ns.map D.int
/-- a pen: its cells, where it is, what is left of a great cell; n: how often it has drawn at most -/
def Pen (n : Nat) (p : List D) : Prop := ∃ (cs : List Int) (at_ g : Int), p = [.lst (nums cs), .int at_, .int g] ∧ 0 ≤ at_ ∧ at_ ≤ n ∧ 0 ≤ g
theorem Pen.mono {n m : Nat} {p : List D} (h : Pen n p) (k : n ≤ m) : Pen m p := by
  obtain ⟨cs, a, g, e, h1, h2, h3⟩ := h
  exact ⟨cs, a, g, e, h1, by omega, h3⟩
/-- what making a pen does: the script's cut, its copy, the pen -/
def penSp (K : PySem.W.Frag) (n : Int) : Sp := fun vs H Q _ => ∃ (a : Addr) (cs : List Int), vs = [.ref a] ∧ SqL K H a (cs.map V.int) ∧
  ∀ s l p, H s = none → upd H s (.lst (cutV (cs.map V.int) none (some n))) l = none → upd (upd H s (.lst (cutV (cs.map V.int) none (some n)))) l (.lst (cutV (cs.map V.int) none (some n))) p = none →
    Q (.ref p) (upd (upd (upd H s (.lst (cutV (cs.map V.int) none (some n)))) l (.lst (cutV (cs.map V.int) none (some n)))) p (.lst [.ref l, .int 0, .int 0]))
theorem penSp_len {K : PySem.W.Frag} {n : Int} {vs H Q E} (h : penSp K n vs H Q E) : vs.length = 1 := by
  obtain ⟨a, cs, rfl, _⟩ := h
  rfl
theorem cut_ints {cs : List Int} {n : Int} : ∃ ds : List Int, cutV (cs.map V.int) none (some n) = List.map V.int ds := ⟨(cs.drop (HT.sIx (cs.map V.int).length 0 none)).take (HT.sIx (cs.map V.int).length (cs.map V.int).length (some n) - HT.sIx (cs.map V.int).length 0 none), by
  unfold cutV
  rw [List.map_take, List.map_drop]⟩
/-- a def by its promise as it is -/
def FnRaw (P : Program) (w : World) (K : PySem.W.Frag) (mg : Str → Option Value) (base : Heap) (k : Nat) (f : Addr) (ps : List Str) (sp : Sp) : Prop :=
  ∃ fd, FnOk P w K mg base (L2.CX P w) k f fd ps sp ∧ Binds K fd ps [] ∧ PySem.W.keepIn K (.ref f) = true ∧ LkF K f fd
section
variable {K : PySem.W.Frag} {W : WX} {O : List OD} {ts : List T} {P : PT'} {X : XX} {te ta : TE} {tr : TA} {E : XK}
theorem repL_ints {F : Hp} : ∀ {ns : List Int}, RepL K F (nums ns) (ns.map V.int)
  | [] => rfl
  | n :: ns => ⟨_, _, rfl, rfl, repL_ints (ns := ns)⟩
theorem w_pen {n : Int} (h : WA K W tr O ts (fun xs O1 => ∃ cs, xs = [.v (.scr cs)] ∧ ∀ p, Pen 0 p → P (.own O1.length) (O1 ++ [.lst p])) X) : WE K W (tCall (penSp K n) [] E tr) O ts P X := fun b A σ H Q s rs kv kx =>
  h b A σ H _ s rs (fun xs vs A1 O1 H1 p1 s1 n1 r1 => by
    obtain ⟨cs, rfl, p⟩ := p1
    rw [List.append_nil]
    obtain ⟨v, _, rfl, ⟨_, e, a, rfl, h1⟩, rfl⟩ := r1
    cases e
    refine ⟨a, cs, rfl, hid_ex.l h1, fun s0 l q hs hl hq => ?_⟩
    obtain ⟨ds, ed⟩ := cut_ints (cs := cs) (n := n)
    rw [ed] at hl hq ⊢
    obtain ⟨s2, n2, _⟩ := s1.lay hs (.lst (List.map V.int ds))
    obtain ⟨s3, n3, f3⟩ := s2.lay hl (.lst (List.map V.int ds))
    obtain ⟨s4, n4⟩ := s3.own (u := .lst [.ref l, .int 0, .int 0]) (o := .lst [.lst (nums ds), .int 0, .int 0]) hq ⟨_, upd_same, _, _, rfl, ⟨l, _, rfl, f3, repL_ints⟩, _, _, rfl, rfl, _, _, rfl, rfl, rfl⟩
    refine kv _ _ _ _ _ (p _ ⟨ds, 0, 0, rfl, by omega, by omega, by omega⟩) s4 (((n1.trans n2).trans n3).trans n4) ⟨q, ?_, rfl⟩
    rw [← s3.len, List.getElem?_append_right (Nat.le_refl _), Nat.sub_self]
    exact rfl) kx
end
def sp_draw (K : PySem.W.Frag) : SpD := fun ts O P _ => ∃ (n : Nat) (p : List D) (m : Int), ts = [.own 0, .v (.int m)] ∧ O = [.lst p] ∧ Pen n p ∧ n < 1000000 ∧ 1 ≤ m ∧ m < 2 ^ 200 ∧ ∀ p' r, Pen (n + 1) p' → 0 ≤ r → r < m → P (.v (.int r)) [.lst p']
theorem sp_draw_len {K : PySem.W.Frag} {ts O P X} (h : sp_draw K ts O P X) : ts.length = 2 := by
  obtain ⟨n, p, m, rfl, _⟩ := h
  rfl
theorem u_draw {K : PySem.W.Frag} {P : PT'} {X : XX} {n : Nat} {p : List D} {m : Int} (hp : Pen n p) (hn : n < 1000000) (h1 : 1 ≤ m) (h2 : m < 2 ^ 200) (k : ∀ p' r, Pen (n + 1) p' → 0 ≤ r → r < m → P (.v (.int r)) [.lst p']) :
    sp_draw K [.own 0, .v (.int m)] [.lst p] P X := ⟨n, p, m, rfl, rfl, hp, hn, h1, h2, k⟩
/-- one of some values, by a draw; d: the i-th of them -/
def sp_pick (K : PySem.W.Frag) : SpD := fun ts O P _ => ∃ (n : Nat) (p : List D) (ds : List D), ts = [.own 0, .v (.lst ds)] ∧ O = [.lst p] ∧ Pen n p ∧ n < 1000000 ∧ 1 ≤ ds.length ∧ ds.length ≤ 1000000 ∧ ∀ p' (i : Nat) d, Pen (n + 1) p' → ds[i]? = some d → P (.v d) [.lst p']
theorem sp_pick_len {K : PySem.W.Frag} {ts O P X} (h : sp_pick K ts O P X) : ts.length = 2 := by
  obtain ⟨n, p, m, rfl, _⟩ := h
  rfl
theorem u_pick {K : PySem.W.Frag} {P : PT'} {X : XX} {n : Nat} {p : List D} {ds : List D} (hp : Pen n p) (hn : n < 1000000) (h1 : 1 ≤ ds.length) (h2 : ds.length ≤ 1000000) (k : ∀ p' (j : Nat) d, Pen (n + 1) p' → ds[j]? = some d → P (.v d) [.lst p']) :
    sp_pick K [.own 0, .v (.lst ds)] [.lst p] P X := ⟨n, p, ds, rfl, rfl, hp, hn, h1, h2, k⟩
theorem nno {d : D} : okR (T.v d) = true := rfl
end G

set_option Elab.async false
set_option linter.all false
set_option maxRecDepth 100000
set_option maxHeartbeats 4000000
namespace G
open PySem PySem.Spec PyProof.Rows L2
mutual
theorem pl_refl : ∀ (n : Nat) (d : D), pl n d = true → eqD d d = true
  | _, .non, _ => by unfold eqD; simp only [toP, PyData.eqv]
  | _, .bl b, _ => by unfold eqD; simp only [toP, PyData.eqv]; exact beq_self_eq_true b
  | _, .int b, _ => by unfold eqD; simp only [toP, PyData.eqv]; exact beq_self_eq_true b
  | _, .str b, h => by
    unfold eqD
    simp only [toP, PyData.eqv]
    first | exact beq_self_eq_true b | simp
  | n + 1, .lst ds, h => by
    unfold eqD
    simp only [toP, PyData.eqv]
    exact pls_refl n ds h
  | n + 1, .tup ds, h => by
    unfold eqD
    simp only [toP, PyData.eqv]
    exact pls_refl n ds h
  | 0, .lst ds, h => by cases h
  | 0, .tup ds, h => by cases h
  | 0, .ins _ _, h => by cases h
  | _ + 1, .ins _ _, h => by cases h
  | 0, .ref _, h => by cases h
  | _ + 1, .ref _, h => by cases h
  | 0, .ty _, h => by cases h
  | _ + 1, .ty _, h => by cases h
  | 0, .scr _, h => by cases h
  | _ + 1, .scr _, h => by cases h
  | 0, .exc _ _, h => by cases h
  | _ + 1, .exc _ _, h => by cases h
  | 0, .dic _, h => by cases h
  | _ + 1, .dic _, h => by cases h
theorem pls_refl : ∀ (n : Nat) (ds : List D), pls n ds = true → PyData.eqvAll (toPs ds) (toPs ds) = true
  | n, [], _ => by simp only [toPs, PyData.eqvAll]
  | n, d :: ds, h => by
    have h' : (pl n d && pls n ds) = true := h
    obtain ⟨h1, h2⟩ := Bool.and_eq_true_iff.mp h'
    have a := pl_refl n d h1
    unfold eqD at a
    simp only [toPs, PyData.eqvAll, a, pls_refl n ds h2, Bool.and_self]
end
theorem eqD_refl {d : D} (h : pl 60 d = true) : eqD d d = true := pl_refl 60 d h
section
variable {K : PySem.W.Frag} {W : WX} {O : List OD} {ts : List T} {P : PT'} {X : XX} {te : TE} {tr : TA}
theorem w_eqT {x y : T} {d : D} (hx : ValD x O d) (hy : ValD y O d) (h1 : pl 60 d = true) (k : P (.v (.bl true)) O) : WR K (rEqD K) x y O P := w_eqD hx hy h1 h1 (by rw [eqD_refl h1]; exact k)
theorem w_neF {x y : T} {d : D} (hx : ValD x O d) (hy : ValD y O d) (h1 : pl 60 d = true) (k : P (.v (.bl false)) O) : WR K (rNeD K) x y O P := w_neD hx hy h1 h1 (by rw [eqD_refl h1]; exact k)
end
theorem pls_map {α : Type} {n : Nat} {f : α → D} (h : ∀ x, pl n (f x) = true) : ∀ xs : List α, pls n (xs.map f) = true
  | [] => by cases n <;> rfl
  | x :: xs => by
    have e : pls n ((x :: xs).map f) = (pl n (f x) && pls n (xs.map f)) := by cases n <;> rfl
    rw [e, h x, pls_map h xs] <;> rfl
theorem pl_int {n : Nat} {i : Int} : pl n (.int i) = true := by cases n <;> rfl
theorem pls_nums {n : Nat} {ns : List Int} : pls n (nums ns) = true := pls_map (fun _ => pl_int) ns
theorem pl_numsL {n : Nat} {ns : List Int} : pl (n + 1) (.lst (nums ns)) = true := pls_nums
theorem pl_numsT {n : Nat} {ns : List Int} : pl (n + 1) (.tup (nums ns)) = true := pls_nums
theorem pl_nilL {n : Nat} : pl (n + 1) (.lst []) = true := by cases n <;> rfl
/-- lists and tuples of integers -/
theorem toPs_nums : ∀ {ns ms : List Int}, PyData.eqvAll (toPs (nums ns)) (toPs (nums ms)) = decide (ns = ms)
  | [], [] => by simp [nums, toPs, PyData.eqvAll]
  | [], m :: ms => by simp [nums, toPs, PyData.eqvAll]
  | n :: ns, [] => by simp [nums, toPs, PyData.eqvAll]
  | n :: ns, m :: ms => by
    have ih := toPs_nums (ns := ns) (ms := ms)
    have e : PyData.eqvAll (toPs (nums (n :: ns))) (toPs (nums (m :: ms))) = (n == m && PyData.eqvAll (toPs (nums ns)) (toPs (nums ms))) := by
      simp only [nums, List.map_cons, toPs, toP, PyData.eqvAll, PyData.eqv]
    rw [e, ih]
    by_cases h1 : n = m
    · subst h1
      simp
    · simp [h1]
theorem eqD_numsL {ns ms : List Int} : eqD (.lst (nums ns)) (.lst (nums ms)) = decide (ns = ms) := by
  unfold eqD
  simp only [toP, PyData.eqv]
  exact toPs_nums
theorem eqD_numsT {ns ms : List Int} : eqD (.tup (nums ns)) (.tup (nums ms)) = decide (ns = ms) := by
  unfold eqD
  simp only [toP, PyData.eqv]
  exact toPs_nums
theorem eqD_nilL {ns : List Int} : eqD (.lst (nums ns)) (.lst []) = decide (ns = []) := eqD_numsL (ms := [])
theorem nums_len {ns : List Int} : (nums ns).length = ns.length := List.length_map _
theorem mulB {x y a b : Int} (h0 : 0 ≤ x) (h1 : x ≤ a) (h2 : 0 ≤ y) (h3 : y ≤ b) : 0 ≤ x * y ∧ x * y ≤ a * b :=
  ⟨Int.mul_nonneg h0 h2, Int.mul_le_mul h1 h3 h2 (Int.le_trans h0 h1)⟩
theorem atI_pos {α : Type} {xs : List α} {i : Int} (h0 : 0 ≤ i) (h1 : i < xs.length) : ∃ x, atI xs i = some x ∧ xs[i.toNat]? = some x := by
  obtain ⟨j, rfl⟩ := Int.eq_ofNat_of_zero_le h0
  have hj : j < xs.length := by omega
  exact ⟨xs[j], atI_nat (List.getElem?_eq_getElem hj), List.getElem?_eq_getElem hj⟩
theorem atI_nums {ns : List Int} {i : Int} (h0 : 0 ≤ i) (h1 : i < ns.length) : ∃ x, atI (nums ns) i = some (.int x) ∧ ns[i.toNat]? = some x := by
  obtain ⟨j, rfl⟩ := Int.eq_ofNat_of_zero_le h0
  have hj : j < ns.length := by omega
  refine ⟨ns[j], atI_nat ?_, List.getElem?_eq_getElem hj⟩
  show (ns.map D.int)[j]? = _
  rw [List.getElem?_map, List.getElem?_eq_getElem hj] <;> rfl
end G

set_option Elab.async false
set_option linter.all false
set_option maxRecDepth 100000
set_option maxHeartbeats 4000000
namespace G
open PySem PySem.Spec PyProof.Rows L2
def odD : OD → Option D
  | .lst ds => some (.lst ds)
  | .ins C fs => some (.ins C fs)
  | .dic kvs => some (.dic kvs)
  | .gone => none
def thaw (i : Nat) (d : D) : T → T
  | .own j => if j = i then .v d else .own j
  | t => t
section
variable {K : PySem.W.Frag} {W : WX} {b : Bs} {A : List Addr} {O : List OD} {H : Hp} {ts : List T} {t : TS} {te : TE} {E : DE} {P : PT'} {X : XX}
theorem live_sub {i : Nat} {a : Addr} (h : a ∈ live A (O.set i .gone)) : a ∈ live A O := by
  obtain ⟨j, o, h1, h2, h3⟩ := live_mem h
  rw [List.getElem?_set] at h2
  by_cases hij : i = j
  · rw [if_pos hij] at h2
    by_cases hl : i < O.length
    · rw [if_pos hl] at h2
      exact absurd (Option.some.inj h2).symm h3
    · rw [if_neg hl] at h2
      cases h2
  · rw [if_neg hij] at h2
    exact live_at h1 h2 h3
theorem StO.freeze (s : StO K b A O H) {i : Nat} {o : OD} {d : D} (ho : O[i]? = some o) (hd : odD o = some d) : StO K b A (O.set i .gone) H ∧ Nxt b A O H A (O.set i .gone) H ∧ ∃ a, A[i]? = some a ∧ Rep K (Fz b A (O.set i .gone) H) d (.ref a) := by
  have ng : o ≠ .gone := fun z => by
    subst z
    cases hd
  have hi : i < A.length := by
    rw [s.len]
    exact (List.getElem?_eq_some_iff.mp ho).1
  obtain ⟨a, ha⟩ : ∃ a, A[i]? = some a := ⟨A[i], List.getElem?_eq_getElem hi⟩
  have hl : a ∈ live A O := live_at ha ho ng
  have x3 : Ex (Fz b A O H) (Fz b A (O.set i .gone) H) := hid_mono (fun _ _ _ h => h) fun c o h1 h2 h3 => by
    rcases List.mem_append.mp h3 with h3 | h3
    · exact h1 (List.mem_append_left _ (live_sub h3))
    · exact h1 (List.mem_append_right _ h3)
  have fz : ∀ u, H a = some u → Fz b A (O.set i .gone) H a = some u := fun u hu => hid_some.mpr ⟨fun h3 => by
    rcases List.mem_append.mp h3 with h3 | h3
    · obtain ⟨j, o', h1, h2, h4⟩ := live_mem h3
      have e : i = j := nd_ix s.nd ha h1
      subst e
      rw [List.getElem?_set_self (List.getElem?_eq_some_iff.mp ho).1] at h2
      exact h4 (Option.some.inj h2).symm
    · exact (s.z_at h3).1 hl, hu⟩
  have c := s.cell i a o ha ho
  refine ⟨⟨by rw [List.length_set]; exact s.len, s.pre, s.ext.trans (hid_mono (fun _ _ _ h => h) fun c o h1 h2 h3 => h1 (live_sub h3)), s.zs, s.nd, s.inh, fun j c' u h1 h2 => ?_, s.tb⟩, ⟨⟨[], (List.append_nil A).symm⟩, x3⟩, a, ha, ?_⟩
  · rw [List.getElem?_set] at h2
    by_cases hij : i = j
    · rw [if_pos hij] at h2
      by_cases hl : i < O.length
      · rw [if_pos hl] at h2
        have e : OD.gone = u := Option.some.inj h2
        subst e
        trivial
      · rw [if_neg hl] at h2
        cases h2
    · rw [if_neg hij] at h2
      exact (s.cell j c' u h1 h2).ex x3 fun _ h => h
  · cases o with
    | gone => cases hd
    | lst ds =>
      have e := Option.some.inj hd
      subst e
      obtain ⟨vs, c1, c2⟩ := c
      exact ⟨a, vs, rfl, fz _ c1, c2.ex x3⟩
    | ins C fs =>
      have e := Option.some.inj hd
      subst e
      obtain ⟨dx, vs, c1, c2⟩ := c
      exact ⟨a, dx, vs, rfl, fz _ c1, c2.ex x3⟩
    | dic kvs =>
      have e := Option.some.inj hd
      subst e
      obtain ⟨vs, c1, c2⟩ := c
      exact ⟨a, vs, rfl, fz _ c1, c2.ex x3⟩
theorem RepT.thaw {F : Hp} {i : Nat} {d : D} {a : Addr} {x : T} {o : Option V} (h : RepT K F A x o) (ha : A[i]? = some a) (r : Rep K F d (.ref a)) : RepT K F A (thaw i d x) o := by
  cases x with
  | v d => exact h
  | no => trivial
  | clo R f => exact h
  | own j =>
    show RepT K F A (if j = i then .v d else .own j) o
    by_cases e : j = i
    · subst e
      rw [if_pos rfl]
      obtain ⟨c, h1, h2⟩ := h
      rw [ha] at h1
      have e2 := Option.some.inj h1
      subst e2
      exact ⟨_, h2, r⟩
    · rw [if_neg e]
      exact h
theorem RepS.thaw {F : Hp} {i : Nat} {d : D} {a : Addr} {σ : L2.St} (h : RepS K F A ts σ) (ha : A[i]? = some a) (r : Rep K F d (.ref a)) : RepS K F A (ts.map (G.thaw i d)) σ := by
  refine ⟨by rw [List.length_map]; exact h.1, fun j t e => ?_⟩
  rw [List.getElem?_map] at e
  cases q : ts[j]? with
  | none =>
    rw [q] at e
    cases e
  | some u =>
    rw [q] at e
    have e2 : G.thaw i d u = t := Option.some.inj e
    subst e2
    obtain ⟨o, h1, h2⟩ := h.2 j u q
    exact ⟨o, h1, h2.thaw ha r⟩
theorem s_frz (i : Nat) {o : OD} {d : D} (ho : O[i]? = some o) (hd : odD o = some d) (h : WS K W t (O.set i .gone) (ts.map (G.thaw i d)) E) : WS K W t O ts E := fun b A σ H D s rs ks => by
  obtain ⟨s2, n2, a, ha, r⟩ := s.freeze ho hd
  exact h b A σ H D s2 ((rs.nxt n2).thaw ha r) (ks.nxt n2)
end
end G

set_option Elab.async false
set_option linter.all false
set_option maxRecDepth 100000
set_option maxHeartbeats 4000000
namespace G
open PySem PySem.Spec PyProof.Rows L2
section
variable {K : PySem.W.Frag} {W : WX} {O : List OD} {ts : List T} {E : DE} {g : TG} {tb : TS}
def ForEx (K : PySem.W.Frag) (W : WX) (g : TG) (tb : TS) (E : DE) (ts : List T) (f : Nat → Option T) (O1 : List OD) : Prop :=
  ∃ (n : Nat) (I : Nat → List T → List OD → Prop), (∀ i, i < n → f i ≠ none) ∧ f n = none ∧ I 0 ts O1 ∧
      (∀ i t ts' O', i < n → f i = some t → I i ts' O' → WG K W g t O' ts' (fun ts2 O2 => WS K W tb O2 ts2 { E with nx := I (i + 1), ct := I (i + 1), bk := E.nx })) ∧ (∀ ts' O', I n ts' O' → E.nx ts' O')
theorem itD_ne {ds : List D} {i : Nat} (h : i < ds.length) : itD ds i ≠ none := fun z => by
  have := itD_none z
  omega
theorem for_D {ds : List D} (I : Nat → List T → List OD → Prop) (h0 : I 0 ts O)
    (hs : ∀ i d ts' O', i < ds.length → ds[i]? = some d → I i ts' O' → WG K W g (.v d) O' ts' (fun ts2 O2 => WS K W tb O2 ts2 { E with nx := I (i + 1), ct := I (i + 1), bk := E.nx }))
    (hd : ∀ ts' O', I ds.length ts' O' → E.nx ts' O') : ForEx K W g tb E ts (itD ds) O :=
  ⟨ds.length, I, fun i h => itD_ne h, by unfold itD; rw [List.getElem?_eq_none (Nat.le_refl _)]; rfl, h0, fun i t ts' O' hi ht hI => by
    obtain ⟨d, e, rfl⟩ := itD_some ht
    exact hs i d ts' O' hi e hI, hd⟩
theorem for_N {ns : List Int} (I : Nat → List T → List OD → Prop) (h0 : I 0 ts O)
    (hs : ∀ i r ts' O', i < ns.length → ns[i]? = some r → I i ts' O' → WG K W g (.v (.int r)) O' ts' (fun ts2 O2 => WS K W tb O2 ts2 { E with nx := I (i + 1), ct := I (i + 1), bk := E.nx }))
    (hd : ∀ ts' O', I ns.length ts' O' → E.nx ts' O') : ForEx K W g tb E ts (itD (nums ns)) O :=
  for_D I h0 (fun i d ts' O' hi e hI => by
    have e' : (ns.map D.int)[i]? = some d := e
    rw [List.getElem?_map] at e'
    cases q : ns[i]? with
    | none =>
      rw [q] at e'
      cases e'
    | some r =>
      rw [q] at e'
      have e2 : D.int r = d := Option.some.inj e'
      subst e2
      exact hs i r ts' O' (by rw [nums_len] at hi; exact hi) q hI) (by rw [nums_len]; exact hd)
theorem for_R {lo c : Int} {n : Nat} (I : Nat → List T → List OD → Prop) (h0 : I 0 ts O)
    (hs : ∀ i ts' O', i < n → I i ts' O' → WG K W g (.v (.int (lo + (i : Int) * c))) O' ts' (fun ts2 O2 => WS K W tb O2 ts2 { E with nx := I (i + 1), ct := I (i + 1), bk := E.nx }))
    (hd : ∀ ts' O', I n ts' O' → E.nx ts' O') : ForEx K W g tb E ts (itR lo c n) O :=
  ⟨n, I, fun i h z => by
    have := itR_none z
    omega, by unfold itR; rw [if_neg (Nat.lt_irrefl n)], h0, fun i t ts' O' hi ht hI => by
    obtain ⟨_, rfl⟩ := itR_some ht
    exact hs i ts' O' hi hI, hd⟩
/-- range(n), range(lo, hi): the items as they are -/
theorem for_R1 {n : Nat} (I : Nat → List T → List OD → Prop) (h0 : I 0 ts O)
    (hs : ∀ i ts' O', i < n → I i ts' O' → WG K W g (.v (.int (i : Nat))) O' ts' (fun ts2 O2 => WS K W tb O2 ts2 { E with nx := I (i + 1), ct := I (i + 1), bk := E.nx }))
    (hd : ∀ ts' O', I n ts' O' → E.nx ts' O') : ForEx K W g tb E ts (itR 0 1 n) O :=
  for_R I h0 (fun i ts' O' hi hI => by
    rw [Int.zero_add, Int.mul_one]
    exact hs i ts' O' hi hI) hd
theorem s_forE {wi : TI} (h : WI K W wi O ts (fun f O1 => ForEx K W g tb E ts f O1) (fun C fs O' => E.xe C fs ts O')) : WS K W (tFor wi g tb) O ts E := s_for h
/-- a, b = a pair -/
theorem g_pair {n : Nat} {i j : Nat} {a b : D} {N : List T → List OD → Prop} (hn : n = 2) (k : N ((ts.set i (.v a)).set j (.v b)) O) : WG K W (gTup K n (gCons (gName i) (gCons (gName j) gNil))) (.v (.tup [a, b])) O ts N :=
  g_tup (by rw [hn] <;> rfl) (g_cons (g_name (g_cons (g_name (g_nil k)))))
theorem g_trip {n : Nat} {i j l : Nat} {a b c : D} {N : List T → List OD → Prop} (hn : n = 3) (k : N (((ts.set i (.v a)).set j (.v b)).set l (.v c)) O) : WG K W (gTup K n (gCons (gName i) (gCons (gName j) (gCons (gName l) gNil)))) (.v (.tup [a, b, c])) O ts N :=
  g_tup (by rw [hn] <;> rfl) (g_cons (g_name (g_cons (g_name (g_cons (g_name (g_nil k)))))))
theorem g_quad {n : Nat} {i j l m : Nat} {a b c d : D} {N : List T → List OD → Prop} (hn : n = 4) (k : N ((((ts.set i (.v a)).set j (.v b)).set l (.v c)).set m (.v d)) O) : WG K W (gTup K n (gCons (gName i) (gCons (gName j) (gCons (gName l) (gCons (gName m) gNil))))) (.v (.tup [a, b, c, d])) O ts N :=
  g_tup (by rw [hn] <;> rfl) (g_cons (g_name (g_cons (g_name (g_cons (g_name (g_cons (g_name (g_nil k)))))))))
variable {P : PT'} {X : XX} {te ta tv : TE} {DE' : DE} {C : Addr} {f : Str}
theorem w_fldN (n : NoAttr K C f) (c : Cls K C) (h : WE K W ta O ts (fun x O1 => ∃ fs d, InsD x O1 C fs ∧ fs.lookup f = some d ∧ P (.v d) O1) X) : WE K W (tFld K ta f) O ts P X := w_fld c n h
theorem s_fldN (n : NoAttr K C f) (c : Cls K C) (h : WE K W tv O ts (fun y O1 => WE K W ta O1 ts (fun x O2 => ∃ i fs d, x = .own i ∧ y = .v d ∧ O2[i]? = some (.ins C fs) ∧ fs.length < 1000 ∧ DE'.nx ts (O2.set i (.ins C (putD f d fs)))) (fun C fs O' => DE'.xe C fs ts O')) (fun C fs O' => DE'.xe C fs ts O')) :
    WS K W (sFld K ta tv f) O ts DE' := s_fld c n h
theorem unv_vs : ∀ {ds : List D} {ys : List T} {es : List D}, unv ys = some es → unv (ds.map T.v ++ ys) = some (ds ++ es)
  | [], _, _, h => h
  | d :: ds, _, _, h => by
    show (unv (ds.map T.v ++ _)).map (d :: ·) = _
    rw [unv_vs h] <;> rfl
theorem atI_m1 {α : Type} {xs : List α} {x : α} : atI (xs ++ [x]) (-1) = some x := by
  have e : ixN (xs ++ [x]).length (-1) = some xs.length := by
    unfold ixN
    rw [List.length_append]
    simp
    omega
  unfold atI
  rw [e]
  simp
theorem unv_nums {fs : List Int} {x : Int} : unv ((nums fs).map T.v ++ [.v (.int x)]) = some (nums (fs ++ [x])) := by
  rw [unv_vs (ys := [.v (.int x)]) (es := [.int x]) rfl]
  unfold nums
  rw [List.map_append] <;> rfl
theorem lt_sz {fs : List Int} (h : fs.length < 1000000) : (nums fs).length < sizeLine := Nat.lt_of_lt_of_le (by rw [nums_len]; exact h) (Nat.le_of_ble_eq_true rfl)
theorem nums_app {fs : List Int} {x : Int} : nums fs ++ [.int x] = nums (fs ++ [x]) := by
  unfold nums
  rw [List.map_append] <;> rfl
theorem atI_m1n {fs : List Int} {x : Int} : atI (nums (fs ++ [x])) (-1) = some (.int x) := by
  rw [← nums_app]
  exact atI_m1
end
end G

set_option Elab.async false
set_option linter.all false
set_option maxRecDepth 100000
set_option maxHeartbeats 4000000
namespace G
open PySem PySem.Spec PyProof.Rows L2
section
variable {K : PySem.W.Frag} {W : WX} {O : List OD} {ts : List T} {g : TG} {te : TE} {vs : List Nat} {P : PT'}
def LcEx (K : PySem.W.Frag) (W : WX) (g : TG) (te : TE) (vs : List Nat) (P : PT') (ts : List T) (f : Nat → Option T) (O1 : List OD) : Prop :=
  ∃ (n : Nat) (I : Nat → List D → List OD → Prop), (∀ i, i < n → f i ≠ none) ∧ f n = none ∧ I 0 [] O1 ∧ (∀ i acc O', I i acc O' → O'.length = O1.length) ∧
      (∀ i t acc O', i < n → f i = some t → I i acc O' → WG K W g t (O' ++ [.lst acc]) (wipeT ts vs) (fun ts2 O2 => WT K W tYes O2 ts2 (fun c O3 =>
        (c = true → WE K W te O3 ts2 (fun y O4 => ∃ d O5, y = .v d ∧ O4 = O5 ++ [.lst acc] ∧ acc.length < sizeLine ∧ I (i + 1) (acc ++ [d]) O5) X0) ∧ (c = false → ∃ O5, O3 = O5 ++ [.lst acc] ∧ I (i + 1) acc O5)) X0)) ∧
      (∀ acc O', I n acc O' → P (.v (.lst acc)) O')
theorem WG.imp {t : T} {N N' : List T → List OD → Prop} (h : WG K W g t O ts N) (q : ∀ ts O, N ts O → N' ts O) : WG K W g t O ts N' := fun b A σ H Q v s rs r kn => h b A σ H Q v s rs r fun ts σ A' O' H' x s m r => kn ts σ A' O' H' (q ts O' x) s m r
/-- with effects -/
theorem lc_I {f : Nat → Option T} {n : Nat} {item : Nat → T} (hf : ∀ i, i < n → f i = some (item i)) (hn : f n = none) (hz : n ≤ 1000000) (I : Nat → List D → List OD → Prop) (h0 : I 0 [] O)
    (hlen : ∀ i acc O', I i acc O' → O'.length = O.length ∧ acc.length = i)
    (hs : ∀ i acc O', i < n → I i acc O' → WG K W g (item i) (O' ++ [.lst acc]) (wipeT ts vs) (fun ts2 O2 => WE K W te O2 ts2 (fun y O4 => ∃ d O5, y = .v d ∧ O4 = O5 ++ [.lst acc] ∧ I (i + 1) (acc ++ [d]) O5) X0))
    (hd : ∀ acc O', I n acc O' → P (.v (.lst acc)) O') : LcEx K W g te vs P ts f O := by
  refine ⟨n, I, fun i h z => ?_, hn, h0, fun i acc O' h => (hlen i acc O' h).1, fun i t acc O' hi ht hI => ?_, hd⟩
  · rw [hf i h] at z
    cases z
  · have e : item i = t := by
      rw [hf i hi] at ht
      exact Option.some.inj ht
    subst e
    refine (hs i acc O' hi hI).imp fun ts2 O2 q => w_yes ⟨fun _ => q.imp fun y O4 p => ?_, fun z => by cases z⟩
    obtain ⟨d, O5, e1, e2, p⟩ := p
    exact ⟨d, O5, e1, e2, Nat.lt_of_lt_of_le (show acc.length < 1000000 by rw [(hlen i acc O' hI).2]; omega) (Nat.le_of_ble_eq_true rfl), p⟩
theorem range_get {α : Type} {n : Nat} {r : Nat → α} {i : Nat} : ((List.range n).map r) ++ [r n] = (List.range (n + 1)).map r := by
  rw [List.range_succ, List.map_append] <;> rfl
/-- without -/
theorem lc_P {f : Nat → Option T} {n : Nat} {item : Nat → T} (r : Nat → D) (hf : ∀ i, i < n → f i = some (item i)) (hn : f n = none) (hz : n ≤ 1000000)
    (hs : ∀ i acc, i < n → WG K W g (item i) (O ++ [.lst acc]) (wipeT ts vs) (fun ts2 O2 => WE K W te O2 ts2 (fun y O4 => y = .v (r i) ∧ O4 = O ++ [.lst acc]) X0))
    (hd : P (.v (.lst ((List.range n).map r))) O) : LcEx K W g te vs P ts f O := by
  refine lc_I hf hn hz (fun i acc O' => O' = O ∧ acc = (List.range i).map r) ⟨rfl, rfl⟩ (fun i acc O' h => ?_) (fun i acc O' hi h => ?_) fun acc O' h => ?_
  · obtain ⟨rfl, rfl⟩ := h
    exact ⟨rfl, by rw [List.length_map, List.length_range]⟩
  · obtain ⟨rfl, rfl⟩ := h
    refine (hs i _ hi).imp fun ts2 O2 q => q.imp fun y O4 p => ?_
    obtain ⟨rfl, rfl⟩ := p
    exact ⟨_, _, rfl, rfl, rfl, range_get (i := i)⟩
  · obtain ⟨rfl, rfl⟩ := h
    exact hd
theorem lc_R {n : Nat} (r : Nat → D) (hz : n ≤ 1000000)
    (hs : ∀ i acc, i < n → WG K W g (.v (.int (i : Nat))) (O ++ [.lst acc]) (wipeT ts vs) (fun ts2 O2 => WE K W te O2 ts2 (fun y O4 => y = .v (r i) ∧ O4 = O ++ [.lst acc]) X0))
    (hd : P (.v (.lst ((List.range n).map r))) O) : LcEx K W g te vs P ts (itR 0 1 n) O :=
  lc_P (item := fun i => .v (.int (i : Nat))) r (fun i hi => by
    unfold itR
    rw [if_pos hi, Int.zero_add, Int.mul_one]) (by unfold itR; rw [if_neg (Nat.lt_irrefl n)]) hz hs hd
theorem map_range {α β : Type} {f : α → β} : ∀ {xs : List α} {r : Nat → β}, (∀ i x, xs[i]? = some x → r i = f x) → (List.range xs.length).map r = xs.map f := fun {xs r} h => by
  refine List.ext_getElem (by rw [List.length_map, List.length_range, List.length_map]) fun i h1 h2 => ?_
  rw [List.getElem_map, List.getElem_map, List.getElem_range]
  rw [List.length_map] at h2
  exact h i _ (List.getElem?_eq_getElem h2)
theorem lc_A {α : Type} (xs : List α) (e : α → D) (f : α → D) (hz : xs.length ≤ 1000000)
    (hs : ∀ x acc, x ∈ xs → WG K W g (.v (e x)) (O ++ [.lst acc]) (wipeT ts vs) (fun ts2 O2 => WE K W te O2 ts2 (fun y O4 => y = .v (f x) ∧ O4 = O ++ [.lst acc]) X0))
    (hd : P (.v (.lst (xs.map f))) O) : LcEx K W g te vs P ts (itD (xs.map e)) O := by
  refine lc_P (n := xs.length) (item := fun i => .v ((xs.map e).getD i .non)) (fun i => (xs.map f).getD i .non) (fun i hi => ?_) ?_ hz (fun i acc hi => ?_) ?_
  · unfold itD
    have h2 : i < (xs.map e).length := by rw [List.length_map]; exact hi
    rw [List.getElem?_eq_getElem h2, List.getD_eq_getElem?_getD, List.getElem?_eq_getElem h2] <;> rfl
  · unfold itD
    rw [List.getElem?_eq_none (by rw [List.length_map]; exact Nat.le_refl _)] <;> rfl
  · have h2 := hs xs[i] acc (List.getElem_mem hi)
    have e1 : (xs.map e).getD i .non = e xs[i] := by
      rw [List.getD_eq_getElem?_getD, List.getElem?_map, List.getElem?_eq_getElem hi] <;> rfl
    have e2 : (xs.map f).getD i .non = f xs[i] := by
      rw [List.getD_eq_getElem?_getD, List.getElem?_map, List.getElem?_eq_getElem hi] <;> rfl
    rw [e1, e2]
    exact h2
  · rw [map_range (f := f) (xs := xs) fun i x hx => by rw [List.getD_eq_getElem?_getD, List.getElem?_map, hx] <;> rfl]
    exact hd
/-- the target is one name -/
theorem w_lc1 {wi : TI} {i : Nat} {vs : List Nat} {X : XX} (h : WI K W wi O ts (fun f O1 => LcEx K W (gName i) te vs P ts f O1) X) (hm : i ∈ vs) : WE K W (tLc wi (gName i) tYes te vs) O ts P X := w_lc (tgt_name hm) h
theorem w_lcT {wi : TI} {vs : List Nat} {X : XX} (h : WI K W wi O ts (fun f O1 => LcEx K W g te vs P ts f O1) X) (hg : Tgt g vs) : WE K W (tLc wi g tYes te vs) O ts P X := w_lc hg h
end
theorem cutD_take {xs : List D} {n : Nat} (h : n ≤ xs.length) : cutD xs none (some (n : Int)) = xs.take n := by
  unfold cutD
  rw [HT.sIx_none, HT.sIx_nat, Nat.min_eq_left h, List.drop_zero, Nat.sub_zero]
theorem cut_nums {xs : List Int} {n : Nat} (h : n ≤ xs.length) : cutD (nums xs) none (some (n : Int)) = nums (xs.take n) := by
  rw [cutD_take (by rw [nums_len]; exact h)]
  unfold nums
  rw [List.map_take]
end G

set_option Elab.async false
set_option linter.all false
set_option maxRecDepth 100000
set_option maxHeartbeats 4000000
namespace G
open PySem PySem.Spec PyProof.Rows L2
section
variable {X : Cx}
theorem ix_listK (K : PySem.W.Frag) (h : X.K = K := by rfl) : IxR X (rIxL K) := h ▸ ix_list
theorem sl_listK (K : PySem.W.Frag) (h : X.K = K := by rfl) : SlR X (rSlL K) := h ▸ sl_list
theorem op_eqDK (K : PySem.W.Frag) (hu : X.A.units + 64 < cLine) (h : X.K = K := by rfl) : OpR X (compareOp .Eq) (rEqD K) := h ▸ op_eqD hu
theorem op_neDK (K : PySem.W.Frag) (hu : X.A.units + 64 < cLine) (h : X.K = K := by rfl) : OpR X (compareOp .NotEq) (rNeD K) := h ▸ op_neD hu
theorem call_isiK (K : PySem.W.Frag) (h : X.K = K := by rfl) : CallR X (.builtin "isinstance") (rIsi K) := h ▸ call_isi
theorem call_isiSK (K : PySem.W.Frag) (h : X.K = K := by rfl) : CallR X (.builtin "isinstance") (rIsiS K) := h ▸ call_isiS
theorem cr_lenK (K : PySem.W.Frag) (h : X.K = K := by rfl) : CallR X (.builtin "len") (rLen K) := h ▸ cr_len
theorem cr_listK (K : PySem.W.Frag) (h : X.K = K := by rfl) : CallR X (.type "list") (rListOf K) := h ▸ cr_list
theorem cr_tupK (K : PySem.W.Frag) (h : X.K = K := by rfl) : CallR X (.type "tuple") (rTupOf K) := h ▸ cr_tup
theorem cr_sumK (K : PySem.W.Frag) (hc : X.calm = true) (h : X.K = K := by rfl) : CallR X (.builtin "sum") (rSum K) := h ▸ cr_sum hc
theorem cr_allK (K : PySem.W.Frag) (hc : X.calm = true) (h : X.K = K := by rfl) : CallR X (.builtin "all") (rAll K) := h ▸ cr_all hc
variable {e : Expr} {f : Str} {pos : Pos} {ta : TE}
theorem pe_fldK (K : PySem.W.Frag) (he : PE X e ta) (hb : attributeBase e f X.env (eval e X.env) = eval e X.env := by rfl) (h : X.K = K := by rfl) : PE X (.Attribute e f pos) (tFld K ta f) := h ▸ pe_fld he hb
theorem pg_tupK (K : PySem.W.Frag) {es : List Expr} {k : Nat} {t : TGs} {n : Nat} (hc : X.calm = true) (h : PGs X es t)
    (hn : (assignEach es X.env).length = n := by rfl) (hst : (assignEach es X.env).findIdx? (·.1) = none := by rfl) (hK : X.K = K := by rfl) : PG X (.Tuple es k pos) (gTup K n t) := hK ▸ pg_tup hc h hn hst
theorem pi_listK (K : PySem.W.Frag) {tg : Expr} (he : PE X e ta) (h : X.K = K := by rfl) : PI X tg e (iList K ta) := h ▸ pi_list he
theorem pi_tupK (K : PySem.W.Frag) {tg : Expr} (he : PE X e ta) (h : X.K = K := by rfl) : PI X tg e (iTup K ta) := h ▸ pi_tup he
end
end G

set_option Elab.async false
set_option linter.all false
set_option maxRecDepth 100000
set_option maxHeartbeats 4000000
namespace G
open PySem PySem.Spec PyProof.Rows L2
def CXa (P : Program) : CXT := fun outer H s E u s' => ∃ w, L2.CX P w outer H s E u s'
theorem cxa_nil {P : Program} {H : Hp} {s : Shared} {e : Value} {s' : Shared} (h : CXa P [] H s (fun _ _ _ => False) e s') : False := by
  obtain ⟨w, a, B, H', cls, d, _, _, _, _, _, _, _, z⟩ := h
  exact z
/-- the law's own call -/
def sp_law (_K : PySem.W.Frag) : SpD := fun ts O P _ => ∃ (cs : List Int), ts = [.v (.scr cs)] ∧ O = [] ∧ cs.length ≤ 1000000 ∧ P (.v (.bl true)) []
theorem sp_law_len {K : PySem.W.Frag} {ts O P X} (h : sp_law K ts O P X) : ts.length = 1 := by
  obtain ⟨cs, rfl, _⟩ := h
  rfl
theorem law_lift {K : PySem.W.Frag} {H : Hp} {a : Addr} {ns : List Int} (hz : ns.length ≤ 1000000) (h : SqL K H a (ns.map V.int)) (ht : TabsK K H) : lift K (sp_law K) [.ref a] H (fun v _ => v = .bl true) fun _ _ _ => False := by
  have eh : ∀ L : List Addr, L = [] → hid L H = H := fun L e => by
    subst e
    funext a
    unfold hid
    rw [if_neg (by simp)]
  refine ⟨[], [], [], [.v (.scr ns)], fun t O => t = .v (.bl true), fun _ _ _ => False, ⟨rfl, ⟨[], rfl⟩, Ex.refl _, fun z hz => (by cases hz), List.nodup_nil, fun a h => (by cases h), fun i a o h _ => (by simp at h), ht⟩, rfl, ?_, ⟨ns, rfl, rfl, hz, rfl⟩, fun t v O' H' q _ _ r => ?_, fun _ _ _ _ _ q => q.elim⟩
  · refine ⟨.ref a, [], rfl, ⟨_, rfl, a, rfl, ?_⟩, rfl⟩
    show SqL K (hid _ H) a _
    rw [eh _ rfl]
    exact h
  · subst q
    obtain ⟨_, e, rfl⟩ := r
    exact (Option.some.inj e)
end G

set_option Elab.async false
set_option linter.all false
set_option maxRecDepth 100000
set_option maxHeartbeats 4000000
namespace G
open PySem PySem.Spec PyProof.Rows L2
/-- a def with a star parameter, by its promise over data: behind n values the rest comes as a tuple -/
def liftS (K : PySem.W.Frag) (n : Nat) (sp : SpD) : Sp := fun vs H Q E => ∃ ws rest, vs = ws ++ rest ∧ ws.length = n ∧ rest.length ≤ sizeLine ∧ ∀ p, H p = none → lift K sp (ws ++ [V.ref p]) (upd H p (.tup rest)) Q E
def FnS (P : Program) (w : World) (K : PySem.W.Frag) (mg : Str → Option Value) (base : Heap) (k : Nat) (f : Addr) (n : Nat) (sp : SpD) : Prop :=
  L2.FnR P w K mg base (L2.CX P w) k f (liftS K n sp) ∧ PySem.W.keepIn K (.ref f) = true
section
variable {P : Program} {w : World} {K : PySem.W.Frag} {mg : Str → Option Value} {base : Heap} {k : Nat} {x qual : Str} {params : Arguments} {body : List Stmt} {scope : Scope} {f : Addr} {fd : FuncData} {N ps : List Str} {pv : Str} {sp : SpD}
theorem fnS (F : FunD K x qual params body scope [] [] f fd) (S : FnScope N (ps ++ [pv]) scope)
    (hb : ∀ (kV doc pm : Value) (an : Option Addr) (cdv ct : Value) (us rest : List Value), us.length = ps.length →
      bindArgs (PySem.W.fnOf x qual params body scope .none kV doc pm an cdv ct) ⟨us ++ rest, []⟩ = (newTuple rest >>= fun t => pure (ps.zip us ++ [(pv, t)])))
    (h : ∀ (cdv : Value) (A : Around) (outer : List Env) (s : Shared) (H : Hp) (vs : List V) (Q : VK) (E : XK), Room k (A.deeper (envOfC qual scope s.heap.objs.size f cdv)) → lift K sp vs H Q E →
      ∃ t, PSs (cxOf (L2.CX P w) P w K mg base N qual scope f cdv A outer s H E) body t ∧ t { nx := fun _ H' => Q .non H', rt := Q } (L2.start N vs) H) :
    FnS P w K mg base (k + 1) f ps.length sp := by
  obtain ⟨⟨oc, od, dV, kV, doc, pm, an, cdv, ct, osl, rfl, lk, hcd, hD, _⟩, kp⟩ := F
  refine ⟨?_, kp⟩
  rcases hD with ⟨_, rfl⟩ | ⟨z, _⟩
  · exact StX.fn_star lk hcd S StX.cxUp (hb kV doc pm an cdv ct) fun A outer s H vs Q E hr hs => h cdv A outer s H vs Q E hr hs
  · exact absurd rfl z
end
section
variable {X : Cx} {CX : CXT} {k : Nat} {f : Addr} {sp : Sp} {E : XK} {x : Str} {e : Expr} {es : List Expr} {t : TA} {p pos : Pos}
def tCallR (sp : Sp) (E : XK) (t : TA) : TE := fun σ H Q => t σ H fun vs H1 => sp vs H1 Q E
end
section
variable {K : PySem.W.Frag} {W : WX} {O : List OD} {ts : List T} {P : PT'} {X : XX} {sp : SpD} {tr : TA} {E : XK}
theorem repL_split {F : Hp} {ds : List D} {vs : List V} (h : RepL K F ds vs) (n : Nat) : RepL K F (ds.take n) (vs.take n) ∧ RepL K F (ds.drop n) (vs.drop n) := ⟨h.take n, h.drop n⟩
theorem unv_app {ds : List D} {d : D} : unv (ds.map T.v ++ [.v d]) = some (ds ++ [d]) := unv_vs (ys := [.v d]) (es := [d]) rfl
theorem w_fnS0 {n : Nat} (h : WA K W tr O ts (fun xs O1 => ∃ ds, unv xs = some ds ∧ n ≤ ds.length ∧ ds.length ≤ 1000000 ∧ sp ((ds.take n).map T.v ++ [.v (.tup (ds.drop n))]) [] (fun t _ => (∃ d, t = .v d) ∧ P t O1) (fun _ _ _ => False)) X) :
    WE K W (tCallR (liftS K n sp) E0 tr) O ts P X := fun b A σ H Q s rs kv kx =>
  h b A σ H _ s rs (fun xs vs A1 O1 H1 p1 s1 n1 r1 => by
    obtain ⟨ds, e, hn, hz, q⟩ := p1
    have r2 := r1.plain e
    have hl : vs.length = ds.length := r2.length
    obtain ⟨ra, rb⟩ := repL_split r2 n
    refine ⟨vs.take n, vs.drop n, (List.take_append_drop n vs).symm, by rw [List.length_take]; omega, Nat.le_trans (show (vs.drop n).length ≤ 1000000 by rw [List.length_drop]; omega) (Nat.le_of_ble_eq_true rfl), fun p hp => ?_⟩
    obtain ⟨s2, n2, f2⟩ := s1.lay hp (.tup (vs.drop n))
    refine lift_p (W := fun _ _ _ _ => False) (X := fun _ _ _ => False) (σ := σ) s2 (repTs_app (ys := [.v (.tup (ds.drop n))]) ⟨.ref p, [], rfl, ⟨_, rfl, p, vs.drop n, rfl, SqT.of f2, rb.ex n2.ext⟩, rfl⟩ (ra.ex n2.ext)) unv_app (fun C d H z => z) q (kv.nxt (n1.trans n2)) (fun C fs A' O' H' d z => z.elim)) kx
end
end G

set_option Elab.async false
set_option linter.all false
set_option maxRecDepth 100000
set_option maxHeartbeats 4000000
namespace G
open PySem PySem.Spec PyProof.Rows L2
def TupC (K : PySem.W.Frag) (a : Addr) (ns : List Int) : Prop := ∃ (o : Obj) (its : Array Value) (n : Nat), K.lookup a = some o ∧ o.cls = .type "tuple" ∧ o.data = .seq its n ∧ its.size ≤ sizeLine ∧ Vals (ns.map V.int) its.toList
theorem vals_of : ∀ {vs : List Value} {ns : List Int}, vs.map (fun v => match v with | .int i _ => some i | _ => none) = ns.map some → Vals (ns.map V.int) vs
  | [], [], _ => .nil
  | [], _ :: _, h => by cases h
  | _ :: _, [], h => by cases h
  | v :: vs, n :: ns, h => by
    rw [List.map_cons, List.map_cons] at h
    injection h with h1 h2
    refine .cons ?_ (vals_of h2)
    cases v <;> first | cases h1 | skip
    exact ⟨_, rfl⟩
section
variable {K : PySem.W.Frag} {W : WX} {O : List OD} {ts : List T} {P : PT'} {X : XX} {g : TG} {te : TE} {vs : List Nat}
theorem w_ctup {a : Addr} {ns : List Int} (h : TupC K a ns) (k : P (.v (.tup (nums ns))) O) : WE K W (tC (.ref a)) O ts P X := by
  obtain ⟨o, its, n, h1, h2, h3, h4, h5⟩ := h
  exact w_c (d := .tup (nums ns)) (fun H => ⟨a, ns.map V.int, rfl, .inr ⟨o, its, n, h1, h2, h3, h4, h5⟩, repL_ints⟩) k
end
section
variable {K : PySem.W.Frag} {W : WX} {O : List OD} {ts : List T} {P : PT'} {X : XX} {te : TE}
theorem w_catL {x y : T} {ds es : List D} (hx : LstD x O ds) (hy : LstD y O es) (hz : ds.length + es.length ≤ 1000000) (k : P (.v (.lst (ds ++ es))) O) : WR K rCat x y O P := fun b A H Q v u s r1 r2 kv => by
  obtain ⟨a, vs, rfl, h1, h2⟩ := lstD_atH hx s r1
  obtain ⟨c, us, rfl, h3, h4⟩ := lstD_atH hy s r2
  refine ⟨a, c, vs, us, rfl, rfl, h1, h3, Nat.le_trans (by rw [h2.length, h4.length]; exact hz) (Nat.le_of_ble_eq_true rfl), fun p hp => ?_⟩
  obtain ⟨s2, n2, q⟩ := s.lay hp (.lst (vs ++ us))
  exact kv _ _ A O _ k s2 n2 ⟨_, rfl, p, _, rfl, q, (h2.append h4).ex n2.ext⟩
theorem repL_rep {F : Hp} {ds : List D} {vs : List V} (h : RepL K F ds vs) : ∀ n : Nat, RepL K F (List.replicate n ds).flatten (List.replicate n vs).flatten
  | 0 => rfl
  | n + 1 => by
    rw [List.replicate_succ, List.flatten_cons, List.replicate_succ, List.flatten_cons]
    exact h.append (repL_rep h n)
theorem w_repL {x : T} {ds : List D} {k : Int} (hx : LstD x O ds) (h0 : 0 ≤ k) (h1 : k ≤ 1000) (hz : ds.length ≤ 100) (kk : P (.v (.lst (List.replicate k.toNat ds).flatten)) O) : WR K rRep x (.v (.int k)) O P := fun b A H Q v u s r1 r2 kv => by
  obtain ⟨a, vs, rfl, e1, e2⟩ := lstD_atH hx s r1
  obtain ⟨_, e, rfl⟩ := r2
  cases e
  have hl : vs.length * k.toNat ≤ 100 * 1000 := Nat.mul_le_mul (by rw [e2.length]; exact hz) (by omega)
  refine ⟨a, k, vs, rfl, rfl, e1, by omega, by omega, Nat.le_trans hl (Nat.le_of_ble_eq_true rfl), fun p hp => ?_⟩
  obtain ⟨s2, n2, q⟩ := s.lay hp (.lst (List.replicate k.toNat vs).flatten)
  exact kv _ _ A O _ kk s2 n2 ⟨_, rfl, p, _, rfl, q, (repL_rep e2 _).ex n2.ext⟩
theorem RepL.reverse {F : Hp} : ∀ {ds : List D} {vs : List V}, RepL K F ds vs → RepL K F ds.reverse vs.reverse
  | [], _, h => by
    rw [show _ = [] from h]
    exact rfl
  | d :: ds, _, h => by
    obtain ⟨v, r, e1, h1, h2⟩ := h
    subst e1
    rw [List.reverse_cons, List.reverse_cons]
    exact (RepL.reverse h2).append ⟨v, [], rfl, h1, rfl⟩
theorem w_revL (h : WE K W te O ts (fun x O1 => ∃ ds, LstD x O1 ds ∧ P (.v (.lst ds.reverse)) O1) X) : WE K W (tRevL K te) O ts P X := fun b A σ H Q s rs kv kx =>
  h b A σ H _ s rs (fun x v A1 O1 H1 p1 s1 n1 r1 => by
    obtain ⟨ds, hx, k⟩ := p1
    obtain ⟨a, vs, rfl, h1, h2⟩ := lstD_atH hx s1 r1
    refine ⟨a, vs, rfl, SqL.of h1, fun p hp => ?_⟩
    obtain ⟨s2, n2, q⟩ := s1.lay hp (.lst vs.reverse)
    exact kv _ _ A1 O1 _ k s2 (n1.trans n2) ⟨_, rfl, p, _, rfl, q, h2.reverse.ex n2.ext⟩) kx
/-- [f a b for a, b in zip(xs, ys)] -/
theorem lc_Z {g : TG} {te : TE} {vs : List Nat} {α β : Type} (xs : List α) (ys : List β) (e1 : α → D) (e2 : β → D) (f : α → β → D) (hl : xs.length = ys.length) (hz : xs.length ≤ 1000000)
    (hs : ∀ x y acc, x ∈ xs → y ∈ ys → WG K W g (.v (.tup [e1 x, e2 y])) (O ++ [.lst acc]) (wipeT ts vs) (fun ts2 O2 => WE K W te O2 ts2 (fun y' O4 => y' = .v (f x y) ∧ O4 = O ++ [.lst acc]) X0))
    (hd : P (.v (.lst (List.zipWith f xs ys))) O) : LcEx K W g te vs P ts (itZ (xs.map e1) (ys.map e2)) O := by
  refine lc_P (n := xs.length) (item := fun i => match xs[i]?, ys[i]? with | some x, some y => .v (.tup [e1 x, e2 y]) | _, _ => .no) (fun i => match xs[i]?, ys[i]? with | some x, some y => f x y | _, _ => .non) (fun i hi => ?_) ?_ hz (fun i acc hi => ?_) ?_
  · unfold itZ
    rw [List.getElem?_map, List.getElem?_map, List.getElem?_eq_getElem hi, List.getElem?_eq_getElem (show i < ys.length by omega)] <;> rfl
  · unfold itZ
    rw [List.getElem?_eq_none (by rw [List.length_map]; exact Nat.le_refl _)] <;> rfl
  · have h2 : i < ys.length := by omega
    have h := hs xs[i] ys[i] acc (List.getElem_mem hi) (List.getElem_mem h2)
    rw [List.getElem?_eq_getElem hi, List.getElem?_eq_getElem h2]
    exact h
  · have e : (List.range xs.length).map (fun i => match xs[i]?, ys[i]? with | some x, some y => f x y | _, _ => D.non) = List.zipWith f xs ys := by
      refine List.ext_getElem (by rw [List.length_map, List.length_range, List.length_zipWith]; omega) fun i h1 h2 => ?_
      rw [List.length_map, List.length_range] at h1
      rw [List.getElem_map, List.getElem_range, List.getElem_zipWith, List.getElem?_eq_getElem h1, List.getElem?_eq_getElem (show i < ys.length by omega)]
    rw [e]
    exact hd
/-- two names for a pair -/
theorem tgt_pair {n i j : Nat} {vs : List Nat} (hi : i ∈ vs) (hj : j ∈ vs) : Tgt (gTup K n (gCons (gName i) (gCons (gName j) gNil))) vs := tgt_tup (tgt_cons1 hi (tgt_cons1 hj tgt_nil))
end
theorem mul_okP {i j : Int} {a b : Nat} (ha : i.natAbs < 2 ^ a) (hb : j.natAbs < 2 ^ b) (h : a + b ≤ 999000) : CMulW i j := by
  refine wide_mul (a := a + 1) (b := b + 1) ?_ ?_ (by omega) (by omega) (by omega)
  · rw [Nat.pow_succ]; omega
  · rw [Nat.pow_succ]; omega
end G

set_option Elab.async false
set_option linter.all false
set_option maxRecDepth 100000
set_option maxHeartbeats 4000000
namespace GX
open PySem PySem.Spec PyProof.Rows L2 NdefX
section
open PySem.W PySem.Calls
variable {prog : Program} {w : World} {A : Around} {E : Value → Shared → Prop} {h : Heap} {g : Array GenState} {d : Drawn} {t : Nat} {os : OsState}
variable {nm q : Str} {C N : Addr} {bs bm : List Value} {hdct : Bool} {sn : List Str} {sub : List Value} {ab : Bool} {col : Option Bool} {dd : Option Addr} {k0 k1 k2 k3 k5 : Option Value}
end
/-- the function at f, its words by F, its class at C; ar: its first parameter -/
structure InitC (K : PySem.W.Frag) (C f cc : Addr) (F : NF) (ar : Str) : Prop where
  exc : OexC K C
  fn : ∃ oc od doc pm ctv osl, K.lookup f = some ⟨oc, od, .func (F.fd doc pm ctv), osl⟩
  code : PySem.W.codeIn K (.ref F.c) F.qual = true
  cl : F.cl = [(("__class__" : Str), cc)]
  cell : ∃ oc od osl, K.lookup cc = some ⟨oc, od, .cell (some (.ref C)), osl⟩
  file : ∃ oc od vs osl fl tf, K.lookup F.c = some ⟨oc, od, .fields vs, osl⟩ ∧ vs[2]? = some (.str fl tf)
  kp : PySem.W.keepIn K (.ref f) = true
  st : PySem.W.nsIn K cStatics "thirdparty.any" = some none
  su : PySem.W.nsIn K mainGlobals "super" = some none
  al : PySem.W.ks_superIn K C C "__init__" = some (some (.builtin "ValueError.__init__"))
  ve : PySem.W.subIn K (.ref C) (.type "ValueError") = some true
  me : PySem.W.mroIn K C (.ref C) = some true
  hp : ∃ x, (F.params.posonlyargs ++ F.params.args).head? = some x ∧ x.arg = ar
section
variable {CX : CXT} {P : Program} {w : World} {K : PySem.W.Frag} {mg : Str → Option Value} {base : Heap} {N ps : List Str} {F : NF} {f C cc : Addr} {k : Nat} {sp : Sp} {ar : Str} {tail : List Stmt} {z : Str} {kd : Nat} {p0 p1 p2 p3 p4 p5 : Pos}
end
end GX

set_option Elab.async false
set_option linter.all false
set_option maxRecDepth 100000
set_option maxHeartbeats 4000000
namespace G
open PySem PySem.Spec PyProof.Rows L2
/-- an own exception's __init__ that keeps one field, two -/
def spX1 (C : Addr) (f : Str) : Sp := fun vs H Q _ => ∃ a v, vs = [.ref a, v] ∧ H a = some (exo a C none) ∧ ∀ dx, H dx = none → dx ≠ a → Q .non (upd (upd H dx (exd dx [(f, v)])) a (exo a C (some dx)))
def spX2 (C : Addr) (f g : Str) : Sp := fun vs H Q _ => ∃ a v w, vs = [.ref a, v, w] ∧ H a = some (exo a C none) ∧ ∀ dx, H dx = none → dx ≠ a → Q .non (upd (upd (upd H dx (exd dx [(f, v)])) a (exo a C (some dx))) dx (exd dx [(g, w), (f, v)]))
section
variable {K : PySem.W.Frag} {W : WX} {O : List OD} {ts : List T} {E : DE} {te te2 : TE} {C : Addr} {f g : Str}
theorem s_raise1 (h : WE K W te O ts (fun x O' => ∃ d, x = .v d ∧ E.xe (.ref C) (some [(f, d)]) ts O') (fun C fs O' => E.xe C fs ts O')) :
    WS K W (fun _ σ H => tMkO C (spX1 C f) [] (tCons te tNil) σ H fun cls d H' => W cls d σ H') O ts E := fun b A σ H D s rs ks =>
  h b A σ H _ s rs (fun t v A' O' H' p s' n' r' => by
    obtain ⟨d, rfl, q⟩ := p
    obtain ⟨_, e, rd⟩ := r'
    cases e
    refine ⟨(show 1 ≤ 1000 by decide), fun a ha => ⟨a, v, rfl, upd_same, fun dx hdx hne => ⟨rfl, dx, [(f, v)], upd_same, ?_, ?_, ?_⟩⟩⟩
    · rw [upd_ne hne, upd_same]
    · rw [upd_ne hne] at hdx
      exact hdx
    · rw [upd_ne hne] at hdx
      have e : upd (del (upd (upd (upd H' a (exo a C none)) dx (exd dx [(f, v)])) a (exo a C (some dx))) a) dx (.xd [(f, v)]) = upd H' dx (.xd [(f, v)]) := by
        funext y
        by_cases h1 : y = dx
        · rw [h1, upd_same, upd_same]
        · rw [upd_ne h1, upd_ne h1]
          by_cases h2 : y = a
          · rw [h2, del_same, ha]
          · rw [del_ne h2, upd_ne h2, upd_ne h1, upd_ne h2]
      rw [e]
      obtain ⟨s2, n2, q2⟩ := s'.lay hdx (.xd [(f, v)])
      exact ks.xe _ _ ts σ A' O' _ (some dx) q s2 (n'.trans n2) (rs.nxt (n'.trans n2)) ⟨dx, _, rfl, q2, v, [], rfl, rd.ex n2.ext, rfl⟩) (ks.kx rs)
theorem s_raise2 (h : WE K W te O ts (fun x O1 => WE K W te2 O1 ts (fun y O' => ∃ d e, x = .v d ∧ y = .v e ∧ E.xe (.ref C) (some [(g, e), (f, d)]) ts O') (fun C fs O' => E.xe C fs ts O')) (fun C fs O' => E.xe C fs ts O')) :
    WS K W (fun _ σ H => tMkO C (spX2 C f g) [] (tCons te (tCons te2 tNil)) σ H fun cls d H' => W cls d σ H') O ts E := fun b A σ H D s rs ks =>
  h b A σ H _ s rs (fun t v A1 O1 H1 p1 s1 n1 r1 => p1 b A1 σ H1 _ s1 (rs.nxt n1) (fun t2 w A' O' H' p s' n2' r2' => by
    obtain ⟨d, e0, rfl, rfl, q⟩ := p
    have n' := n1.trans n2'
    obtain ⟨_, e, rd⟩ := r1.nxt n2'
    cases e
    obtain ⟨_, e, rw2⟩ := r2'
    cases e
    refine ⟨(show 2 ≤ 1000 by decide), fun a ha => ⟨a, v, w, rfl, upd_same, fun dx hdx hne => ⟨rfl, dx, [(g, w), (f, v)], ?_, upd_same, ?_, ?_⟩⟩⟩
    · rw [upd_ne (Ne.symm hne), upd_same]
    · rw [upd_ne hne] at hdx
      exact hdx
    · rw [upd_ne hne] at hdx
      have e : upd (del (upd (upd (upd (upd H' a (exo a C none)) dx (exd dx [(f, v)])) a (exo a C (some dx))) dx (exd dx [(g, w), (f, v)])) a) dx (.xd [(g, w), (f, v)]) = upd H' dx (.xd [(g, w), (f, v)]) := by
        funext y
        by_cases h1 : y = dx
        · rw [h1, upd_same, upd_same]
        · rw [upd_ne h1, upd_ne h1]
          by_cases h2 : y = a
          · rw [h2, del_same, ha]
          · rw [del_ne h2, upd_ne h1, upd_ne h2, upd_ne h1, upd_ne h2]
      rw [e]
      obtain ⟨s2, n2, q2⟩ := s'.lay hdx (.xd [(g, w), (f, v)])
      exact ks.xe _ _ ts σ A' O' _ (some dx) q s2 (n'.trans n2) (rs.nxt (n'.trans n2)) ⟨dx, _, rfl, q2, w, [(f, v)], rfl, rw2.ex n2.ext, v, [], rfl, rd.ex n2.ext, rfl⟩) ((ks.nxt n1).kx (rs.nxt n1))) (ks.kx rs)
end
section
variable {K : PySem.W.Frag} {W : WX} {O : List OD} {ts : List T} {P : PT'} {X : XX} {sp : SpD} {tr : TA}
/-- a call that may raise -/
theorem w_fnX (h : WA K W tr O ts (fun xs O1 => ∃ ds, unv xs = some ds ∧ sp xs [] (fun t _ => (∃ d, t = .v d) ∧ P t O1) (fun C fs _ => X C fs O1)) X) : WE K W (tCallS (lift K sp) (L2.WE W) tr) O ts P X := fun b A σ H Q s rs kv kx =>
  h b A σ H _ s rs (fun xs vs A1 O1 H1 p1 s1 n1 r1 => by
    obtain ⟨ds, e, p⟩ := p1
    exact lift_p (W := W) (σ := σ) s1 r1 e (fun C d H q => q) p (kv.nxt n1) (kx.nxt n1)) kx
def tCallRS (sp : Sp) (E : L2.St → XK) (t : TA) : TE := fun σ H Q => t σ H fun vs H1 => sp vs H1 Q (E σ)
end
section
variable {X : Cx} {CX : CXT} {k : Nat} {f : Addr} {sp : Sp} {E : L2.St → XK} {x : Str} {e : Expr} {es : List Expr} {t : TA} {p pos : Pos}
end
section
variable {K : PySem.W.Frag} {W : WX} {O : List OD} {ts : List T} {P : PT'} {X : XX} {sp : SpD} {tr : TA}
theorem w_fnSX {n : Nat} (h : WA K W tr O ts (fun xs O1 => ∃ ds, unv xs = some ds ∧ n ≤ ds.length ∧ ds.length ≤ 1000000 ∧ sp ((ds.take n).map T.v ++ [.v (.tup (ds.drop n))]) [] (fun t _ => (∃ d, t = .v d) ∧ P t O1) (fun C fs _ => X C fs O1)) X) :
    WE K W (tCallRS (liftS K n sp) (L2.WE W) tr) O ts P X := fun b A σ H Q s rs kv kx =>
  h b A σ H _ s rs (fun xs vs A1 O1 H1 p1 s1 n1 r1 => by
    obtain ⟨ds, e, hn, hz, q⟩ := p1
    have r2 := r1.plain e
    have hl : vs.length = ds.length := r2.length
    obtain ⟨ra, rb⟩ := repL_split r2 n
    refine ⟨vs.take n, vs.drop n, (List.take_append_drop n vs).symm, by rw [List.length_take]; omega, Nat.le_trans (show (vs.drop n).length ≤ 1000000 by rw [List.length_drop]; omega) (Nat.le_of_ble_eq_true rfl), fun p hp => ?_⟩
    obtain ⟨s2, n2, f2⟩ := s1.lay hp (.tup (vs.drop n))
    exact lift_p (W := W) (σ := σ) s2 (repTs_app (ys := [.v (.tup (ds.drop n))]) ⟨.ref p, [], rfl, ⟨_, rfl, p, vs.drop n, rfl, SqT.of f2, rb.ex n2.ext⟩, rfl⟩ (ra.ex n2.ext)) unv_app (fun C d H q => q) q (kv.nxt (n1.trans n2)) (kx.nxt (n1.trans n2))) kx
end
section
variable {X : Cx} {pins : List (Addr × Obj)} {σ : L2.St} {H : Hp} {s : Shared}
end
section
variable {X : Cx} {x n : Str} {c : Value} {i : Nat} {body suite : List Stmt} {b₀ : Stmt} {np pos pos' : Pos} {tb : WX → TS} {ts : Addr → Value → Option Addr → TS} {Wout : WX}
end
end G

set_option Elab.async false
set_option linter.all false
set_option maxRecDepth 100000
set_option maxHeartbeats 4000000
namespace GX
open PySem PySem.Spec PySem.Calls PyProof.Rows PySem.W
section
variable {prog : Program} {w : World} {A : Around} {E : Value → Shared → Prop} {s : Shared} {K : Frag} {x D : Addr} {ox : Obj} {od : Option Obj}
end
end GX
namespace G
open PySem PySem.Spec PyProof.Rows L2
section
variable {X : Cx} {e : Expr} {te : TE} {pos : Pos} {f : Str}
end
section
variable {K : PySem.W.Frag} {W : WX} {O : List OD} {ts : List T} {P : PT'} {X : XX} {te : TE} {E : DE}
end
end G

set_option Elab.async false
set_option linter.all false
set_option maxRecDepth 100000
set_option maxHeartbeats 4000000
namespace G
open PySem PySem.Spec PyProof.Rows L2
/-- a def's promise where no repr is under way -/
def FnRG (P : Program) (w : World) (K : PySem.W.Frag) (mg : Str → Option Value) (base : Heap) (CX : CXT) (k : Nat) (f : Addr) (sp : Sp) : Prop :=
  ∀ (A : Around) (outer : List Env) (s : Shared) (H : Hp) (us : List Value) (vs : List V) (Q : VK) (E : XK), A.guards = some [] → Room k A → Env0 P w K mg base A outer s H → Vals vs us → sp vs H Q E →
    codeAny (model P w) A (.call (.ref f) ⟨us, []⟩) (CR CX outer P w H s Q E) s
def FnG (P : Program) (w : World) (K : PySem.W.Frag) (mg : Str → Option Value) (base : Heap) (k : Nat) (f : Addr) (n : Nat) (sp : SpD) : Prop :=
  FnRG P w K mg base (L2.CX P w) k f (lift K sp) ∧ PySem.W.keepIn K (.ref f) = true
section
variable {P : Program} {w : World} {K : PySem.W.Frag} {mg : Str → Option Value} {base : Heap} {k : Nat} {x qual : Str} {params : Arguments} {body : List Stmt} {scope : Scope} {f : Addr} {fd : FuncData} {N ps : List Str} {sp : SpD}
theorem fnG (F : FunD K x qual params body scope [] [] f fd) (S : FnScope N ps scope) (len : ∀ vs H Q E, lift K sp vs H Q E → vs.length = ps.length) (hb : Binds K fd ps [])
    (h : ∀ (cdv : Value) (A : Around) (outer : List Env) (s : Shared) (H : Hp) (vs : List V) (Q : VK) (E : XK), A.guards = some [] → Room k (A.deeper (envOfC qual scope s.heap.objs.size f cdv)) → lift K sp vs H Q E →
      ∃ t, PSs (cxOf (L2.CX P w) P w K mg base N qual scope f cdv A outer s H E) body t ∧ t { nx := fun _ H' => Q .non H', rt := Q } (L2.start N vs) H) :
    FnG P w K mg base (k + 1) f ps.length sp := by
  obtain ⟨⟨oc, od, dV, kV, doc, pm, an, cdv, ct, osl, rfl, lk, hcd, hD, _⟩, kp⟩ := F
  refine ⟨fun A outer s H us vs Q E hgd hr e0 r hs => ?_, kp⟩
  have hl := len _ _ _ _ hs
  have hb' := hb s us (e0.mod.kin.keeps fun b o e => (e0.bs b o e).1) (by rw [List.append_nil, ← r.length]; exact hl)
  rw [List.append_nil] at hb'
  exact LamX.run_ofS lk hcd S hr e0 hb' r hl fun hr' => h cdv A outer s H vs Q E hgd hr' hs
end
section
variable {X : Cx} {CX : CXT} {k : Nat} {f : Addr} {sp : Sp} {E : L2.St → XK} {x : Str} {e : Expr} {es : List Expr} {t : TA} {p pos : Pos}
theorem run_fnG {pins : List (Addr × Obj)} {σ : L2.St} {H : Hp} {s : Shared} {Q : VK} {us : List Value} {vs : List V} (F : FnRG X.prog X.w X.K X.mg X.base CX k f sp) (hgd : X.A.guards = some []) (hr : Room k X.A) (hx : PassesAt CX X σ (E σ))
    (I : Inv X pins σ H s) (r : Vals vs us) (h : sp vs H Q (E σ)) : wpAny (model X.prog X.w) X.A (call (.ref f) us) (EP X pins σ Q) X.xe s := by
  have F2 : FnRG X.prog X.w X.K X.mg X.base CX k f (fun vs H Q E' => sp vs H Q E') := F
  refine wpAny_call (codeAny_mono (F2 X.A X.stack s H us vs Q (E σ) hgd hr I.env0 r h) fun r' s' hq => ?_)
  cases r' with
  | error e => exact hx pins H s e s' I hq
  | ok fl =>
    cases fl with
    | ret u => exact I.after hq
    | next => exact False.elim hq
    | brk => exact False.elim hq
    | cont => exact False.elim hq
end
section
variable {X : Cx} {CX : CXT} {k : Nat} {f : Addr} {sp : Sp} {E : XK} {x : Str} {e : Expr} {es : List Expr} {t : TA} {p pos : Pos}
/-- f(e, ..) where f does not raise -/
theorem pe_callG (F : FnRG X.prog X.w X.K X.mg X.base CX k f sp) (hgd : X.A.guards = some []) (hr : Room k X.A) (hg : Gl X x)
    (hm : X.mg x = some (.ref f)) (hk : PySem.W.keepIn X.K (.ref f) = true) (hx : Passes CX X E) (ha : PA X (e :: es) t)
    (hdb : (x == ("__debug__" : Str)) = false := by decide) (he : starEach (e :: es) X.env = (false, eval e X.env) :: starEach es X.env := by rfl)
    (hpl : (backTo pos (starEach es X.env)).any (·.1) = false := by rfl) : PE X (.Call (.Name x p) (e :: es) [] pos) (tCall sp [] E t) := by
  refine ⟨fun pins s σ H Q I h => ?_⟩
  refine wpAny_Call_Name_kw (ld_glob I hg hm ?_ hdb)
  exact PySem.W.callWith_K (h₀ := X.base) I.ok.mod.kin hk (thn (ha.run pos pins s σ H _ I h) fun us s1 ⟨vs, H1, I1, r, q⟩ => ⟨I1.kIn, run_fnG (E := fun _ => E) F hgd hr (fun pins H s e s' I c => hx pins σ H s e s' I c) I1 r (by
    have q' : sp (vs ++ []) H1 Q E := q
    rw [List.append_nil] at q'
    exact q')⟩) he hpl
end
/-- the script's list as it is first tracked, the tables empty -/
def hp0 (K : PySem.W.Frag) (a : Addr) (oa : Obj) (xs : List V) (Ts : List Addr) : Hp := fun b =>
  if b = a then (if K.lookup a = none then some (.frz oa (.lst xs)) else none) else if b ∈ Ts then some (.tbl #[]) else none
theorem law_callG {P : Program} {w : World} {K : PySem.W.Frag} {mg mb : Str → Option Value} {CX : CXT} {fa a : Addr} {cs : List (Addr × Addr)} {s₁ : Shared} {vs : List Value} {ns : List Int}
    (KX : K.In s₁.heap) (hns : s₁.heap.Ns mainGlobals mg) (hb : s₁.heap.Ns builtinsNs mb) (hbb : ∀ x : Str, x ≠ "__name__" → mb x = bootBuiltins x) (hlim : s₁.heap.NoLimit) (hg : s₁.gens = #[])
    (hT : ∀ p ∈ cs, s₁.heap.get? p.2 = some { cls := .none, data := .fields #[] }) (nT : ∀ p ∈ cs, K.lookup p.2 = none) (C : ∀ p ∈ cs, PySem.W.CodeHd s₁.heap p.1 p.2)
    (hbm : ∃ (bm : Addr) (ob : Obj), mg "__builtins__" = some (.ref bm) ∧ bm ≠ builtinsNs ∧ s₁.heap.get? bm = some ob ∧ ob.cls = .type "module" ∧ ob.dict = some builtinsNs ∧ ob.data = .plain)
    (ha : s₁.heap.get? a = some { cls := .type "list", data := .seq vs.toArray }) (hi : IntsAre vs ns) (hl : ns.length ≤ sizeLine)
    (F : ∀ (base : Heap) (H : Hp), Env0 P w K mg base callerA [] s₁ H → (∀ p ∈ cs, LamX.TabB base mg p.1 p.2) → (∀ p ∈ cs, H p.2 = some (.tbl #[])) → SqL K H a (ns.map V.int) →
      codeAny (model P w) callerA (.call (.ref fa) ⟨[.ref a], []⟩) (CR CX [] P w H s₁ (fun v _ => v = .bl true) fun _ _ _ => False) s₁)
    (hCX : ∀ H e s', CX [] H s₁ (fun _ _ _ => False) e s' → False) :
    codeAny (model P w) callerA (.call (.ref fa) ⟨[.ref a], []⟩) (fun r s' => r = .ok (.ret (.bool true)) ∧ OldK s₁.heap s'.heap ∧ s'.os = s₁.os ∧ AllBare s'.gens) s₁ := by
  have rv := vals_ints hi
  have zl : (ns.map V.int).length ≤ sizeLine := by rw [List.length_map]; exact hl
  generalize eo : ({ cls := .type "list", data := .seq vs.toArray } : Obj) = oa at ha
  have eoD : oa.data = .seq vs.toArray := by rw [← eo]
  generalize eT : cs.map (·.2) = Ts
  have inT : ∀ p ∈ cs, p.2 ∈ Ts := fun p hp => by rw [← eT]; exact List.mem_map.mpr ⟨p, hp, rfl⟩
  have ofT : ∀ b, b ∈ Ts → ∃ p ∈ cs, p.2 = b := fun b hb => by rw [← eT] at hb; exact List.mem_map.mp hb
  have isT : ∀ b, b ∈ Ts → s₁.heap.get? b = some { cls := .none, data := .fields #[] } := fun b hb => by
    obtain ⟨p, hp, e⟩ := ofT b hb
    rw [← e]
    exact hT p hp
  have aT : a ∉ Ts := fun z => by
    have q := isT a z
    rw [ha] at q
    have q2 : oa.data = Data.fields #[] := by rw [Option.some.inj q]
    rw [eoD] at q2
    cases q2
  generalize eH : hp0 K a oa (ns.map V.int) Ts = H
  have HT : ∀ b, b ∈ Ts → H b = some (.tbl #[]) := fun b hb => by
    rw [← eH]
    unfold hp0
    rw [if_neg (fun z => aT (by rw [← z]; exact hb)), if_pos hb]
  have HA : K.lookup a = none → H a = some (.frz oa (.lst (ns.map V.int))) := fun hk => by
    rw [← eH]
    unfold hp0
    rw [if_pos rfl, if_pos hk]
  have of : ∀ b u, H b = some u → (b = a ∧ K.lookup a = none ∧ u = .frz oa (.lst (ns.map V.int))) ∨ (b ∈ Ts ∧ u = .tbl #[]) := fun b u e => by
    rw [← eH] at e
    unfold hp0 at e
    by_cases h1 : b = a
    · rw [if_pos h1] at e
      by_cases h2 : K.lookup a = none
      · rw [if_pos h2] at e
        exact .inl ⟨h1, h2, (Option.some.inj e).symm⟩
      · rw [if_neg h2] at e
        cases e
    · rw [if_neg h1] at e
      by_cases h2 : b ∈ Ts
      · rw [if_pos h2] at e
        exact .inr ⟨h2, (Option.some.inj e).symm⟩
      · rw [if_neg h2] at e
        cases e
  -- an object that is neither a list nor a table is not tracked
  have off : ∀ {b : Addr} {o : Obj}, s₁.heap.get? b = some o → (∀ vs n, o.data ≠ .seq vs n) → o.data ≠ .fields #[] → H b = none := fun {b o} e h1 h2 => by
    cases q : H b with
    | none => rfl
    | some u =>
      rcases of b u q with ⟨e', _, _⟩ | ⟨e', _⟩
      · rw [e', ha] at e
        rw [← Option.some.inj e, eoD] at h1
        exact (h1 _ _ rfl).elim
      · rw [isT b e'] at e
        rw [← Option.some.inj e] at h2
        exact (h2 rfl).elim
  have kp : ∀ {b : Addr} {o : Obj}, s₁.heap.get? b = some o → (∀ vs n, o.data ≠ .seq vs n) → o.data ≠ .fields #[] → (hidT s₁.heap H).get? b = some o := fun e h1 h2 => hidT_get e (off e h1 h2)
  have nsK : ∀ {b : Addr} {m : Str → Option Value}, s₁.heap.Ns b m → (hidT s₁.heap H).Ns b m := fun {b m} ⟨o, es, ep, e, d, r⟩ =>
    ⟨o, es, ep, kp e (fun vs n z => by rw [d] at z; cases z) (fun z => by rw [d] at z; cases z), d, r⟩
  have hKb : K.In (hidT s₁.heap H) := fun b o e => hidT_get (KX b o e) (by
    cases q : H b with
    | none => rfl
    | some u =>
      rcases of b u q with ⟨e', hk, _⟩ | ⟨e', _⟩
      · rw [e', hk] at e
        cases e
      · obtain ⟨p, hp, ep⟩ := ofT b e'
        rw [← ep, nT p hp] at e
        cases e)
  have hM : L2.Mod K mg (hidT s₁.heap H) := ⟨hKb, nsK hns, ⟨mb, nsK hb, hbb⟩, let ⟨mc, h1, h2⟩ := hlim; ⟨mc, nsK h1, h2⟩⟩
  have TB : ∀ p ∈ cs, LamX.TabB (hidT s₁.heap H) mg p.1 p.2 := fun p hp => by
    have hTp := hT p hp
    refine ⟨?_, ?_, fun z => ?_⟩
    · obtain ⟨o, us, file, tf, flags, tg, inF, text, tt, e1, r1, r2, r⟩ := C p hp
      refine ⟨o, us, file, tf, flags, tg, inF, text, tt, kp e1 (fun vs n z => by rw [r2] at z; cases z) (fun z => ?_), r1, r2, r⟩
      rw [r2] at z
      have z' : us = #[] := by injection z
      rw [z'] at r
      exact absurd r.1 (by simp)
    · obtain ⟨bm, ob, b1, b2, b3, b4, b5, b6⟩ := hbm
      refine ⟨bm, ob, b1, b2, fun q => ?_, fun q => ?_, kp b3 (fun vs n z => by rw [b6] at z; cases z) (fun z => by rw [b6] at z; cases z), b4, b5, b6⟩
      · obtain ⟨o, es, ep, e, hd, _⟩ := hns
        rw [q, e] at b3
        rw [Option.some.inj b3, b6] at hd
        cases hd
      · rw [q, hTp] at b3
        rw [← Option.some.inj b3] at b6
        cases b6
    · obtain ⟨o, es, ep, e, hd, _⟩ := hns
      rw [z, hTp] at e
      rw [← Option.some.inj e] at hd
      cases hd
  have hok : HOk P w H s₁.heap := fun b u e => by
    rcases of b u e with ⟨rfl, _, rfl⟩ | ⟨hb', rfl⟩
    · exact ⟨ha, zl, vs, 0, rv, by rw [eo]; exact ha⟩
    · exact isT b hb'
  have hS : SqL K H a (ns.map V.int) := by
    cases hk : K.lookup a with
    | none => exact .inl (.inr ⟨oa, HA hk⟩)
    | some o =>
      have e := KX a o hk
      rw [ha] at e
      have e := Option.some.inj e
      rw [← e, ← eo] at hk
      exact .inr ⟨_, vs.toArray, 0, hk, rfl, rfl, rfl, by rw [List.size_toArray, hi.length]; exact hl, by simpa using rv⟩
  have e0 : Env0 P w K mg (hidT s₁.heap H) callerA [] s₁ H := ⟨rfl, hM, fun b o e => of_hidT e, Nat.le_of_eq (hidT_size _ _), trivial, fun b hb => absurd (show b ∈ ([] : List Addr) from hb) (by simp), hok, .of_eq hg⟩
  refine codeAny_mono (F _ H e0 TB (fun p hp => HT _ (inT p hp)) hS) fun r s' h => ?_
  cases r with
  | error e => exact (hCX H e s' h).elim
  | ok fl =>
    cases fl with
    | next => exact False.elim h
    | brk => exact False.elim h
    | cont => exact False.elim h
    | ret u =>
      obtain ⟨v, H', os, bare, un, hok', r', q⟩ := h
      have q' : v = .bl true := q
      subst q'
      obtain rfl : u = Value.bool true := r'
      have key : ∀ b o, b ∉ Ts → s₁.heap.get? b = some o → s'.heap.get? b = some o := fun b o nb e => by
        cases q : H b with
        | none => exact un.keep b o e q (by intro z; exact absurd (show b ∈ ([] : List Addr) from z) (by simp)) (by simp)
        | some u =>
          rcases of b u q with ⟨_, _, e2⟩ | ⟨hb', _⟩
          · rw [e2] at q
            have e3 := (hok b _ q).1
            rw [e] at e3
            have e4 := (hok' b _ (un.frzs b oa _ q)).1
            rw [Option.some.inj e3]
            exact e4
          · exact absurd hb' nb
      have grown : ∀ b, b ∈ Ts → ∃ more : Array Value, s'.heap.get? b = some { cls := .none, data := .fields more } := fun b hb' => by
        obtain ⟨more, z⟩ := un.tbls b #[] (HT b hb')
        exact ⟨_, hok' b _ z⟩
      refine ⟨rfl, ⟨fun b o e => ?_, fun b o e => ?_⟩, os, bare⟩
      · by_cases hb' : b ∈ Ts
        · obtain ⟨more, hm⟩ := grown b hb'
          obtain ⟨p, hp, ep⟩ := ofT b hb'
          rw [← ep] at e hm ⊢
          rw [hT p hp] at e
          have e := Option.some.inj e
          rw [← e]
          exact .inr (.inl ⟨((C p hp).tab (hT p hp)).isCodeTable, rfl, #[], more, rfl, by rw [Array.empty_append]; exact hm⟩)
        · exact .inl (key b o hb' e)
      · by_cases hb' : b ∈ Ts
        · obtain ⟨more, hm⟩ := grown b hb'
          exact ⟨_, hm⟩
        · exact ⟨o, key b o hb' e⟩
/-- what is known of the tables at the head's heap -/
structure TabH (K : PySem.W.Frag) (h : Heap) : Prop where
  emp : ∀ p ∈ csT K, h.get? p.1.2 = some { cls := .none, data := .fields #[] }
  out : ∀ p ∈ csT K, K.lookup p.1.2 = none
  hd : ∀ p ∈ csT K, PySem.W.CodeHd h p.1.1 p.1.2
def TabsB (K : PySem.W.Frag) (mg : Str → Option Value) (base : Heap) : Prop := ∀ p ∈ csT K, LamX.TabB base mg p.1.1 p.1.2
theorem walk_ofG {l : PySem.W.OpenLaw} {n k : Nat} {q : Program} {loose : List Str} {XP : (Str → Option Value) → Heap → Prop} {YP : World → Heap → Prop} {d : DefRec} {CX : CXT}
    (hn : l.most = some n) (hn2 : n ≤ 1000000) (hdf : d.params.defaults = []) (hr : Room k callerA)
    (F : ∀ (w : World) (mg : Str → Option Value) (fa : Addr) (h : Heap), YP w h → h.Ns mainGlobals mg → mg d.name = some (.ref fa) →
      ∃ K : PySem.W.Frag, K.In h ∧ TabH K h ∧ ∀ base : Heap, K.In base → base.Ns mainGlobals mg → TabsB K mg base → FnRG l.prog w K mg base CX k fa (lift K (sp_law K)))
    (hCX : ∀ (H : Hp) (s : Shared) (e : Value) (s' : Shared), CX [] H s (fun _ _ _ => False) e s' → False) :
    PySem.W.WalkO q loose XP YP l.row.toRowW d [] (fun f vs => PySem.call f vs) := by
  refine Att.attach_call hn hdf fun w s₀ s₁ mg mb fa o pm cd doc a vs ns G Y ho hd hcd hmg hobj hints hlen hg => ?_
  obtain ⟨K, KX, TH, hF⟩ := F w mg fa _ Y G.T.g hmg
  have hl : ns.length ≤ 1000000 := Nat.le_trans hlen hn2
  have of : ∀ p ∈ (csT K).map (·.1), ∃ q ∈ csT K, q.1 = p := fun p hp => List.mem_map.mp hp
  refine law_callG (cs := (csT K).map (·.1)) KX G.T.g G.T.b G.T.builtins G.T.nolimit hg (fun p hp => ?_) (fun p hp => ?_) (fun p hp => ?_) G.T.bmain hobj hints (Nat.le_trans hl (by decide)) (fun base H e0 TB hH hS => ?_) fun H e s' => hCX H s₁ e s'
  · obtain ⟨q, hq, rfl⟩ := of p hp
    exact TH.emp q hq
  · obtain ⟨q, hq, rfl⟩ := of p hp
    exact TH.out q hq
  · obtain ⟨q, hq, rfl⟩ := of p hp
    exact TH.hd q hq
  · refine hF base e0.mod.kin e0.mod.glob (fun q hq => TB q.1 (List.mem_map.mpr ⟨q, hq, rfl⟩)) callerA [] s₁ H [.ref a] [.ref a] _ _ rfl hr e0 (.cons rfl .nil) (law_lift hl hS fun p hp => ?_)
    obtain ⟨q, hq, rfl⟩ := List.mem_map.mp hp
    exact LamX.TabS.nil (hH q.1 (List.mem_map.mpr ⟨q, hq, rfl⟩))
/-- a plain promise is one where the guards are known, too -/
theorem fn_endG {P : Program} {w : World} {K : PySem.W.Frag} {mg : Str → Option Value} {base : Heap} {k l n : Nat} {f : Addr} {sp : SpD} (h : FnG P w K mg base k f n sp) (hk : k ≤ l) : FnRG P w K mg base (CXa P) l f (lift K sp) := fun A outer s H us vs Q E hgd hr e0 r hs =>
  codeAny_mono (h.1 A outer s H us vs Q E hgd (hr.mono hk) e0 r hs) fun r s' c => by
    cases r with
    | ok x => cases x <;> exact c
    | error e => exact ⟨w, c⟩
/-- what repr is asked of: data, or an empty dict -/
def RpV (K : PySem.W.Frag) (H : Hp) (v : V) (d : PyData) : Prop := Dp K H v d ∨ (d = .dict [] ∧ ∃ a, v = .ref a ∧ H a = some (.dK []))
def rRepr (K : PySem.W.Frag) : List V → Hp → VK → Prop := fun xs H Q => ∃ v d, xs = [v] ∧ RpV K H v d ∧ d.showable = true ∧ d.depth ≤ 100 ∧ d.shown.length ≤ sizeLine ∧ Q (.str d.shown) H
mutual
theorem dp_noDict {K : PySem.W.Frag} {H : Hp} : ∀ (d : PyData) {v : V}, Dp K H v d → d.hasDict = false
  | .none, _, _ => by simp [PyData.hasDict]
  | .bool _, _, _ => by simp [PyData.hasDict]
  | .int _, _, _ => by simp [PyData.hasDict]
  | .str _, _, _ => by simp [PyData.hasDict]
  | .list ds, _, h => by
    cases h with
    | lst _ h2 => simpa [PyData.hasDict] using dpAll_noDict ds h2
  | .tuple ds, _, h => by
    cases h with
    | tup _ h2 => simpa [PyData.hasDict] using dpAll_noDict ds h2
  | .dict _, _, h => by cases h
theorem dpAll_noDict {K : PySem.W.Frag} {H : Hp} : ∀ (ds : List PyData) {vs : List V}, DpAll K H vs ds → PyData.hasDictAll ds = false
  | [], _, _ => by simp [PyData.hasDictAll]
  | d :: ds, _, h => by
    cases h with
    | cons h1 h2 => simp [PyData.hasDictAll, dp_noDict d h1, dpAll_noDict ds h2]
end
section
variable {X : Cx} {k : Nat}
theorem call_reprG (hgd : X.A.guards = some []) (hr : Room k X.A) (K : PySem.W.Frag) (hK : X.K = K := by rfl) : CallR X (.builtin "repr") (rRepr K) := by
  subst hK
  intro pins s σ H xs us Q I r h
  obtain ⟨v, d, rfl, hd, hs, hdp, hz, q⟩ := h
  obtain ⟨u, rfl, ru⟩ := vals1 r
  have hu : X.A.units + (d.depth + 1) < cLine := by
    have := hr.un
    omega
  have fin : ∀ (a : Addr) (as : List Addr), Reads s.heap (.ref a) d as → (d.hasDict = true → sysModules ∉ as) → wpAny (model X.prog X.w) X.A (call (.builtin "repr") [.ref a]) (EP X pins σ Q) X.xe s := fun a as rd hd' =>
    repr_of_reads' rd hs hd' hgd hu (fun _ _ e => e) (fun h' t tk kp => ⟨.str d.shown, H, (I.kept kp), ⟨t, rfl⟩, q⟩) hz
  rcases hd with hd | ⟨rfl, a, rfl, ha⟩
  · cases hd with
    | non =>
      cases ru
      exact PySem.P.repr_of_none ⟨.str _, H, I.tok _, ⟨_, rfl⟩, q⟩
    | bl b =>
      cases ru
      exact PySem.P.repr_of_bool ⟨.str _, H, I.tok _, ⟨_, rfl⟩, q⟩
    | int i =>
      obtain ⟨t, rfl⟩ := ru
      exact PySem.P.repr_of_int (by simpa [PyData.showable] using hs) ⟨.str _, H, I.tok _, ⟨_, rfl⟩, q⟩
    | str x =>
      obtain ⟨t, rfl⟩ := ru
      exact PySem.P.repr_of_str ⟨.str _, H, I.tok _, ⟨_, rfl⟩, q⟩ hz
    | lst h1 h2 =>
      have hd := Dp.lst h1 h2
      obtain ⟨as, rd⟩ := Dp.reads I _ _ _ hd ru
      cases ru
      exact fin _ as rd fun z => by
        rw [dp_noDict _ hd] at z
        cases z
    | tup h1 h2 =>
      have hd := Dp.tup h1 h2
      obtain ⟨as, rd⟩ := Dp.reads I _ _ _ hd ru
      cases ru
      exact fin _ as rd fun z => by
        rw [dp_noDict _ hd] at z
        cases z
  · cases ru
    obtain ⟨_, hne, vs, kv, o, es, ep, ho, hE, hdd, _, hes, _⟩ := I.hok a _ ha
    cases kv
    have e0 : es.toList = [] := by
      cases q : es.toList with
      | nil => rfl
      | cons e r =>
        rw [q] at hes
        cases hes
    refine fin a _ (Reads.dict (kvs := []) ho hE.1 hdd (by rw [e0]; exact ReadsAll.nil) (by rw [e0]; exact ReadsAll.nil)) fun _ z => ?_
    rcases List.mem_append.mp z with z | z
    · rcases List.mem_cons.mp z with z | z
      · rw [← z] at hne
        simp at hne
      · cases z
    · cases z
end
mutual
/-- what a reader sees of it -/
def pyD : D → Option PyData
  | .non => some .none
  | .bl b => some (.bool b)
  | .int i => some (.int i)
  | .str x => some (.str x)
  | .lst ds => (pyL ds).map .list
  | .tup ds => (pyL ds).map .tuple
  | _ => none
def pyL : List D → Option (List PyData)
  | [] => some []
  | d :: ds => match pyD d, pyL ds with
    | some x, some xs => some (x :: xs)
    | _, _ => none
end
def pyT : D → Option PyData
  | .dic [] => some (.dict [])
  | d => pyD d
mutual
theorem pyD_dp {K : PySem.W.Frag} {H : Hp} : ∀ (d : D) {p : PyData} {v : V}, pyD d = some p → Rep K H d v → Dp K H v p
  | .non, _, _, e, r => by cases e; cases r; exact .non
  | .bl b, _, _, e, r => by cases e; cases r; exact .bl b
  | .int b, _, _, e, r => by cases e; cases r; exact .int b
  | .str b, _, _, e, r => by cases e; cases r; exact .str b
  | .lst ds, _, _, e, r => by
    obtain ⟨a, vs, rfl, h1, h2⟩ := r
    have e' : (pyL ds).map PyData.list = some _ := e
    cases q : pyL ds with
    | none => rw [q] at e'; cases e'
    | some xs =>
      rw [q] at e'
      cases e'
      exact .lst (SqL.of h1) (pyL_dp ds q h2)
  | .tup ds, _, _, e, r => by
    obtain ⟨a, vs, rfl, h1, h2⟩ := r
    have e' : (pyL ds).map PyData.tuple = some _ := e
    cases q : pyL ds with
    | none => rw [q] at e'; cases e'
    | some xs =>
      rw [q] at e'
      cases e'
      exact .tup h1 (pyL_dp ds q h2)
  | .ty _, _, _, e, _ => nomatch e
  | .ref _, _, _, e, _ => nomatch e
  | .ins _ _, _, _, e, _ => nomatch e
  | .dic _, _, _, e, _ => nomatch e
  | .scr _, _, _, e, _ => nomatch e
  | .ext _, _, _, e, _ => nomatch e
  | .exc _ _, _, _, e, _ => nomatch e
theorem pyL_dp {K : PySem.W.Frag} {H : Hp} : ∀ (ds : List D) {ps : List PyData} {vs : List V}, pyL ds = some ps → RepL K H ds vs → DpAll K H vs ps
  | [], _, _, e, r => by cases e; cases r; exact .nil
  | d :: ds, _, _, e, r => by
    obtain ⟨v, w, rfl, h1, h2⟩ := r
    unfold pyL at e
    cases q1 : pyD d with
    | none => rw [q1] at e; cases e
    | some x =>
      cases q2 : pyL ds with
      | none => rw [q1, q2] at e; cases e
      | some xs =>
        rw [q1, q2] at e
        cases e
        exact .cons (pyD_dp d q1 h1) (pyL_dp ds q2 h2)
end
theorem pyT_rp {K : PySem.W.Frag} {H : Hp} {d : D} {p : PyData} {v : V} (e : pyT d = some p) (r : Rep K H d v) : RpV K H v p := by
  unfold pyT at e
  split at e
  · cases e
    obtain ⟨a, ws, rfl, h1, h2⟩ := r
    have h3 : ws = [] := h2
    subst h3
    exact .inr ⟨rfl, a, rfl, h1⟩
  · exact .inl (pyD_dp d e r)
/-- d may be shown -/
structure Shows (d : D) (p : PyData) : Prop where
  py : pyT d = some p
  ok : p.showable = true
  dp : p.depth ≤ 100
  len : p.shown.length ≤ sizeLine
theorem c_repr {K : PySem.W.Frag} {O : List OD} {P : PT'} {d : D} {p : PyData} (h : Shows d p) (k : P (.v (.str p.shown)) O) : WC K (rRepr K) [.v d] O P := fun b' A H Q vs s r kv => by
  obtain ⟨v, _, rfl, ⟨_, e1, r1⟩, rfl⟩ := r
  cases e1
  exact ⟨v, p, rfl, pyT_rp h.py (Rep.ex hid_ex _ r1), h.ok, h.dp, h.len, kv _ _ A O H k s Nxt.refl ⟨_, rfl, rfl⟩⟩
end G

set_option Elab.async false
set_option linter.all false
set_option maxRecDepth 100000
set_option maxHeartbeats 4000000
namespace G
open PySem PySem.Spec PyProof.Rows L2 NdefX
/-- the only closure cell, the code object of the function at f -/
def closAt (K : PySem.W.Frag) (f : Addr) : Addr := match K.lookup f with
  | some ⟨_, _, .func fd, _⟩ => (match fd.closure with
    | [(_, c)] => c
    | _ => 0)
  | _ => 0
def codeAt (K : PySem.W.Frag) (f : Addr) : Addr := match K.lookup f with
  | some ⟨_, _, .func fd, _⟩ => (match fd.code with
    | .ref c => c
    | _ => 0)
  | _ => 0
structure ExD where
  cls : Str
  qual : Str
  params : Arguments
  body : List Stmt
  scope : Scope
  file : Str
  fs : List Str
def ExD.f (K : PySem.W.Frag) (d : ExD) : Addr := He.ma K (He.ga K d.cls) "__init__"
abbrev FnE : Type := Option (Str × Str × Arguments × FuncBody × Scope × Addr × List Str × Addr)
def fnE (K : PySem.W.Frag) (f : Addr) : FnE := match K.lookup f with
  | some ⟨_, _, .func fd, _⟩ => some (fd.name, fd.qualname, fd.params, fd.body, fd.scope, fd.globals, fd.closure.map (·.1), fd.builtins)
  | _ => none
def ExD.val (d : ExD) : FnE := some ("__init__", d.qual, d.params, .stmts d.body, d.scope, mainGlobals, ["__class__"], builtinsNs)
def ExD.nf (K : PySem.W.Frag) (d : ExD) : NF := ⟨"__init__", d.qual, d.params, d.body, d.scope, [("__class__", closAt K (d.f K))], codeAt K (d.f K)⟩
def noneB : Value → Bool
  | .none => true
  | _ => false
theorem noneB_ok {v : Value} (h : noneB v = true) : v = .none := by
  cases v with
  | none => rfl
  | _ => cases h
def refB : Value → Bool
  | .ref _ => true
  | _ => false
def funB (K : PySem.W.Frag) (f : Addr) : Bool := match K.lookup f with
  | some ⟨_, _, .func fd, _⟩ => noneB fd.defaults && (noneB fd.kwdefaults && (decide (fd.annotations = none) && refB fd.code))
  | _ => false
theorem fun_of {K : PySem.W.Frag} {d : ExD} (e : fnE K (d.f K) = d.val) (c : funB K (d.f K) = true) : ∃ oc od doc pm ctv osl, K.lookup (d.f K) = some ⟨oc, od, .func ((d.nf K).fd doc pm ctv), osl⟩ := by
  unfold fnE at e
  unfold funB at c
  unfold ExD.nf closAt codeAt
  cases q : K.lookup (d.f K) with
  | none =>
    rw [q] at c
    cases c
  | some o =>
    obtain ⟨oc, od, dt, osl⟩ := o
    rw [q] at c e
    cases dt with
    | func fd =>
      obtain ⟨n1, n2, n3, n4, n5, n6, n7, n8, n9, n10, n11, n12, n13, n14, n15⟩ := fd
      have e2 : (some (n1, n2, n3, n4, n5, n6, n7.map (·.1), n15) : FnE) = (some (("__init__" : Str), d.qual, d.params, FuncBody.stmts d.body, d.scope, mainGlobals, [("__class__" : Str)], builtinsNs) : FnE) := e
      simp only [Option.some.injEq, Prod.mk.injEq] at e2
      obtain ⟨h1, h2, h3, h4, h5, h6, h7, h8⟩ := e2
      have c2 : (noneB n8 && (noneB n9 && (decide (n12 = none) && refB n13))) = true := c
      obtain ⟨k1, c2⟩ := He.ba c2
      obtain ⟨k2, c2⟩ := He.ba c2
      obtain ⟨k3, k4⟩ := He.ba c2
      have k1 := noneB_ok k1
      have k2 := noneB_ok k2
      have k3 := of_decide_eq_true k3
      obtain ⟨c0, k4⟩ : ∃ c0, n13 = .ref c0 := by
        cases n13 with
        | ref c0 => exact ⟨c0, rfl⟩
        | _ => cases k4
      obtain ⟨cc, k5⟩ : ∃ cc, n7 = [(("__class__" : Str), cc)] := by
        cases n7 with
        | nil => cases h7
        | cons p r =>
          cases r with
          | nil =>
            obtain ⟨p1, p2⟩ := p
            have z : p1 = ("__class__" : Str) := by simpa using h7
            exact ⟨p2, by rw [z]⟩
          | cons _ _ => simp at h7
      subst h1 h2 h3 h4 h5 h6 h8 k1 k2 k3 k4 k5
      exact ⟨oc, od, n10, n11, n14, osl, rfl⟩
    | _ => cases c
def oexB (K : PySem.W.Frag) (C : Addr) : Bool := match K.lookup C with
  | some ⟨.type "type", _, .cls cd, sl⟩ => (match cd.mro, sl.toList with
    | .ref C' :: bm, [_, _, _, _, some (.builtin n), _] => C' == C && n == "ValueError.__new__" && !cd.hasDel && cd.hasDict && PySem.HandSPX.refsVE bm
    | _, _ => false)
  | _ => false
theorem oex_of {K : PySem.W.Frag} {C : Addr} (q : oexB K C = true) : ∃ nm qn N bs bm sn sub ab col dd k0 k1 k2 k3 k5, K.lookup C = some (excClassObj nm qn C N bs bm true sn sub ab col dd k0 k1 k2 k3 k5 "ValueError.__new__") ∧ PySem.HandSPX.refsVE bm = true := by
  unfold oexB at q
  split at q
  · rename_i dd cd sl ho
    split at q
    · rename_i C' bm k0 k1 k2 k3 n k5 hm hs
      simp only [Bool.and_eq_true, beq_iff_eq, Bool.not_eq_true'] at q
      obtain ⟨⟨⟨⟨rfl, rfl⟩, hdel⟩, hd0⟩, ht⟩ := q
      obtain ⟨nm, bs, mro, ns, qn, hd, sn, sub, ab, col, del⟩ := cd
      dsimp only at hm hdel hd0
      subst hm hdel hd0
      have hsl : sl = #[k0, k1, k2, k3, some (.builtin "ValueError.__new__"), k5] := by
        obtain ⟨l⟩ := sl
        simp only at hs
        rw [hs]
      subst hsl
      exact ⟨nm, qn, ns, bs, bm, sn, sub, ab, col, dd, k0, k1, k2, k3, k5, ho, ht⟩
    · cases q
  · cases q
/-- the class of an own exception -/
structure ExK (K : PySem.W.Frag) (C : Addr) : Prop where
  oex : OexC K C
  exc : ExcC K C
  xf : XfC K C
def exkB (K : PySem.W.Frag) (C : Addr) : List Bool := [oexB K C, decide (PySem.W.findIn K (.ref C) "__setattr__" = some (some (.builtin "object.__setattr__"))), decide (PySem.W.subIn K (.ref C) (.type "BaseException") = some true), decide (PySem.W.typeIn K (.ref C) = some (.type "type")), PySem.W.keepIn K (.ref C),
  decide (PySem.W.findIn K (.ref C) "__getattribute__" = some (some (.builtin "BaseException.__getattribute__"))), decide (PySem.W.findIn K (.ref C) "__getattr__" = some none), PySem.W.hasDictIn K C, decide (PySem.W.findIn K (.ref C) "__class__" = some (some (.builtin "object.__class__"))),
  decide (PySem.W.specialIn K (.builtin "object.__class__") "__get__" = some (some (.builtin "getset_descriptor.__get__"))), decide (PySem.W.takesIn K (.builtin "object.__class__") = some true), decide (PySem.W.mroIn K C (.type "object") = some true)]
theorem exk_ok {K : PySem.W.Frag} {C : Addr} (h : (exkB K C).all id = true) : ExK K C := by
  have g : ∀ i b, (exkB K C)[i]? = some b → b = true := fun i b hb => List.all_eq_true.mp h b (List.mem_of_getElem? hb)
  exact ⟨⟨oex_of (g 0 _ rfl), of_decide_eq_true (g 1 _ rfl), of_decide_eq_true (g 2 _ rfl), of_decide_eq_true (g 3 _ rfl), g 4 _ rfl⟩,
    ⟨of_decide_eq_true (g 5 _ rfl), of_decide_eq_true (g 6 _ rfl), of_decide_eq_true (g 2 _ rfl), g 7 _ rfl, of_decide_eq_true (g 8 _ rfl), of_decide_eq_true (g 9 _ rfl), of_decide_eq_true (g 10 _ rfl), of_decide_eq_true (g 11 _ rfl)⟩,
    ⟨of_decide_eq_true (g 5 _ rfl), of_decide_eq_true (g 6 _ rfl), of_decide_eq_true (g 2 _ rfl), g 7 _ rfl⟩⟩
def cellB (K : PySem.W.Frag) (cc C : Addr) : Bool := match K.lookup cc with
  | some ⟨_, _, .cell (some (.ref a)), _⟩ => decide (a = C)
  | _ => false
theorem cell_of {K : PySem.W.Frag} {cc C : Addr} (h : cellB K cc C = true) : ∃ oc od osl, K.lookup cc = some ⟨oc, od, .cell (some (.ref C)), osl⟩ := by
  unfold cellB at h
  split at h
  · rename_i oc od a osl q
    exact ⟨oc, od, osl, by rw [← of_decide_eq_true h]; exact q⟩
  · cases h
def fileB (K : PySem.W.Frag) (c : Addr) (file : Str) : Bool := match K.lookup c with
  | some ⟨_, _, .fields vs, _⟩ => (match (vs[2]? : Option Value) with
    | some (.str fl _) => decide (fl = file)
    | _ => false)
  | _ => false
theorem file_of {K : PySem.W.Frag} {c : Addr} {file : Str} (h : fileB K c file = true) : ∃ oc od vs osl tf, K.lookup c = some ⟨oc, od, .fields vs, osl⟩ ∧ vs[2]? = some (.str file tf) := by
  unfold fileB at h
  split at h
  · rename_i oc od vs osl q
    split at h
    · rename_i fl tf hv
      exact ⟨oc, od, vs, osl, tf, q, by rw [← of_decide_eq_true h]; exact hv⟩
    · cases h
  · cases h
/-- all that is asked of an own exception with an __init__ of its own -/
def ExD.oks (K : PySem.W.Frag) (d : ExD) : List Bool := [(exkB K (He.ga K d.cls)).all id, funB K (d.f K), PySem.W.codeIn K (.ref (codeAt K (d.f K))) d.qual, cellB K (closAt K (d.f K)) (He.ga K d.cls), fileB K (codeAt K (d.f K)) d.file, PySem.W.keepIn K (.ref (d.f K)),
  decide (PySem.W.nsIn K cStatics "thirdparty.any" = some none), decide (PySem.W.nsIn K mainGlobals "super" = some none), decide (PySem.W.ks_superIn K (He.ga K d.cls) (He.ga K d.cls) "__init__" = some (some (.builtin "ValueError.__init__"))), decide (PySem.W.subIn K (.ref (He.ga K d.cls)) (.type "ValueError") = some true),
  decide (PySem.W.mroIn K (He.ga K d.cls) (.ref (He.ga K d.cls)) = some true), decide (PySem.W.findIn K (.ref (He.ga K d.cls)) "__init__" = some (some (.ref (d.f K)))), decide (PySem.W.typeIn K (.ref (d.f K)) = some (.type "function")), d.fs.all fun f => decide (PySem.W.findIn K (.ref (He.ga K d.cls)) f = some none)]
structure ExOk (K : PySem.W.Frag) (d : ExD) (ar : Str) : Prop where
  k : ExK K (He.ga K d.cls)
  init : GX.InitC K (He.ga K d.cls) (d.f K) (closAt K (d.f K)) (d.nf K) ar
  file : ∃ oc od vs osl tf, K.lookup (d.nf K).c = some ⟨oc, od, .fields vs, osl⟩ ∧ vs[2]? = some (.str d.file tf)
  iC : PySem.W.findIn K (.ref (He.ga K d.cls)) "__init__" = some (some (.ref (d.f K)))
  tI : PySem.W.typeIn K (.ref (d.f K)) = some (.type "function")
  no : ∀ f ∈ d.fs, PySem.W.findIn K (.ref (He.ga K d.cls)) f = some none
theorem ExOk.of {K : PySem.W.Frag} {d : ExD} {ar : Str} (h : (d.oks K).all id = true) (e : fnE K (d.f K) = d.val) (hp : ∃ x, (d.params.posonlyargs ++ d.params.args).head? = some x ∧ x.arg = ar) : ExOk K d ar := by
  have g : ∀ i b, (d.oks K)[i]? = some b → b = true := fun i b hb => List.all_eq_true.mp h b (List.mem_of_getElem? hb)
  have k := exk_ok (g 0 _ rfl)
  have hf := file_of (g 4 _ rfl)
  refine ⟨k, ⟨k.oex, fun_of e (g 1 _ rfl), g 2 _ rfl, rfl, cell_of (g 3 _ rfl), ?_, g 5 _ rfl, of_decide_eq_true (g 6 _ rfl), of_decide_eq_true (g 7 _ rfl), of_decide_eq_true (g 8 _ rfl), of_decide_eq_true (g 9 _ rfl), of_decide_eq_true (g 10 _ rfl), hp⟩, hf, of_decide_eq_true (g 11 _ rfl), of_decide_eq_true (g 12 _ rfl), fun f hm => ?_⟩
  · obtain ⟨oc, od, vs, osl, tf, h1, h2⟩ := hf
    exact ⟨oc, od, vs, osl, d.file, tf, h1, h2⟩
  · have z := List.all_eq_true.mp (g 13 _ rfl) f hm
    exact of_decide_eq_true z
/-- what is asked of the program itself -/
structure POk (P : Program) (file : Str) : Prop where
  file : P.main.file = file
  sup : (P.main.scope.names.lookup ("super" : Str)).isSome = false
/-- {} -/
theorem w_dic0 {K : PySem.W.Frag} {W : WX} {O : List OD} {ts : List T} {P : PT'} {X : XX} (k : P (.v (.dic [])) O) : WE K W tDNewK O ts P X := fun b A σ H Q s rs kv kx => fun a ha => by
  obtain ⟨s2, n2, q2⟩ := s.lay ha (.dK [])
  exact kv _ _ A O _ k s2 n2 ⟨_, rfl, a, [], rfl, q2, rfl⟩
section
variable {X : Cx}
def KwB (K : PySem.W.Frag) (fd : FuncData) (ps : List Str) : Prop := ∀ (s : Shared) (ws : List Value), K.In s.heap → ws.length = ps.length → BindsTo s fd ⟨[], ps.zip ws⟩ (ps.zip ws)
theorem kwB {K : PySem.W.Frag} {x qual : Str} {params : Arguments} {body : List Stmt} {scope : Scope} {f : Addr} {fd fd2 : FuncData} {ps : List Str} (F : FunD K x qual params body scope [] [] f fd) (lk : LkF K f fd2)
    (h : ∀ (kV doc pm : Value) (an : Option Addr) (cdv ct : Value) (ws : List Value), ws.length = ps.length → bindArgs (PySem.W.fnOf x qual params body scope .none kV doc pm an cdv ct) ⟨[], ps.zip ws⟩ = pure (ps.zip ws)) : KwB K fd2 ps := by
  obtain ⟨oc2, od2, osl2, e2⟩ := lk
  obtain ⟨oc, od, dV, kV, doc, pm, an, cdv, ct, osl, rfl, lk, hcd, hD, hK⟩ := F.ex
  rw [lk] at e2
  injection e2 with e2
  injection e2 with _ _ e2
  injection e2 with e2
  subst e2
  rcases hD with ⟨_, rfl⟩ | ⟨z, _⟩
  · exact fun s ws _ hl => BindsTo.of_eq (h kV doc pm an cdv ct ws hl)
  · exact absurd rfl z
variable {CX : CXT} {k : Nat} {f : Addr} {fd : FuncData} {ps : List Str} {sp : Sp} {E : XK} {x : Str} {kws : List Keyword} {tk : TA} {p pos : Pos}
end
end G

set_option Elab.async false
set_option linter.all false
set_option maxRecDepth 100000
set_option maxHeartbeats 4000000
namespace G
open PySem PySem.Spec PyProof.Rows L2 LamX
section
variable {X : Cx} {pins : List (Addr × Obj)} {σ : L2.St} {H HZ : Hp} {s s1 : Shared}
end
/-- the def that got the lambda: its body's reading, whatever the lambda's is -/
def GivesS (X : Cx) (Ng : List Str) (x : Str) (sg : Scope) (g : Addr) (cdg : Value) (bg : List Stmt) (a : Str) (th : (WX → TE) → TS) : Prop :=
  ∀ (s : Shared) (H : Hp) (ta : WX → TE),
    (∀ (W : WX) (pn : List (Addr × Obj)) (xe : Value → Shared → Prop) (p1 p2 : Pos), Takes ((cxOf C8.CX0 X.prog X.w X.K X.mg X.base Ng x sg g cdg X.A X.stack s H C8.E0).tr pn xe) W →
      PE ((cxOf C8.CX0 X.prog X.w X.K X.mg X.base Ng x sg g cdg X.A X.stack s H C8.E0).tr pn xe) (.Call (.Name a p1) [] [] p2) (ta W)) →
    PSs (cxOf C8.CX0 X.prog X.w X.K X.mg X.base Ng x sg g cdg X.A X.stack s H C8.E0).nox bg (th ta)
section
variable {X : Cx}
end
section
variable {K : PySem.W.Frag} {W : WX} {O : List OD} {ts ts0 : List T} {P : PT'} {X : XX} {t : XK → TE} {σ0 : L2.St} {f c' : Addr} {q : Str} {i : Nat}
end
/-- f's code object, its table, the name of its lambdas -/
structure LamF (K : PySem.W.Frag) (f : Addr) (q : Str) (P : Addr) : Prop where
  cs : ((codeAt K f, P), q) ∈ csT K
  un : ∀ p ∈ tabT K, p.1 = P → p.2 = q
theorem LamF.tab {K : PySem.W.Frag} {f : Addr} {q : Str} {P : Addr} (h : LamF K f q P) : (P, q) ∈ tabT K := List.mem_map.mpr ⟨_, h.cs, rfl⟩
/-- the tables at the head: in the part's words -/
def codeHdB (K : PySem.W.Frag) (c P : Addr) : Bool := match K.lookup c with
  | some ⟨cl, _, .fields vs, _⟩ => decide (cl = .type "code") && (decide ((vs[11]? : Option Value) = some (.ref P)) && ((match vs.getD 18 .none with
    | .str _ _ => true
    | _ => false) && ((match vs.getD 7 .none with
    | .int _ _ => true
    | _ => false) && ((match vs.getD 9 .none with
    | .bool _ => true
    | _ => false) && ((match vs.getD 10 .none with
    | .int _ _ => true
    | _ => false) && !decide (c = P))))))
  | _ => false
theorem codeHdB_ok {K : PySem.W.Frag} {h : Heap} {c P : Addr} (X : K.In h) (e : codeHdB K c P = true) : PySem.W.CodeHd h c P := by
  unfold codeHdB at e
  split at e
  · rename_i cl od vs osl ho
    obtain ⟨h1, e⟩ := He.ba e
    obtain ⟨h2, e⟩ := He.ba e
    obtain ⟨h3, e⟩ := He.ba e
    obtain ⟨h4, e⟩ := He.ba e
    obtain ⟨h5, e⟩ := He.ba e
    obtain ⟨h6, h7⟩ := He.ba e
    have h1 := of_decide_eq_true h1
    have h2 := of_decide_eq_true h2
    have g11 : vs.getD 11 .none = .ref P := by
      rw [Array.getD_eq_getD_getElem?, h2] <;> rfl
    obtain ⟨file, tf, h3⟩ : ∃ file tf, vs.getD 18 .none = .str file tf := by
      cases q : vs.getD 18 .none with
      | str a b => exact ⟨a, b, rfl⟩
      | _ => rw [q] at h3; cases h3
    obtain ⟨flags, tg, h4⟩ : ∃ file tf, vs.getD 7 .none = .int file tf := by
      cases q : vs.getD 7 .none with
      | int a b => exact ⟨a, b, rfl⟩
      | _ => rw [q] at h4; cases h4
    obtain ⟨inF, h5⟩ : ∃ inF, vs.getD 9 .none = .bool inF := by
      cases q : vs.getD 9 .none with
      | bool a => exact ⟨a, rfl⟩
      | _ => rw [q] at h5; cases h5
    obtain ⟨text, tt, h6⟩ : ∃ file tf, vs.getD 10 .none = .int file tf := by
      cases q : vs.getD 10 .none with
      | int a b => exact ⟨a, b, rfl⟩
      | _ => rw [q] at h6; cases h6
    refine ⟨_, vs, file, tf, flags, tg, inF, text, tt, X _ _ ho, h1, rfl, h2, g11, h3, h4, h5, h6, fun z => ?_⟩
    rw [decide_eq_true z] at h7
    cases h7
  · cases e
/-- looked at where the heap's objects are at hand -/
def tabsB (g : Addr → Option Obj) (K : PySem.W.Frag) : Bool := (csT K).all fun p => codeHdB K p.1.1 p.1.2 && ((K.lookup p.1.2).isNone && (match g p.1.2 with
  | some o => He.emptyTab o
  | none => false))
theorem tabsB_ok {K : PySem.W.Frag} {h : Heap} (X : K.In h) (e : tabsB h.get? K = true) : TabH K h := by
  have key : ∀ p ∈ csT K, codeHdB K p.1.1 p.1.2 = true ∧ K.lookup p.1.2 = none ∧ h.get? p.1.2 = some { cls := .none, data := .fields #[] } := fun p hp => by
    obtain ⟨h1, h2⟩ := He.ba (List.all_eq_true.mp e p hp)
    obtain ⟨h3, h4⟩ := He.ba h2
    refine ⟨h1, by simpa using h3, ?_⟩
    cases q : h.get? p.1.2 with
    | none => rw [q] at h4; cases h4
    | some o =>
      rw [q] at h4
      rw [He.emptyTab_eq h4]
  exact ⟨fun p hp => (key p hp).2.2, fun p hp => (key p hp).2.1, fun p hp => codeHdB_ok X (key p hp).1⟩
theorem TabH.keeps {K : PySem.W.Frag} {h h' : Heap} (t : TabH K h) (k : ∀ b o, h.get? b = some o → h'.get? b = some o) : TabH K h' := ⟨fun p hp => k _ _ (t.emp p hp), t.out, fun p hp => (t.hd p hp).keeps k⟩
def KwR (K : PySem.W.Frag) (fd : FuncData) (ps : List Str) : Prop := ∀ (s : Shared) (ws : List Value), K.In s.heap → ws.length = ps.length → BindsTo s fd ⟨[], ps.reverse.zip ws⟩ (ps.zip ws.reverse)
theorem kwR {K : PySem.W.Frag} {x qual : Str} {params : Arguments} {body : List Stmt} {scope : Scope} {f : Addr} {fd fd2 : FuncData} {ps : List Str} (F : FunD K x qual params body scope [] [] f fd) (lk : LkF K f fd2)
    (h : ∀ (kV doc pm : Value) (an : Option Addr) (cdv ct : Value) (ws : List Value), ws.length = ps.length → bindArgs (PySem.W.fnOf x qual params body scope .none kV doc pm an cdv ct) ⟨[], ps.reverse.zip ws⟩ = pure (ps.zip ws.reverse)) : KwR K fd2 ps := by
  obtain ⟨oc2, od2, osl2, e2⟩ := lk
  obtain ⟨oc, od, dV, kV, doc, pm, an, cdv, ct, osl, rfl, lk, hcd, hD, hK⟩ := F.ex
  rw [lk] at e2
  injection e2 with e2
  injection e2 with _ _ e2
  injection e2 with e2
  subst e2
  rcases hD with ⟨_, rfl⟩ | ⟨z, _⟩
  · exact fun s ws _ hl => BindsTo.of_eq (h kV doc pm an cdv ct ws hl)
  · exact absurd rfl z
def tCallV (sp : Sp) (E : XK) (t : TA) : TE := fun σ H Q => t σ H fun zs H1 => ∃ v u, zs = [v, u] ∧ sp [u, v] H1 Q E
section
variable {X : Cx} {CX : CXT} {k : Nat} {f : Addr} {fd : FuncData} {ps : List Str} {sp : Sp} {E : XK} {x : Str} {kws : List Keyword} {tk : TA} {p pos : Pos}
end
section
variable {K : PySem.W.Frag} {W : WX} {O : List OD} {ts : List T} {P : PT'} {X : XX} {sp : SpD} {tr : TA}
theorem w_fnV (h : WA K W tr O ts (fun xs O1 => ∃ d e, xs = [.v d, .v e] ∧ sp [.v e, .v d] [] (fun t _ => (∃ d, t = .v d) ∧ P t O1) (fun _ _ _ => False)) X) : WE K W (tCallV (lift K sp) E0 tr) O ts P X := fun b A σ H Q s rs kv kx =>
  h b A σ H _ s rs (fun xs vs A1 O1 H1 p1 s1 n1 r1 => by
    obtain ⟨d, e, rfl, p⟩ := p1
    obtain ⟨v, _, rfl, r2, u, _, rfl, r3, rfl⟩ := r1
    exact ⟨v, u, rfl, lift_p (W := fun _ _ _ _ => False) (X := fun _ _ _ => False) (σ := σ) s1 (xs := [.v e, .v d]) ⟨u, _, rfl, r3, v, _, rfl, r2, rfl⟩ rfl (fun C d H z => z) p (kv.nxt n1) (fun C fs A' O' H' d z => z.elim)⟩) kx
end
end G

set_option Elab.async false
set_option linter.all false
set_option maxRecDepth 100000
set_option maxHeartbeats 4000000
namespace G
open PySem PySem.Spec PyProof.Rows L2
def cut1 (n : Nat) : T → T
  | .v d => .v d
  | .own i => if i < n then .own i else .no
  | _ => .no
theorem s_local {K : PySem.W.Frag} {W : WX} {O : List OD} {ts : List T} {E : DE} {t : TS}
    (h : WS K W t O ts { E with nx := fun ts' O2 => ∃ O' R, O2 = O' ++ R ∧ O'.length = O.length ∧ E.nx (ts'.map (cut1 O.length)) O' }) : WS K W t O ts E := fun b A σ H D s rs ks => by
  refine h b A σ H D s rs ⟨fun ts' σ' A2 O2 H2 q s2 n2 r2 => ?_, ks.rt, ks.bk, ks.ct, ks.xe⟩
  obtain ⟨O', R, rfl, hl, q⟩ := q
  obtain ⟨M, rfl⟩ := n2.pre
  obtain ⟨s3, x3⟩ := s2.drop (A := A) (O := O') (by rw [s.len, hl]) s.pre
  refine ks.nx _ σ' A O' H2 q s3 ⟨⟨[], (List.append_nil A).symm⟩, n2.ext.trans x3⟩ ⟨by rw [List.length_map]; exact r2.1, fun j u e => ?_⟩
  rw [List.getElem?_map] at e
  cases q1 : ts'[j]? with
  | none =>
    rw [q1] at e
    cases e
  | some w =>
    rw [q1] at e
    have e : cut1 O.length w = u := Option.some.inj e
    obtain ⟨o, e1, r⟩ := r2.2 j w q1
    refine ⟨o, e1, ?_⟩
    subst e
    cases w with
    | v d =>
      obtain ⟨v, e2, r⟩ := r
      exact ⟨v, e2, r.ex x3⟩
    | own i =>
      show RepT K _ _ (if i < O.length then .own i else .no) o
      by_cases hi : i < O.length
      · rw [if_pos hi]
        obtain ⟨a, e2, e3⟩ := r
        rw [List.getElem?_append_left (by rw [s.len]; exact hi)] at e2
        exact ⟨a, e2, e3⟩
      · rw [if_neg hi]
        trivial
    | no => trivial
    | clo R f => trivial
end G

set_option Elab.async false
set_option linter.all false
set_option maxRecDepth 100000
set_option maxHeartbeats 4000000
namespace G
open PySem PySem.Spec PyProof.Rows L2
section
variable {K : PySem.W.Frag} {W : WX} {O : List OD} {ts : List T} {P : PT'} {X : XX} {g : TG} {te : TE} {vs : List Nat}
end
theorem cutD_drop {xs : List D} {n : Nat} (h : n ≤ xs.length) : cutD xs (some (n : Int)) none = xs.drop n := by
  unfold cutD
  rw [HT.sIx_none, HT.sIx_nat, Nat.min_eq_left h, List.take_of_length_le (by rw [List.length_drop]; exact Nat.le_refl _)]
end G

set_option Elab.async false
set_option linter.all false
set_option maxRecDepth 100000
set_option maxHeartbeats 4000000
namespace G
open PySem PySem.Spec PyProof.Rows L2
section
variable {K : PySem.W.Frag} {W : WX} {O : List OD} {ts : List T} {P : PT'} {X : XX} {sp : SpD} {tr : TA} {E : XK}
/-- C(..) of an __init__ with a star: m values behind self, the rest as a tuple -/
theorem w_makeS {C : Addr} {m : Nat} (h : WA K W tr O ts (fun xs O1 => ∃ ds, unv xs = some ds ∧ m ≤ ds.length ∧ ds.length ≤ 1000000 ∧ sp (.own 0 :: ((ds.take m).map T.v ++ [.v (.tup (ds.drop m))])) [.ins C []] (fun t O' => t = .v .non ∧ ∃ fs, O' = [.ins C fs] ∧ P (.v (.ins C fs)) O1) (fun _ _ _ => False)) X) :
    WE K W (StX.tMakeR C (liftS K (m + 1) sp) E0 tr) O ts P X := fun b A σ H Q s rs kv kx =>
  h b A σ H _ s rs (fun xs vs A1 O1 H1 p1 s1 n1 r1 x dx hx hdx hne => by
    obtain ⟨ds, e, hn, hz, p⟩ := p1
    have r2 := r1.plain e
    have hl : vs.length = ds.length := r2.length
    obtain ⟨ra, rb⟩ := repL_split r2 m
    refine ⟨V.ref x :: vs.take m, vs.drop m, (by rw [List.cons_append, List.take_append_drop]), (by rw [List.length_cons, List.length_take]; omega), Nat.le_trans (show (vs.drop m).length ≤ 1000000 by rw [List.length_drop]; omega) (Nat.le_of_ble_eq_true rfl), fun p' hp' => ?_⟩
    obtain ⟨s2, n2⟩ := s1.lay2 hdx (.own x)
    have hx2 : upd H1 dx (.own x) x = none := by
      rw [upd_ne hne.symm]
      exact hx
    obtain ⟨s3, n3⟩ := s2.own (u := .ins C dx []) (o := .ins C []) hx2 ⟨dx, [], upd_same, rfl⟩
    obtain ⟨s3, n3', f3⟩ := s3.lay hp' (.tup (vs.drop m))
    have n13 := (n2.trans n3).trans n3'
    have e := unv_app (ds := ds.take m) (d := .tup (ds.drop m))
    have hat : (A1 ++ [x])[A1.length]? = some x := by
      rw [List.getElem?_append_right (Nat.le_refl _), Nat.sub_self]
      exact rfl
    have hoat : (O1 ++ [OD.ins C []])[A1.length]? = some (.ins C []) := by
      rw [s1.len, List.getElem?_append_right (Nat.le_refl _), Nat.sub_self]
      exact rfl
    have tr : tr1 A1.length (.own A1.length :: ((ds.take m).map T.v ++ [.v (.tup (ds.drop m))])) = some (.own 0 :: ((ds.take m).map T.v ++ [.v (.tup (ds.drop m))])) := by
      have z : ∀ {xs : List T} {ds : List D}, unv xs = some ds → tr1 A1.length xs = some xs := fun {xs} => by
        induction xs with
        | nil => exact fun _ => rfl
        | cons t xs ih =>
          intro ds e
          cases t with
          | v d =>
            have e3 : (unv xs).map (d :: ·) = some ds := e
            cases q : unv xs with
            | none =>
              rw [q] at e3
              cases e3
            | some es =>
              show (tr1 A1.length xs).map (T.v d :: ·) = _
              rw [ih q]
              exact rfl
          | own j => cases e
          | no => cases e
          | clo R f => cases e
      show (if A1.length = A1.length then (tr1 A1.length ((ds.take m).map T.v ++ [.v (.tup (ds.drop m))])).map (T.own 0 :: ·) else none) = _
      rw [if_pos rfl, z e]
      exact rfl
    refine lift_1 (W := fun _ _ _ _ => False) (X := fun _ _ _ => False) (σ := σ) (P := fun t O' => t = .v .non ∧ ∃ fs, O' = O1 ++ [.ins C fs] ∧ P (.v (.ins C fs)) O1) s3 (xs := .own A1.length :: ((ds.take m).map T.v ++ [.v (.tup (ds.drop m))])) ⟨.ref x, vs.take m ++ [V.ref p'], rfl, ⟨x, hat, rfl⟩, repTs_app (ys := [.v (.tup (ds.drop m))]) ⟨.ref p', [], rfl, ⟨_, rfl, p', vs.drop m, rfl, SqT.of f3, rb.ex n13.ext⟩, rfl⟩ (ra.ex n13.ext)⟩ tr hoat rfl (fun C d H z => z) ?_
      (fun t v A' O' H' q s' n' rt => ?_) (fun C fs A' O' H' d z => z.elim)
    · have x0 : (fun (C' : Value) (fs : Option (List (Str × D))) (O' : List OD) => ∃ o', O' = [o'] ∧ (fun _ _ _ => False : XX) C' fs ((O1 ++ [OD.ins C []]).set A1.length o')) = fun _ _ _ => False := by
        funext C fs O'
        exact propext ⟨fun ⟨_, _, z⟩ => z, fun z => z.elim⟩
      rw [x0]
      have pq : (fun (t : T) (O' : List OD) => ∃ o', O' = [o'] ∧ okR t = true ∧ (un1 A1.length t = .v .non ∧ ∃ fs, (O1 ++ [OD.ins C []]).set A1.length o' = O1 ++ [.ins C fs] ∧ P (.v (.ins C fs)) O1)) = fun t O' => t = .v .non ∧ ∃ fs, O' = [.ins C fs] ∧ P (.v (.ins C fs)) O1 := by
        have es : ∀ o' : OD, (O1 ++ [OD.ins C []]).set A1.length o' = O1 ++ [o'] := fun o' => by
          rw [s1.len, List.set_append_right _ _ (Nat.le_refl _), Nat.sub_self]
          exact rfl
        funext t O'
        refine propext ⟨?_, ?_⟩
        · rintro ⟨o', rfl, hn, hu, fs, e1, q⟩
          rw [es] at e1
          have e2 : o' = .ins C fs := by
            have := List.append_cancel_left e1
            injection this
          subst e2
          refine ⟨?_, fs, rfl, q⟩
          cases t with
          | v d => exact hu
          | own j => cases hu
          | no => cases hn
          | clo R f => cases hn
        · rintro ⟨rfl, fs, rfl, q⟩
          exact ⟨_, rfl, rfl, rfl, fs, es _, q⟩
      rw [pq]
      exact p
    · obtain ⟨rfl, fs, rfl, q⟩ := q
      obtain ⟨_, e1, e2⟩ := rt
      cases e1
      obtain ⟨M, eM⟩ := n'.pre
      have l2 := s'.len
      have eM0 : M = [] := by
        have l3 : A'.length = (A1 ++ [x] ++ M).length := by rw [eM]
        rw [List.length_append, List.length_append] at l3
        rw [List.length_append] at l2
        have l4 := s1.len
        refine List.length_eq_zero_iff.mp ?_
        simp only [List.length_singleton] at l2 l3
        omega
      subst eM0
      rw [List.append_nil] at eM
      subst eM
      have c := s'.cell A1.length x (.ins C fs) hat (by rw [s1.len, List.getElem?_append_right (Nat.le_refl _), Nat.sub_self]; exact rfl)
      obtain ⟨s4, x4⟩ := s'.drop s1.len s1.pre
      obtain ⟨dx', us, c1, c2⟩ := c
      have nA : x ∉ A1 := fun hm => (List.nodup_append.mp s'.nd).2.2 x hm x (List.mem_singleton.mpr rfl) rfl
      have nz : x ∉ live A1 O1 ++ b.Z := fun z => by
        rcases List.mem_append.mp z with z | z
        · obtain ⟨j, o, z1, _, _⟩ := live_mem z
          exact nA (List.mem_of_getElem? z1)
        · have zz := s1.z_at (a := x) z
          obtain ⟨o, zz, _⟩ := zz.2
          rw [hx] at zz
          cases zz
      have fz : Fz b A1 O1 H' x = some (.ins C dx' us) := hid_some.mpr ⟨nz, c1⟩
      refine ⟨e2, kv _ _ A1 O1 H' q s4 (n1.trans ⟨⟨[], (List.append_nil A1).symm⟩, ?_⟩) ⟨_, rfl, x, dx', us, rfl, fz, c2.ex x4⟩⟩
      exact (n13.ext.trans n'.ext).trans x4) kx
end
end G
namespace My2
open PySem PySem.W PyProof.Rows
section
variable {pr : Program} {wo : World} {B : Around} {Er : Value → Shared → Prop} {st : Shared} {K : Frag} {a cl lo me : Addr} {base : Heap} {nsm : Str → Option Value} {oa : Obj} {da : Option Obj}
/-- a name that the class has as a def of its own, or has not at all, is asked about without effect -/
theorem asked {M : Model} {t : Value} {nm : Str} {v : Option Value} {Q : Bool → Shared → Prop} (hv : v = none ∨ ∃ g : Addr, v = some (.ref g)) (k : ∀ r, Q r st) : wpAny M B (calledByName t nm v) Q Er st := by
  rcases hv with e | ⟨g, e⟩ <;> cases e <;> exact wpAny_pure (k _)
end
end My2

set_option Elab.async false
set_option linter.all false
set_option maxRecDepth 100000
set_option maxHeartbeats 4000000
namespace My2
open PySem PySem.W PyProof.Rows Builtin
section
variable {pr : Program} {wo : World} {B : Around} {Er : Value → Shared → Prop} {st : Shared} {K : Frag} {a cl lo me : Addr} {base : Heap} {nsm : Str → Option Value} {oa : Obj} {da : Option Obj}
/-- what is looked at before a slot of object runs on an instance -/
theorem slot_let {M : Model} {id own_ n : String} {more : List Value} {Q : Unit → Shared → Prop} (isSlot : builtinKind id = some .slot) (parts : splitId id = some (own_, n))
    (fit : argsOk id ⟨.ref a :: more, []⟩) (kin : K.In st.heap) (at_ : InstAt st.heap a oa cl da) (below : subIn K (.ref cl) (.type own_) = some true) (k : Q () st) : wpAny M B (checkBuiltinCall id ⟨.ref a :: more, []⟩) Q Er st := by
  unfold checkBuiltinCall
  rw [isSlot]
  dsimp only
  rw [parts]
  dsimp only
  refine wpAny_bind ?_
  unfold isInstance
  refine wpAny_bind (at_.type.here ((looks_subIn kin below).here ?_))
  rw [if_neg (by decide)]
  unfold argsOk at fit
  split
  · rename_i sg es
    rw [es] at fit
    have ok : Bind.checkArgs id sg ⟨.ref a :: more, []⟩ = pure () := fit
    rw [ok]
    exact wpAny_pure k
  · exact wpAny_pure k
/-- the body of object's __ne__: the own __eq__, turned about -/
theorem ne_body {b : Value} {Q : Value → Shared → Prop} (hu : B.units < cLine) (kin : K.In st.heap) (at_ : InstAt st.heap a oa cl da)
    (heq : findIn K (.ref cl) "__eq__" = some (some (.ref me))) (hfn : isFn K (.ref me) = true)
    (hrun : wpAny (model pr wo) B (call (.ref me) [.ref a, b]) (fun v s' => ∃ r : Bool, v = .bool r ∧ Q (.bool (!r)) s') Er st) :
    wpAny (model pr wo) B (Builtin.«object.__ne__» ⟨[.ref a, b], []⟩) (fun fin s' => ∃ r : Bool, fin = .done (.ret (.bool r)) ∧ Q (.bool r) s') Er st := by
  have asked := ifBound_K (args := [b]) (Q := fun r s' => ∃ q : Bool, r = some (.bool q) ∧ Q (.bool (!q)) s') kin at_ heq hfn (wpAny_mono hrun (fun v s' ⟨r, e, q⟩ => ⟨r, congrArg some e, q⟩) fun _ _ z => z)
  show wpAny _ _ (_ >>= _) _ _ _
  refine wpAny_bind (wpAny_pure (wpAny_bind (wpAny_cRoomFor hu (wpAny_bind (wpAny_mono asked (fun r s' hr => ?_) fun _ _ z => z)))))
  obtain ⟨q, rfl, hq⟩ := hr
  exact wpAny_bind (wpAny_pure (wpAny_pure ⟨!q, rfl, hq⟩))
theorem ne_called {b : Value} {Q : Value → Shared → Prop} (hu : B.in1.units < cLine) (kin : K.In st.heap) (at_ : InstAt st.heap a oa cl da)
    (heq : findIn K (.ref cl) "__eq__" = some (some (.ref me))) (hfn : isFn K (.ref me) = true) (below : subIn K (.ref cl) (.type "object") = some true)
    (hrun : wpAny (model pr wo) B.in1 (call (.ref me) [.ref a, b]) (fun v s' => ∃ r : Bool, v = .bool r ∧ Q (.bool (!r)) s') Er st) :
    wpAny (model pr wo) B (call (.builtin "object.__ne__") [.ref a, b]) (fun v s' => ∃ r : Bool, v = .bool r ∧ Q v s') Er st := by
  have body := ne_body (Q := Q) hu kin at_ heq hfn hrun
  refine wpAny_call (codeAny_call_builtin F.cmp_object.ne.plain F.cmpEntry_ne (slot_let F.cmpKind_ne F.cmpSplit_ne (F.cmpArgs_ne _ _) kin at_ below (wpAny_mono body (fun fn s' hr => ?_) fun _ _ z => z)))
  obtain ⟨r, rfl, q⟩ := hr
  exact ⟨r, rfl, q⟩
theorem ne_asked {b : Value} {Q : Value → Shared → Prop} (hu : B.in1.units < cLine) (kin : K.In st.heap) (at_ : InstAt st.heap a oa cl da)
    (heq : findIn K (.ref cl) "__eq__" = some (some (.ref me))) (hfn : isFn K (.ref me) = true) (hne : findIn K (.ref cl) "__ne__" = some (some (.builtin "object.__ne__"))) (below : subIn K (.ref cl) (.type "object") = some true)
    (hrun : wpAny (model pr wo) B.in1 (call (.ref me) [.ref a, b]) (fun v s' => ∃ r : Bool, v = .bool r ∧ Q (.bool (!r)) s') Er st) :
    wpAny (model pr wo) B (tryCompare (.ref a) "__ne__" b) (fun r s' => ∃ v, r = some v ∧ Q v s') Er st := by
  have got : wpAny (model pr wo) B (call (.builtin "object.__ne__") [.ref a, b] >>= fun v => pure (some v)) (fun r s' => ∃ q : Bool, r = some (.bool q) ∧ Q (.bool q) s') Er st :=
    wpAny_bind (wpAny_mono (ne_called hu kin at_ heq hfn below hrun) (fun v s' ⟨r, e, q⟩ => wpAny_pure ⟨r, congrArg some e, by rw [← e]; exact q⟩) fun _ _ z => z)
  have sp : wpAny (model pr wo) B (callSpecialIfBound? (.ref a) "__ne__" [b]) (fun r s' => ∃ q : Bool, r = some (.bool q) ∧ Q (.bool q) s') Er st := by
    unfold callSpecialIfBound? bindSpecialIfBound?
    refine wpAny_holding (wpAny_bind (wpAny_bind (wpAny_bind (at_.type.here ((looks_findIn kin hne).here ?_)))))
    dsimp only
    rw [F.cmp_object.ne.bind]
    refine wpAny_bind (wpAny_askSetting ?_)
    refine wpAny_ite ?_
    split
    · exact wpAny_bind (wpAny_pure (wpAny_pure got))
    · exact wpAny_tryCatch (wpAny_bind (wpAny_pure (wpAny_pure got)))
  unfold tryCompare
  refine wpAny_bind (wpAny_mono sp (fun r s' hr => ?_) fun _ _ z => z)
  obtain ⟨q, rfl, hq⟩ := hr
  exact wpAny_pure ⟨_, rfl, hq⟩
/-- a != b, C having an own __eq__ and object's __ne__ -/
theorem ne_inst {b tb : Value} {Q : Value → Shared → Prop} (hu : B.units < cLine) (hu1 : B.in1.units < cLine) (fr : Fr base lo st.heap nsm) (kin : K.In base) (at_ : InstAt st.heap a oa cl da) (hb : Looks (model pr wo) st.heap (typeOf b) tb) (hn : notFirst K cl tb = true)
    (heq : findIn K (.ref cl) "__eq__" = some (some (.ref me))) (hfn : isFn K (.ref me) = true) (hne : findIn K (.ref cl) "__ne__" = some (some (.builtin "object.__ne__"))) (below : subIn K (.ref cl) (.type "object") = some true)
    (hrun : wpAny (model pr wo) B.in1 (call (.ref me) [.ref a, b]) (fun v s' => ∃ r : Bool, v = .bool r ∧ Q (.bool (!r)) s') Er st) : wpAny (model pr wo) B (richCompare .NotEq (.ref a) b) Q Er st := by
  have kin2 := kin.keeps fr.keep
  have one := ne_asked hu1 kin2 at_ heq hfn hne below hrun
  unfold richCompare
  simp only [oneThing_ref]
  refine wpAny_holding (wpAny_bind (wpAny_cRoomFor hu (wpAny_bind (at_.type.here (wpAny_bind (hb.here ?_))))))
  have go : ∀ {k : Option Value → Sem Value}, (∀ v, k (some v) = pure v) → wpAny (model pr wo) B (tryCompare (.ref a) "__ne__" b >>= k) Q Er st := fun hk => wpAny_bind (wpAny_mono one (fun r s' ⟨v, er, q⟩ => by
    subst er
    rw [hk]
    exact wpAny_pure q) fun _ _ z => z)
  by_cases h : (Value.ref cl != tb) = true
  · rw [if_pos h]
    have no : subIn K tb (.ref cl) = some false := by
      unfold notFirst at hn
      cases eb : (tb == Value.ref cl) with
      | true =>
        rw [eq_of_beq eb] at h
        simp at h
      | false =>
        rw [eb, Bool.false_or] at hn
        exact eq_of_beq hn
    refine wpAny_bind ((looks_subIn kin2 no).here ?_)
    rw [if_neg Bool.false_ne_true]
    exact go fun _ => rfl
  · rw [if_neg h]
    refine wpAny_bind (wpAny_pure ?_)
    rw [if_neg Bool.false_ne_true]
    exact go fun _ => rfl
end
end My2

set_option Elab.async false
set_option linter.all false
set_option maxRecDepth 100000
set_option maxHeartbeats 4000000
namespace G
open PySem PySem.Spec PyProof.Rows L2
/-- what != asks of a class -/
def neB (K : PySem.W.Frag) (C : Addr) : Bool := He.eqO (PySem.W.findIn K (.ref C) "__ne__") (some (some (.builtin "object.__ne__"))) && decide (PySem.W.subIn K (.ref C) (.type "object") = some true)
structure NeC (K : PySem.W.Frag) (C : Addr) : Prop where
  ne : PySem.W.findIn K (.ref C) "__ne__" = some (some (.builtin "object.__ne__"))
  ob : PySem.W.subIn K (.ref C) (.type "object") = some true
theorem neB_ok {K : PySem.W.Frag} {C : Addr} (h : neB K C = true) : NeC K C := by
  obtain ⟨h1, h2⟩ := He.ba h
  exact ⟨He.eqO_ok h1, of_decide_eq_true h2⟩
/-- what a call of an instance asks of a class -/
def callB (K : PySem.W.Frag) (C : Addr) : Bool := PySem.W.fnIn K (He.ma K C "__call__")
def rNeO (C : Addr) (sp : Sp) (E : XK) : R2 := fun x y H Q => ∃ a dx fs b dy gs, x = .ref a ∧ H a = some (.ins C dx fs) ∧ y = .ref b ∧ H b = some (.ins C dy gs) ∧ sp [x, y] H (fun v H' => ∃ r, v = .bl r ∧ Q (.bl (!r)) H') E
def rEqO (C : Addr) (sp : Sp) (E : XK) : R2 := fun x y H Q => ∃ a dx fs b dy gs, x = .ref a ∧ H a = some (.ins C dx fs) ∧ y = .ref b ∧ H b = some (.ins C dy gs) ∧ sp [x, y] H Q E
def rLenO (C : Addr) (sp : Sp) (E : XK) : List V → Hp → VK → Prop := fun xs H Q => ∃ a dx fs, xs = [.ref a] ∧ H a = some (.ins C dx fs) ∧ sp xs H (fun v H' => ∃ n : Int, v = .int n ∧ 0 ≤ n ∧ n < 2 ^ 63 ∧ Q (.int n) H') E
def tCallI (C : Addr) (sp : Sp) (E : XK) (tf : TE) (t : TA) : TE := fun σ H Q => tf σ H fun y H1 => ∃ a, y = V.ref a ∧ t σ H1 fun vs H2 => (∃ dx fs, H2 a = some (.ins C dx fs)) ∧ sp (V.ref a :: vs) H2 Q E
section
variable {X : Cx} {CX : CXT} {k : Nat} {C g : Addr} {sp : Sp} {E : XK} {m : Str}
theorem inst_of {pins : List (Addr × Obj)} {σ : L2.St} {H : Hp} {s : Shared} {a dx : Addr} {fs : List (Str × V)} (I : Inv X pins σ H s) (e : H a = some (.ins C dx fs)) : ∃ ox od, PySem.W.InstAt s.heap a ox C od := by
  obtain ⟨_, z, _⟩ := ins_get I.hok e
  obtain ⟨od, at_, _⟩ := z.look
  exact ⟨_, _, at_⟩
theorem op_eqO (M : Meth X.K C "__eq__" g) (F : FnR X.prog X.w X.K X.mg X.base CX k g sp) (hr : Room k X.A) (hx : Passes CX X E) : OpR X (compareOp .Eq) (rEqO C sp E) := by
  intro pins s σ H x y v u Q I rx ry h
  obtain ⟨a, dx, fs, b, dy, gs, rfl, ha, rfl, hb, q⟩ := h
  cases (show v = Value.ref a from rx)
  cases (show u = Value.ref b from ry)
  obtain ⟨_, _, ja⟩ := inst_of I ha
  obtain ⟨_, _, jb⟩ := inst_of I hb
  obtain ⟨_, fr⟩ := I.fr
  have run := wpAny_mono (wpAny_call (SlX.run_at (us := [.ref a, .ref b]) (ws := [.ref a, .ref b]) F hr I.env0 hx I (.cons rfl (.cons rfl .nil)) q)) (fun w s' z => show PySem.W.CmpBack (EP X pins σ Q) w s' from by
    obtain ⟨z', H', I', rz, qz⟩ := z
    exact SlX.cmpback rz ⟨z', H', I', rz, qz⟩) fun _ _ z => z
  exact PySem.W.cmp_K (op := .Eq) (tb := .ref C) hr.units0 fr I.ok.mod.kin ja jb.type (by unfold PySem.W.notFirst; simp) M.at_ M.fn run
theorem op_neO (M : Meth X.K C "__eq__" g) (N : NeC X.K C) (F : FnR X.prog X.w X.K X.mg X.base CX k g sp) (hr : Room (k + 1) X.A) (hx : Passes CX X E) : OpR X (compareOp .NotEq) (rNeO C sp E) := by
  intro pins s σ H x y v u Q I rx ry h
  obtain ⟨a, dx, fs, b, dy, gs, rfl, ha, rfl, hb, q⟩ := h
  cases (show v = Value.ref a from rx)
  cases (show u = Value.ref b from ry)
  obtain ⟨_, _, ja⟩ := inst_of I ha
  obtain ⟨_, _, jb⟩ := inst_of I hb
  obtain ⟨_, fr⟩ := I.fr
  have hr2 : Room k X.A.in1 := Room.in1 hr
  have run := wpAny_mono (wpAny_call (SlX.run_at (us := [.ref a, .ref b]) (ws := [.ref a, .ref b]) F hr2 I.env0.in1 hx I (.cons rfl (.cons rfl .nil)) q)) (fun w s' z => show ∃ r : Bool, w = .bool r ∧ EP X pins σ Q (.bool (!r)) s' from by
    obtain ⟨z', H', I', rz, r, e, qz⟩ := z
    subst e
    cases (show w = Value.bool r from rz)
    exact ⟨r, rfl, .bl (!r), H', I', rfl, qz⟩) fun _ _ z => z
  exact My2.ne_inst hr.units0 hr2.units0 fr I.ok.mod.kin ja jb.type (by unfold PySem.W.notFirst; simp) M.at_ M.fn N.ne N.ob run
theorem call_lenO (M : Meth X.K C "__len__" g) (F : FnR X.prog X.w X.K X.mg X.base CX k g sp) (hr : Room (k + 1) X.A) (hx : Passes CX X E) : CallR X (.builtin "len") (rLenO C sp E) := by
  intro pins s σ H xs us Q I r h
  obtain ⟨a, dx, fs, rfl, ha, q⟩ := h
  obtain ⟨u, rfl, ru⟩ := r.one
  cases (show u = Value.ref a from ru)
  obtain ⟨_, _, ja⟩ := inst_of I ha
  obtain ⟨_, fr⟩ := I.fr
  have hr2 : Room k X.A.in1 := Room.in1 hr
  refine PySem.W.len_K fr I.ok.mod.kin ja M.at_ M.fn (wpAny_mono (wpAny_call (SlX.run_at (us := [.ref a]) (ws := [.ref a]) F hr2 I.env0.in1 hx I (.cons rfl .nil) q)) (fun w s' z => ?_) fun _ _ z => z)
  obtain ⟨z', H', I', rz, n, e, n0, n1, qz⟩ := z
  subst e
  obtain ⟨t, rfl⟩ := (show ∃ t, w = Value.int n t from rz)
  exact ⟨⟨n0, n1⟩, .int n, H', I'.tok _, ⟨_, rfl⟩, qz⟩
/-- f(e, ..), f an expression that gives an instance of C -/
theorem pe_callI {fe e : Expr} {es : List Expr} {tf : TE} {t : TA} {pos : Pos} (hf : PE X fe tf) (M : Meth X.K C "__call__" g) (c : PySem.W.fnIn X.K g = true) (F : FnR X.prog X.w X.K X.mg X.base CX k g sp) (hr : Room k X.A) (hx : Passes CX X E) (ha : PA X (e :: es) t)
    (he : eval (.Call fe (e :: es) [] pos) X.env = (do callWith pos (← eval fe X.env) [] (backTo pos (starEach (e :: es) X.env)) (backToKw pos (keywordEach [] X.env))) := by rfl)
    (h1 : starEach (e :: es) X.env = (false, eval e X.env) :: starEach es X.env := by rfl) (h2 : (backTo pos (starEach es X.env)).any (·.1) = false := by rfl) : PE X (.Call fe (e :: es) [] pos) (tCallI C sp E tf t) := by
  constructor
  intro pins s σ H Q I h
  refine Call_ (thn (hf.run pins s σ H _ I h) fun u s1 ⟨y, H1, I1, ry, a, ey, q⟩ => ?_) he
  cases ey
  cases (show u = Value.ref a from ry)
  refine StX.callO_with (thn (ha.run pos pins s1 σ H1 _ I1 q) fun us s2 ⟨vs, H2, I2, r, ⟨dx, fs, hi⟩, q2⟩ => ?_) h1 h2
  have ins : StX.InsC X H2 a C := .inr ⟨dx, fs, hi⟩
  obtain ⟨ox, od, j, p⟩ := StX.insC_at I2 ins
  exact ⟨⟨C, ox, od, j, p⟩, StX.run_callO ⟨M.at_, M.fn, c⟩ F hr hx I2 ins r q2⟩
end
section
variable {K : PySem.W.Frag} {W : WX} {O : List OD} {ts : List T} {P : PT'} {X : XX} {sp : SpD} {tr : TA} {ta : TE} {C : Addr} {fs : List (Str × D)}
theorem rep_ins {b : Bs} {A : List Addr} {H : Hp} {v : V} (s : StO K b A O H) (r : RepT K (Fz b A O H) A (.v (.ins C fs)) (some v)) : ∃ a dx vs, v = .ref a ∧ H a = some (.ins C dx vs) := by
  obtain ⟨a, dx, vs, e, h, _⟩ := insD_at insD_v s r
  exact ⟨a, dx, vs, e, h⟩
theorem two_rep {F : Hp} {A : List Addr} {d e : D} {v u : V} (r1 : RepT K F A (.v d) (some v)) (r2 : RepT K F A (.v e) (some u)) : RepTs K F A [.v d, .v e] [v, u] := ⟨v, [u], rfl, r1, u, [], rfl, r2, rfl⟩
theorem one_rep {F : Hp} {A : List Addr} {d : D} {v : V} (r1 : RepT K F A (.v d) (some v)) : RepTs K F A [.v d] [v] := ⟨v, [], rfl, r1, rfl⟩
theorem w_eqO {gs : List (Str × D)} (h : sp [.v (.ins C fs), .v (.ins C gs)] [] (fun t _ => (∃ d, t = .v d) ∧ P t O) (fun _ _ _ => False)) : WR K (rEqO C (lift K sp) E0) (.v (.ins C fs)) (.v (.ins C gs)) O P := fun b A H Q v u s r1 r2 kv => by
  obtain ⟨a, dx, vs, e, ha⟩ := rep_ins s r1
  obtain ⟨a', dx', vs', e', ha'⟩ := rep_ins s r2
  exact ⟨a, dx, vs, a', dx', vs', e, ha, e', ha', lift_p (W := fun _ _ _ _ => False) (X := fun _ _ _ => False) (σ := []) s (two_rep r1 r2) rfl (fun _ _ _ z => z) h kv fun _ _ _ _ _ _ z => z.elim⟩
theorem w_neO {gs : List (Str × D)} (h : sp [.v (.ins C fs), .v (.ins C gs)] [] (fun t _ => ∃ r, t = .v (.bl r) ∧ P (.v (.bl (!r))) O) (fun _ _ _ => False)) : WR K (rNeO C (lift K sp) E0) (.v (.ins C fs)) (.v (.ins C gs)) O P := fun b A H Q v u s r1 r2 kv => by
  obtain ⟨a, dx, vs, e, ha⟩ := rep_ins s r1
  obtain ⟨a', dx', vs', e', ha'⟩ := rep_ins s r2
  refine ⟨a, dx, vs, a', dx', vs', e, ha, e', ha', lift_p (W := fun _ _ _ _ => False) (X := fun _ _ _ => False) (σ := []) (P := fun t O' => ∃ r, t = .v (.bl r) ∧ P (.v (.bl (!r))) O') s (two_rep r1 r2) rfl (fun _ _ _ z => z) ?_ (fun t v A' O' H' p s' n' r => ?_) fun _ _ _ _ _ _ z => z.elim⟩
  · have ex : (fun (t : T) (_ : List OD) => (∃ d, t = .v d) ∧ ∃ r, t = .v (.bl r) ∧ P (.v (.bl (!r))) O) = fun t _ => ∃ r, t = .v (.bl r) ∧ P (.v (.bl (!r))) O := by
      funext t _
      refine propext ⟨fun z => z.2, fun ⟨r, e, p⟩ => ⟨⟨_, e⟩, r, e, p⟩⟩
    rw [ex]
    exact h
  · obtain ⟨q, rfl, p⟩ := p
    obtain ⟨_, e, e2⟩ := r
    cases e
    cases e2
    exact ⟨q, rfl, kv _ _ A' O' H' p s' n' ⟨_, rfl, rfl⟩⟩
theorem c_lenO (h : sp [.v (.ins C fs)] [] (fun t _ => ∃ n : Nat, t = .v (.int n) ∧ n < 1000000 ∧ P (.v (.int n)) O) (fun _ _ _ => False)) : WC K (rLenO C (lift K sp) E0) [.v (.ins C fs)] O P := fun b A H Q vs s r kv => by
  obtain ⟨v, _, rfl, r1, rfl⟩ := r
  obtain ⟨a, dx, us, rfl, ha⟩ := rep_ins s r1
  refine ⟨a, dx, us, rfl, ha, lift_p (W := fun _ _ _ _ => False) (X := fun _ _ _ => False) (σ := []) (P := fun t O' => ∃ n : Nat, t = .v (.int n) ∧ n < 1000000 ∧ P (.v (.int n)) O') s (one_rep r1) rfl (fun _ _ _ z => z) ?_ (fun t v A' O' H' p s' n' r => ?_) fun _ _ _ _ _ _ z => z.elim⟩
  · have ex : (fun (t : T) (_ : List OD) => (∃ d, t = .v d) ∧ ∃ n : Nat, t = .v (.int n) ∧ n < 1000000 ∧ P (.v (.int n)) O) = fun t _ => ∃ n : Nat, t = .v (.int n) ∧ n < 1000000 ∧ P (.v (.int n)) O := by
      funext t _
      refine propext ⟨fun z => z.2, fun ⟨r, e, p⟩ => ⟨⟨_, e⟩, r, e, p⟩⟩
    rw [ex]
    exact h
  · obtain ⟨n, rfl, hn, p⟩ := p
    obtain ⟨_, e, e2⟩ := r
    cases e
    cases e2
    exact ⟨n, rfl, Int.natCast_nonneg _, by omega, kv _ _ A' O' H' p s' n' ⟨_, rfl, rfl⟩⟩
/-- f(..), f an instance -/
theorem w_callI (h : WE K W ta O ts (fun x O1 => ∃ fs, x = .v (.ins C fs) ∧ WA K W tr O1 ts (fun xs O2 => ∃ ds, unv xs = some ds ∧ sp (.v (.ins C fs) :: xs) [] (fun t _ => (∃ d, t = .v d) ∧ P t O2) (fun _ _ _ => False)) X) X) :
    WE K W (tCallI C (lift K sp) E0 ta tr) O ts P X := fun b A σ H Q s rs kv kx =>
  h b A σ H _ s rs (fun x v A1 O1 H1 p1 s1 n1 r1 => by
    obtain ⟨fs, rfl, p⟩ := p1
    obtain ⟨a, dx, vs, rfl, h1⟩ := rep_ins s1 r1
    refine ⟨a, rfl, p b A1 σ H1 _ s1 (rs.nxt n1) (fun xs us A2 O2 H2 p2 s2 n2 r2 => ?_) (kx.nxt n1)⟩
    obtain ⟨ds, e, q⟩ := p2
    obtain ⟨a', dx', vs', e', h2⟩ := rep_ins s2 (r1.nxt n2)
    cases e'
    exact ⟨⟨dx', vs', h2⟩, lift_p (W := fun _ _ _ _ => False) (X := fun _ _ _ => False) (σ := σ) s2 (xs := .v (.ins C fs) :: xs) (ds := .ins C fs :: ds) ⟨.ref a, us, rfl, r1.nxt n2, r2⟩ (by show (unv xs).map _ = _; rw [e] <;> rfl) (fun _ _ _ z => z) q (kv.nxt (n1.trans n2)) fun _ _ _ _ _ _ z => z.elim⟩) kx
/-- e.f, a property -/
theorem w_prop (h : WE K W ta O ts (fun x O1 => ∃ fs, x = .v (.ins C fs) ∧ sp [.v (.ins C fs)] [] (fun t _ => (∃ d, t = .v d) ∧ P t O1) (fun _ _ _ => False)) X) :
    WE K W (tProp C (lift K sp) [] E0 ta) O ts P X := fun b A σ H Q s rs kv kx =>
  h b A σ H _ s rs (fun x v A1 O1 H1 p1 s1 n1 r1 => by
    obtain ⟨fs, rfl, p⟩ := p1
    obtain ⟨a, dx, vs, rfl, h1⟩ := rep_ins s1 r1
    exact ⟨a, dx, vs, rfl, h1, lift_p (W := fun _ _ _ _ => False) (X := fun _ _ _ => False) (σ := σ) s1 (one_rep r1) rfl (fun _ _ _ z => z) p (kv.nxt n1) fun _ _ _ _ _ _ z => z.elim⟩) kx
end
end G

set_option Elab.async false
set_option linter.all false
set_option maxRecDepth 100000
set_option maxHeartbeats 4000000
namespace G
open PySem PySem.Spec PyProof.Rows L2
structure PrD where
  cls : Str
  name : Str
  kind : String
  qual : Str
  params : Arguments
  body : List Stmt
  scope : Scope
/-- the property, the staticmethod -/
def PrD.p (K : PySem.W.Frag) (d : PrD) : Addr := He.ma K (He.ga K d.cls) d.name
/-- the def behind it -/
def PrD.g (K : PySem.W.Frag) (d : PrD) : Addr := match PySem.W.recIn K (d.p K) d.kind with
  | some (.ref g :: _) => g
  | _ => 0
def PrD.val (d : PrD) : FnE := some (d.name, d.qual, d.params, .stmts d.body, d.scope, mainGlobals, [], builtinsNs)
def prB (K : PySem.W.Frag) (d : PrD) : Bool := match K.lookup (d.g K) with
  | some ⟨_, _, .func fd, _⟩ => PySem.W.codeIn K fd.code d.qual && (noneB fd.defaults && noneB fd.kwdefaults)
  | _ => false
def recB (K : PySem.W.Frag) (d : PrD) : Bool := match PySem.W.recIn K (d.p K) d.kind with
  | some (.ref _ :: _) => true
  | _ => false
def PrD.oks (K : PySem.W.Frag) (d : PrD) : Bool := PySem.W.keepIn K (.ref (d.g K)) && (prB K d && (recB K d && He.eqO (PySem.W.findIn K (.ref (He.ga K d.cls)) d.name) (some (some (.ref (d.p K))))))
theorem nilL {α : Type} {l : List (Str × α)} (h : l.map (·.1) = []) : l = [] := by
  cases l with
  | nil => rfl
  | cons _ _ => cases h
theorem PrD.funD {K : PySem.W.Frag} {d : PrD} (h : d.oks K = true) (e : fnE K (d.g K) = d.val) : ∃ fd, FunD K d.name d.qual d.params d.body d.scope [] [] (d.g K) fd := by
  obtain ⟨kp, h⟩ := He.ba h
  obtain ⟨c, _⟩ := He.ba h
  unfold fnE at e
  unfold prB at c
  cases q : K.lookup (d.g K) with
  | none =>
    rw [q] at c
    cases c
  | some o =>
    obtain ⟨o1, o2, o3, o4⟩ := o
    rw [q] at c e
    cases o3 with
    | func fd =>
      obtain ⟨z1, z2, z3, z4, z5, z6, z7, z8, z9, z10, z11, z12, z13, z14, z15⟩ := fd
      have e2 : (some (z1, z2, z3, z4, z5, z6, z7.map (·.1), z15) : FnE) = (some (d.name, d.qual, d.params, FuncBody.stmts d.body, d.scope, mainGlobals, [], builtinsNs) : FnE) := e
      simp only [Option.some.injEq, Prod.mk.injEq] at e2
      obtain ⟨a1, a2, a3, a4, a5, a6, a7, a8⟩ := e2
      have a9 := nilL a7
      subst a1 a2 a3 a4 a5 a6 a8 a9
      obtain ⟨k1, k2⟩ := He.ba (show (PySem.W.codeIn K z13 d.qual && (noneB z8 && noneB z9)) = true from c)
      obtain ⟨k3, k4⟩ := He.ba k2
      have k3 := noneB_ok k3
      have k4 := noneB_ok k4
      subst k3 k4
      exact ⟨_, ⟨o1, o2, _, _, z10, z11, z12, z13, z14, o4, rfl, q, k1, He.dflB_ok rfl, He.kwdB_ok rfl⟩, kp⟩
    | _ => cases c
theorem PrD.rec_ {K : PySem.W.Frag} {d : PrD} (h : d.oks K = true) : ∃ rest, PySem.W.recIn K (d.p K) d.kind = some (.ref (d.g K) :: rest) := by
  obtain ⟨_, h⟩ := He.ba h
  obtain ⟨_, h⟩ := He.ba h
  obtain ⟨h, _⟩ := He.ba h
  unfold recB at h
  unfold PrD.g
  split at h
  · rename_i g l e
    rw [e]
    exact ⟨l, rfl⟩
  · cases h
theorem PrD.at_ {K : PySem.W.Frag} {d : PrD} (h : d.oks K = true) : PySem.W.findIn K (.ref (He.ga K d.cls)) d.name = some (some (.ref (d.p K))) := by
  obtain ⟨_, h⟩ := He.ba h
  obtain ⟨_, h⟩ := He.ba h
  obtain ⟨_, h⟩ := He.ba h
  exact He.eqO_ok h
theorem rOf {P : Program} {w : World} {K : PySem.W.Frag} {mg : Str → Option Value} {base : Heap} {CX : CXT} {k : Nat} {f : Addr} {sp : Sp} {fd : FuncData} {ps : List Str} (F : FnOk P w K mg base CX k f fd ps sp) (b : Binds K fd ps []) : FnR P w K mg base CX k f sp :=
  (F.raw b .nil).imp fun _ _ _ _ h => by
    rw [List.append_nil]
    exact h
end G

set_option Elab.async false
set_option linter.all false
set_option maxRecDepth 100000
set_option maxHeartbeats 4000000
namespace G
open PySem PySem.Spec PyProof.Rows L2
def tOr (t u : TE) : TE := fun σ H Q => t σ H Q ∨ u σ H Q
def iOr (t u : TI) : TI := fun σ H R => t σ H R ∨ u σ H R
section
variable {X : Cx} {e tg : Expr} {t u : TE} {i j : TI}
theorem pi_or (h1 : PI X tg e i) (h2 : PI X tg e j) : PI X tg e (iOr i j) := ⟨fun pins s σ H R I h => h.elim (h1.run pins s σ H R I) (h2.run pins s σ H R I)⟩
end
section
variable {K : PySem.W.Frag} {W : WX} {O : List OD} {ts : List T} {P : PT'} {X : XX} {t u : TE} {i j : TI} {S : (Nat → Option T) → List OD → Prop}
theorem i_or1 (h : WI K W i O ts S X) : WI K W (iOr i j) O ts S X := fun b A σ H R s rs k kx => .inl (h b A σ H R s rs k kx)
theorem i_or2 (h : WI K W j O ts S X) : WI K W (iOr i j) O ts S X := fun b A σ H R s rs k kx => .inr (h b A σ H R s rs k kx)
end
def tMethX (C : Addr) (m : Str) (sp : Sp) (E : L2.St → XK) (ta : TE) (t : TA) : TE := fun σ H Q => ta σ H fun x H1 => ∃ a dx fs, x = .ref a ∧ H1 a = some (.ins C dx fs) ∧ fs.lookup m = none ∧ t σ H1 fun vs H2 => sp (x :: vs) H2 Q (E σ)
def tCallX (C : Addr) (sp : Sp) (E : L2.St → XK) (tf : TE) (t : TA) : TE := fun σ H Q => tf σ H fun y H1 => ∃ a, y = V.ref a ∧ t σ H1 fun vs H2 => (∃ dx fs, H2 a = some (.ins C dx fs)) ∧ sp (V.ref a :: vs) H2 Q (E σ)
section
variable {X : Cx} {CX : CXT} {k : Nat} {C g : Addr} {sp : Sp} {m : Str} {E : L2.St → XK} {E1 : XK} {o e fe : Expr} {es : List Expr} {ta tf : TE} {t : TA} {pos apos : Pos} {pl : Sem Bool}
end
section
variable {K : PySem.W.Frag} {W : WX} {O : List OD} {ts : List T} {P : PT'} {X : XX} {sp : SpD} {tr : TA} {ta : TE} {C : Addr} {m : Str}
theorem w_methX (h : WE K W ta O ts (fun x O1 => ∃ fs, x = .v (.ins C fs) ∧ fs.lookup m = none ∧ WA K W tr O1 ts (fun xs O2 => ∃ ds, unv xs = some ds ∧ sp (.v (.ins C fs) :: xs) [] (fun t _ => (∃ d, t = .v d) ∧ P t O2) (fun C fs _ => X C fs O2)) X) X) :
    WE K W (tMethX C m (lift K sp) (L2.WE W) ta tr) O ts P X := fun b A σ H Q s rs kv kx =>
  h b A σ H _ s rs (fun x v A1 O1 H1 p1 s1 n1 r1 => by
    obtain ⟨fs, rfl, hm, p⟩ := p1
    obtain ⟨a, dx, vs, rfl, h1, h2⟩ := insD_at insD_v s1 r1
    refine ⟨a, dx, vs, rfl, h1, h2.none hm, p b A1 σ H1 _ s1 (rs.nxt n1) (fun xs us A2 O2 H2 p2 s2 n2 r2 => ?_) (kx.nxt n1)⟩
    obtain ⟨ds, e, q⟩ := p2
    exact lift_p (W := W) (σ := σ) s2 (xs := .v (.ins C fs) :: xs) (ds := .ins C fs :: ds) ⟨.ref a, us, rfl, r1.nxt n2, r2⟩ (by show (unv xs).map _ = _; rw [e] <;> rfl) (fun _ _ _ z => z) q (kv.nxt (n1.trans n2)) (kx.nxt (n1.trans n2))) kx
theorem w_callX (h : WE K W ta O ts (fun x O1 => ∃ fs, x = .v (.ins C fs) ∧ WA K W tr O1 ts (fun xs O2 => ∃ ds, unv xs = some ds ∧ sp (.v (.ins C fs) :: xs) [] (fun t _ => (∃ d, t = .v d) ∧ P t O2) (fun C fs _ => X C fs O2)) X) X) :
    WE K W (tCallX C (lift K sp) (L2.WE W) ta tr) O ts P X := fun b A σ H Q s rs kv kx =>
  h b A σ H _ s rs (fun x v A1 O1 H1 p1 s1 n1 r1 => by
    obtain ⟨fs, rfl, p⟩ := p1
    obtain ⟨a, dx, vs, rfl, h1⟩ := rep_ins s1 r1
    refine ⟨a, rfl, p b A1 σ H1 _ s1 (rs.nxt n1) (fun xs us A2 O2 H2 p2 s2 n2 r2 => ?_) (kx.nxt n1)⟩
    obtain ⟨ds, e, q⟩ := p2
    obtain ⟨a', dx', vs', e', h2⟩ := rep_ins s2 (r1.nxt n2)
    cases e'
    exact ⟨⟨dx', vs', h2⟩, lift_p (W := W) (σ := σ) s2 (xs := .v (.ins C fs) :: xs) (ds := .ins C fs :: ds) ⟨.ref a, us, rfl, r1.nxt n2, r2⟩ (by show (unv xs).map _ = _; rw [e] <;> rfl) (fun _ _ _ z => z) q (kv.nxt (n1.trans n2)) (kx.nxt (n1.trans n2))⟩) kx
end
def turnL {α : Type} (tw : Bool) (l : List α) : List α := if tw then l.reverse else l
theorem turn_vals {tw : Bool} {vs : List V} {us : List Value} (r : Vals vs us) : Vals (turnL tw vs) (turnL tw us) := by
  cases tw
  · exact r
  · show Vals vs.reverse us.reverse
    induction r with
    | nil => exact .nil
    | cons h _ ih =>
      rw [List.reverse_cons, List.reverse_cons]
      exact ih.append (.cons h .nil)
def tMethK (C : Addr) (m : Str) (tw : Bool) (sp : Sp) (E : XK) (ta : TE) (tk : TA) : TE := fun σ H Q => ta σ H fun x H1 => ∃ a dx fs, x = .ref a ∧ H1 a = some (.ins C dx fs) ∧ fs.lookup m = none ∧ tk σ H1 fun zs H2 => sp (x :: turnL tw zs) H2 Q E
def tCallK2 (C : Addr) (tw : Bool) (sp : Sp) (E : XK) (tf : TE) (tk : TA) : TE := fun σ H Q => tf σ H fun y H1 => ∃ a, y = V.ref a ∧ tk σ H1 fun zs H2 => (∃ dx fs, H2 a = some (.ins C dx fs)) ∧ sp (V.ref a :: turnL tw zs) H2 Q E
section
variable {X : Cx} {CX : CXT} {k : Nat} {C g : Addr} {sp : Sp} {m : Str} {E : XK} {o fe : Expr} {kws : List Keyword} {ta tf : TE} {tk : TA} {pos apos : Pos} {pl : Sem Bool} {fd : FuncData} {ps ks : List Str} {tw : Bool}
theorem turn_len {α : Type} {tw : Bool} {l : List α} : (turnL tw l).length = l.length := by
  cases tw
  · rfl
  · exact List.length_reverse
end
section
variable {K : PySem.W.Frag} {W : WX} {O : List OD} {ts : List T} {P : PT'} {X : XX} {sp : SpD} {tk : TA} {ta : TE} {C : Addr} {m : Str} {tw : Bool}
theorem turn_rep {F : Hp} {A : List Addr} {xs : List T} {us : List V} {ds : List D} (r : RepTs K F A xs us) (e : unv xs = some ds) : RepTs K F A ((turnL tw ds).map T.v) (turnL tw us) := by
  have p := r.plain e
  cases tw
  · exact repTs_v p
  · exact repTs_v (p.reverse)
theorem unv_map : ∀ {ds : List D}, unv (ds.map T.v) = some ds
  | [] => rfl
  | d :: ds => by
    show (unv (ds.map T.v)).map _ = _
    rw [unv_map] <;> rfl
theorem w_methK (h : WE K W ta O ts (fun x O1 => ∃ fs, x = .v (.ins C fs) ∧ fs.lookup m = none ∧ WA K W tk O1 ts (fun xs O2 => ∃ ds, unv xs = some ds ∧ sp (.v (.ins C fs) :: (turnL tw ds).map T.v) [] (fun t _ => (∃ d, t = .v d) ∧ P t O2) (fun _ _ _ => False)) X) X) :
    WE K W (tMethK C m tw (lift K sp) E0 ta tk) O ts P X := fun b A σ H Q s rs kv kx =>
  h b A σ H _ s rs (fun x v A1 O1 H1 p1 s1 n1 r1 => by
    obtain ⟨fs, rfl, hm, p⟩ := p1
    obtain ⟨a, dx, vs, rfl, h1, h2⟩ := insD_at insD_v s1 r1
    refine ⟨a, dx, vs, rfl, h1, h2.none hm, p b A1 σ H1 _ s1 (rs.nxt n1) (fun xs us A2 O2 H2 p2 s2 n2 r2 => ?_) (kx.nxt n1)⟩
    obtain ⟨ds, e, q⟩ := p2
    exact lift_p (W := fun _ _ _ _ => False) (X := fun _ _ _ => False) (σ := σ) s2 (xs := .v (.ins C fs) :: (turnL tw ds).map T.v) (ds := .ins C fs :: turnL tw ds) ⟨.ref a, _, rfl, r1.nxt n2, turn_rep r2 e⟩ (by show (unv ((turnL tw ds).map T.v)).map _ = _; rw [unv_map] <;> rfl) (fun _ _ _ z => z) q (kv.nxt (n1.trans n2)) fun _ _ _ _ _ _ z => z.elim) kx
theorem w_callK2 (h : WE K W ta O ts (fun x O1 => ∃ fs, x = .v (.ins C fs) ∧ WA K W tk O1 ts (fun xs O2 => ∃ ds, unv xs = some ds ∧ sp (.v (.ins C fs) :: (turnL tw ds).map T.v) [] (fun t _ => (∃ d, t = .v d) ∧ P t O2) (fun _ _ _ => False)) X) X) :
    WE K W (tCallK2 C tw (lift K sp) E0 ta tk) O ts P X := fun b A σ H Q s rs kv kx =>
  h b A σ H _ s rs (fun x v A1 O1 H1 p1 s1 n1 r1 => by
    obtain ⟨fs, rfl, p⟩ := p1
    obtain ⟨a, dx, vs, rfl, h1⟩ := rep_ins s1 r1
    refine ⟨a, rfl, p b A1 σ H1 _ s1 (rs.nxt n1) (fun xs us A2 O2 H2 p2 s2 n2 r2 => ?_) (kx.nxt n1)⟩
    obtain ⟨ds, e, q⟩ := p2
    obtain ⟨a', dx', vs', e', h2⟩ := rep_ins s2 (r1.nxt n2)
    cases e'
    exact ⟨⟨dx', vs', h2⟩, lift_p (W := fun _ _ _ _ => False) (X := fun _ _ _ => False) (σ := σ) s2 (xs := .v (.ins C fs) :: (turnL tw ds).map T.v) (ds := .ins C fs :: turnL tw ds) ⟨.ref a, _, rfl, r1.nxt n2, turn_rep r2 e⟩ (by show (unv ((turnL tw ds).map T.v)).map _ = _; rw [unv_map] <;> rfl) (fun _ _ _ z => z) q (kv.nxt (n1.trans n2)) fun _ _ _ _ _ _ z => z.elim⟩) kx
end
end G

set_option Elab.async false
set_option linter.all false
set_option maxRecDepth 100000
set_option maxHeartbeats 4000000
namespace G
open PySem PySem.Spec PyProof.Rows L2
section
variable {X : Cx}
end
section
variable {K : PySem.W.Frag} {O : List OD} {P : PT'}
end
section
variable {X : Cx} {T' name : Str} {id : String} {r : V → List V → Hp → VK → Prop} {o e : Expr} {es : List Expr} {to : TE} {t : TA} {cpos apos : Pos}
end
end G

set_option Elab.async false
set_option linter.all false
set_option maxRecDepth 100000
set_option maxHeartbeats 4000000
namespace G
open PySem PySem.Spec PyProof.Rows L2
def Sm (n : Int) : Prop := n.natAbs < 2 ^ 200
theorem sm_log {n : Int} (h : Sm n) : n.natAbs.log2 < 200 := by
  by_cases z : n.natAbs = 0
  · rw [z]
    decide
  · exact (Nat.log2_lt z).mpr h
theorem py_ints : ∀ ns : List Int, pyL (nums ns) = some (ns.map PyData.int)
  | [] => rfl
  | n :: ns => by
    have ih := py_ints ns
    show (match pyD (.int n), pyL (nums ns) with
      | some a, some b => some (a :: b)
      | _, _ => none) = _
    rw [ih]
    rfl
theorem sh_ints : ∀ ns : List Int, (∀ n ∈ ns, Sm n) → PyData.showableAll (ns.map PyData.int) = true
  | [], _ => rfl
  | n :: ns, h => by
    have ih := sh_ints ns fun y hy => h y (List.mem_cons_of_mem _ hy)
    rw [List.map_cons, PyData.showableAll, ih, Bool.and_true]
    simp [PyData.showable]
    exact Nat.lt_trans (sm_log (h n List.mem_cons_self)) (by decide)
theorem dp_ints : ∀ ns : List Int, PyData.depthAll (ns.map PyData.int) ≤ 3
  | [] => by simp [PyData.depthAll]
  | n :: ns => by
    have ih := dp_ints ns
    rw [List.map_cons, PyData.depthAll]
    simp [PyData.depth]
    omega
theorem ln_int {n : Int} (h : Sm n) : (PyData.int n).shown.length ≤ 201 := by
  have k := int_text_length_le (k := 200) (by decide) (sm_log h)
  have e : (PyData.int n).shown.length = (toString n).length := by
    show (Str.ofString (toString n)).length = _
    rw [PySem.ofString_length]
  omega
theorem ln_ints : ∀ ns : List Int, (∀ n ∈ ns, Sm n) → ((PyData.shownAll (ns.map PyData.int)).map (·.length)).sum ≤ 201 * ns.length ∧ (PyData.shownAll (ns.map PyData.int)).length = ns.length
  | [], _ => ⟨by simp [PyData.shownAll], rfl⟩
  | n :: ns, h => by
    obtain ⟨i1, i2⟩ := ln_ints ns fun y hy => h y (List.mem_cons_of_mem _ hy)
    have k := ln_int (h n List.mem_cons_self)
    rw [List.map_cons, PyData.shownAll]
    refine ⟨?_, by rw [List.length_cons, List.length_cons, i2]⟩
    rw [List.map_cons, List.sum_cons, List.length_cons]
    omega
theorem ln_tup {ns : List Int} (h : ∀ n ∈ ns, Sm n) (hl : ns.length ≤ 100) : (PyData.tuple (ns.map PyData.int)).shown.length ≤ 40000 := by
  rw [PyData.shown]
  obtain ⟨k1, k2⟩ := ln_ints ns h
  have := tupleText_len_le (PyData.shownAll (ns.map PyData.int))
  rw [k2] at this
  omega
theorem shows_tup {ns : List Int} (h : ∀ n ∈ ns, Sm n) (hl : ns.length ≤ 100) : Shows (.tup (nums ns)) (.tuple (ns.map PyData.int)) := by
  refine ⟨?_, ?_, ?_, ?_⟩
  · show (pyL (nums ns)).map PyData.tuple = _
    rw [py_ints]
    rfl
  · rw [PyData.showable]
    exact sh_ints ns h
  · rw [PyData.depth]
    have := dp_ints ns
    omega
  · have := ln_tup h hl
    rw [sizeLine_eq]
    omega
end G

set_option Elab.async false
set_option linter.all false
set_option maxRecDepth 100000
set_option maxHeartbeats 4000000
namespace G
open PySem PySem.Spec PyProof.Rows L2
section
variable {K : PySem.W.Frag} {W : WX} {O : List OD} {ts : List T} {P : PT'} {X : XX} {ta : TE} {C : Addr} {f : Str}
end
end G

set_option Elab.async false
set_option linter.all false
set_option maxRecDepth 100000
namespace G
def InR (m : Int) (rs : List Int) : Prop := ∀ r ∈ rs, 0 ≤ r ∧ r < m
theorem InR.tail {m r : Int} {rs : List Int} (h : InR m (r :: rs)) : InR m rs := fun x hx => h x (List.mem_cons_of_mem _ hx)
theorem InR.take {m : Int} {rs : List Int} (h : InR m rs) (n : Nat) : InR m (rs.take n) := fun x hx => h x (List.mem_of_mem_take hx)
theorem InR.at {m : Int} {rs : List Int} (h : InR m rs) {i : Nat} {r : Int} (e : rs[i]? = some r) : 0 ≤ r ∧ r < m := h r (List.mem_of_getElem? e)
theorem InR.nil {m : Int} : InR m [] := fun x hx => by cases hx
end G

set_option linter.all false
set_option maxRecDepth 100000
namespace My
structure Bz (a0 b0 a b : Nat) (s t u v : Int) : Prop where
  e1 : (a : Int) = s * a0 + t * b0
  e2 : (b : Int) = u * a0 + v * b0
  g : Nat.gcd a b = Nat.gcd a0 b0
  k1 : s.natAbs * b + u.natAbs * a = b0
  k2 : t.natAbs * b + v.natAbs * a = a0
  s1 : 0 ≤ s ∧ u ≤ 0 ∧ t ≤ 0 ∧ 0 ≤ v ∨ s ≤ 0 ∧ 0 ≤ u ∧ 0 ≤ t ∧ v ≤ 0
  m1 : s.natAbs ≤ b0 + 1 ∧ t.natAbs ≤ a0 + 1 ∧ u.natAbs ≤ b0 + 1 ∧ v.natAbs ≤ a0 + 1
theorem Bz.start (a0 b0 : Nat) : Bz a0 b0 a0 b0 1 0 0 1 :=
  ⟨by omega, by omega, rfl, by simp, by simp, .inl ⟨by omega, by omega, by omega, by omega⟩, ⟨by simp, by simp, by simp, by simp⟩⟩
theorem mul_le_of {x b n : Nat} (h : x * b ≤ n) (hb : 1 ≤ b) : x ≤ n := Nat.le_trans (Nat.le_mul_of_pos_right x hb) h
theorem Bz.step {a0 b0 a b : Nat} {s t u v : Int} (z : Bz a0 b0 a b s t u v) (hb : 1 ≤ b) : Bz a0 b0 b (a % b) u v (s - (a / b : Nat) * u) (t - (a / b : Nat) * v) := by
  obtain ⟨e1, e2, g, k1, k2, s1, m1⟩ := z
  have hd := Nat.div_add_mod a b
  have hdI : (b : Int) * (a / b : Nat) + (a % b : Nat) = a := by
    rw [← hd]
    simp [hd]
    exact_mod_cast hd
  have neg : ∀ {x y : Int} {q : Nat}, (0 ≤ x ∧ y ≤ 0 ∨ x ≤ 0 ∧ 0 ≤ y) → (x - q * y).natAbs = x.natAbs + q * y.natAbs := fun {x y q} h => by
    rcases h with ⟨h1, h2⟩ | ⟨h1, h2⟩
    · have : (q : Int) * y ≤ 0 := Int.mul_nonpos_of_nonneg_of_nonpos (by omega) h2
      have e : ((q * y.natAbs : Nat) : Int) = -(q * y) := by
        rw [Int.natCast_mul, show ((y.natAbs : Nat) : Int) = -y by omega, Int.mul_neg]
      omega
    · have : 0 ≤ (q : Int) * y := Int.mul_nonneg (by omega) h2
      have e : ((q * y.natAbs : Nat) : Int) = q * y := by
        rw [Int.natCast_mul, show ((y.natAbs : Nat) : Int) = y by omega]
      omega
  have n1 : (s - (a / b : Nat) * u).natAbs = s.natAbs + (a / b) * u.natAbs := neg (s1.imp (fun h => ⟨h.1, h.2.1⟩) (fun h => ⟨h.1, h.2.1⟩))
  have n2 : (t - (a / b : Nat) * v).natAbs = t.natAbs + (a / b) * v.natAbs := neg (s1.symm.imp (fun h => ⟨h.2.2.1, h.2.2.2⟩) (fun h => ⟨h.2.2.1, h.2.2.2⟩))
  have kk : ∀ x y c : Nat, x * b + y * a = c → y * (a % b) + (x + a / b * y) * b = c := fun x y c h => by
    rw [← h, Nat.add_mul]
    have : y * a = y * (b * (a / b) + a % b) := by rw [hd]
    rw [this, Nat.mul_add]
    have : a / b * y * b = y * (b * (a / b)) := by ac_rfl
    omega
  have l1 := kk _ _ _ k1
  have l2 := kk _ _ _ k2
  refine ⟨e2, ?_, ?_, ?_, ?_, ?_, ⟨m1.2.2.1, m1.2.2.2, ?_, ?_⟩⟩
  · have : ((a % b : Nat) : Int) = a - b * (a / b : Nat) := by omega
    rw [this, e1, e2]
    simp only [Int.sub_mul, Int.add_mul]
    have x1 : (a / b : Nat) * u * (a0 : Int) = u * a0 * (a / b : Nat) := by ac_rfl
    have x2 : (a / b : Nat) * v * (b0 : Int) = v * b0 * (a / b : Nat) := by ac_rfl
    rw [x1, x2]
    omega
  · rw [← g, Nat.gcd_comm b, ← Nat.gcd_rec, Nat.gcd_comm]
  · rw [n1]; exact l1
  · rw [n2]; exact l2
  · have q0 : (0 : Int) ≤ (a / b : Nat) := Int.natCast_nonneg _
    rcases s1 with ⟨h1, h2, h3, h4⟩ | ⟨h1, h2, h3, h4⟩
    · have : ((a / b : Nat) : Int) * u ≤ 0 := Int.mul_nonpos_of_nonneg_of_nonpos q0 h2
      have : 0 ≤ ((a / b : Nat) : Int) * v := Int.mul_nonneg q0 h4
      exact .inr ⟨h2, by omega, h4, by omega⟩
    · have : 0 ≤ ((a / b : Nat) : Int) * u := Int.mul_nonneg q0 h2
      have : ((a / b : Nat) : Int) * v ≤ 0 := Int.mul_nonpos_of_nonneg_of_nonpos q0 h4
      exact .inl ⟨h2, by omega, h4, by omega⟩
  · rw [n1]
    have := mul_le_of (x := s.natAbs + a / b * u.natAbs) (b := b) (n := b0) (by omega) hb
    omega
  · rw [n2]
    have := mul_le_of (x := t.natAbs + a / b * v.natAbs) (b := b) (n := a0) (by omega) hb
    omega
def bin (n : Int) : Nat → Int
  | 0 => 1
  | k + 1 => bin n k * (n - k) / (k + 1)
theorem ediv_natAbs_le (x : Int) {c : Int} (hc : 1 ≤ c) : (x / c).natAbs ≤ x.natAbs := by
  have h := Int.emod_add_mul_ediv x c
  have h0 := Int.emod_nonneg x (show c ≠ 0 by omega)
  have h1 := Int.emod_lt_of_pos x (show 0 < c by omega)
  rcases Int.lt_or_le (x / c) 0 with hq | hq
  · have : c * (x / c) ≤ c * (-1) := Int.mul_le_mul_of_nonneg_left (by omega) (by omega)
    have h2 : 1 * -(x / c + 1) ≤ c * -(x / c + 1) := Int.mul_le_mul_of_nonneg_right hc (by omega)
    have h3 : c * -(x / c + 1) = -(c * (x / c)) - c := by rw [Int.mul_neg, Int.mul_add, Int.mul_one]; omega
    omega
  · have : 1 * (x / c) ≤ c * (x / c) := Int.mul_le_mul_of_nonneg_right hc hq
    omega
theorem bin_bd {n : Int} {a : Nat} (h : n.natAbs + 12 < 2 ^ a) : ∀ k : Nat, k ≤ 12 → (bin n k).natAbs < 2 ^ (a * k + 1)
  | 0, _ => by
    show (1 : Int).natAbs < _
    rw [Nat.mul_zero, Nat.zero_add]
    decide
  | k + 1, hk => by
    have ih := bin_bd h k (by omega)
    show (bin n k * (n - k) / (k + 1)).natAbs < _
    refine Nat.lt_of_le_of_lt (ediv_natAbs_le _ (by omega)) ?_
    rw [Int.natAbs_mul, show a * (k + 1) + 1 = (a * k + 1) + a by rw [Nat.mul_add, Nat.mul_one]; omega, Nat.pow_add]
    exact Nat.mul_lt_mul'' ih (by omega)

end My
namespace My
end My

namespace My
open G (InR)
end My

namespace My
end My

set_option Elab.async false
set_option linter.all false
set_option maxRecDepth 100000
set_option maxHeartbeats 4000000
namespace My
open G (InR)
/-- what holds at one integer and from each to its neighbours holds at all -/
theorem int_ind {P : Int → Prop} (k : Int) (h0 : P k) (up : ∀ n, P n → P (n + 1)) (dn : ∀ n, P (n + 1) → P n) (n : Int) : P n := by
  have a : ∀ d : Nat, P (k + d) := fun d => by
    induction d with
    | zero => rw [Int.natCast_zero, Int.add_zero]; exact h0
    | succ d ih => rw [show k + ((d + 1 : Nat) : Int) = k + d + 1 by omega]; exact up _ ih
  have b : ∀ d : Nat, P (k - d) := fun d => by
    induction d with
    | zero => rw [Int.natCast_zero, Int.sub_zero]; exact h0
    | succ d ih => exact dn _ (by rw [show k - ((d + 1 : Nat) : Int) + 1 = k - d by omega]; exact ih)
  rcases Int.le_total k n with h | h
  · have := a (n - k).toNat
    rwa [show k + ((n - k).toNat : Int) = n by omega] at this
  · have := b (k - n).toNat
    rwa [show k - ((k - n).toNat : Int) = n by omega] at this
theorem bin_both : ∀ k : Nat, (∀ n : Int, ((k : Int) + 1) * bin n (k + 1) = bin n k * (n - k)) ∧ ∀ n : Int, bin (n + 1) (k + 1) = bin n (k + 1) + bin n k
  | 0 => by
    have e : ∀ n : Int, bin n 1 = n := fun n => by
      show 1 * (n - ((0 : Nat) : Int)) / (((0 : Nat) : Int) + 1) = n
      rw [Int.natCast_zero, Int.sub_zero, Int.one_mul, Int.zero_add, Int.ediv_one]
    refine ⟨fun n => ?_, fun n => ?_⟩
    · rw [e]
      show (((0 : Nat) : Int) + 1) * n = 1 * (n - ((0 : Nat) : Int))
      omega
    · rw [e, e]
      rfl
  | k + 1 => by
    obtain ⟨ex, pa⟩ := bin_both k
    have st : ∀ n : Int, bin (n + 1) (k + 1) * ((n + 1) - ((k + 1 : Nat) : Int)) = bin n (k + 1) * (n - ((k + 1 : Nat) : Int)) + (((k + 1 : Nat) : Int) + 1) * bin n (k + 1) := fun n => by
      have h1 := ex n
      rw [pa n, Int.natCast_add]
      grind
    have dv : ∀ n : Int, (((k + 1 : Nat) : Int) + 1) ∣ bin n (k + 1) * (n - ((k + 1 : Nat) : Int)) := by
      refine int_ind ((k + 1 : Nat) : Int) ?_ (fun n h => ?_) fun n h => ?_
      · rw [Int.sub_self, Int.mul_zero]
        exact Int.dvd_zero _
      · rw [st n]
        exact Int.dvd_add h (Int.dvd_mul_right _ _)
      · rw [st n] at h
        exact (Int.dvd_iff_dvd_of_dvd_add h).mpr (Int.dvd_mul_right _ _)
    have e2 : ∀ n : Int, (((k + 1 : Nat) : Int) + 1) * bin n (k + 1 + 1) = bin n (k + 1) * (n - ((k + 1 : Nat) : Int)) := fun n => Int.mul_ediv_cancel' (dv n)
    refine ⟨e2, fun n => ?_⟩
    refine Int.eq_of_mul_eq_mul_left (a := ((k + 1 : Nat) : Int) + 1) (by omega) ?_
    rw [Int.mul_add, e2, e2, st n]
theorem bin_at0 : ∀ k : Nat, bin 0 (k + 1) = 0
  | 0 => rfl
  | k + 1 => by
    show bin 0 (k + 1) * (0 - ((k + 1 : Nat) : Int)) / (((k + 1 : Nat) : Int) + 1) = 0
    rw [bin_at0 k, Int.zero_mul, Int.zero_ediv]
/-- the sum of some coefficients times the binomials from an index on -/
def VK : Nat → List Int → Int → Int
  | _, [], _ => 0
  | k, c :: cs, n => c * bin n k + VK (k + 1) cs n
def V (cs : List Int) (n : Int) : Int := VK 0 cs n
theorem VK_up (n : Int) : ∀ (k : Nat) (cs : List Int), VK (k + 1) cs (n + 1) = VK (k + 1) cs n + VK k cs n
  | _, [] => rfl
  | k, c :: cs => by
    show c * bin (n + 1) (k + 1) + VK (k + 1 + 1) cs (n + 1) = c * bin n (k + 1) + VK (k + 1 + 1) cs n + (c * bin n k + VK (k + 1) cs n)
    rw [VK_up n (k + 1) cs, (bin_both k).2, Int.mul_add]
    omega
theorem VK_at0 : ∀ (k : Nat) (cs : List Int), VK (k + 1) cs 0 = 0
  | _, [] => rfl
  | k, c :: cs => by
    show c * bin 0 (k + 1) + VK (k + 1 + 1) cs 0 = 0
    rw [bin_at0, VK_at0 (k + 1) cs, Int.mul_zero]
    rfl
theorem V_cons (c : Int) (cs : List Int) (n : Int) : V (c :: cs) n = c + VK 1 cs n := by
  show c * 1 + VK 1 cs n = _
  rw [Int.mul_one]
theorem V_at0 (c : Int) (cs : List Int) : V (c :: cs) 0 = c := by rw [V_cons, VK_at0, Int.add_zero]
theorem V_up (c : Int) (cs : List Int) (n : Int) : V (c :: cs) (n + 1) = V (c :: cs) n + V cs n := by
  rw [V_cons, V_cons, VK_up]
  exact (Int.add_assoc c (VK 1 cs n) (VK 0 cs n)).symm
/-- two rows that begin alike and change alike -/
theorem rows_eq {f g : Int → Int} (h0 : f 0 = g 0) (h : ∀ n, f (n + 1) - f n = g (n + 1) - g n) : ∀ n, f n = g n := by
  refine int_ind 0 h0 (fun n e => ?_) fun n e => ?_
  · have := h n
    omega
  · have := h n
    omega
def mv : List Int → Int → List Int
  | [], _ => []
  | c :: cs, b => V (c :: cs) b :: mv cs b
theorem mv_len (b : Int) : ∀ cs : List Int, (mv cs b).length = cs.length
  | [] => rfl
  | c :: cs => congrArg (· + 1) (mv_len b cs)
theorem mv_val (b : Int) : ∀ (cs : List Int) (n : Int), V (mv cs b) n = V cs (b + n)
  | [], _ => rfl
  | c :: cs, n => by
    refine rows_eq (f := fun n => V (mv (c :: cs) b) n) (g := fun n => V (c :: cs) (b + n)) ?_ (fun n => ?_) n
    · show V (V (c :: cs) b :: mv cs b) 0 = _
      rw [V_at0, Int.add_zero]
    · show V (V (c :: cs) b :: mv cs b) (n + 1) - V (V (c :: cs) b :: mv cs b) n = V (c :: cs) (b + (n + 1)) - V (c :: cs) (b + n)
      rw [V_up, mv_val b cs n, show b + (n + 1) = b + n + 1 by omega, V_up]
      omega
def Cg (m : Int) (xs ys : List Int) : Prop := ∀ i : Nat, m ∣ xs.getD i 0 - ys.getD i 0
theorem Cg.refl (m : Int) (xs : List Int) : Cg m xs xs := fun i => by rw [Int.sub_self]; exact Int.dvd_zero _
theorem Cg.symm {m : Int} {xs ys : List Int} (h : Cg m xs ys) : Cg m ys xs := fun i => by
  have := Int.dvd_neg.mpr (h i)
  rwa [Int.neg_sub] at this
theorem Cg.trans {m : Int} {xs ys zs : List Int} (h : Cg m xs ys) (k : Cg m ys zs) : Cg m xs zs := fun i => by
  have := Int.dvd_add (h i) (k i)
  rwa [show xs.getD i 0 - ys.getD i 0 + (ys.getD i 0 - zs.getD i 0) = xs.getD i 0 - zs.getD i 0 by omega] at this
theorem Cg.mono {m M : Int} {xs ys : List Int} (h : Cg M xs ys) (d : m ∣ M) : Cg m xs ys := fun i => Int.dvd_trans d (h i)
theorem VK_cg {m : Int} (n : Int) : ∀ (xs ys : List Int) (k : Nat), Cg m xs ys → m ∣ VK k xs n - VK k ys n
  | [], [], _, _ => by exact ⟨0, by show (0 : Int) - 0 = m * 0; rw [Int.mul_zero]; rfl⟩
  | [], y :: ys, k, h => by
    have h1 : m ∣ 0 - y := h 0
    have h2 := VK_cg n [] ys (k + 1) fun i => h (i + 1)
    show m ∣ 0 - (y * bin n k + VK (k + 1) ys n)
    have e : (0 : Int) - (y * bin n k + VK (k + 1) ys n) = (0 - y) * bin n k + (VK (k + 1) [] n - VK (k + 1) ys n) := by
      show _ = _ + (0 - VK (k + 1) ys n)
      grind
    rw [e]
    exact Int.dvd_add (Int.dvd_mul_of_dvd_left h1) h2
  | x :: xs, [], k, h => by
    have h1 : m ∣ x - 0 := h 0
    have h2 := VK_cg n xs [] (k + 1) fun i => h (i + 1)
    show m ∣ (x * bin n k + VK (k + 1) xs n) - 0
    have e : (x * bin n k + VK (k + 1) xs n) - 0 = (x - 0) * bin n k + (VK (k + 1) xs n - VK (k + 1) [] n) := by
      show _ = _ + (VK (k + 1) xs n - 0)
      grind
    rw [e]
    exact Int.dvd_add (Int.dvd_mul_of_dvd_left h1) h2
  | x :: xs, y :: ys, k, h => by
    have h1 : m ∣ x - y := h 0
    have h2 := VK_cg n xs ys (k + 1) fun i => h (i + 1)
    show m ∣ (x * bin n k + VK (k + 1) xs n) - (y * bin n k + VK (k + 1) ys n)
    have e : (x * bin n k + VK (k + 1) xs n) - (y * bin n k + VK (k + 1) ys n) = (x - y) * bin n k + (VK (k + 1) xs n - VK (k + 1) ys n) := by grind
    rw [e]
    exact Int.dvd_add (Int.dvd_mul_of_dvd_left h1) h2
theorem emod_of_dvd {m a b : Int} (h : m ∣ a - b) : a % m = b % m := by
  obtain ⟨k, hk⟩ := h
  have : a = b + m * k := by omega
  rw [this, Int.add_mul_emod_self_left]
theorem V_cg {m : Int} {xs ys : List Int} (h : Cg m xs ys) (n : Int) : V xs n % m = V ys n % m := emod_of_dvd (VK_cg n xs ys 0 h)
def cut : List Int → List Int
  | [] => []
  | x :: xs => if cut xs = [] ∧ x = 0 then [] else x :: cut xs
def tr (m : Int) (xs : List Int) : List Int := cut (xs.map (· % m))
theorem cut_at : ∀ (xs : List Int) (i : Nat), (cut xs).getD i 0 = xs.getD i 0
  | [], _ => rfl
  | x :: xs, i => by
    unfold cut
    by_cases h : cut xs = [] ∧ x = 0
    · rw [if_pos h, h.2]
      cases i with
      | zero => rfl
      | succ i =>
        have := cut_at xs i
        rw [h.1] at this
        exact this
    · rw [if_neg h]
      cases i with
      | zero => rfl
      | succ i => exact cut_at xs i
theorem cut_nil : ∀ {xs : List Int}, cut xs = [] ↔ ∀ i : Nat, xs.getD i 0 = 0
  | [] => by simp [cut]
  | x :: xs => by
    unfold cut
    by_cases h : cut xs = [] ∧ x = 0
    · rw [if_pos h]
      refine ⟨fun _ i => ?_, fun _ => rfl⟩
      cases i with
      | zero => exact h.2
      | succ i => exact cut_nil.mp h.1 i
    · rw [if_neg h]
      refine ⟨fun z => (by cases z), fun z => absurd ⟨cut_nil.mpr fun i => z (i + 1), z 0⟩ h⟩
theorem cut_ext : ∀ {xs ys : List Int}, (∀ i : Nat, xs.getD i 0 = ys.getD i 0) → cut xs = cut ys
  | [], ys, h => ((cut_nil (xs := ys)).mpr fun i => (h i).symm.trans (by simp)).symm
  | x :: xs, [], h => (cut_nil (xs := x :: xs)).mpr fun i => (h i).trans (by simp)
  | x :: xs, y :: ys, h => by
    have e : x = y := h 0
    have e2 : cut xs = cut ys := cut_ext fun i => h (i + 1)
    unfold cut
    rw [e, e2]
theorem cut_cut (xs : List Int) : cut (cut xs) = cut xs := cut_ext (cut_at xs)
theorem cut_len : ∀ xs : List Int, (cut xs).length ≤ xs.length
  | [] => Nat.le_refl _
  | x :: xs => by
    have := cut_len xs
    unfold cut
    by_cases h : cut xs = [] ∧ x = 0
    · rw [if_pos h]
      exact Nat.zero_le _
    · rw [if_neg h, List.length_cons, List.length_cons]
      omega
theorem cut_mem : ∀ {xs : List Int} {x : Int}, x ∈ cut xs → x ∈ xs
  | [], _, h => h
  | y :: ys, x, h => by
    unfold cut at h
    by_cases g : cut ys = [] ∧ y = 0
    · rw [if_pos g] at h
      cases h
    · rw [if_neg g] at h
      rcases List.mem_cons.mp h with rfl | h
      · exact List.mem_cons_self
      · exact List.mem_cons_of_mem _ (cut_mem h)
theorem cut_snoc0 (xs : List Int) : cut (xs ++ [0]) = cut xs := cut_ext fun i => by
  rw [List.getD_eq_getElem?_getD, List.getD_eq_getElem?_getD, List.getElem?_append]
  by_cases h : i < xs.length
  · rw [if_pos h]
  · rw [if_neg h, List.getElem?_eq_none (by omega : xs.length ≤ i)]
    cases i - xs.length with
    | zero => rfl
    | succ j => rfl
theorem cut_snoc {x : Int} (hx : x ≠ 0) : ∀ xs : List Int, cut (xs ++ [x]) = xs ++ [x]
  | [] => by
    show (if cut [] = [] ∧ x = 0 then [] else x :: cut []) = [x]
    rw [if_neg (fun z => hx z.2)]
    rfl
  | y :: ys => by
    show (if cut (ys ++ [x]) = [] ∧ y = 0 then [] else y :: cut (ys ++ [x])) = y :: (ys ++ [x])
    rw [cut_snoc hx ys, if_neg (fun z => by simp at z)]
theorem getD_map {f : Int → Int} (h0 : f 0 = 0) : ∀ (xs : List Int) (i : Nat), (xs.map f).getD i 0 = f (xs.getD i 0)
  | [], _ => h0.symm
  | x :: xs, 0 => rfl
  | x :: xs, i + 1 => getD_map h0 xs i
theorem tr_at (m : Int) (xs : List Int) (i : Nat) : (tr m xs).getD i 0 = xs.getD i 0 % m := by
  unfold tr
  rw [cut_at, getD_map (f := (· % m)) (Int.zero_emod m)]
theorem tr_cg (m : Int) (xs : List Int) : Cg m (tr m xs) xs := fun i => by
  rw [tr_at]
  exact ⟨-(xs.getD i 0 / m), by have := Int.emod_add_mul_ediv (xs.getD i 0) m; rw [Int.mul_neg]; omega⟩
theorem tr_ext {m : Int} {xs ys : List Int} (h : Cg m xs ys) : tr m xs = tr m ys := cut_ext fun i => by
  rw [getD_map (f := (· % m)) (Int.zero_emod m), getD_map (f := (· % m)) (Int.zero_emod m)]
  exact emod_of_dvd (h i)
theorem tr_len (m : Int) (xs : List Int) : (tr m xs).length ≤ xs.length := by
  have := cut_len (xs.map (· % m))
  rwa [List.length_map] at this
theorem tr_in {m : Int} (hm : 0 < m) (xs : List Int) : InR m (tr m xs) := fun x hx => by
  obtain ⟨y, _, rfl⟩ := List.mem_map.mp (cut_mem hx)
  exact ⟨Int.emod_nonneg _ (by omega), Int.emod_lt_of_pos _ hm⟩
theorem tr_cut (m : Int) (xs : List Int) : cut (tr m xs) = tr m xs := cut_cut _
theorem tr_zeros (m : Int) (xs : List Int) : ∀ k : Nat, tr m (xs ++ List.replicate k 0) = tr m xs
  | 0 => by rw [List.replicate_zero, List.append_nil]
  | k + 1 => by
    have e : xs ++ List.replicate (k + 1) 0 = (xs ++ List.replicate k 0) ++ [0] := by rw [List.replicate_succ', List.append_assoc]
    rw [e]
    unfold tr
    rw [List.map_append, List.map_singleton, Int.zero_emod, cut_snoc0]
    exact tr_zeros m xs k
theorem tr_val {m M : Int} (d : m ∣ M) (xs : List Int) (n : Int) : V (tr M xs) n % m = V xs n % m := V_cg ((tr_cg M xs).mono d) n
theorem VK_mul (k n : Int) : ∀ (j : Nat) (xs : List Int), VK j (xs.map (· * k)) n = VK j xs n * k
  | _, [] => (Int.zero_mul k).symm
  | j, x :: xs => by
    show x * k * bin n j + VK (j + 1) (xs.map (· * k)) n = (x * bin n j + VK (j + 1) xs n) * k
    rw [VK_mul k n (j + 1) xs]
    grind
theorem V_mul (k n : Int) (xs : List Int) : V (xs.map (· * k)) n = V xs n * k := VK_mul k n 0 xs
def diff : List Int → List Int
  | a :: b :: r => (b - a) :: diff (b :: r)
  | _ => []
theorem diff_len : ∀ xs : List Int, (diff xs).length = xs.length - 1
  | [] => rfl
  | [_] => rfl
  | a :: b :: r => by
    show (diff (b :: r)).length + 1 = _
    rw [diff_len (b :: r)]
    simp only [List.length_cons]
    omega
def dvN : Nat → List Int → List Int
  | n + 1, x :: xs => x :: dvN n (diff (x :: xs))
  | _, _ => []
def dv (xs : List Int) : List Int := dvN xs.length xs
theorem dv_nil : dv [] = [] := rfl
theorem dv_cons (x : Int) (xs : List Int) : dv (x :: xs) = x :: dv (diff (x :: xs)) := by
  show x :: dvN xs.length (diff (x :: xs)) = _
  unfold dv
  rw [diff_len] <;> rfl
theorem dv_len : ∀ (n : Nat) (xs : List Int), xs.length = n → (dv xs).length = n
  | 0, [], _ => rfl
  | n + 1, x :: xs, h => by
    rw [dv_cons, List.length_cons, dv_len n (diff (x :: xs)) (by rw [diff_len]; exact Nat.succ.inj h)]
/-- the first values of a row -/
def row (f : Int → Int) (n : Nat) : List Int := (List.range n).map fun i : Nat => f (i : Int)
theorem row_succ (f : Int → Int) (n : Nat) : row f (n + 1) = f 0 :: row (fun x => f (x + 1)) n := by
  unfold row
  rw [List.range_succ_eq_map, List.map_cons, List.map_map]
  rfl
theorem diff_row : ∀ (n : Nat) (f : Int → Int), diff (row f (n + 1)) = row (fun x => f (x + 1) - f x) n
  | 0, f => rfl
  | n + 1, f => by
    have e := row_succ (fun x => f (x + 1)) n
    rw [row_succ f (n + 1), e]
    show (f (0 + 1) - f 0) :: diff (f (0 + 1) :: row (fun x => f (x + 1 + 1)) n) = _
    rw [← e, diff_row n fun x => f (x + 1), row_succ (fun x => f (x + 1) - f x) n]
theorem dv_row (f : Int → Int) (n : Nat) : dv (row f (n + 1)) = f 0 :: dv (row (fun x => f (x + 1) - f x) n) := by
  rw [← diff_row, row_succ f n, dv_cons]
theorem row_len (f : Int → Int) (n : Nat) : (row f n).length = n := by
  unfold row
  rw [List.length_map, List.length_range]
end My

set_option Elab.async false
set_option linter.all false
set_option maxRecDepth 100000
set_option maxHeartbeats 4000000
namespace G
open PySem PySem.Spec PyProof.Rows L2
section
variable {K : PySem.W.Frag} {W : WX} {O : List OD} {ts : List T} {P : PT'} {X : XX} {te : TE} {tt : TT}
theorem w_lcO {wi : TI} {g : TG} {vs : List Nat} (hg : Tgt g vs) (h : WI K W wi O ts (fun f O1 => ∃ (n : Nat) (I : Nat → List D → List OD → Prop), (∀ i, i < n → f i ≠ none) ∧ f n = none ∧ I 0 [] O1 ∧ (∀ i acc O', I i acc O' → O'.length = O1.length) ∧
      (∀ i t acc O', i < n → f i = some t → I i acc O' → WG K W g t (O' ++ [.lst acc]) (wipeT ts vs) (fun ts2 O2 => WT K W tt O2 ts2 (fun c O3 =>
        (c = true → WE K W te O3 ts2 (fun y O4 => ∃ d O5, y = .v d ∧ O4 = O5 ++ [.lst acc] ∧ acc.length < sizeLine ∧ I (i + 1) (acc ++ [d]) O5) X0) ∧ (c = false → ∃ O5, O3 = O5 ++ [.lst acc] ∧ I (i + 1) acc O5)) X0)) ∧
      (∀ acc O', I n acc O' → P (.own O1.length) (O' ++ [.lst acc]))) X) : WE K W (tLc wi g tt te vs) O ts P X := fun b A σ H Q s rs kv kx =>
  h b A σ H _ s rs (fun J f A1 O1 H1 p s1 n1 fc => by
    obtain ⟨n, I, hf, hn, h0, hlen, hs, hd⟩ := p
    intro Dl hD
    obtain ⟨s2, n2⟩ := s1.own (u := .lst []) (o := .lst []) hD ⟨[], upd_same, rfl⟩
    have at_ : ∀ {O' : List OD} {acc : List D}, O'.length = O1.length → (O' ++ [OD.lst acc])[A1.length]? = some (.lst acc) := fun {O' acc} e => by
      rw [s1.len, List.getElem?_append_right (by omega), e, Nat.sub_self]
      exact rfl
    have atA : (A1 ++ [Dl])[A1.length]? = some Dl := by
      rw [List.getElem?_append_right (Nat.le_refl _), Nat.sub_self]
      exact rfl
    refine ⟨fun i m H' => m = n - i ∧ i ≤ n ∧ ∃ acc O', I i acc O' ∧ StO K b (A1 ++ [Dl]) (O' ++ [.lst acc]) H' ∧ Nxt b A1 O1 H1 (A1 ++ [Dl]) (O' ++ [.lst acc]) H', ⟨n, by omega, Nat.zero_le _, [], O1, h0, s2, n2⟩, ?_⟩
    rintro i m H' ⟨rfl, hi, acc, O', hI, s', n'⟩
    have hl := hlen i acc O' hI
    obtain ⟨c1, c2⟩ := fc i _ _ H' s' n'
    by_cases hlt : i < n
    · right
      obtain ⟨t, ht⟩ := Option.ne_none_iff_exists'.mp (hf i hlt)
      obtain ⟨hgo, hy⟩ := c2 t ht
      refine ⟨hgo, fun H2 => ∃ acc2 O2, I (i + 1) acc2 O2 ∧ StO K b (A1 ++ [Dl]) (O2 ++ [.lst acc2]) H2 ∧ Nxt b A1 O1 H1 (A1 ++ [Dl]) (O2 ++ [.lst acc2]) H2, fun H2 q => ⟨n - (i + 1), by omega, rfl, hlt, q⟩, fun x H3 y => ?_⟩
      obtain ⟨s3, n3, r3⟩ := hy x H3 y
      have rsw : RepS K (Fz b (A1 ++ [Dl]) (O' ++ [.lst acc]) H3) (A1 ++ [Dl]) (wipeT ts vs) (wipe σ vs) := repS_wipe (rs.nxt ((n1.trans n').trans n3)) vs
      have key := hs i t acc O' hlt ht hI b (A1 ++ [Dl]) (wipe σ vs) H3 (fun σ2 H2 => tt σ2 H2 fun c H4 => if c = true then te σ2 H4 fun y H5 => ∃ acc, H5 Dl = some (.lst acc) ∧ acc.length < sizeLine ∧ ∃ acc2 O2, I (i + 1) acc2 O2 ∧ StO K b (A1 ++ [Dl]) (O2 ++ [.lst acc2]) (upd H5 Dl (.lst (acc ++ [y]))) ∧ Nxt b A1 O1 H1 (A1 ++ [Dl]) (O2 ++ [.lst acc2]) (upd H5 Dl (.lst (acc ++ [y])))
        else ∃ acc2 O2, I (i + 1) acc2 O2 ∧ StO K b (A1 ++ [Dl]) (O2 ++ [.lst acc2]) H4 ∧ Nxt b A1 O1 H1 (A1 ++ [Dl]) (O2 ++ [.lst acc2]) H4) x s3 rsw r3 fun ts4 σ4 A4 O4 H4 p4 s4 n4 rs4 => ?_
      · have k2 := hg x (wipe σ vs) H3 _ key
        have ww : wipe (wipe σ vs) vs = wipe σ vs := by
          refine List.ext_getElem? fun i => ?_
          rw [wipe_get, wipe_get]
          by_cases hi : i ∈ vs
          · rw [if_pos hi, if_pos hi]
            cases σ[i]? <;> rfl
          · rw [if_neg hi, if_neg hi]
        rw [ww] at k2
        exact k2
      · have n14 := (n'.trans n3).trans n4
        refine p4 b A4 σ4 H4 _ s4 rs4 (fun c A5 O5 H5 p5 s5 n5 => ?_) (fun C fs A' O' H' d z => z.elim)
        have n15 := n14.trans n5
        have prefixA : ∀ {A6 O6 H6}, Nxt b A1 O1 H1 A6 O6 H6 → Nxt b (A1 ++ [Dl]) (O' ++ [.lst acc]) H' A6 O6 H6 → StO K b A6 O6 H6 → O6.length = O1.length + 1 → A6 = A1 ++ [Dl] := fun {A6 O6 H6} n6 m6 s6 l6 => by
          obtain ⟨M, e⟩ := m6.pre
          have l7 := s6.len
          rw [e, List.length_append, List.length_append, s1.len] at l7
          have : M.length = 0 := by
            simp only [List.length_singleton] at l7
            omega
          rw [e, List.length_eq_zero_iff.mp this, List.append_nil]
        cases c with
        | true =>
          refine iteT (p5.1 rfl b A5 σ4 H5 _ s5 (rs4.nxt n5) (fun y v A6 O6 H6 p6 s6 n6 r6 => ?_) (fun C fs A' O' H' d z => z.elim))
          obtain ⟨d, O7, rfl, rfl, hz, hI2⟩ := p6
          have hl7 := hlen _ _ _ hI2
          have eA := prefixA (n'.trans (((n3.trans n4).trans n5).trans n6)) (((n3.trans n4).trans n5).trans n6) s6 (by rw [List.length_append, hl7] <;> rfl)
          subst eA
          obtain ⟨us, h1, h2⟩ := s6.cell A1.length Dl _ atA (at_ hl7)
          obtain ⟨w, e2, rd⟩ := r6
          cases e2
          refine ⟨us, h1, by rw [h2.length]; exact hz, acc ++ [d], O7, hI2, ?_⟩
          obtain ⟨s8, n8⟩ := s6.put (w := .lst (us ++ [v])) (o := .lst (acc ++ [d])) atA (at_ hl7) (fun z => by cases z) (fun z => by cases z) ⟨_, upd_same, h2.append ⟨v, [], rfl, rd, rfl⟩⟩
          have es : (O7 ++ [OD.lst acc]).set A1.length (.lst (acc ++ [d])) = O7 ++ [.lst (acc ++ [d])] := by
            rw [s1.len, ← hl7, List.set_append_right _ _ (Nat.le_refl _), Nat.sub_self]
            exact rfl
          rw [es] at s8 n8
          exact ⟨s8, n'.trans ((((n3.trans n4).trans n5).trans n6).trans n8)⟩
        | false =>
          refine iteF ?_
          obtain ⟨O7, rfl, hI2⟩ := p5.2 rfl
          have hl7 := hlen _ _ _ hI2
          have eA := prefixA (n'.trans ((n3.trans n4).trans n5)) ((n3.trans n4).trans n5) s5 (by rw [List.length_append, hl7] <;> rfl)
          subst eA
          exact ⟨acc, O7, hI2, s5, n'.trans ((n3.trans n4).trans n5)⟩
    · left
      have e : i = n := by omega
      subst e
      refine ⟨c1 hn hf, ?_⟩
      exact kv _ _ (A1 ++ [Dl]) _ H' (hd acc O' hI) s' (n1.trans n') ⟨Dl, by rw [← s1.len]; exact atA, rfl⟩) kx

def LcExO (K : PySem.W.Frag) (g : TG) (te : TE) (vs : List Nat) (P : PT') (ts : List T) (f : Nat → Option T) (O1 : List OD) (W : WX) : Prop :=
  ∃ (n : Nat) (I : Nat → List D → List OD → Prop), (∀ i, i < n → f i ≠ none) ∧ f n = none ∧ I 0 [] O1 ∧ (∀ i acc O', I i acc O' → O'.length = O1.length) ∧
      (∀ i t acc O', i < n → f i = some t → I i acc O' → WG K W g t (O' ++ [.lst acc]) (wipeT ts vs) (fun ts2 O2 => WT K W tYes O2 ts2 (fun c O3 =>
        (c = true → WE K W te O3 ts2 (fun y O4 => ∃ d O5, y = .v d ∧ O4 = O5 ++ [.lst acc] ∧ acc.length < sizeLine ∧ I (i + 1) (acc ++ [d]) O5) X0) ∧ (c = false → ∃ O5, O3 = O5 ++ [.lst acc] ∧ I (i + 1) acc O5)) X0)) ∧
      (∀ acc O', I n acc O' → P (.own O1.length) (O' ++ [.lst acc]))
theorem w_lcO1 {wi : TI} {i : Nat} {vs : List Nat} (h : WI K W wi O ts (fun f O1 => LcExO K (gName i) te vs P ts f O1 W) X) (hm : i ∈ vs) : WE K W (tLc wi (gName i) tYes te vs) O ts P X := w_lcO (tgt_name hm) h
theorem lcO_A {g : TG} {vs : List Nat} {α : Type} (xs : List α) (e f : α → D) (hz : xs.length ≤ 1000000)
    (hs : ∀ x acc, x ∈ xs → WG K W g (.v (e x)) (O ++ [.lst acc]) (wipeT ts vs) (fun ts2 O2 => WE K W te O2 ts2 (fun y O4 => y = .v (f x) ∧ O4 = O ++ [.lst acc]) X0))
    (hd : P (.own O.length) (O ++ [.lst (xs.map f)])) : LcExO K g te vs P ts (itD (xs.map e)) O W := by
  have at_ : ∀ i, i < xs.length → ∃ x, xs[i]? = some x ∧ x ∈ xs ∧ itD (xs.map e) i = some (.v (e x)) := fun i hi => by
    refine ⟨xs[i], List.getElem?_eq_getElem hi, List.getElem_mem hi, ?_⟩
    unfold itD
    rw [List.getElem?_map, List.getElem?_eq_getElem hi] <;> rfl
  refine ⟨xs.length, fun i acc O' => O' = O ∧ acc = (xs.take i).map f ∧ i ≤ xs.length, fun i hi z => ?_, ?_, ⟨rfl, by rw [List.take_zero]; rfl, Nat.zero_le _⟩, fun i acc O' z => by rw [z.1], fun i t acc O' hi ht z => ?_, fun acc O' z => ?_⟩
  · obtain ⟨x, _, _, q⟩ := at_ i hi
    rw [q] at z
    cases z
  · unfold itD
    rw [List.getElem?_eq_none (by rw [List.length_map]; exact Nat.le_refl _)] <;> rfl
  · obtain ⟨x, hx, hm, q⟩ := at_ i hi
    rw [q] at ht
    cases ht
    obtain ⟨rfl, rfl, _⟩ := z
    refine (hs x _ hm).imp fun ts2 O2 k => w_yes ⟨fun _ => k.imp fun y O4 p => ?_, fun z => by cases z⟩
    obtain ⟨rfl, rfl⟩ := p
    have hl : ((xs.take i).map f).length < sizeLine := by
      rw [List.length_map, List.length_take]
      exact Nat.lt_of_lt_of_le (show min i xs.length < 1000000 by omega) (Nat.le_of_ble_eq_true rfl)
    exact ⟨_, _, rfl, rfl, hl, rfl, by rw [List.take_succ, hx, List.map_append]; rfl, hi⟩
  · obtain ⟨rfl, rfl, _⟩ := z
    rw [List.take_length]
    exact hd
/-- [f at c for at, c in enumerate(ns)] -/
theorem lc_EN {g : TG} {vs : List Nat} (ns : List Int) (f : Nat → Int → Int) (hz : ns.length ≤ 1000000)
    (hs : ∀ (i : Nat) (c : Int) acc, ns[i]? = some c → WG K W g (.v (.tup [.int (i : Nat), .int c])) (O ++ [.lst acc]) (wipeT ts vs) (fun ts2 O2 => WE K W te O2 ts2 (fun y O4 => y = .v (.int (f i c)) ∧ O4 = O ++ [.lst acc]) X0))
    (hd : P (.v (.lst (nums (ns.mapIdx f)))) O) : LcEx K W g te vs P ts (itE (nums ns)) O := by
  have at_ : ∀ i, i < ns.length → ∃ c, ns[i]? = some c := fun i hi => ⟨_, List.getElem?_eq_getElem hi⟩
  refine lc_P (n := ns.length) (item := fun i => match ns[i]? with | some c => .v (.tup [.int (i : Nat), .int c]) | none => .no) (fun i => match ns[i]? with | some c => .int (f i c) | none => .non) (fun i hi => ?_) ?_ hz (fun i acc hi => ?_) ?_
  · obtain ⟨c, hc⟩ := at_ i hi
    unfold itE nums
    rw [List.getElem?_map, hc] <;> rfl
  · unfold itE nums
    rw [List.getElem?_map, List.getElem?_eq_none (Nat.le_refl _)] <;> rfl
  · obtain ⟨c, hc⟩ := at_ i hi
    have k := hs i c acc hc
    rw [hc]
    exact k
  · have e : (List.range ns.length).map (fun i => match ns[i]? with | some c => D.int (f i c) | none => D.non) = nums (ns.mapIdx f) := by
      refine List.ext_getElem? fun i => ?_
      unfold nums
      rw [List.getElem?_map, List.getElem?_map, List.getElem?_mapIdx]
      by_cases hi : i < ns.length
      · obtain ⟨c, hc⟩ := at_ i hi
        rw [List.getElem?_range hi, hc]
        show some (match ns[i]? with | some c => D.int (f i c) | none => D.non) = _
        rw [hc] <;> rfl
      · rw [List.getElem?_eq_none (by rw [List.length_range]; omega), List.getElem?_eq_none (show ns.length ≤ i by omega)] <;> rfl
    rw [e]
    exact hd
/-- [after - before for before, after in zip(xs, xs[1:])] -/
theorem diff_get : ∀ {xs : List Int} {i : Nat} {x y : Int}, xs[i]? = some x → xs[i + 1]? = some y → (My.diff xs)[i]? = some (y - x)
  | [], _, _, _, h, _ => by cases h
  | [_], _, _, _, _, h => by cases h
  | a :: b :: r, 0, _, _, h, k => by
    cases h
    cases k
    rfl
  | a :: b :: r, i + 1, _, _, h, k => diff_get (xs := b :: r) (i := i) h k
theorem lc_D {g : TG} {vs : List Nat} (xs : List Int) (hz : xs.length ≤ 1000000)
    (hs : ∀ (x y : Int) acc, WG K W g (.v (.tup [.int x, .int y])) (O ++ [.lst acc]) (wipeT ts vs) (fun ts2 O2 => WE K W te O2 ts2 (fun z O4 => z = .v (.int (y - x)) ∧ O4 = O ++ [.lst acc]) X0))
    (hd : P (.v (.lst (nums (My.diff xs)))) O) : LcEx K W g te vs P ts (itZ (nums xs) ((nums xs).drop 1)) O := by
  have hl := My.diff_len xs
  have at_ : ∀ i, i < (My.diff xs).length → ∃ x y, xs[i]? = some x ∧ xs[i + 1]? = some y := fun i hi => ⟨_, _, List.getElem?_eq_getElem (by omega), List.getElem?_eq_getElem (by omega)⟩
  refine lc_P (n := (My.diff xs).length) (item := fun i => match xs[i]?, xs[i + 1]? with | some x, some y => .v (.tup [.int x, .int y]) | _, _ => .no) (fun i => ((My.diff xs)[i]?.map D.int).getD .non) (fun i hi => ?_) ?_ (by omega) (fun i acc hi => ?_) ?_
  · obtain ⟨x, y, hx, hy⟩ := at_ i hi
    unfold itZ nums
    rw [List.getElem?_drop, List.getElem?_map, List.getElem?_map, Nat.add_comm 1 i, hx, hy] <;> rfl
  · unfold itZ nums
    rw [List.getElem?_drop, List.getElem?_map, List.getElem?_map, List.getElem?_eq_none (show xs.length ≤ 1 + (My.diff xs).length by omega)]
    cases Option.map D.int xs[(My.diff xs).length]? <;> rfl
  · obtain ⟨x, y, hx, hy⟩ := at_ i hi
    have k := hs x y acc
    rw [diff_get hx hy, hx, hy]
    exact k
  · have e : (List.range (My.diff xs).length).map (fun i => ((My.diff xs)[i]?.map D.int).getD .non) = nums (My.diff xs) := by
      unfold nums
      exact map_range (f := D.int) (xs := My.diff xs) fun i x hx => by rw [hx] <;> rfl
    rw [e]
    exact hd
theorem c_max2 {i j : Int} (k : P (.v (.int (if j > i then j else i))) O) : WC K (fun xs H Q => ∃ i j, xs = [.int i, .int j] ∧ Q (.int (if j > i then j else i)) H) [.v (.int i), .v (.int j)] O P := fun b A H Q vs s r kv => by
  obtain ⟨_, _, rfl, ⟨_, e1, r1⟩, _, _, rfl, ⟨_, e2, r2⟩, rfl⟩ := r
  cases e1
  cases e2
  exact ⟨i, j, by rw [r1, r2], kv _ _ A O H k s Nxt.refl ⟨_, rfl, rfl⟩⟩
end
end G
namespace My
open G (InR)
/-- the terms of a value -/
theorem terms_sum (n : Int) : ∀ (k : Nat) (cs : List Int), (cs.mapIdx fun i c => c * bin n (k + i)).sum = VK k cs n
  | _, [] => rfl
  | k, c :: cs => by
    rw [List.mapIdx_cons, List.sum_cons]
    show c * bin n (k + 0) + _ = c * bin n k + VK (k + 1) cs n
    rw [Nat.add_zero, ← terms_sum n (k + 1) cs]
    have e : (fun (i : Nat) (c : Int) => c * bin n (k + (i + 1))) = fun i c => c * bin n (k + 1 + i) := funext fun i => funext fun c => by rw [show k + (i + 1) = k + 1 + i by omega]
    rw [e]
theorem terms_V (n : Int) (cs : List Int) : (cs.mapIdx fun i c => c * bin n i).sum = V cs n := by
  have := terms_sum n 0 cs
  have e : (fun (i : Nat) (c : Int) => c * bin n (0 + i)) = fun i c => c * bin n i := funext fun i => funext fun c => by rw [Nat.zero_add]
  rw [e] at this
  exact this
end My

set_option Elab.async false
set_option linter.all false
set_option maxRecDepth 100000
set_option maxHeartbeats 4000000
namespace G
open PySem PySem.Spec PyProof.Rows L2
theorem pe_makeZ {X : Cx} {CX : CXT} {k : Nat} {f C : Addr} {sp : Sp} {E : XK} {x : Str} {e : Expr} {es : List Expr} {t : TA} {p pos : Pos} (M : Mk X.K C f) (F : FnR X.prog X.w X.K X.mg X.base CX k f sp) (hr : Room (k + 1) X.A) (hg : Gl X x)
    (hm : X.mg x = some (.ref C)) (hx : Passes CX X E) (ha : PA X (e :: es) t) (hdb : (x == ("__debug__" : Str)) = false := by decide) (h1 : starEach (e :: es) X.env = (false, eval e X.env) :: starEach es X.env := by rfl)
    (h2 : (backTo pos (starEach es X.env)).any (·.1) = true := by rfl) : PE X (.Call (.Name x p) (e :: es) [] pos) (StX.tMakeR C sp E t) :=
  ⟨fun pins s σ H Q I h => wpAny_Call_Name_kw (ld_glob I hg hm (PySem.W.callWith_S2 (h₀ := X.base) I.ok.mod.kin M.kp (thn (ha.run pos pins s σ H _ I h) fun us s1 z => by
    obtain ⟨vs, H1, I1, r, q⟩ := z
    exact ⟨I1.kIn, StX.run_makeR M F hr hx I1 r q⟩) h1 h2) hdb)⟩
theorem pg_lstK (K : PySem.W.Frag) {X : Cx} {pos : Pos} {es : List Expr} {k : Nat} {t : TGs} {n : Nat} (hc : X.calm = true) (h : PGs X es t) (hn : (assignEach es X.env).length = n := by rfl) (hst : (assignEach es X.env).findIdx? (·.1) = none := by rfl) (hK : X.K = K := by rfl) :
    PG X (.Tuple es k pos) (gLst K n t) := hK ▸ pg_lst hc h hn hst
theorem g_lst {K : PySem.W.Frag} {W : WX} {O : List OD} {ts : List T} {n : Nat} {gs : TGs} {ds : List D} {N : List T → List OD → Prop} (hl : ds.length = n) (h : WGs K W gs (ds.map T.v) O ts N) : WG K W (gLst K n gs) (.v (.lst ds)) O ts N := fun b A σ H Q v s rs r kn => by
  obtain ⟨a, vs, e, sq, rl⟩ := lstD_at lstD_v s r
  exact ⟨a, vs, e, sq, rl.length.trans hl, h b A σ H Q vs s rs (repTs_v rl) kn⟩
end G

set_option Elab.async false
set_option linter.all false
set_option maxRecDepth 100000
set_option maxHeartbeats 4000000
namespace My2
open PySem PySem.W PyProof.Rows
section
variable {pr : Program} {wo : World} {B : Around} {Er : Value → Shared → Prop} {st : Shared} {K : Frag} {a cl lo me : Addr} {base : Heap} {nsm : Str → Option Value} {oa : Obj} {da : Option Obj}
end
end My2
namespace G
open PySem PySem.Spec PyProof.Rows L2
end G

set_option Elab.async false
set_option linter.all false
set_option maxRecDepth 100000
set_option maxHeartbeats 4000000
namespace G
open PySem PySem.Spec PyProof.Rows L2
end G

set_option Elab.async false
set_option linter.all false
set_option maxRecDepth 100000
set_option maxHeartbeats 4000000
namespace G
open PySem PySem.Spec PyProof.Rows L2
/-- the integers from a on below b -/
def rgI (a b : Int) : List Int := (List.range (b - a).toNat).map fun i : Nat => a + (i : Int)
section
variable {K : PySem.W.Frag} {W : WX} {O : List OD} {ts : List T} {P : PT'} {X : XX} {ta tb : TE}
variable {g : TG} {te : TE} {vs : List Nat}
/-- the shorter row ahead -/
theorem lc_ZL {α β : Type} (xs : List α) (ys : List β) (e1 : α → D) (e2 : β → D) (f : α → β → D) (hl : xs.length ≤ ys.length) (hz : xs.length ≤ 1000000)
    (hs : ∀ x y acc, x ∈ xs → y ∈ ys → WG K W g (.v (.tup [e1 x, e2 y])) (O ++ [.lst acc]) (wipeT ts vs) (fun ts2 O2 => WE K W te O2 ts2 (fun y' O4 => y' = .v (f x y) ∧ O4 = O ++ [.lst acc]) X0))
    (hd : P (.v (.lst (List.zipWith f xs ys))) O) : LcEx K W g te vs P ts (itZ (xs.map e1) (ys.map e2)) O := by
  have e : itZ (xs.map e1) (ys.map e2) = itZ (xs.map e1) ((ys.take xs.length).map e2) := by
    funext i
    unfold itZ
    rw [List.getElem?_map, List.getElem?_map, List.getElem?_map]
    by_cases hi : i < xs.length
    · rw [List.getElem?_take_of_lt hi]
    · rw [List.getElem?_eq_none (by omega : xs.length ≤ i)]
      rfl
  rw [e]
  refine lc_Z xs (ys.take xs.length) e1 e2 f (by rw [List.length_take]; omega) hz (fun x y acc hx hy => hs x y acc hx (List.mem_of_mem_take hy)) ?_
  have e3 : List.zipWith f xs (ys.take xs.length) = List.zipWith f xs ys := by
    refine List.ext_getElem? fun i => ?_
    rw [List.getElem?_zipWith, List.getElem?_zipWith]
    by_cases hi : i < xs.length
    · rw [List.getElem?_take_of_lt hi]
    · rw [List.getElem?_eq_none (by omega : xs.length ≤ i)]
  rw [e3]
  exact hd
end
end G

set_option Elab.async false
set_option linter.all false
set_option maxRecDepth 100000
set_option maxHeartbeats 4000000
namespace G
open PySem PySem.Spec PyProof.Rows L2
/-- the texts one behind the other -/
def tJn (tes : List TE) (acc : Str) : TE := fun σ H Q => tJs tes acc σ H fun out H1 => Q (.str out) H1
def rJoin (K : PySem.W.Frag) : V → List V → Hp → VK → Prop := fun x xs H Q => ∃ a p, ∃ ys : List Str, x = .str a ∧ xs = [.ref p] ∧ (SqL K H p (ys.map V.str) ∨ SqT K H p (ys.map V.str)) ∧ (ys.map (·.length)).sum + ys.length * a.length ≤ 16777216 ∧ Q (.str (Txt.join a ys)) H
theorem repL_strs {K : PySem.W.Frag} {F : Hp} : ∀ {ys : List Str} {vs : List V}, RepL K F (ys.map D.str) vs → vs = ys.map V.str
  | [], _, h => h
  | y :: ys, _, h => by
    obtain ⟨v, r, rfl, h1, h2⟩ := h
    rw [show v = V.str y from h1, repL_strs h2]
    rfl
section
variable {K : PySem.W.Frag} {W : WX} {O : List OD} {ts : List T} {P : PT'} {X : XX} {ta tb : TE} {sp : SpD} {C : Addr} {fs : List (Str × D)}
theorem w_jnil {acc : Str} (k : P (.v (.str acc)) O) : WE K W (tJn [] acc) O ts P X := fun b A σ H Q s rs kv kx => kv _ _ A O H k s Nxt.refl ⟨_, rfl, rfl⟩
theorem w_jcons {acc : Str} {tes : List TE} (h : WE K W ta O ts (fun x O1 => ∃ y : Str, x = .v (.str y) ∧ (acc ++ y).length ≤ sizeLine ∧ WE K W (tJn tes (acc ++ y)) O1 ts P X) X) : WE K W (tJn (ta :: tes) acc) O ts P X := fun b A σ H Q s rs kv kx =>
  h b A σ H _ s rs (fun x v A1 O1 H1 p s1 n1 r1 => by
    obtain ⟨y, rfl, hz, q⟩ := p
    obtain ⟨_, e1, e2⟩ := id r1
    cases e1
    exact ⟨y, e2, hz, q b A1 σ H1 Q s1 (rs.nxt n1) (kv.nxt n1) (kx.nxt n1)⟩) kx
theorem w_join (h : WE K W ta O ts (fun x O1 => ∃ a : Str, x = .v (.str a) ∧ WE K W tb O1 ts (fun y O2 => ∃ ys : List Str, LstD y O2 (ys.map D.str) ∧ (ys.map (·.length)).sum + ys.length * a.length ≤ 16777216 ∧ P (.v (.str (Txt.join a ys))) O2) X) X) : WE K W (tM1 (rJoin K) ta tb) O ts P X := fun b A σ H Q s rs kv kx =>
  h b A σ H _ s rs (fun x v A1 O1 H1 p s1 n1 r1 => by
    obtain ⟨a, rfl, q⟩ := p
    obtain ⟨_, e1, e2⟩ := id r1
    cases e1
    refine ⟨⟨a, e2⟩, q b A1 σ H1 _ s1 (rs.nxt n1) (fun y u A2 O2 H2 p2 s2 n2 r2 => ?_) (kx.nxt n1)⟩
    obtain ⟨ys, hl, hz, k⟩ := p2
    obtain ⟨p', vs, rfl, sq, rl⟩ := lstD_at hl s2 r2
    rw [repL_strs rl] at sq
    exact ⟨a, p', ys, e2, rfl, .inl sq, hz, kv _ _ A2 O2 H2 k s2 (n1.trans n2) ⟨_, rfl, rfl⟩⟩) kx
end
end G
namespace G
open PySem PySem.Spec PyProof.Rows L2
theorem shows_lst {ns : List Int} (h : ∀ n ∈ ns, Sm n) (hl : ns.length ≤ 100) : Shows (.lst (nums ns)) (.list (ns.map PyData.int)) := by
  refine ⟨?_, ?_, ?_, ?_⟩
  · show (pyL (nums ns)).map PyData.list = _
    rw [py_ints]
    rfl
  · rw [PyData.showable]
    exact sh_ints ns h
  · rw [PyData.depth]
    have := dp_ints ns
    omega
  · obtain ⟨k1, k2⟩ := ln_ints ns h
    rw [PyData.shown]
    have k3 := listText_len_le (PyData.shownAll (ns.map PyData.int))
    rw [k2] at k3
    rw [sizeLine_eq]
    omega
end G

set_option Elab.async false
set_option linter.all false
set_option maxRecDepth 100000
set_option maxHeartbeats 4000000
namespace G
open PySem PySem.Spec PyProof.Rows L2
structure SMet (K : PySem.W.Frag) (C : Addr) (m : Str) (g : Addr) : Prop where
  rd : PySem.W.readsIn K C (.type "type") = true
  ga : PySem.W.specialIn K (.ref C) "__getattribute__" = some (some (.builtin "type.__getattribute__"))
  wr : PySem.W.findCls K (.ref C) (.type "type") m = some (.get (.builtin "staticmethod.__get__") (.ref (He.ma K C m)) .none (.ref C)) ∧ ∃ rest, PySem.W.recIn K (He.ma K C m) "staticmethod" = some (.ref g :: rest)
  kp : PySem.W.keepIn K (.ref g) = true
def smB (K : PySem.W.Frag) (d : PrD) : Bool := PySem.W.readsIn K (He.ga K d.cls) (.type "type") && (He.eqO (PySem.W.specialIn K (.ref (He.ga K d.cls)) "__getattribute__") (some (some (.builtin "type.__getattribute__"))) && He5.wrapB K (He.ga K d.cls) "staticmethod" "staticmethod.__get__" d.name)
theorem smet_of {K : PySem.W.Frag} {d : PrD} (h : d.oks K = true) (hk : d.kind = "staticmethod") (p : smB K d = true) : SMet K (He.ga K d.cls) d.name (d.g K) := by
  obtain ⟨h1, p2⟩ := He.ba p
  obtain ⟨h2, h3⟩ := He.ba p2
  refine ⟨h1, He.eqO_ok h2, ⟨(He5.wrapB_ok h3).1, ?_⟩, (He.ba h).1⟩
  have := d.rec_ h
  rw [hk] at this
  exact this
def tSMeth (C : Addr) (sp : Sp) (E : XK) (ta : TE) (t : TA) : TE := fun σ H Q => ta σ H fun x H1 => x = .ref C ∧ t σ H1 fun vs H2 => sp vs H2 Q E
theorem get_static {X : Cx} {pins : List (Addr × Obj)} {σ : L2.St} {H : Hp} {s : Shared} {A : Around} {Er : Value → Shared → Prop} {C g : Addr} {m : Str} {pl : Sem Bool} {Q : Value × List Value → Shared → Prop} (I : Inv X pins σ H s) (M : SMet X.K C m g)
    (h : ∀ s', Inv X pins σ H s' → Q (.ref g, []) s') : wpAny (model X.prog X.w) A (getMethod (.ref C) m pl) Q Er s := by
  obtain ⟨e, rest, hp⟩ := M.wr
  exact PySem.W.method_cls I.kIn M.ga (PySem.W.cls_bind I.kIn M.rd e (wpAny_call (PySem.W.sm_get (s := { s with toks := s.toks + 1 }) I.kIn hp (PySem.W.handed_on rfl (h _ (I.tok _))))))
theorem pe_smeth {X : Cx} {CX : CXT} {k : Nat} {C g : Addr} {sp : Sp} {m : Str} {E : XK} {o e : Expr} {es : List Expr} {ta : TE} {t : TA} {pos apos : Pos} {pl : Sem Bool} (he : PE X o ta) (M : SMet X.K C m g) (F : FnR X.prog X.w X.K X.mg X.base CX k g sp) (hr : Room k X.A) (hx : Passes CX X E) (ha : PA X (e :: es) t)
    (h1 : starEach (e :: es) X.env = (false, eval e X.env) :: starEach es X.env := by rfl) (h2 : (backTo pos (starEach es X.env)).any (·.1) = false := by rfl)
    (h3 : eval (.Call (.Attribute o m apos) (e :: es) [] pos) X.env = (eval o X.env >>= fun ov => standAt apos.atName >>= fun _ => holding [ov] (getMethod ov m pl) >>= fun q => callWith pos q.1 q.2 (backTo pos (starEach (e :: es) X.env)) (backToKw pos (keywordEach [] X.env))) := by rfl) :
    PE X (.Call (.Attribute o m apos) (e :: es) [] pos) (tSMeth C sp E ta t) := by
  constructor
  intro pins s σ H Q I h
  refine PySem.W.methodCall_KW (pl := pl) (thn (he.run pins s σ H _ I h) fun u s1 z => ?_) h3
  obtain ⟨x, H1, I1, rx, ex, q⟩ := z
  cases ex
  cases (show u = Value.ref C from rx)
  refine get_static I1 M fun s2 I2 => ?_
  refine PySem.W.callWith_K (first := []) (h₀ := X.base) I2.ok.mod.kin M.kp (thn (ha.run pos pins s2 σ H1 _ I2 q) fun us s3 z2 => ?_) h1 h2
  obtain ⟨vs, H2, I3, r, q2⟩ := z2
  exact ⟨I3.kIn, wpAny_call (run_fnR (us := us) (vs := vs) F hr hx I3 r q2)⟩
section
variable {K : PySem.W.Frag} {W : WX} {O : List OD} {ts : List T} {P : PT'} {X : XX} {sp : SpD} {tr : TA} {ta tv : TE} {C : Addr} {m f : Str}
theorem w_smeth (h : WE K W ta O ts (fun x O1 => x = .v (.ref C) ∧ WA K W tr O1 ts (fun xs O2 => ∃ ds, unv xs = some ds ∧ sp xs [] (fun t _ => (∃ d, t = .v d) ∧ P t O2) (fun _ _ _ => False)) X) X) :
    WE K W (tSMeth C (lift K sp) E0 ta tr) O ts P X := fun b A σ H Q s rs kv kx =>
  h b A σ H _ s rs (fun x v A1 O1 H1 p1 s1 n1 r1 => by
    obtain ⟨rfl, p⟩ := p1
    obtain ⟨_, e1, e2⟩ := id r1
    cases e1
    refine ⟨e2, p b A1 σ H1 _ s1 (rs.nxt n1) (fun xs us A2 O2 H2 p2 s2 n2 r2 => ?_) (kx.nxt n1)⟩
    obtain ⟨ds, e, q⟩ := p2
    exact lift_p (W := fun _ _ _ _ => False) (X := fun _ _ _ => False) (σ := σ) s2 r2 e (fun _ _ _ z => z) q (kv.nxt (n1.trans n2)) fun _ _ _ _ _ _ z => z.elim) kx
theorem tr1_v {i : Nat} : ∀ {xs : List T} {ds : List D}, unv xs = some ds → tr1 i xs = some xs
  | [], _, _ => rfl
  | .v d :: xs, ds, e => by
    have e3 : (unv xs).map (d :: ·) = some ds := e
    cases q : unv xs with
    | none =>
      rw [q] at e3
      cases e3
    | some es =>
      show (tr1 i xs).map (T.v d :: ·) = _
      rw [tr1_v q] <;> rfl
  | .own _ :: _, _, e => by cases e
  | .no :: _, _, e => by cases e
  | .clo _ _ :: _, _, e => by cases e
end
end G

set_option Elab.async false
set_option linter.all false
set_option maxRecDepth 100000
set_option maxHeartbeats 0
namespace My
open PySem PySem.Spec PyProof.Rows L2 G
def top (i : Nat) : Stmt := PySem.Challenge.pw_restchains_k13_sums_of_values.main.body.getD i (.Pass ⟨0, 0, 0, 0⟩)
def d_is_integer : He.DefD := ⟨("is_integer", none), "is_integer", "is_integer", defArgs (top 4), defBody (top 4), defScope (top 4), [], []⟩
def d_is_between : He.DefD := ⟨("is_between", none), "is_between", "is_between", defArgs (top 5), defBody (top 5), defScope (top 5), [], []⟩
def d_fits_modulus : He.DefD := ⟨("fits_modulus", none), "fits_modulus", "fits_modulus", defArgs (top 6), defBody (top 6), defScope (top 6), [], []⟩
def d_is_row : He.DefD := ⟨("is_row", none), "is_row", "is_row", defArgs (top 7), defBody (top 7), defScope (top 7), [], []⟩
def d_law_pen : He.DefD := ⟨("_law_pen", none), "_law_pen", "_law_pen", defArgs (top 35), defBody (top 35), defScope (top 35), [], []⟩
def d_law_draw : He.DefD := ⟨("_law_draw", none), "_law_draw", "_law_draw", defArgs (top 36), defBody (top 36), defScope (top 36), [], []⟩
def d_law_pick : He.DefD := ⟨("_law_pick", none), "_law_pick", "_law_pick", defArgs (top 37), defBody (top 37), defScope (top 37), [], []⟩
def d_binomial : He.DefD := ⟨("binomial", none), "binomial", "binomial", defArgs (top 21), defBody (top 21), defScope (top 21), [], []⟩
def d_trimmed : He.DefD := ⟨("trimmed", none), "trimmed", "trimmed", defArgs (top 26), defBody (top 26), defScope (top 26), [], []⟩
def d_value_of : He.DefD := ⟨("value_of", none), "value_of", "value_of", defArgs (top 28), defBody (top 28), defScope (top 28), [], []⟩
def d_SumU_initU : He.DefD := ⟨("Sum", some "__init__"), "__init__", "Sum.__init__", defArgs (inClass (top 33) 1), defBody (inClass (top 33) 1), defScope (inClass (top 33) 1), [], []⟩
def d_SumU_callU : He.DefD := ⟨("Sum", some "__call__"), "__call__", "Sum.__call__", defArgs (inClass (top 33) 5), defBody (inClass (top 33) 5), defScope (inClass (top 33) 5), [], []⟩
def d_SumU_eqU : He.DefD := ⟨("Sum", some "__eq__"), "__eq__", "Sum.__eq__", defArgs (inClass (top 33) 27), defBody (inClass (top 33) 27), defScope (inClass (top 33) 27), [], []⟩
def d_SumU_lenU : He.DefD := ⟨("Sum", some "__len__"), "__len__", "Sum.__len__", defArgs (inClass (top 33) 8), defBody (inClass (top 33) 8), defScope (inClass (top 33) 8), [], []⟩
def d_differences : He.DefD := ⟨("differences", none), "differences", "differences", defArgs (top 27), defBody (top 27), defScope (top 27), [], []⟩
def d_law_modulus : He.DefD := ⟨("_law_modulus", none), "_law_modulus", "_law_modulus", defArgs (top 38), defBody (top 38), defScope (top 38), [], []⟩
def d_law_numbers : He.DefD := ⟨("_law_numbers", none), "_law_numbers", "_law_numbers", defArgs (top 39), defBody (top 39), defScope (top 39), [], []⟩
def d_law_made : He.DefD := ⟨("_law_made", none), "_law_made", "_law_made", defArgs (top 40), defBody (top 40), defScope (top 40), [], []⟩
def d_law_trimmed : He.DefD := ⟨("_law_trimmed", none), "_law_trimmed", "_law_trimmed", defArgs (top 41), defBody (top 41), defScope (top 41), [], []⟩
def d_law_stepped : He.DefD := ⟨("_law_stepped", none), "_law_stepped", "_law_stepped", defArgs (top 42), defBody (top 42), defScope (top 42), [], []⟩
def d_law_differences : He.DefD := ⟨("_law_differences", none), "_law_differences", "_law_differences", defArgs (top 43), defBody (top 43), defScope (top 43), [], []⟩
def d_law_values : He.DefD := ⟨("_law_values", none), "_law_values", "_law_values", defArgs (top 44), defBody (top 44), defScope (top 44), [], []⟩
def d_law_right : He.DefD := ⟨("_law_right", none), "_law_right", "_law_right", defArgs (top 45), defBody (top 45), defScope (top 45), [], []⟩
def d_law : He.DefD := ⟨("law", none), "law", "law", defArgs (top 46), defBody (top 46), defScope (top 46), [], []⟩
def fn : List He.DefD := [d_is_integer, d_is_between, d_fits_modulus, d_is_row, d_law_pen, d_law_draw, d_law_pick, d_binomial, d_trimmed, d_value_of, d_SumU_initU, d_SumU_callU, d_SumU_eqU, d_SumU_lenU, d_differences, d_law_modulus, d_law_numbers, d_law_made, d_law_trimmed, d_law_stepped, d_law_differences, d_law_values, d_law_right, d_law]
def fa : List He.Fa := [.free "int", .free "isinstance", .free "bool", .glo "is_integer", .glo "is_between", .int "MOST_MODULUS" 1000000000000000000000000000000, .free "tuple", .free "list", .free "len", .free "abs", .glo "_law_draw", .free "range", .cls "Sum", .glo "Sum", .glo "binomial", .free "sum", .free "enumerate", .glo "fits_modulus", .glo "trimmed", .int "MOST_COEFS" 13, .noat "Sum" "modulus", .noat "Sum" "coefs", .glo "value_of", .free "zip", .glo "is_row", .glo "differences", .free "all", .mkr "Sum", .glo "_law_pick", .glo "_law_trimmed", .glo "_law_stepped", .glo "_law_numbers", .glo "_law_differences", .glo "_law_values", .free "repr", .free "max", .meth "Sum" "__len__", .meth "Sum" "__call__", .meth "Sum" "__eq__", .glo "_law_modulus", .glo "_law_right", .glo "_law_made", .glo "_law_pen", .glo "law"]
def insB (K : PySem.W.Frag) (C : Addr) : Bool := He.eqO (PySem.W.findIn K (.ref C) "__class__") (some (some (.builtin "object.__class__"))) && (He.eqO (PySem.W.specialIn K (.builtin "object.__class__") "__get__") (some (some (.builtin "getset_descriptor.__get__"))) && (decide (PySem.W.takesIn K (.builtin "object.__class__") = some true) && decide (PySem.W.mroIn K C (.type "object") = some true)))
theorem insB_ok {K : PySem.W.Frag} {C : Addr} (c : Cls K C) (h : insB K C = true) : G.InsTy K C := by
  obtain ⟨h1, h⟩ := He.ba h
  obtain ⟨h2, h⟩ := He.ba h
  obtain ⟨h3, h4⟩ := He.ba h
  exact ⟨c, He.eqO_ok h1, He.eqO_ok h2, of_decide_eq_true h3, of_decide_eq_true h4⟩
def pr_Sum_of : PrD := ⟨"Sum", "of", "staticmethod", "Sum.of", defArgs (inClass (top 33) 2), defBody (inClass (top 33) 2), defScope (inClass (top 33) 2)⟩
def prs : List PrD := [pr_Sum_of]
def es : List ExD := []
def exs (K : PySem.W.Frag) : List Bool := [insB K (He.ga K "Sum"), decide (PySem.W.kitOne K (.ref (He.ga K "Sum")) (.ref (He.ga K "Sum")) = some true), decide (PySem.W.kitOne K (.ref (He.ga K "Sum")) (.type "int") = some false), decide (PySem.W.kitOne K (.ref (He.ga K "Sum")) (.type "bool") = some false), neB K (He.ga K "Sum"), callB K (He.ga K "Sum"), PrD.oks K pr_Sum_of, smB K pr_Sum_of]
def ex (K : PySem.W.Frag) : Bool := (exs K).all id
abbrev loose : List Str := [("_wall" : Str), ("MOST_MODULUS" : Str), ("MOST_DIGITS" : Str), ("is_integer" : Str), ("is_between" : Str), ("fits_modulus" : Str), ("is_row" : Str), ("is_written" : Str), ("RestError" : Str), ("BadInput" : Str), ("Refused" : Str), ("BadModulus" : Str), ("BadNumber" : Str), ("BadBeat" : Str), ("BadSum" : Str), ("BadText" : Str), ("Unlike" : Str), ("TooMany" : Str), ("binomial" : Str), ("Words" : Str), ("MOST_COEFS" : Str), ("trimmed" : Str), ("differences" : Str), ("value_of" : Str), ("moved" : Str), ("added_coefs" : Str), ("coefs_read" : Str), ("is_single" : Str), ("Sum" : Str), ("_law_pen" : Str), ("_law_draw" : Str), ("_law_pick" : Str), ("_law_modulus" : Str), ("_law_numbers" : Str), ("_law_made" : Str), ("_law_trimmed" : Str), ("_law_stepped" : Str), ("_law_differences" : Str), ("_law_values" : Str), ("_law_right" : Str)]
abbrev AlX : Type := He.AlD × Bool × List FnE
def obsK (g : Addr → Option Obj) (K : PySem.W.Frag) : AlX := (He.obsD fa fn K, ex K && tabsB g K, es.map (fun d => fnE K (d.f K)) ++ prs.map fun d => fnE K (d.g K))
def obsX (g : Addr → Option Obj) : AlX := obsK g (He.frT g (List.range' 0 12 ++ List.range' 21 32 ++ List.range' 57 11 ++ List.range' 70 11 ++ List.range' 82 11 ++ List.range' 103 11 ++ List.range' 124 11 ++ List.range' 145 11 ++ List.range' 166 11 ++ List.range' 187 11 ++ List.range' 208 11 ++ List.range' 229 20 ++ List.range' 304 30 ++ List.range' 363 16 ++ List.range' 396 11 ++ List.range' 418 11 ++ List.range' 543 99))
def hk : PySem.W.Hook where
  α := AlX
  obs := fun s => obsX s.heap.get?
  val := fun _ => (He.valD fn, true, es.map ExD.val ++ prs.map PrD.val)
  says := fun _ h => ∃ K : PySem.W.Frag, K.In h ∧ He.SaysD fa fn K ∧ ex K = true ∧ es.map (fun d => fnE K (d.f K)) ++ prs.map (fun d => fnE K (d.g K)) = es.map ExD.val ++ prs.map PrD.val ∧ TabH K h
  of := fun _ _ e => ⟨_, He.frT_in, congrArg (fun z : AlX => z.1) e, (He.ba (congrArg (fun z : AlX => z.2.1) e)).1, congrArg (fun z : AlX => z.2.2) e, tabsB_ok He.frT_in (He.ba (congrArg (fun z : AlX => z.2.1) e)).2⟩
  keeps := fun _ _ _ ⟨K, hK, c, e, ee, t⟩ k => ⟨K, PySem.W.Frag.In.keeps hK k, c, e, ee, t.keeps k⟩
abbrev R : PySem.W.OpenRow := PySem.W.OpenLaw.row PySem.Challenge.rw_restchains_k13_sums_of_values
def ob (s : PySem.W.SharedT) : AlX := obsX (HandSHeadRun.getT s)
theorem ob_eq (s : PySem.W.SharedT) : ob s = hk.obs s.abs := by
  have e : HandSHeadRun.getT s = s.abs.heap.get? := funext fun a => HandSHeadRun.getT_eq s a
  unfold ob
  rw [e] <;> rfl
theorem map3 {α β γ δ : Type} {x : Option α} {f : α → β} {g : α → γ} {h : α → δ} {a : β} {b : γ} {c : δ} (p : x.map (fun s => (f s, g s)) = some (a, b)) (q : x.map h = some c) : x.map (fun s => (f s, g s, h s)) = some (a, b, c) := by
  cases x with
  | none => cases p
  | some s =>
    have p2 := Option.some.inj p
    have q2 := Option.some.inj q
    injection p2 with p3 p4
    show some (f s, g s, h s) = _
    rw [p3, p4, q2]
abbrev viewQ : PySem.Program := PySem.W.view R.prog [46]
theorem run_a (w : World) (os : PySem.OsState) : (HandSHeadRun.endF (HandSHeadRun.stepQ (HandSHeadRun.denQ HandSHeadRun.tabQ) R.prog w) 8000 R.prog w os).map (fun s => (HandSHeadRun.looksF R.prog (PySem.W.boot_heap w.params) s.abs, HandSHeadRun.seenQ viewQ loose (PySem.importedModules R.prog.main.body) (fun s => PySem.W.xlAt viewQ [] s && PySem.W.recOk R.toRowW.records s) s.abs)) = some (true, PySem.W.openGood viewQ loose) := by
  kernel_rfl
def kOf (s : PySem.W.SharedT) : PySem.W.Frag := He.frT (HandSHeadRun.getT s) (List.range' 0 12 ++ List.range' 21 32 ++ List.range' 57 11 ++ List.range' 70 11 ++ List.range' 82 11 ++ List.range' 103 11 ++ List.range' 124 11 ++ List.range' 145 11 ++ List.range' 166 11 ++ List.range' 187 11 ++ List.range' 208 11 ++ List.range' 229 20 ++ List.range' 304 30 ++ List.range' 363 16 ++ List.range' 396 11 ++ List.range' 418 11 ++ List.range' 543 99)
theorem map2 {α β δ : Type} {x : Option α} {f : α → β} {h : α → δ} {a : β} {c : δ} (p : x.map f = some a) (q : x.map h = some c) : x.map (fun s => (f s, h s)) = some (a, c) := by
  cases x with
  | none => cases p
  | some s =>
    show some (f s, h s) = _
    rw [Option.some.inj p, Option.some.inj q]
theorem map_obs {α : Type} {x : Option α} {k : α → PySem.W.Frag} (n : Nat) (p : x.map (fun s => fa.all fun f => f.ok (k s)) = some true) (q : x.map (fun s => He.obsD [] (fn.take n) (k s)) = some (He.valD (fn.take n))) (r : x.map (fun s => He.obsD [] (fn.drop n) (k s)) = some (He.valD (fn.drop n))) : x.map (fun s => He.obsD fa fn (k s)) = some (He.valD fn) := by
  cases x with
  | none => cases p
  | some s =>
    have p : (fa.all fun f => f.ok (k s)) = true := Option.some.inj p
    have q : (true && (fn.take n).all (fun d => d.ok (k s)), (fn.take n).map fun d => He.fnW (k s) d.at_) = (true, (fn.take n).map He.DefD.val) := Option.some.inj q
    have r : (true && (fn.drop n).all (fun d => d.ok (k s)), (fn.drop n).map fun d => He.fnW (k s) d.at_) = (true, (fn.drop n).map He.DefD.val) := Option.some.inj r
    rw [Bool.true_and] at q r
    injection q with q1 q2
    injection r with r1 r2
    show some ((fa.all fun f => f.ok (k s)) && fn.all fun d => d.ok (k s), fn.map fun d => He.fnW (k s) d.at_) = some (true, fn.map He.DefD.val)
    have e1 : fn.all (fun d => d.ok (k s)) = true := by
      rw [← List.take_append_drop n fn, List.all_append, q1, r1] <;> rfl
    have e2 : (fn.map fun d => He.fnW (k s) d.at_) = fn.map He.DefD.val := by
      rw [← List.take_append_drop n fn, List.map_append, List.map_append, q2, r2]
    rw [p, e1, e2] <;> rfl
theorem run_b0 (w : World) (os : PySem.OsState) : (HandSHeadRun.endF (HandSHeadRun.stepQ (HandSHeadRun.denQ HandSHeadRun.tabQ) R.prog w) 8000 R.prog w os).map (fun s => fa.all fun f => f.ok (kOf s)) = some true := by
  kernel_rfl
theorem run_b1 (w : World) (os : PySem.OsState) : (HandSHeadRun.endF (HandSHeadRun.stepQ (HandSHeadRun.denQ HandSHeadRun.tabQ) R.prog w) 8000 R.prog w os).map (fun s => He.obsD [] (fn.take 12) (kOf s)) = some (He.valD (fn.take 12)) := by
  kernel_rfl
theorem run_b2 (w : World) (os : PySem.OsState) : (HandSHeadRun.endF (HandSHeadRun.stepQ (HandSHeadRun.denQ HandSHeadRun.tabQ) R.prog w) 8000 R.prog w os).map (fun s => He.obsD [] (fn.drop 12) (kOf s)) = some (He.valD (fn.drop 12)) := by
  kernel_rfl
theorem run_b (w : World) (os : PySem.OsState) : (HandSHeadRun.endF (HandSHeadRun.stepQ (HandSHeadRun.denQ HandSHeadRun.tabQ) R.prog w) 8000 R.prog w os).map (fun s => He.obsD fa fn (kOf s)) = some (He.valD fn) := map_obs 12 (run_b0 w os) (run_b1 w os) (run_b2 w os)
theorem run_c (w : World) (os : PySem.OsState) : (HandSHeadRun.endF (HandSHeadRun.stepQ (HandSHeadRun.denQ HandSHeadRun.tabQ) R.prog w) 8000 R.prog w os).map (fun s => ex (kOf s) && tabsB (HandSHeadRun.getT s) (kOf s)) = some true := by
  kernel_rfl
theorem run_d (w : World) (os : PySem.OsState) : (HandSHeadRun.endF (HandSHeadRun.stepQ (HandSHeadRun.denQ HandSHeadRun.tabQ) R.prog w) 8000 R.prog w os).map (fun s => es.map (fun d => fnE (kOf s) (d.f (kOf s))) ++ prs.map fun d => fnE (kOf s) (d.g (kOf s))) = some (es.map ExD.val ++ prs.map PrD.val) := by
  kernel_rfl
theorem ob_is : ob = fun s => (He.obsD fa fn (kOf s), (ex (kOf s) && tabsB (HandSHeadRun.getT s) (kOf s), es.map (fun d => fnE (kOf s) (d.f (kOf s))) ++ prs.map fun d => fnE (kOf s) (d.g (kOf s)))) := rfl
theorem run_bc (w : World) (os : PySem.OsState) : (HandSHeadRun.endF (HandSHeadRun.stepQ (HandSHeadRun.denQ HandSHeadRun.tabQ) R.prog w) 8000 R.prog w os).map ob = some (hk.val w) := by
  rw [ob_is]
  exact map2 (run_b w os) (map2 (run_c w os) (run_d w os))
theorem run (w : World) : HandSHeadRun.RunEq R (PySem.W.view R.prog [46]) hk ob 8000 loose w := fun os => map3 (run_a w os) (run_bc w os)
structure Tx (K : PySem.W.Frag) (mg : Str → Option Value) : Prop where
  n_int : mg "int" = none
  n_isinstance : mg "isinstance" = none
  n_bool : mg "bool" = none
  g_is_integer : mg "is_integer" = some (.ref (He.ga K "is_integer"))
  g_is_between : mg "is_between" = some (.ref (He.ga K "is_between"))
  i_MOST_MODULUS_ : ∃ t, mg "MOST_MODULUS" = some (.int 1000000000000000000000000000000 t)
  n_tuple : mg "tuple" = none
  n_list : mg "list" = none
  n_len : mg "len" = none
  n_abs : mg "abs" = none
  g__law_draw : mg "_law_draw" = some (.ref (He.ga K "_law_draw"))
  n_range : mg "range" = none
  cl_Sum : Cls K (He.ga K "Sum")
  g_Sum : mg "Sum" = some (.ref (He.ga K "Sum"))
  g_binomial : mg "binomial" = some (.ref (He.ga K "binomial"))
  n_sum : mg "sum" = none
  n_enumerate : mg "enumerate" = none
  g_fits_modulus : mg "fits_modulus" = some (.ref (He.ga K "fits_modulus"))
  g_trimmed : mg "trimmed" = some (.ref (He.ga K "trimmed"))
  i_MOST_COEFS_ : ∃ t, mg "MOST_COEFS" = some (.int 13 t)
  na_Sum_modulus : NoAttr K (He.ga K "Sum") "modulus"
  na_Sum_coefs : NoAttr K (He.ga K "Sum") "coefs"
  g_value_of : mg "value_of" = some (.ref (He.ga K "value_of"))
  n_zip : mg "zip" = none
  g_is_row : mg "is_row" = some (.ref (He.ga K "is_row"))
  g_differences : mg "differences" = some (.ref (He.ga K "differences"))
  n_all : mg "all" = none
  mk_Sum : Mk K (He.ga K "Sum") (He.ma K (He.ga K "Sum") "__init__")
  g__law_pick : mg "_law_pick" = some (.ref (He.ga K "_law_pick"))
  g__law_trimmed : mg "_law_trimmed" = some (.ref (He.ga K "_law_trimmed"))
  g__law_stepped : mg "_law_stepped" = some (.ref (He.ga K "_law_stepped"))
  g__law_numbers : mg "_law_numbers" = some (.ref (He.ga K "_law_numbers"))
  g__law_differences : mg "_law_differences" = some (.ref (He.ga K "_law_differences"))
  g__law_values : mg "_law_values" = some (.ref (He.ga K "_law_values"))
  n_repr : mg "repr" = none
  n_max : mg "max" = none
  me_SumU_lenU : Meth K (He.ga K "Sum") "__len__" (He.ma K (He.ga K "Sum") "__len__")
  me_SumU_callU : Meth K (He.ga K "Sum") "__call__" (He.ma K (He.ga K "Sum") "__call__")
  me_SumU_eqU : Meth K (He.ga K "Sum") "__eq__" (He.ma K (He.ga K "Sum") "__eq__")
  g__law_modulus : mg "_law_modulus" = some (.ref (He.ga K "_law_modulus"))
  g__law_right : mg "_law_right" = some (.ref (He.ga K "_law_right"))
  g__law_made : mg "_law_made" = some (.ref (He.ga K "_law_made"))
  g__law_pen : mg "_law_pen" = some (.ref (He.ga K "_law_pen"))
  g_law : mg "law" = some (.ref (He.ga K "law"))
  it_Sum : _root_.G.InsTy K (He.ga K "Sum")
  kit_Sum_Sum : PySem.W.kitOne K (.ref (He.ga K "Sum")) (.ref (He.ga K "Sum")) = some true
  kit_Sum_int : PySem.W.kitOne K (.ref (He.ga K "Sum")) (.type "int") = some false
  kit_Sum_bool : PySem.W.kitOne K (.ref (He.ga K "Sum")) (.type "bool") = some false
  ne_Sum : NeC K (He.ga K "Sum")
  ca_Sum : PySem.W.fnIn K (He.ma K (He.ga K "Sum") "__call__") = true
  pk_Sum_of : PrD.oks K pr_Sum_of = true
  sm_Sum_of : SMet K (He.ga K "Sum") "of" (pr_Sum_of.g K)
  d_is_integer : ∃ fd, FunD K "is_integer" "is_integer" (defArgs (top 4)) (defBody (top 4)) (defScope (top 4)) [] [] (He.fAd K ("is_integer", none)) fd
  d_is_between : ∃ fd, FunD K "is_between" "is_between" (defArgs (top 5)) (defBody (top 5)) (defScope (top 5)) [] [] (He.fAd K ("is_between", none)) fd
  d_fits_modulus : ∃ fd, FunD K "fits_modulus" "fits_modulus" (defArgs (top 6)) (defBody (top 6)) (defScope (top 6)) [] [] (He.fAd K ("fits_modulus", none)) fd
  d_is_row : ∃ fd, FunD K "is_row" "is_row" (defArgs (top 7)) (defBody (top 7)) (defScope (top 7)) [] [] (He.fAd K ("is_row", none)) fd
  d_law_pen : ∃ fd, FunD K "_law_pen" "_law_pen" (defArgs (top 35)) (defBody (top 35)) (defScope (top 35)) [] [] (He.fAd K ("_law_pen", none)) fd
  d_law_draw : ∃ fd, FunD K "_law_draw" "_law_draw" (defArgs (top 36)) (defBody (top 36)) (defScope (top 36)) [] [] (He.fAd K ("_law_draw", none)) fd
  d_law_pick : ∃ fd, FunD K "_law_pick" "_law_pick" (defArgs (top 37)) (defBody (top 37)) (defScope (top 37)) [] [] (He.fAd K ("_law_pick", none)) fd
  d_binomial : ∃ fd, FunD K "binomial" "binomial" (defArgs (top 21)) (defBody (top 21)) (defScope (top 21)) [] [] (He.fAd K ("binomial", none)) fd
  d_trimmed : ∃ fd, FunD K "trimmed" "trimmed" (defArgs (top 26)) (defBody (top 26)) (defScope (top 26)) [] [] (He.fAd K ("trimmed", none)) fd
  d_value_of : ∃ fd, FunD K "value_of" "value_of" (defArgs (top 28)) (defBody (top 28)) (defScope (top 28)) [] [] (He.fAd K ("value_of", none)) fd
  d_SumU_initU : ∃ fd, FunD K "__init__" "Sum.__init__" (defArgs (inClass (top 33) 1)) (defBody (inClass (top 33) 1)) (defScope (inClass (top 33) 1)) [] [] (He.fAd K ("Sum", some "__init__")) fd
  d_SumU_callU : ∃ fd, FunD K "__call__" "Sum.__call__" (defArgs (inClass (top 33) 5)) (defBody (inClass (top 33) 5)) (defScope (inClass (top 33) 5)) [] [] (He.fAd K ("Sum", some "__call__")) fd
  d_SumU_eqU : ∃ fd, FunD K "__eq__" "Sum.__eq__" (defArgs (inClass (top 33) 27)) (defBody (inClass (top 33) 27)) (defScope (inClass (top 33) 27)) [] [] (He.fAd K ("Sum", some "__eq__")) fd
  d_SumU_lenU : ∃ fd, FunD K "__len__" "Sum.__len__" (defArgs (inClass (top 33) 8)) (defBody (inClass (top 33) 8)) (defScope (inClass (top 33) 8)) [] [] (He.fAd K ("Sum", some "__len__")) fd
  d_differences : ∃ fd, FunD K "differences" "differences" (defArgs (top 27)) (defBody (top 27)) (defScope (top 27)) [] [] (He.fAd K ("differences", none)) fd
  d_Sum_of : ∃ fd, FunD K "of" "Sum.of" (defArgs (inClass (top 33) 2)) (defBody (inClass (top 33) 2)) (defScope (inClass (top 33) 2)) [] [] (pr_Sum_of.g K) fd
  d_law_modulus : ∃ fd, FunD K "_law_modulus" "_law_modulus" (defArgs (top 38)) (defBody (top 38)) (defScope (top 38)) [] [] (He.fAd K ("_law_modulus", none)) fd
  d_law_numbers : ∃ fd, FunD K "_law_numbers" "_law_numbers" (defArgs (top 39)) (defBody (top 39)) (defScope (top 39)) [] [] (He.fAd K ("_law_numbers", none)) fd
  d_law_made : ∃ fd, FunD K "_law_made" "_law_made" (defArgs (top 40)) (defBody (top 40)) (defScope (top 40)) [] [] (He.fAd K ("_law_made", none)) fd
  d_law_trimmed : ∃ fd, FunD K "_law_trimmed" "_law_trimmed" (defArgs (top 41)) (defBody (top 41)) (defScope (top 41)) [] [] (He.fAd K ("_law_trimmed", none)) fd
  d_law_stepped : ∃ fd, FunD K "_law_stepped" "_law_stepped" (defArgs (top 42)) (defBody (top 42)) (defScope (top 42)) [] [] (He.fAd K ("_law_stepped", none)) fd
  d_law_differences : ∃ fd, FunD K "_law_differences" "_law_differences" (defArgs (top 43)) (defBody (top 43)) (defScope (top 43)) [] [] (He.fAd K ("_law_differences", none)) fd
  d_law_values : ∃ fd, FunD K "_law_values" "_law_values" (defArgs (top 44)) (defBody (top 44)) (defScope (top 44)) [] [] (He.fAd K ("_law_values", none)) fd
  d_law_right : ∃ fd, FunD K "_law_right" "_law_right" (defArgs (top 45)) (defBody (top 45)) (defScope (top 45)) [] [] (He.fAd K ("_law_right", none)) fd
  d_law : ∃ fd, FunD K "law" "law" (defArgs (top 46)) (defBody (top 46)) (defScope (top 46)) [] [] (He.fAd K ("law", none)) fd
theorem tx {K : PySem.W.Frag} {mg : Str → Option Value} {h : Heap} (X : K.In h) (G : h.Ns mainGlobals mg) (c : He.SaysD fa fn K) (e : ex K = true) (ee : es.map (fun d => fnE K (d.f K)) ++ prs.map (fun d => fnE K (d.g K)) = es.map ExD.val ++ prs.map PrD.val) : Tx K mg := by
  have ee2 : ∀ i : Nat, (es.map (fun d => fnE K (d.f K)) ++ prs.map (fun d => fnE K (d.g K)))[i]? = (es.map ExD.val ++ prs.map PrD.val)[i]? := fun i => by rw [ee]
  have e2 : ∀ i b, (exs K)[i]? = some b → b = true := fun i b hb => List.all_eq_true.mp e b (List.mem_of_getElem? hb)
  have T_n_int : mg "int" = none := He.free_ok X G (c.fact 0 (f := .free "int") rfl)
  have T_n_isinstance : mg "isinstance" = none := He.free_ok X G (c.fact 1 (f := .free "isinstance") rfl)
  have T_n_bool : mg "bool" = none := He.free_ok X G (c.fact 2 (f := .free "bool") rfl)
  have T_g_is_integer : mg "is_integer" = some (.ref (He.ga K "is_integer")) := He.glo_ok X G (c.fact 3 (f := .glo "is_integer") rfl)
  have T_g_is_between : mg "is_between" = some (.ref (He.ga K "is_between")) := He.glo_ok X G (c.fact 4 (f := .glo "is_between") rfl)
  have T_i_MOST_MODULUS_ : ∃ t, mg "MOST_MODULUS" = some (.int 1000000000000000000000000000000 t) := He.int_ok X G (c.fact 5 (f := .int "MOST_MODULUS" 1000000000000000000000000000000) rfl)
  have T_n_tuple : mg "tuple" = none := He.free_ok X G (c.fact 6 (f := .free "tuple") rfl)
  have T_n_list : mg "list" = none := He.free_ok X G (c.fact 7 (f := .free "list") rfl)
  have T_n_len : mg "len" = none := He.free_ok X G (c.fact 8 (f := .free "len") rfl)
  have T_n_abs : mg "abs" = none := He.free_ok X G (c.fact 9 (f := .free "abs") rfl)
  have T_g__law_draw : mg "_law_draw" = some (.ref (He.ga K "_law_draw")) := He.glo_ok X G (c.fact 10 (f := .glo "_law_draw") rfl)
  have T_n_range : mg "range" = none := He.free_ok X G (c.fact 11 (f := .free "range") rfl)
  have T_cl_Sum : Cls K (He.ga K "Sum") := He.cls_ok (c.fact 12 (f := .cls "Sum") rfl)
  have T_g_Sum : mg "Sum" = some (.ref (He.ga K "Sum")) := He.glo_ok X G (c.fact 13 (f := .glo "Sum") rfl)
  have T_g_binomial : mg "binomial" = some (.ref (He.ga K "binomial")) := He.glo_ok X G (c.fact 14 (f := .glo "binomial") rfl)
  have T_n_sum : mg "sum" = none := He.free_ok X G (c.fact 15 (f := .free "sum") rfl)
  have T_n_enumerate : mg "enumerate" = none := He.free_ok X G (c.fact 16 (f := .free "enumerate") rfl)
  have T_g_fits_modulus : mg "fits_modulus" = some (.ref (He.ga K "fits_modulus")) := He.glo_ok X G (c.fact 17 (f := .glo "fits_modulus") rfl)
  have T_g_trimmed : mg "trimmed" = some (.ref (He.ga K "trimmed")) := He.glo_ok X G (c.fact 18 (f := .glo "trimmed") rfl)
  have T_i_MOST_COEFS_ : ∃ t, mg "MOST_COEFS" = some (.int 13 t) := He.int_ok X G (c.fact 19 (f := .int "MOST_COEFS" 13) rfl)
  have T_na_Sum_modulus : NoAttr K (He.ga K "Sum") "modulus" := He.noat_ok (c.fact 20 (f := .noat "Sum" "modulus") rfl)
  have T_na_Sum_coefs : NoAttr K (He.ga K "Sum") "coefs" := He.noat_ok (c.fact 21 (f := .noat "Sum" "coefs") rfl)
  have T_g_value_of : mg "value_of" = some (.ref (He.ga K "value_of")) := He.glo_ok X G (c.fact 22 (f := .glo "value_of") rfl)
  have T_n_zip : mg "zip" = none := He.free_ok X G (c.fact 23 (f := .free "zip") rfl)
  have T_g_is_row : mg "is_row" = some (.ref (He.ga K "is_row")) := He.glo_ok X G (c.fact 24 (f := .glo "is_row") rfl)
  have T_g_differences : mg "differences" = some (.ref (He.ga K "differences")) := He.glo_ok X G (c.fact 25 (f := .glo "differences") rfl)
  have T_n_all : mg "all" = none := He.free_ok X G (c.fact 26 (f := .free "all") rfl)
  have T_mk_Sum : Mk K (He.ga K "Sum") (He.ma K (He.ga K "Sum") "__init__") := He.mkr_ok (c.fact 27 (f := .mkr "Sum") rfl)
  have T_g__law_pick : mg "_law_pick" = some (.ref (He.ga K "_law_pick")) := He.glo_ok X G (c.fact 28 (f := .glo "_law_pick") rfl)
  have T_g__law_trimmed : mg "_law_trimmed" = some (.ref (He.ga K "_law_trimmed")) := He.glo_ok X G (c.fact 29 (f := .glo "_law_trimmed") rfl)
  have T_g__law_stepped : mg "_law_stepped" = some (.ref (He.ga K "_law_stepped")) := He.glo_ok X G (c.fact 30 (f := .glo "_law_stepped") rfl)
  have T_g__law_numbers : mg "_law_numbers" = some (.ref (He.ga K "_law_numbers")) := He.glo_ok X G (c.fact 31 (f := .glo "_law_numbers") rfl)
  have T_g__law_differences : mg "_law_differences" = some (.ref (He.ga K "_law_differences")) := He.glo_ok X G (c.fact 32 (f := .glo "_law_differences") rfl)
  have T_g__law_values : mg "_law_values" = some (.ref (He.ga K "_law_values")) := He.glo_ok X G (c.fact 33 (f := .glo "_law_values") rfl)
  have T_n_repr : mg "repr" = none := He.free_ok X G (c.fact 34 (f := .free "repr") rfl)
  have T_n_max : mg "max" = none := He.free_ok X G (c.fact 35 (f := .free "max") rfl)
  have T_me_SumU_lenU : Meth K (He.ga K "Sum") "__len__" (He.ma K (He.ga K "Sum") "__len__") := He.meth_ok (c.fact 36 (f := .meth "Sum" "__len__") rfl)
  have T_me_SumU_callU : Meth K (He.ga K "Sum") "__call__" (He.ma K (He.ga K "Sum") "__call__") := He.meth_ok (c.fact 37 (f := .meth "Sum" "__call__") rfl)
  have T_me_SumU_eqU : Meth K (He.ga K "Sum") "__eq__" (He.ma K (He.ga K "Sum") "__eq__") := He.meth_ok (c.fact 38 (f := .meth "Sum" "__eq__") rfl)
  have T_g__law_modulus : mg "_law_modulus" = some (.ref (He.ga K "_law_modulus")) := He.glo_ok X G (c.fact 39 (f := .glo "_law_modulus") rfl)
  have T_g__law_right : mg "_law_right" = some (.ref (He.ga K "_law_right")) := He.glo_ok X G (c.fact 40 (f := .glo "_law_right") rfl)
  have T_g__law_made : mg "_law_made" = some (.ref (He.ga K "_law_made")) := He.glo_ok X G (c.fact 41 (f := .glo "_law_made") rfl)
  have T_g__law_pen : mg "_law_pen" = some (.ref (He.ga K "_law_pen")) := He.glo_ok X G (c.fact 42 (f := .glo "_law_pen") rfl)
  have T_g_law : mg "law" = some (.ref (He.ga K "law")) := He.glo_ok X G (c.fact 43 (f := .glo "law") rfl)
  have T_it_Sum : _root_.G.InsTy K (He.ga K "Sum") := insB_ok T_cl_Sum (e2 0 _ rfl)
  have T_kit_Sum_Sum : PySem.W.kitOne K (.ref (He.ga K "Sum")) (.ref (He.ga K "Sum")) = some true := of_decide_eq_true (e2 1 _ rfl)
  have T_kit_Sum_int : PySem.W.kitOne K (.ref (He.ga K "Sum")) (.type "int") = some false := of_decide_eq_true (e2 2 _ rfl)
  have T_kit_Sum_bool : PySem.W.kitOne K (.ref (He.ga K "Sum")) (.type "bool") = some false := of_decide_eq_true (e2 3 _ rfl)
  have T_ne_Sum : NeC K (He.ga K "Sum") := neB_ok (e2 4 _ rfl)
  have T_ca_Sum : PySem.W.fnIn K (He.ma K (He.ga K "Sum") "__call__") = true := id (e2 5 _ rfl)
  have T_pk_Sum_of : PrD.oks K pr_Sum_of = true := id (e2 6 _ rfl)
  have T_sm_Sum_of : SMet K (He.ga K "Sum") "of" (pr_Sum_of.g K) := smet_of T_pk_Sum_of rfl (e2 7 _ rfl)
  exact ⟨T_n_int, T_n_isinstance, T_n_bool, T_g_is_integer, T_g_is_between, T_i_MOST_MODULUS_, T_n_tuple, T_n_list, T_n_len, T_n_abs, T_g__law_draw, T_n_range, T_cl_Sum, T_g_Sum, T_g_binomial, T_n_sum, T_n_enumerate, T_g_fits_modulus, T_g_trimmed, T_i_MOST_COEFS_, T_na_Sum_modulus, T_na_Sum_coefs, T_g_value_of, T_n_zip, T_g_is_row, T_g_differences, T_n_all, T_mk_Sum, T_g__law_pick, T_g__law_trimmed, T_g__law_stepped, T_g__law_numbers, T_g__law_differences, T_g__law_values, T_n_repr, T_n_max, T_me_SumU_lenU, T_me_SumU_callU, T_me_SumU_eqU, T_g__law_modulus, T_g__law_right, T_g__law_made, T_g__law_pen, T_g_law, T_it_Sum, T_kit_Sum_Sum, T_kit_Sum_int, T_kit_Sum_bool, T_ne_Sum, T_ca_Sum, T_pk_Sum_of, T_sm_Sum_of, (c.def_ 0 (d := d_is_integer) rfl), (c.def_ 1 (d := d_is_between) rfl), (c.def_ 2 (d := d_fits_modulus) rfl), (c.def_ 3 (d := d_is_row) rfl), (c.def_ 4 (d := d_law_pen) rfl), (c.def_ 5 (d := d_law_draw) rfl), (c.def_ 6 (d := d_law_pick) rfl), (c.def_ 7 (d := d_binomial) rfl), (c.def_ 8 (d := d_trimmed) rfl), (c.def_ 9 (d := d_value_of) rfl), (c.def_ 10 (d := d_SumU_initU) rfl), (c.def_ 11 (d := d_SumU_callU) rfl), (c.def_ 12 (d := d_SumU_eqU) rfl), (c.def_ 13 (d := d_SumU_lenU) rfl), (c.def_ 14 (d := d_differences) rfl), (PrD.funD (d := pr_Sum_of) T_pk_Sum_of (Option.some.inj (ee2 0))), (c.def_ 15 (d := d_law_modulus) rfl), (c.def_ 16 (d := d_law_numbers) rfl), (c.def_ 17 (d := d_law_made) rfl), (c.def_ 18 (d := d_law_trimmed) rfl), (c.def_ 19 (d := d_law_stepped) rfl), (c.def_ 20 (d := d_law_differences) rfl), (c.def_ 21 (d := d_law_values) rfl), (c.def_ 22 (d := d_law_right) rfl), (c.def_ 23 (d := d_law) rfl)⟩
end My

set_option Elab.async false
set_option linter.all false
set_option maxRecDepth 100000
set_option maxHeartbeats 0
namespace My
open PySem PySem.Spec PyProof.Rows L2 G
theorem of_row (h : PySem.Challenge.rw_restchains_k13_sums_of_values.row.wellSaid = true → PySem.Challenge.rw_restchains_k13_sums_of_values.row.Holds) : PySem.Challenge.rw_restchains_k13_sums_of_values.Holds := by
  w_on; o_law
  exact h (by assumption)
open PySem.W PySem.Calls
theorem close_it (F : ∀ (w : World) (K : PySem.W.Frag) (h : Heap) (mg : Str → Option Value) (f : Addr), K.In h → h.Ns mainGlobals mg → mg ("law" : Str) = some (.ref f) → He.SaysD fa fn K → ex K = true → es.map (fun d => fnE K (d.f K)) ++ prs.map (fun d => fnE K (d.g K)) = es.map ExD.val ++ prs.map PrD.val → _root_.G.POk R.prog "/claim/cut.py" →
    ∀ base : Heap, K.In base → base.Ns mainGlobals mg → TabsB K mg base → FnRG R.prog w K mg base (CXa R.prog) 8 f (lift K (_root_.G.sp_law K))) : PySem.Challenge.rw_restchains_k13_sums_of_values.Holds := by
  refine of_row fun said => ?_
  w_on
  refine HandSHeadRun.head_any (r := My.R) (q := view My.R.prog [46]) (H := My.hk) (ob := My.ob) (M := 8000) (loose := My.loose) (d := HandSHeadRun.topDef My.R.prog 46) (kwd := []) My.ob_eq
    (by kernel_rfl) (fun s => by kernel_rfl) My.run (by kernel_rfl) (by kernel_rfl) (by kernel_rfl) (by rfl) (by first | assumption | decide +kernel) (by decide +kernel) ⟨rfl, rfl, rfl, rfl, rfl, by decide +kernel⟩ ?hw ?hc
  case hw => w_witness2
  case hc =>
    refine _root_.G.walk_ofG (l := PySem.Challenge.rw_restchains_k13_sums_of_values) (n := 63) (k := 8) (CX := G.CXa My.R.prog) rfl (by decide) (by kernel_rfl) ⟨rfl, by decide, by decide⟩ ?F (fun _ _ _ _ z => G.cxa_nil z)
    intro w mg fa h Y G hmg0
    obtain ⟨K, KX, c, e, ee, th⟩ := Y
    have hmg : mg ("law" : PySem.Str) = some (.ref fa) := by
      have e0 : (HandSHeadRun.topDef My.R.prog 46).name = ("law" : PySem.Str) := by kernel_rfl
      rw [← e0]
      exact hmg0
    exact ⟨K, KX, th, F w K h mg fa KX G hmg c e ee (⟨by kernel_rfl, by kernel_rfl⟩ : _root_.G.POk My.R.prog "/claim/cut.py")⟩
end My

set_option Elab.async false
set_option linter.all false
set_option maxRecDepth 100000
set_option maxHeartbeats 4000000
namespace G
open PySem PySem.Spec PyProof.Rows L2 TL
def rSplit : V → List V → Hp → VK → Prop := fun x xs H Q => ∃ a b, x = .str a ∧ xs = [.str b] ∧ (b.length == 0) = false ∧ a.length + 2 ≤ sizeLine ∧ rNewStrs (Txt.split a b) H Q
theorem repL_of_strs {K : PySem.W.Frag} {F : Hp} : ∀ ys : List Str, RepL K F (ys.map D.str) (ys.map V.str)
  | [] => rfl
  | y :: ys => ⟨.str y, _, rfl, rfl, repL_of_strs ys⟩
section
variable {K : PySem.W.Frag} {W : WX} {O : List OD} {ts : List T} {P : PT'} {X : XX} {ta tb : TE}
theorem w_split (h : WE K W ta O ts (fun x O1 => ∃ a : Str, x = .v (.str a) ∧ WE K W tb O1 ts (fun y O2 => ∃ c : Str, y = .v (.str c) ∧ (c.length == 0) = false ∧ a.length + 2 ≤ sizeLine ∧ P (.v (.lst ((Txt.split a c).map D.str))) O2) X) X) : WE K W (tM1 rSplit ta tb) O ts P X := fun b A σ H Q s rs kv kx =>
  h b A σ H _ s rs (fun x v A1 O1 H1 p s1 n1 r1 => by
    obtain ⟨a, rfl, q⟩ := p
    obtain ⟨_, e1, e2⟩ := id r1
    cases e1
    refine ⟨⟨a, e2⟩, q b A1 σ H1 _ s1 (rs.nxt n1) (fun y u A2 O2 H2 p2 s2 n2 r2 => ?_) (kx.nxt n1)⟩
    obtain ⟨c, rfl, hc, hz, k⟩ := p2
    obtain ⟨_, e3, e4⟩ := id r2
    cases e3
    refine ⟨a, c, e2, by rw [e4], hc, hz, fun p' hp => ?_⟩
    obtain ⟨s3, n3, q3⟩ := s2.lay hp (.lst ((Txt.split a c).map V.str))
    exact kv _ _ A2 O2 _ k s3 ((n1.trans n2).trans n3) ⟨_, rfl, p', _, rfl, q3, repL_of_strs _⟩) kx
end
end G

set_option Elab.async false
set_option linter.all false
set_option maxRecDepth 100000
set_option maxHeartbeats 4000000
namespace G
open PySem PySem.Spec PyProof.Rows L2
def tCallKr (sp : Sp) (E : XK) (t : TA) : TE := fun σ H Q => t σ H fun zs H1 => sp zs.reverse H1 Q E
theorem w_fnKr {K : PySem.W.Frag} {W : WX} {O : List OD} {ts : List T} {P : PT'} {X : XX} {sp : SpD} {tk : TA} (h : WA K W tk O ts (fun xs O1 => ∃ ds, unv xs = some ds ∧ sp (ds.reverse.map T.v) [] (fun t _ => (∃ d, t = .v d) ∧ P t O1) (fun _ _ _ => False)) X) :
    WE K W (tCallKr (lift K sp) E0 tk) O ts P X := fun b A σ H Q s rs kv kx =>
  h b A σ H _ s rs (fun xs vs A1 O1 H1 p1 s1 n1 r1 => by
    obtain ⟨ds, e, p⟩ := p1
    exact lift_p (W := fun _ _ _ _ => False) (X := fun _ _ _ => False) (σ := σ) s1 (xs := ds.reverse.map T.v) (ds := ds.reverse) (turn_rep (tw := true) r1 e) unv_map (fun _ _ _ z => z) p (kv.nxt n1) fun _ _ _ _ _ _ z => z.elim) kx
end G
namespace G
open PySem PySem.Spec PyProof.Rows L2
end G

set_option Elab.async false
set_option linter.all false
set_option maxRecDepth 100000
set_option maxHeartbeats 4000000
namespace G
open PySem PySem.Spec PyProof.Rows L2
section
variable {K : PySem.W.Frag} {W : WX} {O : List OD} {ts : List T} {P : PT'} {X : XX} {g : TG} {te : TE} {vs : List Nat}
end
end G

set_option Elab.async false
set_option linter.all false
set_option maxRecDepth 100000
set_option maxHeartbeats 4000000
namespace RZ
open PySem PySem.Spec PyProof.Rows L2
end RZ
namespace G
open PySem PySem.Spec PyProof.Rows L2
section
variable {K : PySem.W.Frag} {W : WX} {O : List OD} {ts : List T} {X : XX} {ta : TA}
end
end G

set_option Elab.async false
set_option linter.all false
set_option maxRecDepth 100000
set_option maxHeartbeats 4000000
namespace My3
open PySem PySem.W PyProof.Rows
section
variable {pr : Program} {wo : World} {B : Around} {Er : Value → Shared → Prop} {st : Shared} {K : Frag} {a cl lo me fw : Addr} {base : Heap} {nsm : Str → Option Value} {oa : Obj} {da : Option Obj}
end
end My3
namespace G
open PySem PySem.Spec PyProof.Rows L2
section
variable {X : Cx} {CX : CXT} {k : Nat} {C g : Addr} {sp : Sp} {E : XK} {m : Str}
end
end G

set_option Elab.async false
set_option linter.all false
set_option maxRecDepth 100000
set_option maxHeartbeats 4000000
namespace My
open G (InR)
structure SumOk (m : Int) (cs : List Int) : Prop where
  two : 2 ≤ m
  most : m ≤ 1000000000000000000000000000000
  inr : InR m cs
  len : cs.length ≤ 13
  fin : cut cs = cs
theorem SumOk.sml {m : Int} {cs : List Int} (h : SumOk m cs) : ∀ x ∈ cs, x.natAbs < 2 ^ 100 := fun x hx => by
  have h1 := h.inr x hx
  have h2 := h.most
  omega
theorem SumOk.of {m : Int} {xs : List Int} (h1 : 2 ≤ m) (h2 : m ≤ 1000000000000000000000000000000) (h3 : xs.length ≤ 13) : SumOk m (tr m xs) :=
  ⟨h1, h2, tr_in (by omega) xs, Nat.le_trans (tr_len m xs) h3, tr_cut m xs⟩
theorem SumOk.same {m : Int} {cs : List Int} (h : SumOk m cs) : tr m cs = cs := by
  unfold tr
  have e : cs.map (· % m) = cs := by
    have : cs.map (· % m) = cs.map id := List.map_congr_left fun x hx => Int.emod_eq_of_lt (h.inr x hx).1 (h.inr x hx).2
    rw [this, List.map_id]
  rw [e, h.fin]
end My

set_option Elab.async false
set_option linter.all false
set_option maxRecDepth 100000
set_option maxHeartbeats 4000000
namespace My
open G (InR)
/-- one row, and a multiple of another one -/
def ad (s : Int) : List Int → List Int → List Int
  | [], ys => ys.map (s * ·)
  | x :: xs, [] => x :: xs
  | x :: xs, y :: ys => (x + s * y) :: ad s xs ys
theorem ad_at (s : Int) : ∀ (xs ys : List Int) (i : Nat), (ad s xs ys).getD i 0 = xs.getD i 0 + s * ys.getD i 0
  | [], ys, i => by
    show (ys.map (s * ·)).getD i 0 = _
    rw [getD_map (f := (s * ·)) (Int.mul_zero s)]
    exact (Int.zero_add _).symm
  | x :: xs, [], i => by
    show (x :: xs).getD i 0 = _ + s * 0
    rw [Int.mul_zero, Int.add_zero]
  | x :: xs, y :: ys, 0 => rfl
  | x :: xs, y :: ys, i + 1 => ad_at s xs ys i
theorem ad_len (s : Int) : ∀ xs ys : List Int, (ad s xs ys).length = max xs.length ys.length
  | [], ys => by
    show (ys.map (s * ·)).length = _
    rw [List.length_map, List.length_nil, Nat.zero_max]
  | x :: xs, [] => by
    show (x :: xs).length = _
    rw [List.length_nil, Nat.max_zero]
  | x :: xs, y :: ys => by
    show (ad s xs ys).length + 1 = _
    rw [ad_len s xs ys, List.length_cons, List.length_cons, Nat.add_max_add_right]
theorem VK_ad (s n : Int) : ∀ (xs ys : List Int) (k : Nat), VK k (ad s xs ys) n = VK k xs n + s * VK k ys n
  | [], ys, k => by
    have h : ∀ (zs : List Int) (k : Nat), VK k (zs.map (s * ·)) n = s * VK k zs n := fun zs => by
      induction zs with
      | nil => exact fun _ => (Int.mul_zero s).symm
      | cons z zs ih =>
        intro k
        show s * z * bin n k + VK (k + 1) (zs.map (s * ·)) n = s * (z * bin n k + VK (k + 1) zs n)
        rw [ih]
        grind
    show VK k (ys.map (s * ·)) n = 0 + _
    rw [h, Int.zero_add]
  | x :: xs, [], k => by
    show VK k (x :: xs) n = _ + s * 0
    rw [Int.mul_zero, Int.add_zero]
  | x :: xs, y :: ys, k => by
    show (x + s * y) * bin n k + VK (k + 1) (ad s xs ys) n = (x * bin n k + VK (k + 1) xs n) + s * (y * bin n k + VK (k + 1) ys n)
    rw [VK_ad s n xs ys (k + 1)]
    grind
theorem V_ad (s n : Int) (xs ys : List Int) : V (ad s xs ys) n = V xs n + s * V ys n := VK_ad s n xs ys 0
theorem dvd_of_vals {m : Int} : ∀ (cs : List Int), (∀ n : Nat, m ∣ V cs n) → ∀ i : Nat, m ∣ cs.getD i 0
  | [], _, i => by
    have e : ([] : List Int).getD i 0 = 0 := by simp
    rw [e]
    exact Int.dvd_zero m
  | c :: cs, h, i => by
    cases i with
    | zero =>
      have := h 0
      rwa [Int.natCast_zero, V_at0] at this
    | succ i =>
      refine dvd_of_vals cs (fun n => ?_) i
      have h1 := h (n + 1)
      rw [Int.natCast_add, show (((1 : Nat) : Int)) = 1 from rfl, V_up] at h1
      exact (Int.dvd_iff_dvd_of_dvd_add h1).mp (h n)
theorem cg_of_vals {m : Int} {xs ys : List Int} (h : ∀ n : Nat, V xs n % m = V ys n % m) : Cg m xs ys := fun i => by
  have := dvd_of_vals (m := m) (ad (-1) xs ys) (fun n => by
    rw [V_ad, show V xs n + -1 * V ys n = V xs n - V ys n by omega]
    exact Int.dvd_of_emod_eq_zero (Int.emod_eq_emod_iff_emod_sub_eq_zero.mp (h n))) i
  rwa [ad_at, show xs.getD i 0 + -1 * ys.getD i 0 = xs.getD i 0 - ys.getD i 0 by omega] at this
theorem tr_vals {m : Int} {xs ys : List Int} (h : ∀ n : Nat, V xs n % m = V ys n % m) : tr m xs = tr m ys := tr_ext (cg_of_vals h)
def dl (cs : List Int) : List Int := ad (-1) cs (mv cs (-1))
theorem V_dl (cs : List Int) (n : Int) : V (dl cs) n = V cs n - V cs (n - 1) := by
  unfold dl
  rw [V_ad, mv_val, show (-1 : Int) + n = n - 1 by omega]
  omega
theorem dl_len (cs : List Int) : (dl cs).length = cs.length := by
  unfold dl
  rw [ad_len, mv_len, Nat.max_self]
/-- the sums of neighbours -/
theorem tot_zip : ∀ cs : List Int, List.zipWith (fun x y => x + y) cs (cs.drop 1 ++ [0]) = ad 1 cs (cs.drop 1)
  | [] => rfl
  | [c] => by
    show [c + 0] = [c]
    rw [Int.add_zero]
  | c :: d :: r => by
    have ih := tot_zip (d :: r)
    show (c + d) :: List.zipWith (fun x y => x + y) (d :: r) ((d :: r).drop 1 ++ [0]) = (c + 1 * d) :: ad 1 (d :: r) r
    rw [ih, Int.one_mul]
    rfl
end My

set_option Elab.async false
set_option linter.all false
set_option maxRecDepth 100000
set_option maxHeartbeats 4000000
namespace My
open G (InR)
/-- the n-th differences are 0 -/
def Dg : Nat → (Int → Int) → Prop
  | 0, f => ∀ x, f x = 0
  | n + 1, f => Dg n (fun x => f (x + 1) - f x)
theorem Dg.zero : ∀ (n : Nat) {f : Int → Int}, (∀ x, f x = 0) → Dg n f
  | 0, _, h => h
  | n + 1, f, h => Dg.zero n fun x => by rw [h, h]; rfl
theorem Dg.add : ∀ (n : Nat) {f g : Int → Int}, Dg n f → Dg n g → Dg n (fun x => f x + g x)
  | 0, f, g, h, k => fun x => by show f x + g x = 0; rw [h, k]; rfl
  | n + 1, f, g, h, k => by
    have e : (fun x => f (x + 1) + g (x + 1) - (f x + g x)) = fun x => (f (x + 1) - f x) + (g (x + 1) - g x) := funext fun x => by omega
    show Dg n (fun x => f (x + 1) + g (x + 1) - (f x + g x))
    rw [e]
    exact Dg.add n h k
theorem Dg.neg : ∀ (n : Nat) {f : Int → Int}, Dg n f → Dg n (fun x => -f x)
  | 0, f, h => fun x => by show -f x = 0; rw [h]; rfl
  | n + 1, f, h => by
    have e : (fun x => -f (x + 1) - -f x) = fun x => -(f (x + 1) - f x) := funext fun x => by omega
    show Dg n (fun x => -f (x + 1) - -f x)
    rw [e]
    exact Dg.neg n h
theorem Dg.up : ∀ (n : Nat) {f : Int → Int}, Dg n f → Dg n (fun x => f (x + 1))
  | 0, f, h => fun x => h (x + 1)
  | n + 1, f, h => Dg.up n h
theorem Dg.V : ∀ cs : List Int, Dg cs.length (V cs)
  | [] => fun x => rfl
  | c :: cs => by
    have e : (fun x => My.V (c :: cs) (x + 1) - My.V (c :: cs) x) = My.V cs := funext fun x => by rw [V_up]; omega
    show Dg cs.length (fun x => My.V (c :: cs) (x + 1) - My.V (c :: cs) x)
    rw [e]
    exact Dg.V cs
theorem Dg.turned : ∀ (cs : List Int) (k : Int), Dg cs.length (fun x => My.V cs (k - x))
  | [], _ => fun x => rfl
  | c :: cs, k => by
    have e : (fun x => My.V (c :: cs) (k - (x + 1)) - My.V (c :: cs) (k - x)) = fun x => -My.V cs ((k - 1) - x) := funext fun x => by
      have := V_up c cs (k - 1 - x)
      rw [show k - 1 - x + 1 = k - x by omega] at this
      rw [show k - (x + 1) = k - 1 - x by omega, this]
      omega
    show Dg cs.length (fun x => My.V (c :: cs) (k - (x + 1)) - My.V (c :: cs) (k - x))
    rw [e]
    exact Dg.neg _ (Dg.turned cs (k - 1))
/-- the differences of the first values tell the row -/
theorem V_dv : ∀ (n : Nat) {f : Int → Int}, Dg n f → ∀ x, V (dv (row f n)) x = f x
  | 0, f, h => fun x => (h x).symm
  | n + 1, f, h => by
    rw [dv_row]
    refine rows_eq ?_ fun x => ?_
    · exact V_at0 _ _
    · rw [V_up, V_dv n h x]
      omega
theorem Dg.more : ∀ (n : Nat) {f : Int → Int}, Dg n f → Dg (n + 1) f
  | 0, f, h => fun x => by show f (x + 1) - f x = 0; rw [h, h]; rfl
  | n + 1, f, h => Dg.more n h
theorem V_turn (cs : List Int) (x : Int) : V (dv (row (fun b => V cs (0 - b)) cs.length)) x = V cs (0 - x) := V_dv _ (f := fun b => V cs (0 - b)) (Dg.turned cs 0) x
/-- two sums with the same values are one -/
theorem same_vals {m : Int} {cs ds : List Int} (h1 : SumOk m cs) (h2 : SumOk m ds) (h : ∀ n : Nat, V cs n % m = V ds n % m) : cs = ds := by
  rw [← h1.same, ← h2.same]
  exact tr_vals h
def turn (m : Int) (cs : List Int) : List Int := tr m (dv (row (fun b => V cs (0 - b)) cs.length))
theorem turn_val (m : Int) (cs : List Int) (x : Int) : V (turn m cs) x % m = V cs (0 - x) % m := by
  unfold turn
  rw [tr_val (Int.dvd_refl m), V_turn]
theorem turn_ok {m : Int} {cs : List Int} (ok : SumOk m cs) : SumOk m (turn m cs) := .of ok.two ok.most (by rw [dv_len _ _ rfl, row_len]; exact ok.len)
theorem turn_turn {m : Int} {cs : List Int} (ok : SumOk m cs) : turn m (turn m cs) = cs := same_vals (turn_ok (turn_ok ok)) ok fun n => by
  rw [turn_val, turn_val, show (0 : Int) - (0 - n) = n by omega]
theorem turn_le {m : Int} (cs : List Int) : (turn m cs).length ≤ cs.length := by
  have := tr_len m (dv (row (fun b => V cs (0 - b)) cs.length))
  rwa [dv_len _ _ rfl, row_len] at this
theorem turn_len {m : Int} {cs : List Int} (ok : SumOk m cs) : (turn m cs).length = cs.length := by
  have h1 := turn_le (m := m) cs
  have h2 := turn_le (m := m) (turn m cs)
  rw [turn_turn ok] at h2
  omega
end My

set_option Elab.async false
set_option linter.all false
set_option maxRecDepth 100000
set_option maxHeartbeats 4000000
namespace My
open G (InR)
end My

set_option Elab.async false
set_option linter.all false
set_option maxRecDepth 100000
set_option maxHeartbeats 4000000
namespace My
open G (InR)
/-- N is a period -/
def Per (M : Nat) (cs : List Int) (N : Int) : Prop := ∀ n : Int, (M : Int) ∣ V cs (n + N) - V cs n
theorem Per.zero (M : Nat) (cs : List Int) : Per M cs 0 := fun n => by rw [Int.add_zero, Int.sub_self]; exact Int.dvd_zero _
theorem Per.add {M : Nat} {cs : List Int} {a b : Int} (h : Per M cs a) (k : Per M cs b) : Per M cs (a + b) := fun n => by
  have := Int.dvd_add (k (n + a)) (h n)
  rwa [show V cs (n + a + b) - V cs (n + a) + (V cs (n + a) - V cs n) = V cs (n + (a + b)) - V cs n by rw [← Int.add_assoc]; omega] at this
theorem Per.neg {M : Nat} {cs : List Int} {a : Int} (h : Per M cs a) : Per M cs (-a) := fun n => by
  have := Int.dvd_neg.mpr (h (n + -a))
  rwa [show n + -a + a = n by omega, Int.neg_sub] at this
theorem Per.mono {M m : Nat} {cs : List Int} {a : Int} (h : Per M cs a) (d : m ∣ M) : Per m cs a := fun n => Int.dvd_trans (Int.ofNat_dvd.mpr d) (h n)
end My

set_option Elab.async false
set_option linter.all false
set_option maxRecDepth 100000
set_option maxHeartbeats 4000000
namespace My
open G (InR rgI)
end My

set_option Elab.async false
set_option linter.all false
namespace My
end My

set_option Elab.async false
set_option linter.all false
set_option maxRecDepth 100000
set_option maxHeartbeats 4000000
namespace My
open G (InR)
end My

set_option Elab.async false
set_option linter.all false
set_option maxRecDepth 100000
set_option maxHeartbeats 4000000
namespace My
open G (InR)
theorem dml {a b : Int} (c : Int) (h : a ∣ b) : a ∣ c * b := Int.dvd_trans h ⟨c, Int.mul_comm _ _⟩
theorem Per.ad {M : Nat} {xs ys : List Int} {N : Int} (s : Int) (p : Per M xs N) (q : Per M ys N) : Per M (My.ad s xs ys) N := fun n => by
  have := Int.dvd_add (p n) (dml s (q n))
  rwa [show V xs (n + N) - V xs n + s * (V ys (n + N) - V ys n) = V (My.ad s xs ys) (n + N) - V (My.ad s xs ys) n by rw [V_ad, V_ad, Int.mul_sub]; omega] at this
theorem Per.dl {M : Nat} {cs : List Int} {N : Int} (p : Per M cs N) : Per M (My.dl cs) N := fun n => by
  have := Int.dvd_sub (p n) (p (n - 1))
  rwa [show V cs (n + N) - V cs n - (V cs (n - 1 + N) - V cs (n - 1)) = V (My.dl cs) (n + N) - V (My.dl cs) n by rw [V_dl, V_dl, show n - 1 + N = n + N - 1 by omega]; omega] at this
end My

set_option Elab.async false
set_option linter.all false
set_option maxRecDepth 100000
set_option maxHeartbeats 4000000
namespace G
open PySem PySem.Spec PyProof.Rows L2 TL
end G

set_option Elab.async false
set_option linter.all false
set_option maxRecDepth 100000
set_option maxHeartbeats 4000000
namespace G
open PySem PySem.Spec PyProof.Rows L2 TL
end G

set_option Elab.async false
set_option linter.all false
set_option maxRecDepth 100000
set_option maxHeartbeats 4000000
namespace G
open PySem PySem.Spec PyProof.Rows L2
section
variable {K : PySem.W.Frag} {W : WX} {O : List OD} {ts : List T} {P : PT'} {g : TG} {te : TE} {vs : List Nat}
end
end G

set_option Elab.async false
set_option linter.all false
set_option maxRecDepth 100000
set_option maxHeartbeats 4000000
namespace My4
open PySem PySem.SeqAt GQ
open AutoSeq1 (wpAny_loadPart')
open MeetsSeq MeetsSeq2 MeetsSeq3 SeqRoads2
section
variable {prog : Program} {w : World} {A : Around} {R : Result → Shared → Prop}
end
end My4
namespace G
open PySem PySem.Spec PyProof.Rows L2
section
variable {X : Cx} {CX : CXT} {k : Nat} {C g : Addr} {sp : SpD}
end
section
variable {X : Cx} {CX : CXT} {k : Nat} {C g : Addr} {sp : SpD}
end
end G

set_option Elab.async false
set_option linter.all false
set_option maxRecDepth 100000
set_option maxHeartbeats 4000000
namespace G
open PySem PySem.Spec PyProof.Rows L2
section
variable {K : PySem.W.Frag} {P : PT'} {sp : SpD} {b : Bs} {A1 : List Addr} {O1 : List OD} {H1 : Hp} {xs : List T} {vs : List V} {ds : List D} {Q : VK} {σ : L2.St}
end
section
variable {K : PySem.W.Frag} {W : WX} {O : List OD} {ts : List T} {P : PT'} {X : XX} {sp : SpD} {tk : TA} {C : Addr} {tw : Bool} {m : Nat}
end
end G

set_option Elab.async false
set_option linter.all false
set_option maxRecDepth 100000
set_option maxHeartbeats 4000000
namespace G
open PySem PySem.Spec PyProof.Rows L2
def dAt : List (Key × D) → Key → Option D
  | [], _ => none
  | p :: r, k => if p.1 = k then some p.2 else dAt r k
theorem RepK.at_ {K : PySem.W.Frag} {F : Hp} : ∀ {kvs : List (Key × D)} {ws : List (Key × V)}, RepK K F kvs ws → ∀ {k : Key} {d : D}, dAt kvs k = some d → ∃ v, valV ws k = some v ∧ Rep K F d v
  | [], _, _, _, _, h => nomatch h
  | p :: r, ws, h, k, d, e => by
    obtain ⟨v, r', rfl, hv, hr⟩ := h
    have e' : (if p.1 = k then some p.2 else dAt r k) = some d := e
    by_cases q : p.1 = k
    · rw [if_pos q] at e'
      cases e'
      exact ⟨v, valV_pos (p := (p.1, v)) q, hv⟩
    · rw [if_neg q] at e'
      obtain ⟨w, e1, e2⟩ := hr.at_ e'
      exact ⟨w, (valV_neg (p := (p.1, v)) q).trans e1, e2⟩
theorem RepK.len {K : PySem.W.Frag} {F : Hp} : ∀ {kvs : List (Key × D)} {ws : List (Key × V)}, RepK K F kvs ws → ws.length = kvs.length
  | [], ws, h => by
    cases (show ws = [] from h)
    rfl
  | p :: r, ws, h => by
    obtain ⟨v, r', rfl, hv, hr⟩ := h
    rw [List.length_cons, List.length_cons, hr.len]
section
variable {K : PySem.W.Frag} {W : WX} {O : List OD} {ts : List T} {P : PT'} {X : XX} {td ty : TE}
end
end G

set_option Elab.async false
set_option linter.all false
set_option maxRecDepth 100000
set_option maxHeartbeats 4000000
namespace My6
open PySem PySem.SeqAt GQ
open AutoSeq1 (wpAny_loadPart')
open MeetsSeq MeetsSeq2 MeetsSeq3 SeqRoads2
section
variable {prog : Program} {w : World} {A : Around} {R : Result → Shared → Prop}
end
end My6
namespace G
open PySem PySem.Spec PyProof.Rows L2
section
variable {X : Cx} {CX : CXT} {k : Nat} {C g : Addr} {sp : SpD}
end
section
variable {X : Cx} {CX : CXT} {k : Nat} {C g : Addr} {sp : SpD}
end
end G

set_option Elab.async false
set_option linter.all false
set_option maxRecDepth 100000
set_option maxHeartbeats 4000000
namespace G
open PySem PySem.Spec PyProof.Rows L2
end G
namespace G
open PySem PySem.Spec PyProof.Rows L2
section
variable {X : Cx} {CX : CXT} {k : Nat} {C g : Addr} {sp : Sp} {E : XK} {a b : Expr} {ta tb : TE} {pos : Pos}
end
end G

set_option Elab.async false
set_option linter.all false
set_option maxRecDepth 100000
set_option maxHeartbeats 4000000
namespace G
open PySem PySem.Spec PyProof.Rows L2
section
variable {X : Cx} {CX : CXT} {k : Nat} {C g : Addr} {sp : Sp} {E : XK}
end
end G

set_option Elab.async false
set_option linter.all false
set_option maxRecDepth 100000
set_option maxHeartbeats 4000000
namespace G
open PySem PySem.Spec PyProof.Rows L2
def KwT (K : PySem.W.Frag) (fd : FuncData) (ps : List Str) (tw : Bool) : Prop := ∀ (s : Shared) (ws : List Value), K.In s.heap → ws.length = ps.length → BindsTo s fd ⟨[], (turnL tw ps).zip ws⟩ (ps.zip (turnL tw ws))
theorem KwB.t {K : PySem.W.Frag} {fd : FuncData} {ps : List Str} (h : KwB K fd ps) : KwT K fd ps false := h
theorem KwR.t {K : PySem.W.Frag} {fd : FuncData} {ps : List Str} (h : KwR K fd ps) : KwT K fd ps true := h
def tCallKX (tw : Bool) (sp : Sp) (E : L2.St → XK) (t : TA) : TE := fun σ H Q => t σ H fun zs H1 => sp (turnL tw zs) H1 Q (E σ)
section
variable {X : Cx} {CX : CXT} {k : Nat} {f C g : Addr} {fd : FuncData} {ps ks : List Str} {sp : Sp} {E : L2.St → XK} {E1 : XK} {x m : Str} {kws : List Keyword} {tk t : TA} {ta tb : TE} {tw : Bool} {p p2 pos apos : Pos} {e o a b : Expr} {es : List Expr} {pl : Sem Bool}
def tMakeX (C : Addr) (sp : Sp) (E : L2.St → XK) (t : TA) : TE := fun σ H Q => t σ H fun vs H1 => ∀ x dx, H1 x = Option.none → H1 dx = Option.none → dx ≠ x →
  sp (V.ref x :: vs) (upd (upd H1 dx (.own x)) x (.ins C dx [])) (fun v H2 => v = .non ∧ Q (.ref x) H2) (E σ)
def tSMethX (C : Addr) (sp : Sp) (E : L2.St → XK) (ta : TE) (t : TA) : TE := fun σ H Q => ta σ H fun x H1 => x = .ref C ∧ t σ H1 fun vs H2 => sp vs H2 Q (E σ)
/-- C.m(p = .., ..) by all the parameters' names -/
def tSMethK (C : Addr) (tw : Bool) (sp : Sp) (E : L2.St → XK) (ta : TE) (tk : TA) : TE := fun σ H Q => ta σ H fun x H1 => x = .ref C ∧ tk σ H1 fun zs H2 => sp (turnL tw zs) H2 Q (E σ)
theorem pe_smethK (he : PE X o ta) (M : SMet X.K C m g) (F : FnOk X.prog X.w X.K X.mg X.base CX k g fd ps sp) (hr : Room k X.A) (hb : KwT X.K fd ps tw) (hx : ∀ σ, PassesAt CX X σ (E σ)) (hkw : PK X kws tk)
    (hks : (backToKw pos (keywordEach kws X.env)).filterMap (·.1) = turnL tw ps := by rfl) (hall : (backToKw pos (keywordEach kws X.env)).all (·.1.isSome) = true := by rfl)
    (hpl : ((backTo pos (starEach [] X.env)).any (·.1) || (backToKw pos (keywordEach kws X.env)).any (·.1.isNone)) = false := by rfl)
    (h3 : eval (.Call (.Attribute o m apos) [] kws pos) X.env = (eval o X.env >>= fun ov => standAt apos.atName >>= fun _ => holding [ov] (getMethod ov m pl) >>= fun q => callWith pos q.1 q.2 (backTo pos (starEach [] X.env)) (backToKw pos (keywordEach kws X.env))) := by rfl) :
    PE X (.Call (.Attribute o m apos) [] kws pos) (tSMethK C tw sp E ta tk) := by
  constructor
  intro pins s σ H Q I h
  refine PySem.W.methodCall_KW (pl := pl) (thn (he.run pins s σ H _ I h) fun u s1 z => ?_) h3
  obtain ⟨y, H1, I1, ry, rfl, q⟩ := z
  cases (show u = Value.ref C from ry)
  refine get_static I1 M fun s2 I2 => ?_
  refine PySem.W.callWith_KW0 (first := []) (h₀ := X.base) I2.ok.mod.kin M.kp hall (thn (hkw.run pos pins s2 σ H1 _ I2 q) fun ws s3 z2 => ?_) hpl
  obtain ⟨zs, H2, I3, rz, q2⟩ := z2
  rw [hks]
  have l0 := F.len _ _ _ _ q2
  rw [turn_len, rz.length] at l0
  refine ⟨I3.kIn, wpAny_call (codeAny_mono (F.run X.A X.stack s3 H2 ⟨[], (turnL tw ps).zip ws⟩ (turnL tw ws) (turnL tw zs) Q (E σ) hr I3.env0 (hb s3 ws I3.kIn l0) (turn_vals rz) q2) fun r s' hq => ?_)⟩
  exact match r, hq with
    | .error e, hq => hx σ pins H2 s3 e s' I3 hq
    | .ok (.ret _), hq => I3.after hq
end
section
variable {K : PySem.W.Frag} {W : WX} {O : List OD} {ts : List T} {P : PT'} {X : XX} {sp : SpD} {tk tr : TA} {ta : TE} {C : Addr} {tw : Bool} {n : Nat}
theorem w_callKX (h : WA K W tk O ts (fun xs O1 => ∃ ds, unv xs = some ds ∧ sp ((turnL tw ds).map T.v) [] (fun t _ => (∃ d, t = .v d) ∧ P t O1) (fun C fs _ => X C fs O1)) X) :
    WE K W (tCallKX tw (lift K sp) (L2.WE W) tk) O ts P X := fun b A σ H Q s rs kv kx =>
  h b A σ H _ s rs (fun xs vs A1 O1 H1 p1 s1 n1 r1 => by
    obtain ⟨ds, e, p⟩ := p1
    exact lift_p (W := W) (σ := σ) s1 (xs := (turnL tw ds).map T.v) (ds := turnL tw ds) (turn_rep r1 e) unv_map (fun _ _ _ z => z) p (kv.nxt n1) (kx.nxt n1)) kx
theorem w_smethX (h : WE K W ta O ts (fun x O1 => x = .v (.ref C) ∧ WA K W tr O1 ts (fun xs O2 => ∃ ds, unv xs = some ds ∧ sp xs [] (fun t _ => (∃ d, t = .v d) ∧ P t O2) (fun C fs _ => X C fs O2)) X) X) :
    WE K W (tSMethX C (lift K sp) (L2.WE W) ta tr) O ts P X := fun b A σ H Q s rs kv kx =>
  h b A σ H _ s rs (fun x v A1 O1 H1 p1 s1 n1 r1 => by
    obtain ⟨rfl, p⟩ := p1
    obtain ⟨_, e1, e2⟩ := id r1
    cases e1
    refine ⟨e2, p b A1 σ H1 _ s1 (rs.nxt n1) (fun xs us A2 O2 H2 p2 s2 n2 r2 => ?_) (kx.nxt n1)⟩
    obtain ⟨ds, e, q⟩ := p2
    exact lift_p (W := W) (σ := σ) s2 r2 e (fun _ _ _ z => z) q (kv.nxt (n1.trans n2)) (kx.nxt (n1.trans n2))) kx
theorem w_smethK (h : WE K W ta O ts (fun x O1 => x = .v (.ref C) ∧ WA K W tk O1 ts (fun xs O2 => ∃ ds, unv xs = some ds ∧ sp ((turnL tw ds).map T.v) [] (fun t _ => (∃ d, t = .v d) ∧ P t O2) (fun C fs _ => X C fs O2)) X) X) :
    WE K W (tSMethK C tw (lift K sp) (L2.WE W) ta tk) O ts P X := fun b A σ H Q s rs kv kx =>
  h b A σ H _ s rs (fun x v A1 O1 H1 p1 s1 n1 r1 => by
    obtain ⟨rfl, p⟩ := p1
    obtain ⟨_, e1, e2⟩ := id r1
    cases e1
    refine ⟨e2, p b A1 σ H1 _ s1 (rs.nxt n1) (fun xs us A2 O2 H2 p2 s2 n2 r2 => ?_) (kx.nxt n1)⟩
    obtain ⟨ds, e, q⟩ := p2
    exact lift_p (W := W) (σ := σ) s2 (xs := (turnL tw ds).map T.v) (ds := turnL tw ds) (turn_rep r2 e) unv_map (fun _ _ _ z => z) q (kv.nxt (n1.trans n2)) (kx.nxt (n1.trans n2))) kx
end
theorem RepX.ex {K : PySem.W.Frag} {F F' H H' : Hp} {d : Option Addr} : ∀ {fs : Option (List (Str × D))}, RepX K F H fs d → Ex F F' → RepX K F' H' fs d
  | none, h, _ => h
  | some _, ⟨dx, vs, e, h1, h2⟩, x => ⟨dx, vs, e, x _ _ h1 (fun _ z => by cases z), h2.ex x⟩
section
variable {K : PySem.W.Frag} {W : WX} {P : PT'} {X : XX} {sp : SpD} {b : Bs} {A1 : List Addr} {O1 : List OD} {H1 H3 : Hp} {xs : List T} {vs : List V} {ds : List D} {Q : VK} {σ : L2.St}
theorem tail_nil {A1 A' M : List Addr} {O1 : List OD} {o : OD} {x : Addr} (h1 : A1.length = O1.length) (h2 : A'.length = (O1 ++ [o]).length) (e : A' = A1 ++ [x] ++ M) : M = [] := by
  rw [e, List.length_append, List.length_append, List.length_append] at h2
  exact List.length_eq_zero_iff.mp (by simp only [List.length_singleton] at h2; omega)
/-- what an __init__ is handed: the new instance as the owned thing 0 -/
theorem new_core {C x : Addr} (s1 : StO K b A1 O1 H1) (hx : H1 x = none) (s3 : StO K b (A1 ++ [x]) (O1 ++ [.ins C []]) H3) (n3 : Ex (Fz b A1 O1 H1) (Fz b (A1 ++ [x]) (O1 ++ [.ins C []]) H3)) (r3 : RepTs K (Fz b (A1 ++ [x]) (O1 ++ [.ins C []]) H3) (A1 ++ [x]) xs vs) (e : unv xs = some ds)
    (p : sp (.own 0 :: xs) [.ins C []] (fun t O' => t = .v .non ∧ ∃ fs, O' = [.ins C fs] ∧ P (.v (.ins C fs)) O1) (fun C' fs O' => (∃ o', O' = [o']) ∧ X C' fs O1)) (kv : KV' K b A1 O1 H1 P Q) (kx : KX K W b A1 O1 σ H1 X) :
    lift K sp (.ref x :: vs) H3 (fun v H => v = .non ∧ Q (.ref x) H) (L2.WE W σ) := by
  have hat : (A1 ++ [x])[O1.length]? = some x := by
    rw [← s1.len, List.getElem?_append_right (Nat.le_refl _), Nat.sub_self] <;> rfl
  have hoat : (O1 ++ [OD.ins C []])[O1.length]? = some (.ins C []) := by
    rw [List.getElem?_append_right (Nat.le_refl _), Nat.sub_self] <;> rfl
  have es : ∀ o' : OD, (O1 ++ [OD.ins C []]).set O1.length o' = O1 ++ [o'] := fun o' => by
    rw [List.set_append_right _ _ (Nat.le_refl _), Nat.sub_self] <;> rfl
  refine lift_1 (W := W) (X := fun C' fs O' => (∃ o', O' = O1 ++ [o']) ∧ X C' fs O1) (σ := σ) (P := fun t O' => t = .v .non ∧ ∃ fs, O' = O1 ++ [.ins C fs] ∧ P (.v (.ins C fs)) O1) s3 (xs := .own O1.length :: xs) (ys := .own 0 :: xs) ⟨.ref x, vs, rfl, ⟨x, hat, rfl⟩, r3⟩ ?_ hoat rfl (fun C d H z => z) ?_
    (fun t v A' O' H' q s' n' rt => ?_) (fun C' fs A' O' H' d q s' n' rx => ?_)
  · show (if O1.length = O1.length then (tr1 O1.length xs).map (T.own 0 :: ·) else none) = _
    rw [if_pos rfl, tr1_v e] <;> rfl
  · have x0 : (fun (C' : Value) (fs : Option (List (Str × D))) (O' : List OD) => ∃ o', O' = [o'] ∧ ((∃ o'', (O1 ++ [OD.ins C []]).set O1.length o' = O1 ++ [o'']) ∧ X C' fs O1)) = fun C' fs O' => (∃ o', O' = [o']) ∧ X C' fs O1 := by
      funext C' fs O'
      exact propext ⟨fun ⟨o', e1, _, q⟩ => ⟨⟨o', e1⟩, q⟩, fun ⟨⟨o', e1⟩, q⟩ => ⟨o', e1, ⟨o', es o'⟩, q⟩⟩
    have pq : (fun (t : T) (O' : List OD) => ∃ o', O' = [o'] ∧ okR t = true ∧ (un1 O1.length t = .v .non ∧ ∃ fs, (O1 ++ [OD.ins C []]).set O1.length o' = O1 ++ [.ins C fs] ∧ P (.v (.ins C fs)) O1)) = fun t O' => t = .v .non ∧ ∃ fs, O' = [.ins C fs] ∧ P (.v (.ins C fs)) O1 := by
      funext t O'
      refine propext ⟨?_, ?_⟩
      · rintro ⟨o', rfl, hn, hu, fs, e1, q⟩
        rw [es] at e1
        have e2 := List.append_cancel_left e1
        injection e2 with e2 _
        subst e2
        refine ⟨?_, fs, rfl, q⟩
        cases t with
        | v d => exact hu
        | own j => cases hu
        | no => cases hn
        | clo R f => cases hn
      · rintro ⟨rfl, fs, rfl, q⟩
        exact ⟨_, rfl, rfl, rfl, fs, es _, q⟩
    rw [x0, pq]
    exact p
  · obtain ⟨rfl, fs, rfl, q⟩ := q
    obtain ⟨_, e1, e2⟩ := rt
    cases e1
    obtain ⟨M, eM⟩ := n'.pre
    obtain rfl := tail_nil s1.len s'.len eM
    rw [List.append_nil] at eM
    subst eM
    obtain ⟨dx', us, c1, c2⟩ := s'.cell O1.length x (.ins C fs) hat (by rw [List.getElem?_append_right (Nat.le_refl _), Nat.sub_self] <;> rfl)
    obtain ⟨s4, x4⟩ := s'.drop s1.len s1.pre
    have nA : x ∉ A1 := fun hm => (List.nodup_append.mp s'.nd).2.2 x hm x (List.mem_singleton.mpr rfl) rfl
    have nz : x ∉ live A1 O1 ++ b.Z := fun z => by
      rcases List.mem_append.mp z with z | z
      · obtain ⟨j, o, z1, _, _⟩ := live_mem z
        exact nA (List.mem_of_getElem? z1)
      · obtain ⟨o, zz, _⟩ := (s1.z_at (a := x) z).2
        rw [hx] at zz
        cases zz
    have fz : Fz b A1 O1 H' x = some (.ins C dx' us) := hid_some.mpr ⟨nz, c1⟩
    exact ⟨e2, kv _ _ A1 O1 H' q s4 ⟨⟨[], (List.append_nil A1).symm⟩, (n3.trans n'.ext).trans x4⟩ ⟨_, rfl, x, dx', us, rfl, fz, c2.ex x4⟩⟩
  · obtain ⟨⟨o', rfl⟩, q⟩ := q
    obtain ⟨M, eM⟩ := n'.pre
    obtain rfl := tail_nil s1.len s'.len eM
    rw [List.append_nil] at eM
    subst eM
    obtain ⟨s4, x4⟩ := s'.drop s1.len s1.pre
    exact kx C' fs A1 O1 H' d q s4 ⟨⟨[], (List.append_nil A1).symm⟩, (n3.trans n'.ext).trans x4⟩ (rx.ex x4)
theorem new_at {C x dx : Addr} (s1 : StO K b A1 O1 H1) (hx : H1 x = none) (hdx : H1 dx = none) (hne : dx ≠ x) : StO K b (A1 ++ [x]) (O1 ++ [.ins C []]) (upd (upd H1 dx (.own x)) x (.ins C dx [])) ∧ Nxt b A1 O1 H1 (A1 ++ [x]) (O1 ++ [.ins C []]) (upd (upd H1 dx (.own x)) x (.ins C dx [])) := by
  obtain ⟨s2, n2⟩ := s1.lay2 hdx (.own x)
  obtain ⟨s3, n3⟩ := s2.own (u := .ins C dx []) (o := .ins C []) ((upd_ne hne.symm).trans hx) ⟨dx, [], upd_same, rfl⟩
  exact ⟨s3, n2.trans n3⟩
end
section
variable {K : PySem.W.Frag} {W : WX} {O : List OD} {ts : List T} {P : PT'} {X : XX} {sp : SpD} {tk tr : TA} {C : Addr} {tw : Bool} {m : Nat}
/-- C(..) -/
theorem w_makeX (h : WA K W tr O ts (fun xs O1 => ∃ ds, unv xs = some ds ∧ sp (.own 0 :: xs) [.ins C []] (fun t O' => t = .v .non ∧ ∃ fs, O' = [.ins C fs] ∧ P (.v (.ins C fs)) O1) (fun C' fs O' => (∃ o', O' = [o']) ∧ X C' fs O1)) X) :
    WE K W (tMakeX C (lift K sp) (L2.WE W) tr) O ts P X := fun b A σ H Q s rs kv kx =>
  h b A σ H _ s rs (fun xs vs A1 O1 H1 p1 s1 n1 r1 x dx hx hdx hne => by
    obtain ⟨ds, e, p⟩ := p1
    obtain ⟨s3, n3⟩ := new_at (C := C) s1 hx hdx hne
    exact new_core s1 hx s3 n3.ext (r1.nxt n3) e p (kv.nxt n1) (kx.nxt n1)) kx
end
end G

set_option Elab.async false
set_option linter.all false
set_option maxRecDepth 100000
set_option maxHeartbeats 4000000
namespace G
open PySem PySem.Spec PyProof.Rows L2
end G

set_option Elab.async false
set_option linter.all false
set_option maxRecDepth 100000
set_option maxHeartbeats 4000000
namespace G
open PySem PySem.Spec PyProof.Rows L2
end G

set_option Elab.async false
set_option linter.all false
set_option maxRecDepth 100000
set_option maxHeartbeats 4000000
namespace G
open PySem PySem.Spec PyProof.Rows L2
section
variable {K : PySem.W.Frag} {W : WX} {O : List OD} {ts : List T} {P : PT'} {X : XX} {sp : SpD} {tr : TA} {ta : TE} {C : Addr} {m : Str}
end
end G

set_option Elab.async false
set_option linter.all false
set_option maxRecDepth 100000
set_option maxHeartbeats 4000000
namespace G
open PySem PySem.Spec PyProof.Rows L2 TL
section
variable {K : PySem.W.Frag} {W : WX} {O : List OD} {ts : List T} {P : PT'} {X : XX} {ta tb : TE}
end
end G

set_option Elab.async false
set_option linter.all false
set_option maxRecDepth 100000
set_option maxHeartbeats 4000000
namespace G
open PySem PySem.Spec PyProof.Rows L2
def tMakeKX (C : Addr) (tw : Bool) (sp : Sp) (E : L2.St → XK) (tk : TA) : TE := fun σ H Q => tk σ H fun zs H1 => ∀ x dx, H1 x = Option.none → H1 dx = Option.none → dx ≠ x →
  sp (V.ref x :: turnL tw zs) (upd (upd H1 dx (.own x)) x (.ins C dx [])) (fun v H2 => v = .non ∧ Q (.ref x) H2) (E σ)
section
variable {X : Cx} {CX : CXT} {k : Nat} {f C : Addr} {fd : FuncData} {ps ks : List Str} {sp : Sp} {E : L2.St → XK} {x : Str} {kws : List Keyword} {tk : TA} {tw : Bool} {p pos : Pos}
end
section
variable {K : PySem.W.Frag} {W : WX} {O : List OD} {ts : List T} {P : PT'} {X : XX} {sp : SpD} {tk : TA} {C : Addr} {tw : Bool}
theorem w_makeKX (h : WA K W tk O ts (fun xs O1 => ∃ ds, unv xs = some ds ∧ sp (.own 0 :: (turnL tw ds).map T.v) [.ins C []] (fun t O' => t = .v .non ∧ ∃ fs, O' = [.ins C fs] ∧ P (.v (.ins C fs)) O1) (fun C' fs O' => (∃ o', O' = [o']) ∧ X C' fs O1)) X) :
    WE K W (tMakeKX C tw (lift K sp) (L2.WE W) tk) O ts P X := fun b A σ H Q s rs kv kx =>
  h b A σ H _ s rs (fun xs vs A1 O1 H1 p1 s1 n1 r1 x dx hx hdx hne => by
    obtain ⟨ds, e, p⟩ := p1
    obtain ⟨s3, n3⟩ := new_at (C := C) s1 hx hdx hne
    exact new_core s1 hx s3 n3.ext ((turn_rep r1 e).nxt n3) unv_map p (kv.nxt n1) (kx.nxt n1)) kx
end
section
variable {X : Cx} {CX : CXT} {k : Nat} {C g : Addr} {sp : Sp} {E : XK}
end
end G

set_option Elab.async false
set_option linter.all false
set_option maxRecDepth 100000
set_option maxHeartbeats 4000000
namespace G
open PySem PySem.Spec PyProof.Rows L2
theorem neverAt {X : Cx} {σ : L2.St} : PassesAt (L2.CX X.prog X.w) X σ E0 := fun pins H s e s' I c => passL pins σ H s e s' I c
section
variable {K : PySem.W.Frag} {W : WX} {O : List OD} {ts : List T} {P : PT'} {X : XX} {sp : SpD} {tk : TA} {ta : TE} {C : Addr} {tw : Bool}
theorem w_smethK0 (h : WE K W ta O ts (fun x O1 => x = .v (.ref C) ∧ WA K W tk O1 ts (fun xs O2 => ∃ ds, unv xs = some ds ∧ sp ((turnL tw ds).map T.v) [] (fun t _ => (∃ d, t = .v d) ∧ P t O2) (fun _ _ _ => False)) X) X) :
    WE K W (tSMethK C tw (lift K sp) (fun _ => E0) ta tk) O ts P X := fun b A σ H Q s rs kv kx =>
  h b A σ H _ s rs (fun x v A1 O1 H1 p1 s1 n1 r1 => by
    obtain ⟨rfl, p⟩ := p1
    obtain ⟨_, e1, e2⟩ := id r1
    cases e1
    refine ⟨e2, p b A1 σ H1 _ s1 (rs.nxt n1) (fun xs us A2 O2 H2 p2 s2 n2 r2 => ?_) (kx.nxt n1)⟩
    obtain ⟨ds, e, q⟩ := p2
    exact lift_p (W := fun _ _ _ _ => False) (X := fun _ _ _ => False) (σ := σ) s2 (xs := (turnL tw ds).map T.v) (ds := turnL tw ds) (turn_rep r2 e) unv_map (fun _ _ _ z => z) q (kv.nxt (n1.trans n2)) (fun C fs A' O' H' d z => z.elim)) kx
end
end G

set_option Elab.async false
set_option linter.all false
set_option maxRecDepth 100000
set_option maxHeartbeats 4000000
namespace G
open PySem PySem.Spec PyProof.Rows L2
/-- shown as p, nested at most k deep, within n signs -/
structure Shw (d : D) (p : PyData) (k n : Nat) : Prop where
  py : pyD d = some p
  ok : p.showable = true
  dp : p.depth ≤ k
  len : p.shown.length ≤ n
  so : PyData.strOk p.shown = true
theorem Shw.mono {d : D} {p : PyData} {k n k' n' : Nat} (h : Shw d p k n) (hk : k ≤ k' := by decide) (hn : n ≤ n' := by decide) : Shw d p k' n' := ⟨h.py, h.ok, Nat.le_trans h.dp hk, Nat.le_trans h.len hn, h.so⟩
end G

set_option Elab.async false
set_option linter.all false
set_option maxRecDepth 100000
set_option maxHeartbeats 4000000
namespace G
open PySem PySem.Spec PyProof.Rows L2 LamX
/-- the def that got the lambda, wherever it is called -/
structure GivesA (X : Cx) (Ng : List Str) (x : Str) (sg : Scope) (g : Addr) (cdg : Value) (bg : List Stmt) (a : Str) (th : (WX → TE) → TS) : Prop where
  of : ∀ (stk : List Env) (s : Shared) (H : Hp) (ta : WX → TE),
    (∀ (W : WX) (pn : List (Addr × Obj)) (xe : Value → Shared → Prop) (p1 p2 : Pos), Takes ((cxOf C8.CX0 X.prog X.w X.K X.mg X.base Ng x sg g cdg X.A stk s H C8.E0).tr pn xe) W →
      PE ((cxOf C8.CX0 X.prog X.w X.K X.mg X.base Ng x sg g cdg X.A stk s H C8.E0).tr pn xe) (.Call (.Name a p1) [] [] p2) (ta W)) →
    PSs (cxOf C8.CX0 X.prog X.w X.K X.mg X.base Ng x sg g cdg X.A stk s H C8.E0).nox bg (th ta)
theorem GivesA.at {X : Cx} {Ng : List Str} {x : Str} {sg : Scope} {g : Addr} {cdg : Value} {bg : List Stmt} {a : Str} {th : (WX → TE) → TS} (h : GivesA X Ng x sg g cdg bg a th) : GivesS X Ng x sg g cdg bg a th := fun s H ta act => h.of X.stack s H ta act
end G

set_option Elab.async false
set_option linter.all false
set_option maxRecDepth 100000
set_option maxHeartbeats 4000000
namespace G
open PySem PySem.Spec PyProof.Rows L2
/-- somewhere below the running body, with room -/
structure Blw (X : Cx) (n : Nat) (A : Around) : Prop where
  room : Room n A
  env : ∀ {pins : List (Addr × Obj)} {σ : L2.St} {H : Hp} {s : Shared}, Inv X pins σ H s → Env0 X.prog X.w X.K X.mg X.base A X.stack s H
theorem Blw.top {X : Cx} {n : Nat} (h : Room n X.A) : Blw X n X.A := ⟨h, fun I => I.env0⟩
theorem Blw.in1 {X : Cx} {n : Nat} {A : Around} (h : Blw X (n + 1) A) : Blw X n A.in1 := ⟨h.room.in1, fun I => (h.env I).in1⟩
section
variable {X : Cx} {CX : CXT} {k : Nat} {C g : Addr} {sp : SpD}
end
section
variable {X : Cx} {CX : CXT} {k n : Nat} {C g : Addr} {sp : SpD}
end
end G

set_option Elab.async false
set_option linter.all false
set_option maxRecDepth 100000
set_option maxHeartbeats 4000000
namespace G
open PySem PySem.Spec PyProof.Rows L2
section
variable {P : Program} {w : World} {K : PySem.W.Frag} {mg : Str → Option Value} {base : Heap} {k : Nat} {x qual : Str} {params : Arguments} {body : List Stmt} {scope : Scope} {f : Addr} {fd : FuncData} {N ps ks : List Str} {pv : Str} {sp : SpD} {tw : Bool}
end
section
variable {X : Cx} {k n : Nat} {f C : Addr} {ks : List Str} {sp : SpD} {x : Str} {kws : List Keyword} {tk : TA} {tw : Bool} {p pos : Pos}
end
section
variable {K : PySem.W.Frag} {W : WX} {O : List OD} {ts : List T} {P : PT'} {X : XX} {sp : SpD} {tk : TA} {C : Addr} {tw : Bool} {m n : Nat}
end
end G

set_option Elab.async false
set_option linter.all false
set_option maxRecDepth 100000
set_option maxHeartbeats 4000000
namespace G
open PySem PySem.Spec PyProof.Rows L2
variable {K : PySem.W.Frag} {O : List OD} {P : PT'}
end G

set_option Elab.async false
set_option linter.all false
set_option maxRecDepth 100000
set_option maxHeartbeats 0
namespace My
open PySem PySem.Spec PyProof.Rows L2 G

local macro_rules | `(tactic| walk_at "ws") => `(tactic| first
  | with_reducible refine s_set ?_
  | with_reducible refine s_if ?_
  | with_reducible refine s_ret ?_
  | with_reducible refine s_retN ?_
  | with_reducible refine s_drop ?_
  | with_reducible refine s_next ?_
  | with_reducible refine s_par ?_
  | with_reducible refine s_par3 ?_
  | refine s_fldN (by assumption) (by assumption) ?_
  | with_reducible refine s_asg ?_
  | refine s_raise1 ?_
  | refine s_raise2 ?_)
local macro_rules | `(tactic| walk_at "we") => `(tactic| first
  | ((with_reducible refine w_v (d := ?k2) ?k1 ?_); (case k1 => exact rfl))
  | ((with_reducible refine w_o (j := ?k2) ?k1 ?_); (case k1 => exact rfl))
  | ((guard_target = G.WE _ _ (tFld _ _ _) _ _ _ _); (refine w_fldN (by assumption) (by assumption) ?_))
  | ((guard_target = G.WE _ _ (tC (.ref _)) _ _ _ _); (refine w_ctup (by assumption) ?_))
  | with_reducible refine w_ci ?_
  | with_reducible refine w_op ?_
  | with_reducible refine w_call ?_
  | with_reducible refine w_cty ?_
  | with_reducible refine w_cb ?_
  | with_reducible refine w_cn ?_
  | with_reducible refine w_cs ?_
  | with_reducible refine w_cr ?_
  | with_reducible refine w_un ?_
  | with_reducible refine w_andV ?_
  | with_reducible refine w_orV ?_
  | with_reducible refine w_notV ?_
  | with_reducible refine w_ife ?_
  | with_reducible refine w_chain ?_
  | with_reducible refine w_tup ?_
  | with_reducible refine w_revL ?_
  | with_reducible refine w_slL ?_
  | with_reducible refine w_slT ?_
  | (guard_target = G.WE _ _ (tCall (lift _ (sp_draw _)) _ _ _) _ _ _ _; refine w_fn10 0 ?_)
  | (guard_target = G.WE _ _ (tCall (lift _ (sp_pick _)) _ _ _) _ _ _ _; refine w_fn10 0 ?_)
  | (guard_target = G.WE _ _ (tCall (lift _ (sp_l_modulus _)) _ _ _) _ _ _ _; refine w_fn10 0 ?_)
  | (guard_target = G.WE _ _ (tCall (lift _ (sp_l_numbers _)) _ _ _) _ _ _ _; refine w_fn10 0 ?_)
  | (guard_target = G.WE _ _ (tCall (lift _ (sp_right _)) _ _ _) _ _ _ _; refine w_fn10 0 ?_)
  | with_reducible refine w_fn0 ?_
  | with_reducible refine w_fnS0 ?_
  | with_reducible refine w_meth0 ?_
  | with_reducible refine w_make0 ?_
  | with_reducible refine w_bmL ?_
  | with_reducible refine w_bmL0 ?_
  | with_reducible refine w_lst ?_
  | with_reducible refine w_callKX ?_
  | with_reducible refine w_makeKX ?_
  | with_reducible refine w_makeX ?_
  | with_reducible refine w_smethX ?_
  | with_reducible refine w_smethK ?_
  | with_reducible refine w_smethK0 ?_
  | with_reducible refine w_fnV ?_
  | with_reducible refine w_fnX ?_
  | with_reducible refine w_fnSX ?_
  | with_reducible refine w_methX ?_
  | with_reducible refine w_callX ?_
  | with_reducible refine w_methK ?_
  | with_reducible refine w_callK2 ?_
  | with_reducible refine w_callI ?_
  | with_reducible refine w_prop ?_
  | with_reducible refine w_dic0 ?_
  | with_reducible refine w_jcons ?_
  | with_reducible refine w_jnil ?_
  | with_reducible refine w_join ?_
  | with_reducible refine w_split ?_
  | with_reducible refine w_smeth ?_
  | with_reducible refine w_fnKr ?_)
local macro_rules | `(tactic| walk_at "wt") => `(tactic| first
  | with_reducible refine w_test ?_
  | with_reducible refine w_B ?_
  | with_reducible refine w_and ?_
  | with_reducible refine w_or ?_
  | with_reducible refine w_not ?_)
local macro_rules | `(tactic| walk_at "wa") => `(tactic| first
  | with_reducible refine w_cons ?_
  | with_reducible refine w_nil ?_
  | with_reducible refine w_star ?_)
local macro_rules | `(tactic| walk_at "wr") => `(tactic| first
  | with_reducible refine w_add ?_
  | with_reducible refine w_sub ?_
  | with_reducible refine w_lt ?_
  | with_reducible refine w_le ?_
  | with_reducible refine w_gt ?_
  | with_reducible refine w_ge ?_
  | with_reducible refine w_eqI ?_
  | with_reducible refine w_neI ?_
  | with_reducible refine w_isN ?_
  | with_reducible refine w_notN ?_
  | ((with_reducible refine w_mod ?k1 ?_); (case k1 => first | decide | omega))
  | ((with_reducible refine w_mul ?k1 ?_); (case k1 => first | exact Or.inl ⟨by decide, by decide⟩ | exact Or.inr ⟨by decide, by decide⟩ | exact Or.inl ⟨by omega, by omega⟩ | exact Or.inr ⟨by omega, by omega⟩))
  | ((with_reducible refine w_pow ?k1 ?_); (case k1 => first | exact ⟨by decide, by decide, by decide⟩ | exact ⟨by omega, by omega, by omega⟩))
  | ((with_reducible refine w_fdivW ?k1 ?_); (case k1 => exact divW_ok (by first | decide | omega) (by first | decide | omega)))
  | ((with_reducible refine w_mulW ?k1 ?_); (case k1 => exact mulW_ok ⟨by omega, by omega⟩ ⟨by omega, by omega⟩))
  | ((guard_target = G.WR _ (rIxT _) _ _ _ _); (refine w_ixT (by first | exact atI_0 | exact atI_1 | exact atI_2 | exact atI_3 | exact atI_4 | exact atI_5 | exact atI_6 | assumption) ?_))
  | ((guard_target = G.WR _ (rIxL _) _ _ _ _); (refine w_ixL (by first | exact lstD_v | exact lstD_o rfl) (by first | exact atI_0 | exact atI_1 | exact atI_2 | exact atI_3 | exact atI_4 | exact atI_5 | exact atI_6 | assumption) ?_)))
local macro_rules | `(tactic| walk_at "wc") => `(tactic| first
  | with_reducible refine c_int ?_
  | with_reducible refine c_intB ?_
  | with_reducible refine c_abs ?_
  | ((guard_target = G.WC _ (G.rLen _) _ _ _); (refine c_lenL (by first | exact lstD_v | exact lstD_o rfl) ?_))
  | with_reducible refine c_lenT ?_
  | ((guard_target = G.WC _ (G.rListOf _) _ _ _); (refine c_listL (by first | exact lstD_v | exact lstD_o rfl) ?_))
  | with_reducible refine c_listT ?_
  | ((guard_target = G.WC _ (G.rTupOf _) _ _ _); (refine c_tupL (by first | exact lstD_v | exact lstD_o rfl) ?_))
  | with_reducible refine c_tupT ?_)
local macro_rules | `(tactic| walk_at "e") => `(tactic| first
  | (guard_target = G.WE _ _ _ _ _ _ _; walk_at "we")
  | (guard_target = G.WS _ _ _ _ _ _; walk_at "ws")
  | (guard_target = G.WA _ _ _ _ _ _ _; walk_at "wa")
  | (guard_target = G.WR _ _ _ _ _ _; walk_at "wr")
  | (guard_target = G.WT _ _ _ _ _ _ _; walk_at "wt")
  | (guard_target = G.WC _ _ _ _ _; walk_at "wc")
  | (guard_target = G.WU _ _ _ _ _; with_reducible refine w_neg ?_)
  | (guard_target = G.WG _ _ _ _ _ _ _; first | with_reducible refine g_name ?_ | with_reducible refine g_setL ?_ | refine g_pair rfl ?_ | refine g_trip rfl ?_ | refine g_quad rfl ?_)
  | (guard_target = G.WO _ _ _ _ _ _ _; first | with_reducible refine o_none ?_ | with_reducible refine o_some ?_)
  | with_reducible refine tt_ ?_
  | with_reducible refine ff_ ?_
  | with_reducible refine ntt_ ?_
  | with_reducible refine nff_ ?_
  | ((guard_target = ((!G.isNon _) = true → _) ∧ _); (first | refine bnF rfl ?_ | refine bnT rfl ?_))
  | ((guard_target = (G.isNon _ = true → _) ∧ _); (first | refine bF rfl ?_ | refine bT rfl ?_))
  | (guard_target = Exists _; first
    | refine ⟨_, rfl, Nat.le_of_ble_eq_true rfl, Nat.le_of_ble_eq_true rfl, ?_⟩
    | refine ⟨_, _, _, _, _, rfl, rfl, rfl, rfl, rfl, ?_⟩
    | refine ⟨_, _, _, rfl, rfl, rfl, Nat.le_of_ble_eq_true rfl, ?_⟩
    | refine ⟨_, _, rfl, rfl, rfl, ?_⟩
    | refine ⟨_, _, _, rfl, ?_⟩
    | refine ⟨_, _, (by first | exact insD_v | exact insD_o rfl), rfl, ?_⟩
    | refine ⟨_, _, rfl, ?_⟩
    | refine ⟨_, rfl, rfl, ?_⟩
    | refine ⟨_, rfl, Nat.le_of_ble_eq_true rfl, ?_⟩
    | refine ⟨_, (by first | exact lstD_v | exact lstD_o rfl), ?_⟩
    | refine ⟨_, rfl, ?_⟩))
local macro_rules | `(tactic| walk_at "o") => `(tactic| first | with_reducible refine w_lstO ?_ | walk_at "e")
local macro_rules | `(tactic| walk_at "g") => `(tactic| first | walk_at "e" | with_reducible refine s_seq ?_)
local macro_rules | `(tactic| walk_at "n") => `(tactic| (with_reducible refine s_seq ?_); (repeat walk_at "e"))

def sp_is_integer (K : PySem.W.Frag) : SpD := fun ts O P _ => ∃ d b, ts = [.v d] ∧ O = [] ∧ IntQ K d b ∧ P (.v (.bl b)) []
theorem sp_is_integer_len {K : PySem.W.Frag} {ts O P X} (h : sp_is_integer K ts O P X) : ts.length = 1 := by
  obtain ⟨d, b, rfl, _⟩ := h
  rfl
theorem u_is_integer {K : PySem.W.Frag} {P : PT'} {X : XX} {d : D} {b : Bool} (h : IntQ K d b) (k : P (.v (.bl b)) []) : sp_is_integer K [.v d] [] P X := ⟨d, b, rfl, rfl, h, k⟩
/-- whether a value is an integer between two bounds -/
def BtwQ (K : PySem.W.Frag) (d : D) (lo hi : Int) (b : Bool) : Prop := (∃ n, d = .int n ∧ b = (decide (lo ≤ n) && decide (n ≤ hi))) ∨ (IntQ K d false ∧ b = false)
theorem btw_int {K : PySem.W.Frag} {n lo hi : Int} (h1 : lo ≤ n) (h2 : n ≤ hi) : BtwQ K (.int n) lo hi true := .inl ⟨n, rfl, by rw [decide_eq_true h1, decide_eq_true h2] <;> rfl⟩
def sp_is_between (K : PySem.W.Frag) : SpD := fun ts O P _ => ∃ d lo hi b, ts = [.v d, .v (.int lo), .v (.int hi)] ∧ O = [] ∧ BtwQ K d lo hi b ∧ P (.v (.bl b)) []
theorem sp_is_between_len {K : PySem.W.Frag} {ts O P X} (h : sp_is_between K ts O P X) : ts.length = 3 := by
  obtain ⟨d, lo, hi, b, rfl, _⟩ := h
  rfl
theorem u_is_between {K : PySem.W.Frag} {P : PT'} {X : XX} {d : D} {lo hi : Int} {b : Bool} (h : BtwQ K d lo hi b) (k : P (.v (.bl b)) []) : sp_is_between K [.v d, .v (.int lo), .v (.int hi)] [] P X := ⟨d, lo, hi, b, rfl, rfl, h, k⟩
def sp_fits_modulus (K : PySem.W.Frag) : SpD := fun ts O P _ => ∃ d b, ts = [.v d] ∧ O = [] ∧ BtwQ K d 2 1000000000000000000000000000000 b ∧ P (.v (.bl b)) []
theorem sp_fits_modulus_len {K : PySem.W.Frag} {ts O P X} (h : sp_fits_modulus K ts O P X) : ts.length = 1 := by
  obtain ⟨d, b, rfl, _⟩ := h
  rfl
theorem u_fits_modulus {K : PySem.W.Frag} {P : PT'} {X : XX} {d : D} {b : Bool} (h : BtwQ K d 2 1000000000000000000000000000000 b) (k : P (.v (.bl b)) []) : sp_fits_modulus K [.v d] [] P X := ⟨d, b, rfl, rfl, h, k⟩
/-- whether a value is a list or a tuple -/
def RowQ (K : PySem.W.Frag) (d : D) (b : Bool) : Prop := ∃ t, TyD K d t ∧ PySem.W.kitAny K t [.type "list", .type "tuple"] = some b
theorem rowQ_lst {K : PySem.W.Frag} {ds : List D} : RowQ K (.lst ds) true := ⟨_, .lst ds, kitAny_cons (kit_ty (b := "list") (r := true) (by decide +kernel)) (fun z => by cases z) fun _ => rfl⟩
theorem rowQ_tup {K : PySem.W.Frag} {ds : List D} : RowQ K (.tup ds) true := ⟨_, .tup ds, kitAny_cons (kit_ty (b := "list") (r := false) (by decide +kernel)) (fun _ => kitAny_cons (kit_ty (b := "tuple") (r := true) (by decide +kernel)) (fun z => by cases z) fun _ => rfl) fun z => by cases z⟩
def sp_is_row (K : PySem.W.Frag) : SpD := fun ts O P _ => ∃ d b, ts = [.v d] ∧ O = [] ∧ RowQ K d b ∧ P (.v (.bl b)) []
theorem sp_is_row_len {K : PySem.W.Frag} {ts O P X} (h : sp_is_row K ts O P X) : ts.length = 1 := by
  obtain ⟨d, b, rfl, _⟩ := h
  rfl
theorem u_is_row {K : PySem.W.Frag} {P : PT'} {X : XX} {d : D} {b : Bool} (h : RowQ K d b) (k : P (.v (.bl b)) []) : sp_is_row K [.v d] [] P X := ⟨d, b, rfl, rfl, h, k⟩
def sp_binomial (K : PySem.W.Frag) : SpD := fun ts O P _ => ∃ (n : Int) (j : Nat), ts = [.v (.int n), .v (.int j)] ∧ O = [] ∧ j ≤ 12 ∧ n.natAbs + 12 < 2 ^ 230 ∧ P (.v (.int (bin n j))) []
theorem sp_binomial_len {K : PySem.W.Frag} {ts O P X} (h : sp_binomial K ts O P X) : ts.length = 2 := by
  obtain ⟨n, j, rfl, _⟩ := h
  rfl

open My (V VK mv tr cut dv row diff bin SumOk)
def sumD (K : PySem.W.Frag) (m : Int) (cs : List Int) : D := .ins (He.ga K "Sum") [("modulus", .int m), ("coefs", .tup (nums cs))]
def Sml (b : Nat) (xs : List Int) : Prop := ∀ x ∈ xs, x.natAbs < 2 ^ b
/-- what a sum is handed to be reckoned with: an integer, or a sum -/
def TakeQ (K : PySem.W.Frag) (m : Int) (d : D) (xs : List Int) : Prop := (∃ k : Int, d = .int k ∧ xs = [k] ∧ k.natAbs < 2 ^ 140) ∨ (d = sumD K m xs ∧ SumOk m xs)
theorem TakeQ.sml {K : PySem.W.Frag} {m : Int} {d : D} {xs : List Int} (h : TakeQ K m d xs) : Sml 140 xs := by
  rcases h with ⟨k, _, rfl, hk⟩ | ⟨_, hk⟩
  · intro x hx
    rw [List.mem_singleton.mp hx]
    exact hk
  · intro x hx
    exact Nat.lt_of_lt_of_le (hk.sml x hx) (Nat.pow_le_pow_right (by decide) (by decide))
theorem TakeQ.len {K : PySem.W.Frag} {m : Int} {d : D} {xs : List Int} (h : TakeQ K m d xs) : xs.length ≤ 13 := by
  rcases h with ⟨k, _, rfl, hk⟩ | ⟨_, hk⟩
  · exact (by decide : 1 ≤ 13)
  · exact hk.len
def sp_s_trimmed (K : PySem.W.Frag) : SpD := fun ts O P _ => ∃ (m : Int) (xs : List Int), ts = [.v (.int m), .v (.tup (nums xs))] ∧ O = [] ∧ 2 ≤ m ∧ xs.length ≤ 100 ∧ P (.v (.tup (nums (tr m xs)))) []
theorem sp_s_trimmed_len {K : PySem.W.Frag} {ts O P X} (h : sp_s_trimmed K ts O P X) : ts.length = 2 := by
  obtain ⟨m, xs, rfl, _⟩ := h
  rfl
def sp_s_value (K : PySem.W.Frag) : SpD := fun ts O P _ => ∃ (xs : List Int) (n : Int), ts = [.v (.tup (nums xs)), .v (.int n)] ∧ O = [] ∧ xs.length ≤ 13 ∧ Sml 140 xs ∧ n.natAbs + 12 < 2 ^ 230 ∧ P (.v (.int (V xs n))) []
theorem sp_s_value_len {K : PySem.W.Frag} {ts O P X} (h : sp_s_value K ts O P X) : ts.length = 2 := by
  obtain ⟨xs, n, rfl, _⟩ := h
  rfl
def sp_s_init (K : PySem.W.Frag) : SpD := fun ts O P _ => ∃ (m : Int) (xs : List Int), ts = [.own 0, .v (.int m), .v (.tup (nums xs))] ∧ O = [.ins (He.ga K "Sum") []] ∧ 2 ≤ m ∧ m ≤ 1000000000000000000000000000000 ∧ xs.length ≤ 13 ∧ P (.v .non) [.ins (He.ga K "Sum") [("modulus", .int m), ("coefs", .tup (nums (tr m xs)))]]
theorem unv_nums : ∀ xs : List Int, unv ((nums xs).map T.v ++ []) = some (nums xs) := fun xs => by
  have := unv_vs (ds := nums xs) (ys := []) (es := []) rfl
  rwa [List.append_nil (nums xs)] at this
/-- Sum(m, ..) -/
theorem u_make {K : PySem.W.Frag} {P : PT'} {O : List OD} {m : Int} (xs : List Int) (m1 : 2 ≤ m) (m2 : m ≤ 1000000000000000000000000000000) (hl : xs.length ≤ 13) (k : P (.v (sumD K m (tr m xs))) O) :
    ∃ ds, unv (.v (.int m) :: ((nums xs).map T.v ++ [])) = some ds ∧ 1 ≤ ds.length ∧ ds.length ≤ 1000000 ∧ sp_s_init K (.own 0 :: ((ds.take 1).map T.v ++ [.v (.tup (ds.drop 1))])) [.ins (He.ga K "Sum") []] (fun t O' => t = .v .non ∧ ∃ fs, O' = [.ins (He.ga K "Sum") fs] ∧ P (.v (.ins (He.ga K "Sum") fs)) O) (fun _ _ _ => False) := by
  refine ⟨.int m :: nums xs, ?_, ?_, ?_, m, xs, rfl, rfl, m1, m2, hl, rfl, _, rfl, k⟩
  · show (unv ((nums xs).map T.v ++ [])).map (D.int m :: ·) = _
    rw [unv_nums] <;> rfl
  · rw [List.length_cons]
    omega
  · rw [List.length_cons, nums_len]
    omega
theorem u_init {K : PySem.W.Frag} {Q : List (Str × D) → Prop} {m : Int} (xs : List Int) (m1 : 2 ≤ m) (m2 : m ≤ 1000000000000000000000000000000) (hl : xs.length ≤ 13) (k : Q [("modulus", .int m), ("coefs", .tup (nums (tr m xs)))]) :
    sp_s_init K [.own 0, .v (.int m), .v (.tup (nums xs))] [.ins (He.ga K "Sum") []] (fun t O' => t = .v .non ∧ ∃ fs, O' = [.ins (He.ga K "Sum") fs] ∧ Q fs) (fun _ _ _ => False) := ⟨m, xs, rfl, rfl, m1, m2, hl, rfl, _, rfl, k⟩
theorem nums_last {zs : List Int} {z : Int} : (nums (zs ++ [z]))[(nums (zs ++ [z])).length - 1]? = some (.int z) := by
  rw [← nums_app, List.length_append, List.length_singleton, Nat.add_sub_cancel, List.getElem?_append_right (Nat.le_refl _), Nat.sub_self] <;> rfl
theorem nums_pop {zs : List Int} {z : Int} : (nums (zs ++ [z])).dropLast = nums zs := by
  rw [← nums_app, List.dropLast_concat]
theorem nums_drop {xs : List Int} {n : Nat} : (nums xs).drop n = nums (xs.drop n) := by
  unfold nums
  rw [List.map_drop]
def sp_s_call (K : PySem.W.Frag) : SpD := fun ts O P _ => ∃ (m : Int) (cs : List Int) (n : Int), ts = [.v (sumD K m cs), .v (.int n)] ∧ O = [] ∧ SumOk m cs ∧ n.natAbs + 12 < 2 ^ 230 ∧ P (.v (.int (V cs n % m))) []
theorem sp_s_call_len {K : PySem.W.Frag} {ts O P X} (h : sp_s_call K ts O P X) : ts.length = 2 := by
  obtain ⟨m, cs, n, rfl, _⟩ := h
  rfl
def sp_s_eq (K : PySem.W.Frag) : SpD := fun ts O P _ => ∃ (m : Int) (cs : List Int) (m2 : Int) (ds : List Int), ts = [.v (sumD K m cs), .v (sumD K m2 ds)] ∧ O = [] ∧ P (.v (.bl (decide (m = m2) && decide (cs = ds)))) []
theorem sp_s_eq_len {K : PySem.W.Frag} {ts O P X} (h : sp_s_eq K ts O P X) : ts.length = 2 := by
  obtain ⟨m, cs, m2, ds, rfl, _⟩ := h
  rfl
def sp_s_len (K : PySem.W.Frag) : SpD := fun ts O P _ => ∃ (m : Int) (cs : List Int), ts = [.v (sumD K m cs)] ∧ O = [] ∧ P (.v (.int (cs.length : Nat))) []
theorem sp_s_len_len {K : PySem.W.Frag} {ts O P X} (h : sp_s_len K ts O P X) : ts.length = 1 := by
  obtain ⟨m, cs, rfl, _⟩ := h
  rfl
def sp_s_diffq (K : PySem.W.Frag) : SpD := fun ts O P _ => ∃ (d : D) (xs : List Int), ts = [.v d] ∧ O = [] ∧ (d = .lst (nums xs) ∨ d = .tup (nums xs)) ∧ xs.length ≤ 100 ∧ P (.v (.lst (nums (dv xs)))) []
theorem sp_s_diffq_len {K : PySem.W.Frag} {ts O P X} (h : sp_s_diffq K ts O P X) : ts.length = 1 := by
  obtain ⟨d, xs, rfl, _⟩ := h
  rfl
def sp_s_of (K : PySem.W.Frag) : SpD := fun ts O P _ => ∃ (m : Int) (d : D) (xs : List Int), ts = [.v (.int m), .v d] ∧ O = [] ∧ (d = .lst (nums xs) ∨ d = .tup (nums xs)) ∧ 2 ≤ m ∧ m ≤ 1000000000000000000000000000000 ∧ 1 ≤ xs.length ∧ xs.length ≤ 13 ∧ P (.v (sumD K m (tr m (dv xs)))) []
theorem sp_s_of_len {K : PySem.W.Frag} {ts O P X} (h : sp_s_of K ts O P X) : ts.length = 2 := by
  obtain ⟨m, d, xs, rfl, _⟩ := h
  rfl

theorem w_via {K : PySem.W.Frag} {W : WX} {te : TE} {O O' : List OD} {ts : List G.T} {P : PT'} {X : XX} {t : G.T} (h : ∀ P' : PT', P' t O' → G.WE K W te O ts P' X) (k : P t O') : G.WE K W te O ts P X := h P k
theorem sc_is_integer : FnScope ["value"] ["value"] (defScope (top 4)) := ⟨rfl, rfl, rfl, by decide +kernel, rfl, by decide +kernel, by decide +kernel⟩
theorem ok_is_integer {P : Program} {w : World} {K : PySem.W.Frag} {mg : Str → Option Value} {base : Heap} (T : Tx K mg)  : Fn P w K mg base 1 (He.fAd K ("is_integer", none)) ["value"] (sp_is_integer K) := by
  obtain ⟨fd, F⟩ := T.d_is_integer
  refine ⟨fd, F.ok sc_is_integer (lift_len ?_) (fun cdv A outer s H vs Q E hr h => ?_), F.bindsN fun _ _ _ _ _ _ us hl => (match us, hl with | [_], _ => rfl), F.kp, lk_of F⟩
  · intro ts O P X h
    exact sp_is_integer_len h
  · have hu := hr.units
    refine ⟨_, (PSs.nox (pss_one (ps_ret (pe_and (pe_callB (call_isiK K) (by rfl) T.n_isinstance boot_isinstance (pa_cons (pv 0) (pa_cons (pe_bltn (v := .ty "int") (by rfl) T.n_int boot_int rfl) pa_nil))) (pe_one (pe_not (pe_callB (call_isiK K) (by rfl) T.n_isinstance boot_isinstance (pa_cons (pv 0) (pa_cons (pe_bltn (v := .ty "bool") (by rfl) T.n_bool boot_bool rfl) pa_nil))))))))), enter h fun ts O P X h _ => ?_⟩
    try dsimp only [cxOf, Cx.nox, Cx.wish]
    
    obtain ⟨d, b, rfl, rfl, ⟨t, b1, b2, ht, h1, h2, rfl⟩, p⟩ := h
    show WS _ _ _ _ [.v d] _
    repeat walk_at "g"
    refine c_isi ht (.ty _) h1 ?_
    refine ⟨_, rfl, fun e => ?_, fun e => ?_⟩
    · subst e
      repeat walk_at "g"
      refine c_isi ht (.ty _) h2 ?_
      refine ⟨_, rfl, ?_⟩
      exact ⟨rfl, p⟩
    · subst e
      exact ⟨rfl, p⟩
theorem sc_is_between : FnScope ["value", "low", "high"] ["value", "low", "high"] (defScope (top 5)) := ⟨rfl, rfl, rfl, by decide +kernel, rfl, by decide +kernel, by decide +kernel⟩
theorem ok_is_between {P : Program} {w : World} {K : PySem.W.Frag} {mg : Str → Option Value} {base : Heap} (T : Tx K mg) (h_is_integer : Fn P w K mg base 1 (He.fAd K ("is_integer", none)) ["value"] (sp_is_integer K)) : Fn P w K mg base 2 (He.fAd K ("is_between", none)) ["value", "low", "high"] (sp_is_between K) := by
  obtain ⟨_, F_is_integer, b_is_integer, kp_is_integer, lk_is_integer⟩ := h_is_integer
  obtain ⟨fd, F⟩ := T.d_is_between
  refine ⟨fd, F.ok sc_is_between (lift_len ?_) (fun cdv A outer s H vs Q E hr h => ?_), F.bindsN fun _ _ _ _ _ _ us hl => (match us, hl with | [_, _, _], _ => rfl), F.kp, lk_of F⟩
  · intro ts O P X h
    exact sp_is_between_len h
  · have hu := hr.units
    refine ⟨_, (PSs.nox (pss_one (ps_ret (pe_and (pe_call F_is_integer (hr.mono (by decide)) (by rfl) T.g_is_integer kp_is_integer b_is_integer .nil passL (pa_cons (pv 0) pa_nil)) (pe_one (pe_chain op_le op_le (pv 1) (pv 0) (pv 2))))))), enter h fun ts O P X h _ => ?_⟩
    try dsimp only [cxOf, Cx.nox, Cx.wish]
    
    obtain ⟨d, lo, hi, b, rfl, rfl, hb, p⟩ := h
    show WS _ _ _ _ [.v d, .v (.int lo), .v (.int hi)] _
    repeat walk_at "g"
    rcases hb with ⟨n, rfl, rfl⟩ | ⟨hd, rfl⟩
    · refine u_is_integer intQ_int ⟨⟨_, rfl⟩, ?_⟩
      refine ⟨_, rfl, tt_ ?_⟩
      repeat walk_at "g"
      refine br (fun h1 => ?_) (fun h1 => ?_)
      · repeat walk_at "g"
        rw [decide_eq_true h1, Bool.true_and] at p
        exact ⟨rfl, p⟩
      · rw [decide_eq_false h1, Bool.false_and] at p
        exact ⟨rfl, p⟩
    · refine u_is_integer hd ⟨⟨_, rfl⟩, ?_⟩
      refine ⟨_, rfl, ff_ ?_⟩
      exact ⟨rfl, p⟩
theorem sc_fits_modulus : FnScope ["value"] ["value"] (defScope (top 6)) := ⟨rfl, rfl, rfl, by decide +kernel, rfl, by decide +kernel, by decide +kernel⟩
theorem ok_fits_modulus {P : Program} {w : World} {K : PySem.W.Frag} {mg : Str → Option Value} {base : Heap} (T : Tx K mg) (h_is_between : Fn P w K mg base 2 (He.fAd K ("is_between", none)) ["value", "low", "high"] (sp_is_between K)) : Fn P w K mg base 3 (He.fAd K ("fits_modulus", none)) ["value"] (sp_fits_modulus K) := by
  obtain ⟨_, F_is_between, b_is_between, kp_is_between, lk_is_between⟩ := h_is_between
  obtain ⟨fd, F⟩ := T.d_fits_modulus
  obtain ⟨_, T_i_MOST_MODULUS⟩ := T.i_MOST_MODULUS_
  refine ⟨fd, F.ok sc_fits_modulus (lift_len ?_) (fun cdv A outer s H vs Q E hr h => ?_), F.bindsN fun _ _ _ _ _ _ us hl => (match us, hl with | [_], _ => rfl), F.kp, lk_of F⟩
  · intro ts O P X h
    exact sp_fits_modulus_len h
  · have hu := hr.units
    refine ⟨_, (PSs.nox (pss_one (ps_ret (pe_call F_is_between (hr.mono (by decide)) (by rfl) T.g_is_between kp_is_between b_is_between .nil passL (pa_cons (pv 0) (pa_cons pe_int (pa_cons (pe_glob (v := .int 1000000000000000000000000000000) (by rfl) T_i_MOST_MODULUS ⟨_, rfl⟩) pa_nil))))))), enter h fun ts O P X h _ => ?_⟩
    try dsimp only [cxOf, Cx.nox, Cx.wish]
    
    obtain ⟨d, b, rfl, rfl, hb, p⟩ := h
    show WS _ _ _ _ [.v d] _
    repeat walk_at "g"
    refine u_is_between hb ⟨⟨_, rfl⟩, ?_⟩
    exact ⟨rfl, p⟩
theorem sc_is_row : FnScope ["value"] ["value"] (defScope (top 7)) := ⟨rfl, rfl, rfl, by decide +kernel, rfl, by decide +kernel, by decide +kernel⟩
theorem ok_is_row {P : Program} {w : World} {K : PySem.W.Frag} {mg : Str → Option Value} {base : Heap} (T : Tx K mg)  : Fn P w K mg base 1 (He.fAd K ("is_row", none)) ["value"] (sp_is_row K) := by
  obtain ⟨fd, F⟩ := T.d_is_row
  refine ⟨fd, F.ok sc_is_row (lift_len ?_) (fun cdv A outer s H vs Q E hr h => ?_), F.bindsN fun _ _ _ _ _ _ us hl => (match us, hl with | [_], _ => rfl), F.kp, lk_of F⟩
  · intro ts O P X h
    exact sp_is_row_len h
  · have hu := hr.units
    refine ⟨_, (PSs.nox (pss_one (ps_ret (pe_callB (call_isiSK K) (by rfl) T.n_isinstance boot_isinstance (pa_cons (pv 0) (pa_cons (pe_tup (pa_cons (pe_bltn (v := .ty "list") (by rfl) T.n_list boot_list rfl) (pa_cons (pe_bltn (v := .ty "tuple") (by rfl) T.n_tuple boot_tuple rfl) pa_nil))) pa_nil)))))), enter h fun ts O P X h _ => ?_⟩
    try dsimp only [cxOf, Cx.nox, Cx.wish]
    
    obtain ⟨d, b, rfl, rfl, ⟨t, ht, h1⟩, p⟩ := h
    show WS _ _ _ _ [.v d] _
    repeat walk_at "g"
    refine c_isiS ht (.cons (.ty _) (.cons (.ty _) .nil)) h1 ?_
    exact ⟨rfl, p⟩
theorem sc_law_pen : FnScope ["_law_script"] ["_law_script"] (defScope (top 35)) := ⟨rfl, rfl, rfl, by decide +kernel, rfl, by decide +kernel, by decide +kernel⟩
theorem ok_law_pen {P : Program} {w : World} {K : PySem.W.Frag} {mg : Str → Option Value} {base : Heap} (T : Tx K mg)  : FnRaw P w K mg base 1 (He.fAd K ("_law_pen", none)) ["_law_script"] (penSp K 63) := by
  obtain ⟨fd, F⟩ := T.d_law_pen
  refine ⟨fd, F.ok sc_law_pen ?_ (fun cdv A outer s H vs Q E hr h => ?_), F.bindsN fun _ _ _ _ _ _ us hl => (match us, hl with | [_], _ => rfl), F.kp, lk_of F⟩
  · intro vs H Q E h
    exact penSp_len h
  · have hu := hr.units
    refine ⟨_, (PSs.nox (pss_one (ps_ret (pe_lst (pa_cons (pe_callTy (cr_listK K) (by rfl) T.n_list boot_list (pa_cons (pe_slice (sl_listK K) (pv 0) po_none (po_some pe_int)) pa_nil)) (pa_cons pe_int (pa_cons pe_int pa_nil))))))), ?_⟩
    try dsimp only [cxOf, Cx.nox, Cx.wish]
    
    obtain ⟨a, cs, rfl, hs, q⟩ := h
    refine ⟨.ref a, rfl, 63, rfl, a, _, rfl, hs, fun s0 e0 => ⟨s0, _, rfl, .inl (SqL.of upd_same), fun l e1 => ⟨Nat.le_of_ble_eq_true rfl, fun p e2 => q s0 l p e0 e1 e2⟩⟩⟩
theorem sc_law_draw : FnScope ["_law_pen_here", "_law_many", "_law_digit", "_law_at", "_law_cell", "_law_great", "_law_mixed"] ["_law_pen_here", "_law_many"] (defScope (top 36)) := ⟨rfl, rfl, rfl, by decide +kernel, rfl, by decide +kernel, by decide +kernel⟩
theorem ok_law_draw {P : Program} {w : World} {K : PySem.W.Frag} {mg : Str → Option Value} {base : Heap} (T : Tx K mg)  : Fn P w K mg base 1 (He.fAd K ("_law_draw", none)) ["_law_pen_here", "_law_many"] (sp_draw K) := by
  obtain ⟨fd, F⟩ := T.d_law_draw
  refine ⟨fd, F.ok sc_law_draw (lift_len ?_) (fun cdv A outer s H vs Q E hr h => ?_), F.bindsN fun _ _ _ _ _ _ us hl => (match us, hl with | [_, _], _ => rfl), F.kp, lk_of F⟩
  · intro ts O P X h
    exact sp_draw_len h
  · have hu := hr.units
    refine ⟨_, (PSs.nox (pss_cons (ps_if (pt_cmpR op_gt (pe_ix (ix_listK K) (pv 0) pe_int (fun _ _ => rfl)) pe_int (nomark _))
    (pss_cons (ps_set (i := 2) sc_law_draw.nd rfl (.inl rfl) (pe_op op_mod (pe_callTy call_int1 (by rfl) T.n_int boot_int (pa_cons (pe_ix (ix_listK K) (pv 0) pe_int (fun _ _ => rfl)) pa_nil)) (pv 1)))
    (pss_cons (ps_asg (pe_op op_fdivW (pe_callTy call_int1 (by rfl) T.n_int boot_int (pa_cons (pe_ix (ix_listK K) (pv 0) pe_int (fun _ _ => rfl)) pa_nil)) (pv 1)) (pg_sub (pv 0) pe_int set_list))
    (pss_one (ps_ret (pv 2)))))
    pss_nil)
    (pss_cons (ps_set (i := 3) sc_law_draw.nd rfl (.inl rfl) (pe_ix (ix_listK K) (pv 0) pe_int (fun _ _ => rfl)))
    (pss_cons (ps_asg (pe_op op_add (pv 3) pe_int) (pg_sub (pv 0) pe_int set_list))
    (pss_cons (ps_set (i := 4) sc_law_draw.nd rfl (.inl rfl) (pe_op op_add (pe_op op_mul pe_int (pv 3)) pe_int))
    (pss_cons (ps_if (pt_cmpR (op_neDK K hu) (pe_ix (ix_listK K) (pv 0) pe_int (fun _ _ => rfl)) (pe_lst pa_nil) (nomark _))
    (pss_one (ps_set (i := 4) sc_law_draw.nd rfl (.inl rfl) (pe_ix (ix_listK K) (pe_ix (ix_listK K) (pv 0) pe_int (fun _ _ => rfl)) (pe_op op_mod (pe_callTy call_int1 (by rfl) T.n_int boot_int (pa_cons (pv 3) pa_nil)) (pe_callB (cr_lenK K) (by rfl) T.n_len boot_len (pa_cons (pe_ix (ix_listK K) (pv 0) pe_int (fun _ _ => rfl)) pa_nil))) (fun _ _ => rfl))))
    pss_nil)
    (pss_cons (ps_if (PW.pt (pw_and (pt_cmpR op_lt (pv 3) (pe_callB (cr_lenK K) (by rfl) T.n_len boot_len (pa_cons (pe_ix (ix_listK K) (pv 0) pe_int (fun _ _ => rfl)) pa_nil)) (nomark _)) (pw_and1 (pt_cmpR op_ge (pe_callB call_abs (by rfl) T.n_abs boot_abs (pa_cons (pv 4) pa_nil)) (pe_op op_pow pe_int pe_int) (nomark _)))))
    (pss_cons (ps_set (i := 5) sc_law_draw.nd rfl (.inl rfl) (pe_op op_add (pe_op op_mul pe_int (pe_op op_sub (pe_callB call_abs (by rfl) T.n_abs boot_abs (pa_cons (pv 4) pa_nil)) (pe_op op_pow pe_int pe_int))) (pe_callTy call_int1 (by rfl) T.n_int boot_int (pa_cons (pe_cmpR op_lt (pv 4) pe_int (nomark _)) pa_nil))))
    (pss_cons (ps_asg (pe_op op_fdivW (pe_callTy call_int1 (by rfl) T.n_int boot_int (pa_cons (pv 5) pa_nil)) (pv 1)) (pg_sub (pv 0) pe_int set_list))
    (pss_one (ps_ret (pe_op op_mod (pe_callTy call_int1 (by rfl) T.n_int boot_int (pa_cons (pv 5) pa_nil)) (pv 1))))))
    pss_nil)
    (pss_cons (ps_set (i := 6) sc_law_draw.nd rfl (.inl rfl) (pe_op op_mod (pe_callTy call_int1 (by rfl) T.n_int boot_int (pa_cons (pe_op op_pow (pe_op op_add (pe_op op_add (pe_op op_mod (pe_callTy call_int1 (by rfl) T.n_int boot_int (pa_cons (pv 4) pa_nil)) pe_int) (pe_op op_mul pe_int (pv 3))) pe_int) pe_int) pa_nil)) pe_int))
    (pss_cons (ps_set (i := 6) sc_law_draw.nd rfl (.inl rfl) (pe_op op_mod (pe_callTy call_int1 (by rfl) T.n_int boot_int (pa_cons (pe_op op_pow (pe_op op_add (pe_op op_add (pe_op op_mulW (pv 6) (pe_op op_add (pe_op op_mul pe_int (pv 3)) pe_int)) (pe_op op_mulW (pe_op op_mul pe_int (pv 3)) (pv 3))) pe_int) pe_int) pa_nil)) pe_int))
    (pss_one (ps_ret (pe_op op_mod (pe_callTy call_int1 (by rfl) T.n_int boot_int (pa_cons (pe_op op_fdivW (pv 6) pe_int) pa_nil)) (pv 1))))))))))))), enter h fun ts O P X h _ => ?_⟩
    try dsimp only [cxOf, Cx.nox, Cx.wish]
    
    obtain ⟨n, p, m, rfl, rfl, hp, hn, h1, h2, k⟩ := h
    obtain ⟨cs, at_, g, rfl, ha, han, hg⟩ := hp
    show WS _ _ _ _ [.own 0, .v (.int m), .no, .no, .no, .no, .no] _
    repeat walk_at "g"
    refine br (fun hgt => ?_) (fun hgt => ?_)
    · repeat walk_at "g"
      exact ⟨rfl, k _ _ ⟨cs, at_, g / m, rfl, ha, by omega, Int.ediv_nonneg hg (by omega)⟩ (Int.emod_nonneg _ (by omega)) (Int.emod_lt_of_pos _ (by omega))⟩
    · repeat walk_at "e"
      walk_at "n"
      walk_at "n"
      walk_at "n"
      refine s_cut (fun ts' O' => ∃ c, ts' = [.own 0, .v (.int m), .no, .v (.int at_), .v (.int c), .no, .no] ∧ O' = [.lst [.lst (nums cs), .int (at_ + 1), .int g]]) ?_ ?_
      · repeat walk_at "g"
        refine w_neD valD_v valD_v pl_numsL pl_nilL ?_
        rw [eqD_nilL]
        refine ⟨_, rfl, nbr (fun hc => ?_) (fun hc => ?_)⟩
        · repeat walk_at "g"
          have hl : (0 : Int) < (nums cs).length := by
            rw [nums_len]
            have := List.length_pos_iff.mpr hc
            omega
          repeat walk_at "g"
          obtain ⟨x, hx, _⟩ := atI_nums (ns := cs) (i := at_ % ((nums cs).length : Int)) (Int.emod_nonneg _ (by omega)) (by rw [← nums_len]; exact Int.emod_lt_of_pos _ hl)
          refine w_ixL lstD_v hx ?_
          exact ⟨_, rfl, rfl⟩
        · repeat walk_at "g"
          exact rfl
      · rintro _ _ ⟨c, rfl, rfl⟩
        refine s_cut (fun ts' O' => ts' = [.own 0, .v (.int m), .no, .v (.int at_), .v (.int c), .no, .no] ∧ O' = [.lst [.lst (nums cs), .int (at_ + 1), .int g]]) ?_ ?_
        · repeat walk_at "e"
          refine br (fun _ => ?_) (fun _ => ff_ ?_)
          · repeat walk_at "e"
            refine br (fun hc => ?_) (fun _ => ?_)
            · repeat walk_at "g"
              have hgr : 0 ≤ 2 * ((if c < 0 then -c else c) - 10 ^ Int.toNat 18) + (if decide (c < 0) = true then 1 else 0) := by
                have e18 : (10 : Int) ^ Int.toNat 18 = 1000000000000000000 := by decide
                rw [e18] at hc ⊢
                split <;> split <;> omega
              exact ⟨rfl, k _ _ ⟨cs, at_ + 1, _, rfl, by omega, by omega, Int.ediv_nonneg hgr (by omega)⟩ (Int.emod_nonneg _ (by omega)) (Int.emod_lt_of_pos _ (by omega))⟩
            · repeat walk_at "e"
              exact ⟨rfl, rfl⟩
          · repeat walk_at "e"
            exact ⟨rfl, rfl⟩
        · rintro _ _ ⟨rfl, rfl⟩
          refine s_cut (fun ts' O' => ∃ x, 0 ≤ x ∧ x < 2147483629 ∧ ts' = [.own 0, .v (.int m), .no, .v (.int at_), .v (.int c), .no, .v (.int x)] ∧ O' = [.lst [.lst (nums cs), .int (at_ + 1), .int g]]) ?_ ?_
          · repeat walk_at "e"
            exact ⟨_, Int.emod_nonneg _ (by decide), Int.emod_lt_of_pos _ (by decide), rfl, rfl⟩
          · rintro _ _ ⟨x, hx0, hx1, rfl, rfl⟩
            have b1 := mulB (x := x) (y := 2 * at_ + 127) hx0 (Int.le_of_lt hx1) (by omega) (show 2 * at_ + 127 ≤ 2000000 + 127 by omega)
            have b2 := mulB (x := 126186 * at_) (y := at_) (by omega) (show 126186 * at_ ≤ 126186 * 1000000 by omega) ha (show at_ ≤ 1000000 by omega)
            refine s_cut (fun ts' O' => ∃ x, 0 ≤ x ∧ x < 2147483549 ∧ ts' = [.own 0, .v (.int m), .no, .v (.int at_), .v (.int c), .no, .v (.int x)] ∧ O' = [.lst [.lst (nums cs), .int (at_ + 1), .int g]]) ?_ ?_
            · repeat walk_at "e"
              exact ⟨_, Int.emod_nonneg _ (by decide), Int.emod_lt_of_pos _ (by decide), rfl, rfl⟩
            · rintro _ _ ⟨y, hy0, hy1, rfl, rfl⟩
              repeat walk_at "e"
              exact ⟨rfl, k _ _ ⟨cs, at_ + 1, g, rfl, by omega, by omega, hg⟩ (Int.emod_nonneg _ (by omega)) (Int.emod_lt_of_pos _ (by omega))⟩
theorem sc_law_pick : FnScope ["_law_pen_here", "_law_some"] ["_law_pen_here", "_law_some"] (defScope (top 37)) := ⟨rfl, rfl, rfl, by decide +kernel, rfl, by decide +kernel, by decide +kernel⟩
theorem ok_law_pick {P : Program} {w : World} {K : PySem.W.Frag} {mg : Str → Option Value} {base : Heap} (T : Tx K mg) (h_law_draw : Fn P w K mg base 1 (He.fAd K ("_law_draw", none)) ["_law_pen_here", "_law_many"] (sp_draw K)) : Fn P w K mg base 2 (He.fAd K ("_law_pick", none)) ["_law_pen_here", "_law_some"] (sp_pick K) := by
  obtain ⟨_, F_law_draw, b_law_draw, kp_law_draw, lk_law_draw⟩ := h_law_draw
  obtain ⟨fd, F⟩ := T.d_law_pick
  refine ⟨fd, F.ok sc_law_pick (lift_len ?_) (fun cdv A outer s H vs Q E hr h => ?_), F.bindsN fun _ _ _ _ _ _ us hl => (match us, hl with | [_, _], _ => rfl), F.kp, lk_of F⟩
  · intro ts O P X h
    exact sp_pick_len h
  · have hu := hr.units
    refine ⟨_, (PSs.nox (pss_one (ps_ret (pe_ix (ix_listK K) (pv 1) (pe_call F_law_draw (hr.mono (by decide)) (by rfl) T.g__law_draw kp_law_draw b_law_draw .nil passL (pa_cons (pv 0) (pa_cons (pe_callB (cr_lenK K) (by rfl) T.n_len boot_len (pa_cons (pv 1) pa_nil)) pa_nil))) (fun _ _ => rfl))))), enter h fun ts O P X h _ => ?_⟩
    try dsimp only [cxOf, Cx.nox, Cx.wish]
    
    obtain ⟨n, p, ds, rfl, rfl, hp, hn, h1, h2, k⟩ := h
    show WS _ _ _ _ [.own 0, .v (.lst ds)] _
    repeat walk_at "g"
    refine u_draw hp hn ?_ ?_ fun p' r hp' h3 h4 => ⟨_, rfl, nno, ?_⟩
    · omega
    · omega
    obtain ⟨d, e1, e2⟩ := atI_pos h3 h4
    refine w_ixL lstD_v e1 ?_
    exact ⟨rfl, k _ _ _ hp' e2⟩
theorem sc_binomial : FnScope ["n", "j", "found", "k"] ["n", "j"] (defScope (top 21)) := ⟨rfl, rfl, rfl, by decide +kernel, rfl, by decide +kernel, by decide +kernel⟩
theorem ok_binomial {P : Program} {w : World} {K : PySem.W.Frag} {mg : Str → Option Value} {base : Heap} (T : Tx K mg)  : Fn P w K mg base 1 (He.fAd K ("binomial", none)) ["n", "j"] (sp_binomial K) := by
  obtain ⟨fd, F⟩ := T.d_binomial
  refine ⟨fd, F.ok sc_binomial (lift_len ?_) (fun cdv A outer s H vs Q E hr h => ?_), F.bindsN fun _ _ _ _ _ _ us hl => (match us, hl with | [_, _], _ => rfl), F.kp, lk_of F⟩
  · intro ts O P X h
    exact sp_binomial_len h
  · have hu := hr.units
    refine ⟨_, (PSs.nox (pss_cons (ps_set (i := 2) sc_binomial.nd rfl (.inl rfl) pe_int)
    (pss_cons (ps_for PassesOwn.never rfl (pi_range1 (by rfl) T.n_range (pa_cons (pv 1) pa_nil)) (pg_name (i := 3) sc_binomial.nd rfl (.inl rfl))
    (pss_one (ps_set (i := 2) sc_binomial.nd rfl (.inl rfl) (pe_op op_fdivW (pe_op op_mulW (pv 2) (pe_op op_sub (pv 0) (pv 3))) (pe_op op_add (pv 3) pe_int)))))
    (pss_one (ps_ret (pv 2)))))), enter h fun ts O P X h _ => ?_⟩
    try dsimp only [cxOf, Cx.nox, Cx.wish]
    
    obtain ⟨n, j, rfl, rfl, hj, hn, p⟩ := h
    show WS _ _ _ _ [.v (.int n), .v (.int j), .no, .no] _
    walk_at "n"
    refine s_seq ?_
    refine s_forE ?_
    refine i_rng1 ?_
    repeat walk_at "e"
    refine ⟨by omega, ?_⟩
    rw [Int.toNat_natCast]
    refine for_R1 (fun i ts' O' => ∃ a : G.T, O' = [] ∧ ts' = [.v (.int n), .v (.int j), .v (.int (bin n i)), a]) ⟨_, rfl, rfl⟩ ?_ ?_
    · rintro i _ _ hi ⟨a, rfl, rfl⟩
      refine g_name ?_
      have hb := bin_bd hn i (by omega)
      repeat walk_at "e"
      refine w_mulW (mul_okP hb (b := 231) (by omega) (by omega)) ?_
      repeat walk_at "e"
      exact ⟨_, rfl, rfl⟩
    · rintro _ _ ⟨a, rfl, rfl⟩
      repeat walk_at "e"
      exact ⟨rfl, p⟩
end My

set_option Elab.async false
set_option linter.all false
set_option maxRecDepth 100000
set_option maxHeartbeats 0
namespace My
open PySem PySem.Spec PyProof.Rows L2 G

local macro_rules | `(tactic| walk_at "ws") => `(tactic| first
  | with_reducible refine s_set ?_
  | with_reducible refine s_if ?_
  | with_reducible refine s_ret ?_
  | with_reducible refine s_retN ?_
  | with_reducible refine s_drop ?_
  | with_reducible refine s_next ?_
  | with_reducible refine s_par ?_
  | with_reducible refine s_par3 ?_
  | refine s_fldN (by assumption) (by assumption) ?_
  | with_reducible refine s_asg ?_
  | refine s_raise1 ?_
  | refine s_raise2 ?_)
local macro_rules | `(tactic| walk_at "we") => `(tactic| first
  | ((with_reducible refine w_v (d := ?k2) ?k1 ?_); (case k1 => exact rfl))
  | ((with_reducible refine w_o (j := ?k2) ?k1 ?_); (case k1 => exact rfl))
  | ((guard_target = G.WE _ _ (tFld _ _ _) _ _ _ _); (refine w_fldN (by assumption) (by assumption) ?_))
  | ((guard_target = G.WE _ _ (tC (.ref _)) _ _ _ _); (refine w_ctup (by assumption) ?_))
  | with_reducible refine w_ci ?_
  | with_reducible refine w_op ?_
  | with_reducible refine w_call ?_
  | with_reducible refine w_cty ?_
  | with_reducible refine w_cb ?_
  | with_reducible refine w_cn ?_
  | with_reducible refine w_cs ?_
  | with_reducible refine w_cr ?_
  | with_reducible refine w_un ?_
  | with_reducible refine w_andV ?_
  | with_reducible refine w_orV ?_
  | with_reducible refine w_notV ?_
  | with_reducible refine w_ife ?_
  | with_reducible refine w_chain ?_
  | with_reducible refine w_tup ?_
  | with_reducible refine w_revL ?_
  | with_reducible refine w_slL ?_
  | with_reducible refine w_slT ?_
  | (guard_target = G.WE _ _ (tCall (lift _ (sp_draw _)) _ _ _) _ _ _ _; refine w_fn10 0 ?_)
  | (guard_target = G.WE _ _ (tCall (lift _ (sp_pick _)) _ _ _) _ _ _ _; refine w_fn10 0 ?_)
  | (guard_target = G.WE _ _ (tCall (lift _ (sp_l_modulus _)) _ _ _) _ _ _ _; refine w_fn10 0 ?_)
  | (guard_target = G.WE _ _ (tCall (lift _ (sp_l_numbers _)) _ _ _) _ _ _ _; refine w_fn10 0 ?_)
  | (guard_target = G.WE _ _ (tCall (lift _ (sp_right _)) _ _ _) _ _ _ _; refine w_fn10 0 ?_)
  | with_reducible refine w_fn0 ?_
  | with_reducible refine w_fnS0 ?_
  | with_reducible refine w_meth0 ?_
  | with_reducible refine w_make0 ?_
  | with_reducible refine w_bmL ?_
  | with_reducible refine w_bmL0 ?_
  | with_reducible refine w_lst ?_
  | with_reducible refine w_callKX ?_
  | with_reducible refine w_makeKX ?_
  | with_reducible refine w_makeX ?_
  | with_reducible refine w_smethX ?_
  | with_reducible refine w_smethK ?_
  | with_reducible refine w_smethK0 ?_
  | with_reducible refine w_fnV ?_
  | with_reducible refine w_fnX ?_
  | with_reducible refine w_fnSX ?_
  | with_reducible refine w_methX ?_
  | with_reducible refine w_callX ?_
  | with_reducible refine w_methK ?_
  | with_reducible refine w_callK2 ?_
  | with_reducible refine w_callI ?_
  | with_reducible refine w_prop ?_
  | with_reducible refine w_dic0 ?_
  | with_reducible refine w_jcons ?_
  | with_reducible refine w_jnil ?_
  | with_reducible refine w_join ?_
  | with_reducible refine w_split ?_
  | with_reducible refine w_smeth ?_
  | with_reducible refine w_fnKr ?_)
local macro_rules | `(tactic| walk_at "wt") => `(tactic| first
  | with_reducible refine w_test ?_
  | with_reducible refine w_B ?_
  | with_reducible refine w_and ?_
  | with_reducible refine w_or ?_
  | with_reducible refine w_not ?_)
local macro_rules | `(tactic| walk_at "wa") => `(tactic| first
  | with_reducible refine w_cons ?_
  | with_reducible refine w_nil ?_
  | with_reducible refine w_star ?_)
local macro_rules | `(tactic| walk_at "wr") => `(tactic| first
  | with_reducible refine w_add ?_
  | with_reducible refine w_sub ?_
  | with_reducible refine w_lt ?_
  | with_reducible refine w_le ?_
  | with_reducible refine w_gt ?_
  | with_reducible refine w_ge ?_
  | with_reducible refine w_eqI ?_
  | with_reducible refine w_neI ?_
  | with_reducible refine w_isN ?_
  | with_reducible refine w_notN ?_
  | ((with_reducible refine w_mod ?k1 ?_); (case k1 => first | decide | omega))
  | ((with_reducible refine w_mul ?k1 ?_); (case k1 => first | exact Or.inl ⟨by decide, by decide⟩ | exact Or.inr ⟨by decide, by decide⟩ | exact Or.inl ⟨by omega, by omega⟩ | exact Or.inr ⟨by omega, by omega⟩))
  | ((with_reducible refine w_pow ?k1 ?_); (case k1 => first | exact ⟨by decide, by decide, by decide⟩ | exact ⟨by omega, by omega, by omega⟩))
  | ((with_reducible refine w_fdivW ?k1 ?_); (case k1 => exact divW_ok (by first | decide | omega) (by first | decide | omega)))
  | ((with_reducible refine w_mulW ?k1 ?_); (case k1 => exact mulW_ok ⟨by omega, by omega⟩ ⟨by omega, by omega⟩))
  | ((guard_target = G.WR _ (rIxT _) _ _ _ _); (refine w_ixT (by first | exact atI_0 | exact atI_1 | exact atI_2 | exact atI_3 | exact atI_4 | exact atI_5 | exact atI_6 | assumption) ?_))
  | ((guard_target = G.WR _ (rIxL _) _ _ _ _); (refine w_ixL (by first | exact lstD_v | exact lstD_o rfl) (by first | exact atI_0 | exact atI_1 | exact atI_2 | exact atI_3 | exact atI_4 | exact atI_5 | exact atI_6 | assumption) ?_)))
local macro_rules | `(tactic| walk_at "wc") => `(tactic| first
  | with_reducible refine c_int ?_
  | with_reducible refine c_intB ?_
  | with_reducible refine c_abs ?_
  | ((guard_target = G.WC _ (G.rLen _) _ _ _); (refine c_lenL (by first | exact lstD_v | exact lstD_o rfl) ?_))
  | with_reducible refine c_lenT ?_
  | ((guard_target = G.WC _ (G.rListOf _) _ _ _); (refine c_listL (by first | exact lstD_v | exact lstD_o rfl) ?_))
  | with_reducible refine c_listT ?_
  | ((guard_target = G.WC _ (G.rTupOf _) _ _ _); (refine c_tupL (by first | exact lstD_v | exact lstD_o rfl) ?_))
  | with_reducible refine c_tupT ?_)
local macro_rules | `(tactic| walk_at "e") => `(tactic| first
  | (guard_target = G.WE _ _ _ _ _ _ _; walk_at "we")
  | (guard_target = G.WS _ _ _ _ _ _; walk_at "ws")
  | (guard_target = G.WA _ _ _ _ _ _ _; walk_at "wa")
  | (guard_target = G.WR _ _ _ _ _ _; walk_at "wr")
  | (guard_target = G.WT _ _ _ _ _ _ _; walk_at "wt")
  | (guard_target = G.WC _ _ _ _ _; walk_at "wc")
  | (guard_target = G.WU _ _ _ _ _; with_reducible refine w_neg ?_)
  | (guard_target = G.WG _ _ _ _ _ _ _; first | with_reducible refine g_name ?_ | with_reducible refine g_setL ?_ | refine g_pair rfl ?_ | refine g_trip rfl ?_ | refine g_quad rfl ?_)
  | (guard_target = G.WO _ _ _ _ _ _ _; first | with_reducible refine o_none ?_ | with_reducible refine o_some ?_)
  | with_reducible refine tt_ ?_
  | with_reducible refine ff_ ?_
  | with_reducible refine ntt_ ?_
  | with_reducible refine nff_ ?_
  | ((guard_target = ((!G.isNon _) = true → _) ∧ _); (first | refine bnF rfl ?_ | refine bnT rfl ?_))
  | ((guard_target = (G.isNon _ = true → _) ∧ _); (first | refine bF rfl ?_ | refine bT rfl ?_))
  | (guard_target = Exists _; first
    | refine ⟨_, rfl, Nat.le_of_ble_eq_true rfl, Nat.le_of_ble_eq_true rfl, ?_⟩
    | refine ⟨_, _, _, _, _, rfl, rfl, rfl, rfl, rfl, ?_⟩
    | refine ⟨_, _, _, rfl, rfl, rfl, Nat.le_of_ble_eq_true rfl, ?_⟩
    | refine ⟨_, _, rfl, rfl, rfl, ?_⟩
    | refine ⟨_, _, _, rfl, ?_⟩
    | refine ⟨_, _, (by first | exact insD_v | exact insD_o rfl), rfl, ?_⟩
    | refine ⟨_, _, rfl, ?_⟩
    | refine ⟨_, rfl, rfl, ?_⟩
    | refine ⟨_, rfl, Nat.le_of_ble_eq_true rfl, ?_⟩
    | refine ⟨_, (by first | exact lstD_v | exact lstD_o rfl), ?_⟩
    | refine ⟨_, rfl, ?_⟩))
local macro_rules | `(tactic| walk_at "o") => `(tactic| first | with_reducible refine w_lstO ?_ | walk_at "e")
local macro_rules | `(tactic| walk_at "g") => `(tactic| first | walk_at "e" | with_reducible refine s_seq ?_)
local macro_rules | `(tactic| walk_at "n") => `(tactic| (with_reducible refine s_seq ?_); (repeat walk_at "e"))
theorem sc_trimmed : FnScope ["modulus", "numbers", "found", ".0", "number"] ["modulus", "numbers"] (defScope (top 26)) := ⟨rfl, rfl, rfl, by decide +kernel, rfl, by decide +kernel, by decide +kernel⟩
theorem ok_trimmed {P : Program} {w : World} {K : PySem.W.Frag} {mg : Str → Option Value} {base : Heap} (T : Tx K mg)  : Fn P w K mg base 1 (He.fAd K ("trimmed", none)) ["modulus", "numbers"] (sp_s_trimmed K) := by
  obtain ⟨fd, F⟩ := T.d_trimmed
  refine ⟨fd, F.ok sc_trimmed (lift_len ?_) (fun cdv A outer s H vs Q E hr h => ?_), F.bindsN fun _ _ _ _ _ _ us hl => (match us, hl with | [_, _], _ => rfl), F.kp, lk_of F⟩
  · intro ts O P X h
    exact sp_s_trimmed_len h
  · have hu := hr.units
    refine ⟨_, (PSs.nox (pss_cons (ps_setLc (i := 2) (own := [(".0", 3), ("number", 4)]) rfl sc_trimmed.nd rfl rfl (sw_true rfl rfl rfl (by decide +kernel)) (pi_tupK K (pv 1)) (blkOk_by (own := [(".0", 3), ("number", 4)]) (N := ["modulus", "numbers", "found", ".0", "number"]) (sc := defScope (top 26)) (by decide +kernel)) (fun _ _ _ _ _ => (pg_name (i := 4) sc_trimmed.nd rfl (.inl rfl))) (fun _ _ _ _ _ => pts_nil) (fun _ _ _ _ _ => (pe_op op_mod (pv 4) (pv 0))))
    (pss_cons (ps_while PassesOwn.never (PW.pt (pw_and (pt_cmpR (op_neDK K hu) (pv 2) (pe_lst pa_nil) (nomark _)) (pw_and1 (pt_cmpR op_eq (pe_ix (ix_listK K) (pv 2) (pe_un un_neg pe_int) (fun _ _ => rfl)) pe_int (nomark _)))))
    (pss_one (ps_expr (pe_bm0 PySem.F.plainAttrs_list PySem.F.slot_list_pop PySem.F.type_list_pop mt_pop (pv 2)))))
    (pss_one (ps_ret (pe_callTy (cr_tupK K) (by rfl) T.n_tuple boot_tuple (pa_cons (pv 2) pa_nil))))))), enter h fun ts O P X h _ => ?_⟩
    try dsimp only [cxOf, Cx.nox, Cx.wish]
    
    obtain ⟨m, xs, rfl, rfl, hm, hl, p⟩ := h
    show WS _ _ _ _ [.v (.int m), .v (.tup (nums xs)), .no, .no, .no] _
    refine s_seq ?_
    repeat walk_at "e"
    refine w_lcO1 ?_ (by decide)
    refine i_tup ?_
    repeat walk_at "e"
    refine lcO_A xs D.int (fun x => .int (x % m)) (by omega) (fun x acc hx => ?_) ?_
    · refine g_name ?_
      repeat walk_at "e"
      exact ⟨rfl, rfl⟩
    repeat walk_at "e"
    refine s_seq ?_
    refine s_while (fun n ts' O' => ∃ ys : List Int, n = ys.length ∧ O' = [.lst (nums ys)] ∧ ts' = [.v (.int m), .v (.tup (nums xs)), .own 0, .no, .no] ∧ cut ys = tr m xs ∧ ys.length ≤ 100) (xs.map (· % m)).length ⟨xs.map (· % m), rfl, (by unfold nums; rw [List.map_map]; rfl), rfl, rfl, (by rw [List.length_map]; exact hl)⟩ ?_
    rintro n _ _ ⟨ys, rfl, rfl, rfl, hc, hl2⟩
    repeat walk_at "e"
    refine w_neD (valD_o (by exact rfl)) valD_v pl_numsL pl_nilL ?_
    rw [eqD_nilL]
    refine ⟨_, rfl, nbr (fun hn => ?_) (fun hn => ?_)⟩
    · obtain ⟨zs, z, rfl⟩ : ∃ zs z, ys = zs ++ [z] := ⟨_, _, (List.dropLast_concat_getLast hn).symm⟩
      repeat walk_at "e"
      refine w_ixL (lstD_o (by exact rfl)) atI_m1n ?_
      repeat walk_at "e"
      refine br (fun hz => ?_) (fun hz => ?_)
      · subst hz
        rw [List.length_append, List.length_singleton] at hl2 ⊢
        repeat walk_at "e"
        refine m_pop (by exact rfl) nums_last ?_
        repeat walk_at "e"
        exact ⟨zs.length, Nat.lt_succ_self _, zs, rfl, by rw [nums_pop] <;> rfl, rfl, by rw [← hc, My.cut_snoc0], by omega⟩
      · rw [My.cut_snoc hz] at hc
        rw [hc]
        refine s_frz 0 rfl rfl ?_
        repeat walk_at "e"
        exact ⟨rfl, p⟩
    · subst hn
      have hc : [] = tr m xs := hc
      rw [hc]
      refine ff_ ?_
      refine s_frz 0 rfl rfl ?_
      repeat walk_at "e"
      exact ⟨rfl, p⟩
theorem sc_value_of : FnScope ["coefs", "beat", ".0", "at", "coef"] ["coefs", "beat"] (defScope (top 28)) := ⟨rfl, rfl, rfl, by decide +kernel, rfl, by decide +kernel, by decide +kernel⟩
theorem ok_value_of {P : Program} {w : World} {K : PySem.W.Frag} {mg : Str → Option Value} {base : Heap} (T : Tx K mg) (h_binomial : Fn P w K mg base 1 (He.fAd K ("binomial", none)) ["n", "j"] (sp_binomial K)) : Fn P w K mg base 2 (He.fAd K ("value_of", none)) ["coefs", "beat"] (sp_s_value K) := by
  obtain ⟨_, F_binomial, b_binomial, kp_binomial, lk_binomial⟩ := h_binomial
  obtain ⟨fd, F⟩ := T.d_value_of
  refine ⟨fd, F.ok sc_value_of (lift_len ?_) (fun cdv A outer s H vs Q E hr h => ?_), F.bindsN fun _ _ _ _ _ _ us hl => (match us, hl with | [_, _], _ => rfl), F.kp, lk_of F⟩
  · intro ts O P X h
    exact sp_s_value_len h
  · have hu := hr.units
    refine ⟨_, (PSs.nox (pss_one (ps_ret (pe_callB (cr_sumK K rfl) (by rfl) T.n_sum boot_sum (pa_cons (pe_lc (own := [(".0", 2), ("at", 3), ("coef", 4)]) rfl sc_value_of.nd (pi_enumT (by rfl) T.n_enumerate (pa_cons (pv 0) pa_nil)) (blkOk_by (own := [(".0", 2), ("at", 3), ("coef", 4)]) (N := ["coefs", "beat", ".0", "at", "coef"]) (sc := defScope (top 28)) (by decide +kernel)) (fun _ _ _ _ _ => (pg_tupK K (n := 2) rfl (pgs_cons (pg_name (i := 3) sc_value_of.nd rfl (.inl rfl)) (pgs_cons (pg_name (i := 4) sc_value_of.nd rfl (.inl rfl)) pgs_nil)))) (fun _ _ _ _ _ => pts_nil) (fun _ _ _ _ _ => (pe_op op_mulW (pv 4) (pe_call F_binomial (hr.mono (by decide)) (by rfl) T.g_binomial kp_binomial b_binomial .nil passL (pa_cons (pv 1) (pa_cons (pv 3) pa_nil)))))) pa_nil))))), enter h fun ts O P X h _ => ?_⟩
    try dsimp only [cxOf, Cx.nox, Cx.wish]
    
    obtain ⟨xs, n, rfl, rfl, hl, hs, hn, p⟩ := h
    show WS _ _ _ _ [.v (.tup (nums xs)), .v (.int n), .no, .no, .no] _
    repeat walk_at "e"
    refine w_lcT ?_ (tgt_pair (by decide) (by decide))
    refine i_enumT ?_
    repeat walk_at "e"
    refine lc_EN xs (fun i c => c * bin n i) (by omega) (fun i c acc hc => ?_) ?_
    · have hi : i < xs.length := (List.getElem?_eq_some_iff.mp hc).1
      refine g_pair rfl ?_
      repeat walk_at "e"
      refine ⟨n, i, rfl, rfl, by omega, hn, ⟨⟨_, rfl⟩, ?_⟩⟩
      refine w_mulW (mul_okP (hs c (List.mem_of_getElem? hc)) (bin_bd hn i (by omega)) (by omega)) ?_
      exact ⟨rfl, rfl⟩
    repeat walk_at "e"
    refine c_sum lstD_v ?_
    rw [My.terms_V]
    exact ⟨rfl, p⟩
theorem sc_SumU_initU : FnScope ["self", "modulus", "coefs", "value"] ["self", "modulus", "coefs"] (defScope (inClass (top 33) 1)) := ⟨rfl, rfl, rfl, by decide +kernel, rfl, by decide +kernel, by decide +kernel⟩
theorem ok_SumU_initU {P : Program} {w : World} {K : PySem.W.Frag} {mg : Str → Option Value} {base : Heap} (T : Tx K mg) (h_fits_modulus : Fn P w K mg base 3 (He.fAd K ("fits_modulus", none)) ["value"] (sp_fits_modulus K)) (h_is_integer : Fn P w K mg base 1 (He.fAd K ("is_integer", none)) ["value"] (sp_is_integer K)) (h_trimmed : Fn P w K mg base 1 (He.fAd K ("trimmed", none)) ["modulus", "numbers"] (sp_s_trimmed K)) : FnS P w K mg base 4 (He.fAd K ("Sum", some "__init__")) 2 (sp_s_init K) := by
  obtain ⟨_, F_fits_modulus, b_fits_modulus, kp_fits_modulus, lk_fits_modulus⟩ := h_fits_modulus
  obtain ⟨_, F_is_integer, b_is_integer, kp_is_integer, lk_is_integer⟩ := h_is_integer
  obtain ⟨_, F_trimmed, b_trimmed, kp_trimmed, lk_trimmed⟩ := h_trimmed
  obtain ⟨fd, F⟩ := T.d_SumU_initU
  obtain ⟨_, T_i_MOST_COEFS⟩ := T.i_MOST_COEFS_
  have hc_Sum := T.cl_Sum
  have hn_Sum_coefs := T.na_Sum_coefs
  have hc_Sum := T.cl_Sum
  have hn_Sum_modulus := T.na_Sum_modulus
  refine fnS (ps := ["self", "modulus"]) F sc_SumU_initU (fun _ _ _ _ _ _ us rest hl => match us, rest, hl with | [a0, a1], [], _ => rfl | [a0, a1], _ :: _, _ => rfl) (fun cdv A outer s H vs Q E hr h => ?_)
  have hu := hr.units
  refine ⟨_, (PSs.nox (pss_cons (ps_if (pt_not (pt_val (pe_call F_fits_modulus (hr.mono (by decide)) (by rfl) T.g_fits_modulus kp_fits_modulus b_fits_modulus .nil passL (pa_cons (pv 1) pa_nil))))
    (pss_one ps_never)
    pss_nil)
    (pss_cons (ps_for PassesOwn.never rfl (pi_tupK K (pv 2)) (pg_name (i := 3) sc_SumU_initU.nd rfl (.inl rfl))
    (pss_one (ps_if (pt_not (pt_val (pe_call F_is_integer (hr.mono (by decide)) (by rfl) T.g_is_integer kp_is_integer b_is_integer .nil passL (pa_cons (pv 3) pa_nil))))
    (pss_one ps_never)
    pss_nil)))
    (pss_cons (ps_if (pt_cmpR op_gt (pe_callB (cr_lenK K) (by rfl) T.n_len boot_len (pa_cons (pv 2) pa_nil)) (pe_glob (v := .int 13) (by rfl) T_i_MOST_COEFS ⟨_, rfl⟩) (nomark _))
    (pss_one ps_never)
    pss_nil)
    (pss_cons (ps_fld (pv 0) (pv 1) rfl)
    (pss_one (ps_fld (pv 0) (pe_call F_trimmed (hr.mono (by decide)) (by rfl) T.g_trimmed kp_trimmed b_trimmed .nil passL (pa_cons (pv 1) (pa_cons (pv 2) pa_nil))) rfl))))))), enter h fun ts O P X h _ => ?_⟩
  try dsimp only [cxOf, Cx.nox, Cx.wish]
  
  obtain ⟨m, xs, rfl, rfl, h1, h2, hl, p⟩ := h
  show WS _ _ _ _ [.own 0, .v (.int m), .v (.tup (nums xs)), .no] _
  walk_at "n"
  refine u_fits_modulus (btw_int h1 h2) ⟨⟨_, rfl⟩, ?_⟩
  repeat walk_at "e"
  refine s_seq ?_
  refine s_forE ?_
  refine i_tup ?_
  repeat walk_at "e"
  refine for_N (fun i ts' O' => ∃ a : G.T, O' = [.ins (He.ga K "Sum") []] ∧ ts' = [.own 0, .v (.int m), .v (.tup (nums xs)), a]) ⟨_, rfl, rfl⟩ ?_ ?_
  · rintro i r _ _ hi er ⟨a, rfl, rfl⟩
    refine g_name ?_
    repeat walk_at "e"
    refine u_is_integer intQ_int ⟨⟨_, rfl⟩, ?_⟩
    repeat walk_at "e"
    exact ⟨_, rfl, rfl⟩
  · rintro _ _ ⟨a, rfl, rfl⟩
    walk_at "n"
    rw [nums_len]
    refine brF (by omega) ?_
    repeat walk_at "g"
    refine ⟨m, xs, rfl, rfl, h1, by omega, ⟨⟨_, rfl⟩, ?_⟩⟩
    repeat walk_at "e"
    exact ⟨rfl, p⟩
theorem sc_SumU_callU : FnScope ["self", "n"] ["self", "n"] (defScope (inClass (top 33) 5)) := ⟨rfl, rfl, rfl, by decide +kernel, rfl, by decide +kernel, by decide +kernel⟩
theorem ok_SumU_callU {P : Program} {w : World} {K : PySem.W.Frag} {mg : Str → Option Value} {base : Heap} (T : Tx K mg) (h_is_integer : Fn P w K mg base 1 (He.fAd K ("is_integer", none)) ["value"] (sp_is_integer K)) (h_value_of : Fn P w K mg base 2 (He.fAd K ("value_of", none)) ["coefs", "beat"] (sp_s_value K)) : Fn P w K mg base 3 (He.fAd K ("Sum", some "__call__")) ["self", "n"] (sp_s_call K) := by
  obtain ⟨_, F_is_integer, b_is_integer, kp_is_integer, lk_is_integer⟩ := h_is_integer
  obtain ⟨_, F_value_of, b_value_of, kp_value_of, lk_value_of⟩ := h_value_of
  obtain ⟨fd, F⟩ := T.d_SumU_callU
  have hc_Sum := T.cl_Sum
  have hn_Sum_coefs := T.na_Sum_coefs
  have hc_Sum := T.cl_Sum
  have hn_Sum_modulus := T.na_Sum_modulus
  refine ⟨fd, F.ok sc_SumU_callU (lift_len ?_) (fun cdv A outer s H vs Q E hr h => ?_), F.bindsN fun _ _ _ _ _ _ us hl => (match us, hl with | [_, _], _ => rfl), F.kp, lk_of F⟩
  · intro ts O P X h
    exact sp_s_call_len h
  · have hu := hr.units
    refine ⟨_, (PSs.nox (pss_cons (ps_if (pt_not (pt_val (pe_call F_is_integer (hr.mono (by decide)) (by rfl) T.g_is_integer kp_is_integer b_is_integer .nil passL (pa_cons (pv 1) pa_nil))))
    (pss_one ps_never)
    pss_nil)
    (pss_one (ps_ret (pe_op op_mod (pe_call F_value_of (hr.mono (by decide)) (by rfl) T.g_value_of kp_value_of b_value_of .nil passL (pa_cons (pe_fldK K (pv 0)) (pa_cons (pv 1) pa_nil))) (pe_fldK K (pv 0))))))), enter h fun ts O P X h _ => ?_⟩
    try dsimp only [cxOf, Cx.nox, Cx.wish]
    
    obtain ⟨m, cs, n, rfl, rfl, ok, hn, p⟩ := h
    have ok1 := ok.two
    show WS _ _ _ _ [.v (sumD K m cs), .v (.int n)] _
    walk_at "n"
    refine u_is_integer intQ_int ⟨⟨_, rfl⟩, ?_⟩
    repeat walk_at "e"
    refine ⟨cs, n, rfl, rfl, ok.len, fun x hx => Nat.lt_of_lt_of_le (ok.sml x hx) (Nat.pow_le_pow_right (by decide) (by decide)), hn, ⟨⟨_, rfl⟩, ?_⟩⟩
    repeat walk_at "e"
    exact ⟨rfl, p⟩
theorem sc_SumU_eqU : FnScope ["self", "other"] ["self", "other"] (defScope (inClass (top 33) 27)) := ⟨rfl, rfl, rfl, by decide +kernel, rfl, by decide +kernel, by decide +kernel⟩
theorem ok_SumU_eqU {P : Program} {w : World} {K : PySem.W.Frag} {mg : Str → Option Value} {base : Heap} (T : Tx K mg)  : Fn P w K mg base 1 (He.fAd K ("Sum", some "__eq__")) ["self", "other"] (sp_s_eq K) := by
  obtain ⟨fd, F⟩ := T.d_SumU_eqU
  have hc_Sum := T.cl_Sum
  have hn_Sum_coefs := T.na_Sum_coefs
  have hc_Sum := T.cl_Sum
  have hn_Sum_modulus := T.na_Sum_modulus
  refine ⟨fd, F.ok sc_SumU_eqU (lift_len ?_) (fun cdv A outer s H vs Q E hr h => ?_), F.bindsN fun _ _ _ _ _ _ us hl => (match us, hl with | [_, _], _ => rfl), F.kp, lk_of F⟩
  · intro ts O P X h
    exact sp_s_eq_len h
  · have hu := hr.units
    refine ⟨_, (PSs.nox (pss_one (ps_ret (pe_and (pe_callB (call_isiK K) (by rfl) T.n_isinstance boot_isinstance (pa_cons (pv 1) (pa_cons (pe_glob (v := .ref (He.ga K "Sum")) (by rfl) T.g_Sum rfl) pa_nil))) (pe_and (pe_cmpR op_eq (pe_fldK K (pv 0)) (pe_fldK K (pv 1)) (nomark _)) (pe_one (pe_cmpR (op_eqDK K hu) (pe_fldK K (pv 0)) (pe_fldK K (pv 1)) (nomark _)))))))), enter h fun ts O P X h _ => ?_⟩
    try dsimp only [cxOf, Cx.nox, Cx.wish]
    
    obtain ⟨m, cs, m2, ds, rfl, rfl, p⟩ := h
    show WS _ _ _ _ [.v (sumD K m cs), .v (sumD K m2 ds)] _
    repeat walk_at "e"
    refine c_isi (.ins _ _ T.it_Sum) (.own _) T.kit_Sum_Sum ?_
    repeat walk_at "e"
    refine br (fun e => ?_) (fun e => ?_)
    · repeat walk_at "e"
      refine w_eqD valD_v valD_v pl_numsT pl_numsT ?_
      rw [eqD_numsT]
      rw [decide_eq_true e, Bool.true_and] at p
      exact ⟨rfl, p⟩
    · rw [decide_eq_false e, Bool.false_and] at p
      exact ⟨rfl, p⟩
theorem sc_SumU_lenU : FnScope ["self"] ["self"] (defScope (inClass (top 33) 8)) := ⟨rfl, rfl, rfl, by decide +kernel, rfl, by decide +kernel, by decide +kernel⟩
theorem ok_SumU_lenU {P : Program} {w : World} {K : PySem.W.Frag} {mg : Str → Option Value} {base : Heap} (T : Tx K mg)  : Fn P w K mg base 1 (He.fAd K ("Sum", some "__len__")) ["self"] (sp_s_len K) := by
  obtain ⟨fd, F⟩ := T.d_SumU_lenU
  have hc_Sum := T.cl_Sum
  have hn_Sum_coefs := T.na_Sum_coefs
  refine ⟨fd, F.ok sc_SumU_lenU (lift_len ?_) (fun cdv A outer s H vs Q E hr h => ?_), F.bindsN fun _ _ _ _ _ _ us hl => (match us, hl with | [_], _ => rfl), F.kp, lk_of F⟩
  · intro ts O P X h
    exact sp_s_len_len h
  · have hu := hr.units
    refine ⟨_, (PSs.nox (pss_one (ps_ret (pe_callB (cr_lenK K) (by rfl) T.n_len boot_len (pa_cons (pe_fldK K (pv 0)) pa_nil))))), enter h fun ts O P X h _ => ?_⟩
    try dsimp only [cxOf, Cx.nox, Cx.wish]
    
    obtain ⟨m, cs, rfl, rfl, p⟩ := h
    show WS _ _ _ _ [.v (sumD K m cs)] _
    repeat walk_at "e"
    rw [nums_len]
    exact ⟨rfl, p⟩
theorem sc_differences : FnScope ["values", "found", "left", ".0", "before", "after"] ["values"] (defScope (top 27)) := ⟨rfl, rfl, rfl, by decide +kernel, rfl, by decide +kernel, by decide +kernel⟩
theorem ok_differences {P : Program} {w : World} {K : PySem.W.Frag} {mg : Str → Option Value} {base : Heap} (T : Tx K mg)  : Fn P w K mg base 1 (He.fAd K ("differences", none)) ["values"] (sp_s_diffq K) := by
  obtain ⟨fd, F⟩ := T.d_differences
  refine ⟨fd, F.ok sc_differences (lift_len ?_) (fun cdv A outer s H vs Q E hr h => ?_), F.bindsN fun _ _ _ _ _ _ us hl => (match us, hl with | [_], _ => rfl), F.kp, lk_of F⟩
  · intro ts O P X h
    exact sp_s_diffq_len h
  · have hu := hr.units
    refine ⟨_, (PSs.nox (pss_cons (ps_set (i := 1) sc_differences.nd rfl (.inl rfl) (pe_lst pa_nil))
    (pss_cons (ps_set (i := 2) sc_differences.nd rfl (.inl rfl) (pe_callTy (cr_listK K) (by rfl) T.n_list boot_list (pa_cons (pv 0) pa_nil)))
    (pss_cons (ps_while PassesOwn.never (pt_cmpR (op_neDK K hu) (pv 2) (pe_lst pa_nil) (nomark _))
    (pss_cons (ps_expr (pe_bm PySem.F.plainAttrs_list PySem.F.slot_list_append PySem.F.type_list_append mt_append (pv 1) (pa_cons (pe_ix (ix_listK K) (pv 2) pe_int (fun _ _ => rfl)) pa_nil)))
    (pss_one (ps_setLc (i := 2) (own := [(".0", 3), ("before", 4), ("after", 5)]) rfl sc_differences.nd rfl rfl (sw_true rfl rfl rfl (by decide +kernel)) (RZ.pi_zipA (by rfl) T.n_zip (pa_cons (pv 2) (pa_cons (pe_slice (sl_listK K) (pv 2) (po_some pe_int) po_none) pa_nil))) (blkOk_by (own := [(".0", 3), ("before", 4), ("after", 5)]) (N := ["values", "found", "left", ".0", "before", "after"]) (sc := defScope (top 27)) (by decide +kernel)) (fun _ _ _ _ _ => (pg_tupK K (n := 2) rfl (pgs_cons (pg_name (i := 4) sc_differences.nd rfl (.inl rfl)) (pgs_cons (pg_name (i := 5) sc_differences.nd rfl (.inl rfl)) pgs_nil)))) (fun _ _ _ _ _ => pts_nil) (fun _ _ _ _ _ => (pe_op op_sub (pv 5) (pv 4)))))))
    (pss_one (ps_ret (pv 1))))))), enter h fun ts O P X h _ => ?_⟩
    try dsimp only [cxOf, Cx.nox, Cx.wish]
    
    obtain ⟨d, xs, rfl, rfl, hd, hl, p⟩ := h
    show WS _ _ _ _ [.v d, .no, .no, .no, .no, .no] _
    refine s_seq ?_
    repeat walk_at "o"
    refine s_seq ?_
    refine s_set ?_
    refine w_via (t := .v (.lst (nums xs))) (O' := [.lst []]) (fun P' kk => ?_) ?_
    · rcases hd with rfl | rfl
      · repeat walk_at "e"
        exact kk
      · repeat walk_at "e"
        exact kk
    refine s_seq ?_
    refine s_while (fun n ts' O' => ∃ fs ls : List Int, n = ls.length ∧ O' = [.lst (nums fs)] ∧ ts' = [.v d, .own 0, .v (.lst (nums ls)), .no, .no, .no] ∧ fs ++ dv ls = dv xs ∧ fs.length + ls.length ≤ 100) xs.length ⟨[], xs, rfl, rfl, rfl, rfl, by rw [List.length_nil]; omega⟩ ?_
    rintro n _ _ ⟨fs, ls, rfl, rfl, rfl, hd, hl2⟩
    repeat walk_at "e"
    refine w_neD valD_v valD_v pl_numsL pl_nilL ?_
    rw [eqD_nilL]
    refine ⟨_, rfl, nbr (fun hn => ?_) (fun hn => ?_)⟩
    · obtain ⟨x, r, rfl⟩ := List.exists_cons_of_ne_nil hn
      rw [List.length_cons] at hl2
      repeat walk_at "e"
      refine s_seq ?_
      repeat walk_at "e"
      refine m_append (by exact rfl) (lt_sz (by omega)) ?_
      repeat walk_at "e"
      refine w_lcT ?_ (tgt_pair (by decide) (by decide))
      refine i_zipL ?_
      repeat walk_at "e"
      rw [show cutD (nums (x :: r)) (some 1) none = (nums (x :: r)).drop 1 from cutD_drop (n := 1) (by rw [nums_len, List.length_cons]; omega)]
      refine lc_D (x :: r) (by rw [List.length_cons]; omega) (fun a b acc => ?_) ?_
      · refine g_pair rfl ?_
        repeat walk_at "e"
        exact ⟨rfl, rfl⟩
      repeat walk_at "e"
      rw [My.dv_cons] at hd
      exact ⟨(diff (x :: r)).length, by rw [My.diff_len, List.length_cons]; omega, fs ++ [x], diff (x :: r), rfl, by rw [← nums_app] <;> rfl, rfl, by rw [← hd, List.append_assoc] <;> rfl, by rw [My.diff_len]; simp only [List.length_append, List.length_cons, List.length_nil]; omega⟩
    · subst hn
      rw [My.dv_nil, List.append_nil] at hd
      subst hd
      refine s_frz 0 rfl rfl ?_
      repeat walk_at "e"
      exact ⟨rfl, p⟩
theorem sc_Sum_of : FnScope ["modulus", "values", "found", ".0", "one"] ["modulus", "values"] (defScope (inClass (top 33) 2)) := ⟨rfl, rfl, rfl, by decide +kernel, rfl, by decide +kernel, by decide +kernel⟩
theorem ok_Sum_of {P : Program} {w : World} {K : PySem.W.Frag} {mg : Str → Option Value} {base : Heap} (T : Tx K mg) (h_fits_modulus : Fn P w K mg base 3 (He.fAd K ("fits_modulus", none)) ["value"] (sp_fits_modulus K)) (h_is_row : Fn P w K mg base 1 (He.fAd K ("is_row", none)) ["value"] (sp_is_row K)) (h_is_integer : Fn P w K mg base 1 (He.fAd K ("is_integer", none)) ["value"] (sp_is_integer K)) (h_differences : Fn P w K mg base 1 (He.fAd K ("differences", none)) ["values"] (sp_s_diffq K)) (h_SumU_initU : FnS P w K mg base 4 (He.fAd K ("Sum", some "__init__")) 2 (sp_s_init K)) : Fn P w K mg base 6 (pr_Sum_of.g K) ["modulus", "values"] (sp_s_of K) := by
  obtain ⟨_, F_fits_modulus, b_fits_modulus, kp_fits_modulus, lk_fits_modulus⟩ := h_fits_modulus
  obtain ⟨_, F_is_row, b_is_row, kp_is_row, lk_is_row⟩ := h_is_row
  obtain ⟨_, F_is_integer, b_is_integer, kp_is_integer, lk_is_integer⟩ := h_is_integer
  obtain ⟨_, F_differences, b_differences, kp_differences, lk_differences⟩ := h_differences
  obtain ⟨F_SumU_initU, kp_SumU_initU⟩ := h_SumU_initU
  obtain ⟨fd, F⟩ := T.d_Sum_of
  obtain ⟨_, T_i_MOST_COEFS⟩ := T.i_MOST_COEFS_
  refine ⟨fd, F.ok sc_Sum_of (lift_len ?_) (fun cdv A outer s H vs Q E hr h => ?_), F.bindsN fun _ _ _ _ _ _ us hl => (match us, hl with | [_, _], _ => rfl), F.kp, lk_of F⟩
  · intro ts O P X h
    exact sp_s_of_len h
  · have hu := hr.units
    refine ⟨_, (PSs.nox (pss_cons (ps_if (pt_not (pt_val (pe_call F_fits_modulus (hr.mono (by decide)) (by rfl) T.g_fits_modulus kp_fits_modulus b_fits_modulus .nil passL (pa_cons (pv 0) pa_nil))))
    (pss_one ps_never)
    pss_nil)
    (pss_cons (ps_if (PW.pt (pw_or (pt_not (pt_val (pe_call F_is_row (hr.mono (by decide)) (by rfl) T.g_is_row kp_is_row b_is_row .nil passL (pa_cons (pv 1) pa_nil)))) (pw_or (pt_not (pt_chain op_le op_le pe_int (pe_callB (cr_lenK K) (by rfl) T.n_len boot_len (pa_cons (pv 1) pa_nil)) (pe_glob (v := .int 13) (by rfl) T_i_MOST_COEFS ⟨_, rfl⟩))) (pw_or1 (pt_not (pt_val (pe_callB (cr_allK K rfl) (by rfl) T.n_all boot_all (pa_cons (pe_lc (own := [(".0", 3), ("one", 4)]) rfl sc_Sum_of.nd (pi_or (pi_listK K (pv 1)) (pi_tupK K (pv 1))) (blkOk_by (own := [(".0", 3), ("one", 4)]) (N := ["modulus", "values", "found", ".0", "one"]) (sc := defScope (inClass (top 33) 2)) (by decide +kernel)) (fun _ _ _ _ _ => (pg_name (i := 4) sc_Sum_of.nd rfl (.inl rfl))) (fun _ _ _ _ _ => pts_nil) (fun _ _ _ _ _ => (pe_call F_is_integer (hr.mono (by decide)) (by rfl) T.g_is_integer kp_is_integer b_is_integer .nil passL (pa_cons (pv 4) pa_nil)))) pa_nil))))))))
    (pss_one ps_never)
    pss_nil)
    (pss_cons (ps_set (i := 2) sc_Sum_of.nd rfl (.inl rfl) (pe_call F_differences (hr.mono (by decide)) (by rfl) T.g_differences kp_differences b_differences .nil passL (pa_cons (pv 1) pa_nil)))
    (pss_one (ps_ret (pe_makeZ T.mk_Sum F_SumU_initU (hr.mono (by decide)) (by rfl) T.g_Sum passL (pa_cons (pv 0) (StX.pa_star (pv 2) pa_nil))))))))), enter h fun ts O P X h _ => ?_⟩
    try dsimp only [cxOf, Cx.nox, Cx.wish]
    
    obtain ⟨m, d, xs, rfl, rfl, hd, m1, m2, h1, h2, p⟩ := h
    show WS _ _ _ _ [.v (.int m), .v d, .no, .no, .no] _
    rcases hd with rfl | rfl
    
    · walk_at "n"
      refine u_fits_modulus (btw_int m1 m2) ⟨⟨_, rfl⟩, ?_⟩
      repeat walk_at "e"
      walk_at "n"
      refine u_is_row rowQ_lst ⟨⟨_, rfl⟩, ?_⟩
      repeat walk_at "e"
      rw [nums_len]
      rw [decide_eq_true (show (1 : Int) ≤ ((xs.length : Nat) : Int) by omega)]
      refine ⟨fun _ => ?_, fun z => by cases z⟩
      repeat walk_at "e"
      rw [decide_eq_true (show ((xs.length : Nat) : Int) ≤ 13 by omega)]
      repeat walk_at "e"
      refine w_lc1 ?_ (by decide)
      refine i_or1 (i_list ?_)
      repeat walk_at "e"
      refine lc_A xs (fun x => .int x) (fun _ => .bl true) (by omega) (fun x acc hx => ?_) ?_
      · refine g_name ?_
        repeat walk_at "e"
        refine u_is_integer intQ_int ⟨⟨_, rfl⟩, ?_⟩
        exact ⟨rfl, rfl⟩
      rw [show (xs.map fun _ => D.bl true) = (xs.map fun _ => true).map D.bl by rw [List.map_map] <;> rfl]
      repeat walk_at "e"
      refine c_all lstD_v ?_
      rw [show (xs.map fun _ => true).all id = true by simp]
      repeat walk_at "e"
      try dsimp only
      refine s_seq ?_
      repeat walk_at "e"
      refine ⟨_, xs, rfl, rfl, .inl rfl, by omega, ⟨⟨_, rfl⟩, ?_⟩⟩
      repeat walk_at "e"
      refine w_makeS ?_
      repeat walk_at "e"
      refine ⟨_, .inl valD_v, ?_⟩
      repeat walk_at "e"
      refine u_make _ m1 m2 (by rw [My.dv_len _ _ rfl]; exact h2) ?_
      exact ⟨rfl, p⟩
    
    · walk_at "n"
      refine u_fits_modulus (btw_int m1 m2) ⟨⟨_, rfl⟩, ?_⟩
      repeat walk_at "e"
      walk_at "n"
      refine u_is_row rowQ_tup ⟨⟨_, rfl⟩, ?_⟩
      repeat walk_at "e"
      rw [nums_len]
      rw [decide_eq_true (show (1 : Int) ≤ ((xs.length : Nat) : Int) by omega)]
      refine ⟨fun _ => ?_, fun z => by cases z⟩
      repeat walk_at "e"
      rw [decide_eq_true (show ((xs.length : Nat) : Int) ≤ 13 by omega)]
      repeat walk_at "e"
      refine w_lc1 ?_ (by decide)
      refine i_or2 (i_tup ?_)
      repeat walk_at "e"
      refine lc_A xs (fun x => .int x) (fun _ => .bl true) (by omega) (fun x acc hx => ?_) ?_
      · refine g_name ?_
        repeat walk_at "e"
        refine u_is_integer intQ_int ⟨⟨_, rfl⟩, ?_⟩
        exact ⟨rfl, rfl⟩
      rw [show (xs.map fun _ => D.bl true) = (xs.map fun _ => true).map D.bl by rw [List.map_map] <;> rfl]
      repeat walk_at "e"
      refine c_all lstD_v ?_
      rw [show (xs.map fun _ => true).all id = true by simp]
      repeat walk_at "e"
      try dsimp only
      refine s_seq ?_
      repeat walk_at "e"
      refine ⟨_, xs, rfl, rfl, .inr rfl, by omega, ⟨⟨_, rfl⟩, ?_⟩⟩
      repeat walk_at "e"
      refine w_makeS ?_
      repeat walk_at "e"
      refine ⟨_, .inl valD_v, ?_⟩
      repeat walk_at "e"
      refine u_make _ m1 m2 (by rw [My.dv_len _ _ rfl]; exact h2) ?_
      exact ⟨rfl, p⟩
end My

set_option Elab.async false
set_option linter.all false
set_option maxRecDepth 100000
set_option maxHeartbeats 1000000
namespace G
open PySem PySem.Spec PyProof.Rows L2
end G

set_option Elab.async false
set_option linter.all false
set_option maxRecDepth 100000
set_option maxHeartbeats 4000000
namespace G
open PySem PySem.Spec PyProof.Rows L2 HandSPX
section
variable {M : Model} {A : Around} {E : Value → Shared → Prop} {env : Env} {outer : List Env} {L e : Addr} {base : Heap} {Z : Obj → Prop} {s : Shared}
end
end G

set_option Elab.async false
set_option linter.all false
set_option maxRecDepth 100000
set_option maxHeartbeats 4000000
namespace G
open PySem PySem.Spec PyProof.Rows L2 HandSPX
end G

set_option Elab.async false
set_option linter.all false
set_option maxRecDepth 100000
set_option maxHeartbeats 4000000
namespace G
open PySem PySem.Spec PyProof.Rows L2 HandSPX
end G

set_option Elab.async false
set_option linter.all false
set_option maxRecDepth 100000
set_option maxHeartbeats 4000000
namespace G
open PySem PySem.Spec PyProof.Rows L2
section
variable {K : PySem.W.Frag} {E : XK} {O : List OD} {ts : List T} {P : PT'} {X : XX} {te : TE} {g : TG} {vs : List Nat}
end
end G

set_option Elab.async false
set_option linter.all false
set_option maxRecDepth 100000
set_option maxHeartbeats 4000000
namespace G
open PySem PySem.Spec PyProof.Rows L2
mutual
/-- no list, no dict in it -/
def noL : D → Bool
  | .lst _ => false
  | .scr _ => false
  | .ext _ => false
  | .dic _ => false
  | .tup ds => noLs ds
  | .ins _ fs => noLf fs
  | .exc _ fs => noLf fs
  | _ => true
def noLs : List D → Bool
  | [] => true
  | d :: r => noL d && noLs r
def noLf : List (Str × D) → Bool
  | [] => true
  | p :: r => noL p.2 && noLf r
end
theorem sqt_cut {K : PySem.W.Frag} {F F' : Hp} {a p : Addr} {ws vs : List V} (ha : F a = some (.lst ws)) (e : ∀ x o, x ≠ a → F x = some o → F' x = some o) (h : SqT K F p vs) : SqT K F' p vs := by
  rcases h with (h | ⟨o, h⟩) | h
  · exact .inl (.inl (e _ _ (fun z => by rw [z, ha] at h; cases h) h))
  · exact .inl (.inr ⟨o, e _ _ (fun z => by rw [z, ha] at h; cases h) h⟩)
  · exact .inr h
mutual
theorem rep_cut {K : PySem.W.Frag} {F F' : Hp} {a : Addr} {ws : List V} (ha : F a = some (.lst ws)) (e : ∀ x o, x ≠ a → F x = some o → F' x = some o) : ∀ (d : D) {v : V}, noL d = true → Rep K F d v → Rep K F' d v
  | .non, _, _, h => h
  | .bl _, _, _, h => h
  | .int _, _, _, h => h
  | .str _, _, _, h => h
  | .ty _, _, _, h => h
  | .ref _, _, _, h => h
  | .lst _, _, n, _ => by cases n
  | .scr _, _, n, _ => by cases n
  | .ext _, _, n, _ => by cases n
  | .dic _, _, n, _ => by cases n
  | .tup ds, _, n, h => by
    obtain ⟨p, vs, e1, h1, h2⟩ := h
    exact ⟨p, vs, e1, sqt_cut ha e h1, repL_cut ha e ds n h2⟩
  | .ins C fs, _, n, h => by
    obtain ⟨p, dx, vs, e1, h1, h2⟩ := h
    exact ⟨p, dx, vs, e1, e _ _ (fun z => by rw [z, ha] at h1; cases h1) h1, repF_cut ha e fs n h2⟩
  | .exc C fs, _, n, h => by
    obtain ⟨p, d, vs, e1, h1, h2, h3⟩ := h
    exact ⟨p, d, vs, e1, e _ _ (fun z => by rw [z, ha] at h1; unfold excH at h1; cases h1) h1, e _ _ (fun z => by rw [z, ha] at h2; cases h2) h2, repF_cut ha e fs n h3⟩
theorem repL_cut {K : PySem.W.Frag} {F F' : Hp} {a : Addr} {ws : List V} (ha : F a = some (.lst ws)) (e : ∀ x o, x ≠ a → F x = some o → F' x = some o) : ∀ (ds : List D) {vs : List V}, noLs ds = true → RepL K F ds vs → RepL K F' ds vs
  | [], _, _, h => h
  | d :: ds, _, n, h => by
    obtain ⟨v, r, e1, h1, h2⟩ := h
    obtain ⟨n1, n2⟩ := He.ba (show (noL d && noLs ds) = true from n)
    exact ⟨v, r, e1, rep_cut ha e d n1 h1, repL_cut ha e ds n2 h2⟩
theorem repF_cut {K : PySem.W.Frag} {F F' : Hp} {a : Addr} {ws : List V} (ha : F a = some (.lst ws)) (e : ∀ x o, x ≠ a → F x = some o → F' x = some o) : ∀ (ds : List (Str × D)) {vs : List (Str × V)}, noLf ds = true → RepF K F ds vs → RepF K F' ds vs
  | [], _, _, h => h
  | p :: ds, _, n, h => by
    obtain ⟨v, r, e1, h1, h2⟩ := h
    obtain ⟨n1, n2⟩ := He.ba (show (noL p.2 && noLf ds) = true from n)
    exact ⟨v, r, e1, rep_cut ha e p.2 n1 h1, repF_cut ha e ds n2 h2⟩
end
/-- the owned thing i, handed as the plain list that it holds -/
def lnd (i : Nat) (ds : List D) : List T → Option (List T)
  | [] => some []
  | .v d :: r => (lnd i ds r).map (.v d :: ·)
  | .own j :: r => if j = i then (lnd i ds r).map (.v (.lst ds) :: ·) else none
  | _ :: _ => none
theorem lnd_reps {K : PySem.W.Frag} {F F' : Hp} {A A' : List Addr} {i : Nat} {ds : List D} {a : Addr} (ha : A[i]? = some a) (e : Ex F F') (hl : Rep K F' (.lst ds) (.ref a)) : ∀ {xs ys : List T} {vs : List V}, lnd i ds xs = some ys → RepTs K F A xs vs → RepTs K F' A' ys vs
  | [], ys, _, h, r => by
    cases h
    exact r
  | .v d :: xs, ys, _, h, r => by
    obtain ⟨v, q, e1, ⟨w, e2, r2⟩, h2⟩ := r
    have e3 : (lnd i ds xs).map (T.v d :: ·) = some ys := h
    cases q1 : lnd i ds xs with
    | none =>
      rw [q1] at e3
      cases e3
    | some zs =>
      rw [q1] at e3
      cases e3
      exact ⟨v, q, e1, ⟨w, e2, r2.ex e⟩, lnd_reps ha e hl q1 h2⟩
  | .own j :: xs, ys, _, h, r => by
    obtain ⟨v, q, e1, ⟨a2, e2, r2⟩, h2⟩ := r
    have e3 : (if j = i then (lnd i ds xs).map (T.v (.lst ds) :: ·) else none) = some ys := h
    by_cases hj : j = i
    · rw [if_pos hj] at e3
      subst hj
      rw [ha] at e2
      cases e2
      cases r2
      cases q1 : lnd j ds xs with
      | none =>
        rw [q1] at e3
        cases e3
      | some zs =>
        rw [q1] at e3
        cases e3
        exact ⟨_, q, e1, ⟨_, rfl, hl⟩, lnd_reps ha e hl q1 h2⟩
    · rw [if_neg hj] at e3
      cases e3
  | .no :: _, _, _, h, _ => by cases h
  | .clo _ _ :: _, _, _, h, _ => by cases h
def noLX : Option (List (Str × D)) → Bool
  | none => true
  | some fs => noLf fs
section
variable {K : PySem.W.Frag} {W : WX} {O : List OD} {ts : List T} {P : PT'} {X : XX} {sp : SpD} {tr tk : TA} {ta : TE} {C : Addr} {tw : Nat} {E : XK}
theorem lift_l {b : Bs} {A : List Addr} {H : Hp} {σ : L2.St} {Q : VK} {vs : List V} {xs ys : List T} {i : Nat} {ds : List D} (s : StO K b A O H) (r : RepTs K (Fz b A O H) A xs vs) (ho : O[i]? = some (.lst ds)) (hx : lnd i ds xs = some ys) (hE : ∀ C d H, W C d σ H → E C d H)
    (p : sp ys [] (fun t _ => (∃ d, t = .v d ∧ noL d = true) ∧ P t O) (fun C fs _ => noLX fs = true ∧ X C fs O)) (kv : KV' K b A O H P Q) (kx : KX K W b A O σ H X) : lift K sp vs H Q E := by
  have hi : i < A.length := by
    rw [s.len]
    exact (List.getElem?_eq_some_iff.mp ho).1
  obtain ⟨a, ha⟩ : ∃ a, A[i]? = some a := ⟨A[i], List.getElem?_eq_getElem hi⟩
  have hl : a ∈ live A O := live_at ha ho (fun z => by cases z)
  obtain ⟨ws, hw, rw_⟩ := s.cell i a _ ha ho
  have eh : hid [] H = H := by
    funext a
    unfold hid
    rw [if_neg (by simp)]
  have haZ : a ∉ b.Z := fun z => (s.z_at z).1 hl
  have naZ : a ∉ (live A O).filter (fun y => y != a) ++ b.Z := fun z => by
    rcases List.mem_append.mp z with z | z
    · have := (List.mem_filter.mp z).2
      simp at this
    · exact haZ z
  have sub : ∀ x, x ∈ (live A O).filter (fun y => y != a) ++ b.Z → x ∈ live A O ++ b.Z := fun x z => by
    rcases List.mem_append.mp z with z | z
    · exact List.mem_append_left _ (List.mem_filter.mp z).1
    · exact List.mem_append_right _ z
  have sup : ∀ x, x ≠ a → x ∈ live A O ++ b.Z → x ∈ (live A O).filter (fun y => y != a) ++ b.Z := fun x n z => by
    rcases List.mem_append.mp z with z | z
    · exact List.mem_append_left _ (List.mem_filter.mpr ⟨z, by simpa using n⟩)
    · exact List.mem_append_right _ z
  have nz : ∀ x, x ∈ (live A O).filter (fun y => y != a) ++ b.Z → ∃ o, H x = some o ∧ OB o := fun x h => by
    rcases List.mem_append.mp (sub x h) with h | h
    · exact s.some_at h
    · exact (s.z_at h).2
  have back : ∀ {H'}, StO K ⟨hid [] H, (live A O).filter (fun y => y != a) ++ b.Z, []⟩ [] [] H' → Ex H H' ∧ StO K b A O H' ∧ Nxt b A O H A O H' := fun {H'} s' => by
    have x : Ex H H' := by
      have x1 := s'.ext
      have e2 : hid (live [] []) H' = H' := by
        funext a
        show hid [] H' a = H' a
        unfold hid
        rw [if_neg (by simp)]
      rw [e2] at x1
      have x2 : Ex (hid [] H) H' := x1
      rw [eh] at x2
      exact x2
    have x3 : Ex (Fz b A O H) (Fz b A O H') := hid_monoW (fun a o _ h n => x a o h n) fun _ _ h _ => h
    exact ⟨x, ⟨s.len, s.pre, s.ext.trans (hid_monoW (fun a o _ h n => x a o h n) fun _ _ h _ => h), s.zs, s.nd, fun a h => let ⟨o, q, n⟩ := s.inh a h; ⟨o, x a o q n, n⟩, fun i a o h1 h2 => (s.cell i a o h1 h2).exW x3 (x a), s'.tb⟩, ⟨[], (List.append_nil A).symm⟩, x3⟩
  have exF : Ex (Fz b A O H) (hid ((live A O).filter (fun y => y != a) ++ b.Z) H) := fun x o h _ => by
    obtain ⟨h1, h2⟩ := hid_some.mp h
    exact hid_some.mpr ⟨fun z => h1 (sub x z), h2⟩
  have rl : Rep K (hid ((live A O).filter (fun y => y != a) ++ b.Z) H) (.lst ds) (.ref a) := ⟨a, ws, rfl, hid_some.mpr ⟨naZ, hw⟩, rw_.ex exF⟩
  have cut : ∀ {H' : Hp}, Ex H H' → (hid ((live A O).filter (fun y => y != a) ++ b.Z) H') a = some (.lst ws) ∧ ∀ x o, x ≠ a → (hid ((live A O).filter (fun y => y != a) ++ b.Z) H') x = some o → Fz b A O H' x = some o := fun {H'} x => by
    refine ⟨hid_some.mpr ⟨naZ, x a _ hw (fun _ z => by cases z)⟩, fun y o hy h => ?_⟩
    obtain ⟨h1, h2⟩ := hid_some.mp h
    exact hid_some.mpr ⟨fun z => h1 (sup y hy z), h2⟩
  refine ⟨(live A O).filter (fun y => y != a) ++ b.Z, [], [], ys, _, _, ⟨rfl, ⟨[], rfl⟩, ?_, fun z hz => ?_, List.nodup_nil, fun a h => (by simp at h), fun i a o h _ => (by simp at h), s.tb⟩, rfl, lnd_reps ha exF rl hx r, p, fun t v O' H' ⟨⟨d, e, nl⟩, q⟩ g s' rt => ?_, fun C fs O' H' d ⟨nl, q⟩ g s' rx => ?_⟩
  · show Ex (hid [] H) (hid [] H)
    exact Ex.refl _
  · obtain ⟨o, q, n⟩ := nz z hz
    exact ⟨o, by show hid [] H z = some o; rw [eh]; exact q, n⟩
  · have e0 : O' = [] := List.length_eq_zero_iff.mp s'.len.symm
    subst e0
    obtain ⟨x, s2, n2⟩ := back s'
    subst e
    obtain ⟨c1, c2⟩ := cut x
    obtain ⟨w, e2, r2⟩ := rt
    exact kv _ v A O H' q s2 n2 ⟨w, e2, rep_cut c1 c2 d nl r2⟩
  · have e0 : O' = [] := List.length_eq_zero_iff.mp s'.len.symm
    subst e0
    obtain ⟨x, s2, n2⟩ := back s'
    obtain ⟨c1, c2⟩ := cut x
    refine hE C d H' (kx C fs A O H' d q s2 n2 ?_)
    cases fs with
    | none => exact rx
    | some fs =>
      obtain ⟨dx, vs, e1, h1, h2⟩ := rx
      exact ⟨dx, vs, e1, c2 _ _ (fun z => by rw [z] at h1; have := c1.symm.trans h1; cases this) h1, repF_cut c1 c2 fs nl h2⟩
/-- C.m(.., the owned list i, ..), m a staticmethod -/
theorem w_smethL (i : Nat) (h : WE K W ta O ts (fun x O1 => x = .v (.ref C) ∧ WA K W tr O1 ts (fun xs O2 => ∃ ds ys, O2[i]? = some (.lst ds) ∧ lnd i ds xs = some ys ∧ sp ys [] (fun t _ => (∃ d, t = .v d ∧ noL d = true) ∧ P t O2) (fun _ _ _ => False)) X) X) :
    WE K W (tSMeth C (lift K sp) E0 ta tr) O ts P X := fun b A σ H Q s rs kv kx =>
  h b A σ H _ s rs (fun x v A1 O1 H1 p1 s1 n1 r1 => by
    obtain ⟨rfl, p⟩ := p1
    obtain ⟨_, e1, e2⟩ := id r1
    cases e1
    refine ⟨e2, p b A1 σ H1 _ s1 (rs.nxt n1) (fun xs us A2 O2 H2 p2 s2 n2 r2 => ?_) (kx.nxt n1)⟩
    obtain ⟨ds, ys, ho, hy, q⟩ := p2
    have hf : (fun (C : Value) (fs : Option (List (Str × D))) (O' : List OD) => False) = fun C fs _ => noLX fs = true ∧ (fun _ _ _ => False : XX) C fs O2 := by
      funext C fs O'
      exact propext ⟨fun z => z.elim, fun z => z.2.elim⟩
    exact lift_l (W := fun _ _ _ _ => False) (X := fun _ _ _ => False) (σ := σ) s2 r2 ho hy (fun _ _ _ z => z) (hf ▸ q) (kv.nxt (n1.trans n2)) fun _ _ _ _ _ _ z => z.elim) kx
end
end G

set_option Elab.async false
set_option linter.all false
set_option maxRecDepth 100000
set_option maxHeartbeats 4000000
namespace PySem.W
open PySem PySem.Calls PyProof.Rows Builtin
section
variable {prog : Program} {w : World} {A : Around} {E : Value → Shared → Prop} {s : Shared} {K : Frag} {x C L f : Addr} {h₀ : Heap} {m : Str → Option Value} {ox : Obj} {od : Option Obj}
end
end PySem.W

namespace G
open PySem PySem.Spec PyProof.Rows L2
section
variable {X : Cx} {CX : CXT} {k : Nat} {C g : Addr} {sp : Sp} {E : L2.St → XK} {E1 : XK} {a b : Expr} {ta tb : TE} {pos : Pos}
end
section
variable {K : PySem.W.Frag} {W : WX} {O : List OD} {ts : List T} {P : PT'} {X : XX} {sp : SpD} {ta tb : TE} {C : Addr}
end
end G

set_option Elab.async false
set_option linter.all false
set_option maxRecDepth 100000
set_option maxHeartbeats 4000000
namespace G
open PySem PySem.Spec PyProof.Rows L2
end G

set_option Elab.async false
set_option linter.all false
set_option maxRecDepth 100000
set_option maxHeartbeats 4000000
namespace G
open PySem PySem.Spec PyProof.Rows L2
end G

set_option Elab.async false
set_option linter.all false
set_option maxRecDepth 100000
set_option maxHeartbeats 4000000
namespace G
open PySem PySem.Spec PyProof.Rows L2
variable {K : PySem.W.Frag} {W : WX} {O : List OD} {ts : List T}
end G

set_option Elab.async false
set_option linter.all false
set_option maxRecDepth 100000
set_option maxHeartbeats 2000000
namespace G
open PySem PySem.Spec PyProof.Rows L2
/-- neither a table nor a locked dict -/
def NU (o : HO) : Prop := NT o ∧ ∀ ob kvs, o ≠ .frz ob (.dK kvs)
theorem nu_lst {vs : List V} : NU (.lst vs) := ⟨fun _ z => (by cases z), fun _ _ z => (by cases z)⟩
theorem nu_tup {vs : List V} : NU (.tup vs) := ⟨fun _ z => (by cases z), fun _ _ z => (by cases z)⟩
theorem nu_fl {o : Obj} {vs : List V} : NU (.frz o (.lst vs)) := ⟨fun _ z => (by cases z), fun _ _ z => (by cases z)⟩
theorem nu_ft {o : Obj} {vs : List V} : NU (.frz o (.tup vs)) := ⟨fun _ z => (by cases z), fun _ _ z => (by cases z)⟩
theorem nu_ins {C dx : Addr} {vs : List (Str × V)} : NU (.ins C dx vs) := ⟨fun _ z => (by cases z), fun _ _ z => (by cases z)⟩
theorem nu_dK {vs : List (Key × V)} : NU (.dK vs) := ⟨fun _ z => (by cases z), fun _ _ z => (by cases z)⟩
theorem nu_xd {vs : List (Str × V)} : NU (.xd vs) := ⟨fun _ z => (by cases z), fun _ _ z => (by cases z)⟩
theorem nu_exc {a C : Addr} {d : Option Addr} : NU (excH a C d) := ⟨nt_exc, fun _ _ z => (by unfold excH at z; cases z)⟩
/-- these all stay -/
def ExU (H H' : Hp) : Prop := ∀ a o, H a = some o → NU o → H' a = some o
theorem ExU.l {K : PySem.W.Frag} {H H' : Hp} {a : Addr} {xs : List V} (e : ExU H H') (h : SqL K H a xs) : SqL K H' a xs := by
  rcases h with (h | ⟨o, h⟩) | h
  · exact .inl (.inl (e _ _ h nu_lst))
  · exact .inl (.inr ⟨o, e _ _ h nu_fl⟩)
  · exact .inr h
theorem ExU.t {K : PySem.W.Frag} {H H' : Hp} {a : Addr} {xs : List V} (e : ExU H H') (h : SqT K H a xs) : SqT K H' a xs := by
  rcases h with (h | ⟨o, h⟩) | h
  · exact .inl (.inl (e _ _ h nu_tup))
  · exact .inl (.inr ⟨o, e _ _ h nu_ft⟩)
  · exact .inr h
mutual
/-- nothing that is told by a relation -/
def noX : D → Bool
  | .ext _ => false
  | .lst ds => noXL ds
  | .tup ds => noXL ds
  | .ins _ fs => noXF fs
  | .exc _ fs => noXF fs
  | .dic kvs => noXK kvs
  | _ => true
def noXL : List D → Bool
  | [] => true
  | d :: ds => noX d && noXL ds
def noXF : List (Str × D) → Bool
  | [] => true
  | p :: ds => noX p.2 && noXF ds
def noXK : List (Key × D) → Bool
  | [] => true
  | p :: ds => noX p.2 && noXK ds
end
theorem and_t {a b : Bool} (h : (a && b) = true) : a = true ∧ b = true := by
  cases a with
  | true => exact ⟨rfl, h⟩
  | false => cases h
mutual
theorem Rep.un {K : PySem.W.Frag} {H H' : Hp} (e : ExU H H') : ∀ (d : D) {v : V}, noX d = true → Rep K H d v → Rep K H' d v
  | .non, _, _, h => h
  | .bl _, _, _, h => h
  | .int _, _, _, h => h
  | .str _, _, _, h => h
  | .ty _, _, _, h => h
  | .ref _, _, _, h => h
  | .ext _, _, n, _ => by cases n
  | .lst ds, _, n, h => by
    obtain ⟨a, vs, e1, h1, h2⟩ := h
    exact ⟨a, vs, e1, e _ _ h1 nu_lst, RepL.un e ds n h2⟩
  | .scr ns, _, _, h => by
    obtain ⟨a, e1, h1⟩ := h
    exact ⟨a, e1, e.l h1⟩
  | .exc C fs, _, n, h => by
    obtain ⟨a, d, vs, e1, h1, h2, h3⟩ := h
    exact ⟨a, d, vs, e1, e _ _ h1 nu_exc, e _ _ h2 nu_xd, RepF.un e fs n h3⟩
  | .tup ds, _, n, h => by
    obtain ⟨a, vs, e1, h1, h2⟩ := h
    exact ⟨a, vs, e1, e.t h1, RepL.un e ds n h2⟩
  | .ins C fs, _, n, h => by
    obtain ⟨a, dx, vs, e1, h1, h2⟩ := h
    exact ⟨a, dx, vs, e1, e _ _ h1 nu_ins, RepF.un e fs n h2⟩
  | .dic kvs, _, n, h => by
    obtain ⟨a, ws, e1, h1, h2⟩ := h
    exact ⟨a, ws, e1, e _ _ h1 nu_dK, RepK.un e kvs n h2⟩
theorem RepL.un {K : PySem.W.Frag} {H H' : Hp} (e : ExU H H') : ∀ (ds : List D) {vs : List V}, noXL ds = true → RepL K H ds vs → RepL K H' ds vs
  | [], _, _, h => h
  | d :: ds, _, n, h => by
    obtain ⟨v, r, e1, h1, h2⟩ := h
    obtain ⟨n1, n2⟩ := and_t n
    exact ⟨v, r, e1, Rep.un e d n1 h1, RepL.un e ds n2 h2⟩
theorem RepF.un {K : PySem.W.Frag} {H H' : Hp} (e : ExU H H') : ∀ (ds : List (Str × D)) {vs : List (Str × V)}, noXF ds = true → RepF K H ds vs → RepF K H' ds vs
  | [], _, _, h => h
  | p :: ds, _, n, h => by
    obtain ⟨v, r, e1, h1, h2⟩ := h
    obtain ⟨n1, n2⟩ := and_t n
    exact ⟨v, r, e1, Rep.un e p.2 n1 h1, RepF.un e ds n2 h2⟩
theorem RepK.un {K : PySem.W.Frag} {H H' : Hp} (e : ExU H H') : ∀ (ds : List (Key × D)) {vs : List (Key × V)}, noXK ds = true → RepK K H ds vs → RepK K H' ds vs
  | [], _, _, h => h
  | p :: ds, _, n, h => by
    obtain ⟨v, r, e1, h1, h2⟩ := h
    obtain ⟨n1, n2⟩ := and_t n
    exact ⟨v, r, e1, Rep.un e p.2 n1 h1, RepK.un e ds n2 h2⟩
end
section
variable {K : PySem.W.Frag} {W : WX} {O : List OD} {ts : List T} {P : PT'} {X : XX} {t td : TE}
theorem live_or {A : List Addr} {i : Nat} {a c : Addr} (ha : A[i]? = some a) (h : c ∈ live A O) : c = a ∨ c ∈ live A (O.set i .gone) := by
  obtain ⟨j, o, h1, h2, h3⟩ := live_mem h
  by_cases e : i = j
  · subst e
    rw [ha] at h1
    exact .inl (Option.some.inj h1).symm
  · exact .inr (live_at h1 (by rw [List.getElem?_set, if_neg e]; exact h2) h3)
theorem RepK.get {F : Hp} : ∀ {kvs : List (Key × D)} {ws : List (Key × V)} {i : Nat} {k : Key} {v : V}, RepK K F kvs ws → ws[i]? = some (k, v) → ∃ d, kvs[i]? = some (k, d) ∧ Rep K F d v
  | [], ws, i, k, v, h, q => by
    cases (show ws = [] from h)
    simp at q
  | p :: ds, _, 0, k, v, h, q => by
    obtain ⟨w, r, rfl, h1, h2⟩ := h
    cases (Option.some.inj q)
    exact ⟨p.2, rfl, h1⟩
  | p :: ds, _, i + 1, k, v, h, q => by
    obtain ⟨w, r, rfl, h1, h2⟩ := h
    exact RepK.get (i := i) h2 q
end
end G

set_option Elab.async false
set_option linter.all false
set_option maxRecDepth 100000
set_option maxHeartbeats 2000000
namespace G
open PySem PySem.Spec PyProof.Rows L2
section
variable {K : PySem.W.Frag} {W : WX} {O : List OD} {ts : List T} {P : PT'} {X : XX}
end
section
variable {K : PySem.W.Frag} {W : WX} {O : List OD} {ts : List T} {P : PT'} {X : XX} {tk tv : TE} {vs : List Nat}
end
end G

set_option Elab.async false
set_option linter.all false
set_option maxRecDepth 100000
set_option maxHeartbeats 4000000
namespace G
open PySem PySem.Spec PyProof.Rows L2
/-- neither a table nor a lent list -/
def NUL (o : HO) : Prop := NT o ∧ ∀ ob kvs, o ≠ .frz ob (.lst kvs)
theorem nul_lst {vs : List V} : NUL (.lst vs) := ⟨fun _ z => (by cases z), fun _ _ z => (by cases z)⟩
theorem nul_tup {vs : List V} : NUL (.tup vs) := ⟨fun _ z => (by cases z), fun _ _ z => (by cases z)⟩
theorem nul_ft {o : Obj} {vs : List V} : NUL (.frz o (.tup vs)) := ⟨fun _ z => (by cases z), fun _ _ z => (by cases z)⟩
theorem nul_ins {C dx : Addr} {vs : List (Str × V)} : NUL (.ins C dx vs) := ⟨fun _ z => (by cases z), fun _ _ z => (by cases z)⟩
theorem nul_dK {vs : List (Key × V)} : NUL (.dK vs) := ⟨fun _ z => (by cases z), fun _ _ z => (by cases z)⟩
theorem nul_xd {vs : List (Str × V)} : NUL (.xd vs) := ⟨fun _ z => (by cases z), fun _ _ z => (by cases z)⟩
theorem nul_exc {a C : Addr} {d : Option Addr} : NUL (excH a C d) := ⟨nt_exc, fun _ _ z => (by unfold excH at z; cases z)⟩
/-- these all stay -/
def ExUL (H H' : Hp) : Prop := ∀ a o, H a = some o → NUL o → H' a = some o
theorem ExUL.t {K : PySem.W.Frag} {H H' : Hp} {a : Addr} {xs : List V} (e : ExUL H H') (h : SqT K H a xs) : SqT K H' a xs := by
  rcases h with (h | ⟨o, h⟩) | h
  · exact .inl (.inl (e _ _ h nul_tup))
  · exact .inl (.inr ⟨o, e _ _ h nul_ft⟩)
  · exact .inr h
mutual
/-- nothing that is told by a relation -/
def noY : D → Bool
  | .ext _ => false
  | .scr _ => false
  | .lst ds => noYL ds
  | .tup ds => noYL ds
  | .ins _ fs => noYF fs
  | .exc _ fs => noYF fs
  | .dic kvs => noYK kvs
  | _ => true
def noYL : List D → Bool
  | [] => true
  | d :: ds => noY d && noYL ds
def noYF : List (Str × D) → Bool
  | [] => true
  | p :: ds => noY p.2 && noYF ds
def noYK : List (Key × D) → Bool
  | [] => true
  | p :: ds => noY p.2 && noYK ds
end
theorem noYL_nums : ∀ xs : List Int, noYL (nums xs) = true
  | [] => rfl
  | x :: xs => by
    show (noY (.int x) && noYL (nums xs)) = true
    rw [noYL_nums xs] <;> rfl
def noYO : OD → Bool
  | .lst ds => noYL ds
  | .ins _ fs => noYF fs
  | .dic kvs => noYK kvs
  | .gone => true
mutual
theorem Rep.unL {K : PySem.W.Frag} {H H' : Hp} (e : ExUL H H') : ∀ (d : D) {v : V}, noY d = true → Rep K H d v → Rep K H' d v
  | .non, _, _, h => h
  | .bl _, _, _, h => h
  | .int _, _, _, h => h
  | .str _, _, _, h => h
  | .ty _, _, _, h => h
  | .ref _, _, _, h => h
  | .ext _, _, n, _ => by cases n
  | .lst ds, _, n, h => by
    obtain ⟨a, vs, e1, h1, h2⟩ := h
    exact ⟨a, vs, e1, e _ _ h1 nul_lst, RepL.unL e ds n h2⟩
  | .scr ns, _, n, _ => by cases n
  | .exc C fs, _, n, h => by
    obtain ⟨a, d, vs, e1, h1, h2, h3⟩ := h
    exact ⟨a, d, vs, e1, e _ _ h1 nul_exc, e _ _ h2 nul_xd, RepF.unL e fs n h3⟩
  | .tup ds, _, n, h => by
    obtain ⟨a, vs, e1, h1, h2⟩ := h
    exact ⟨a, vs, e1, e.t h1, RepL.unL e ds n h2⟩
  | .ins C fs, _, n, h => by
    obtain ⟨a, dx, vs, e1, h1, h2⟩ := h
    exact ⟨a, dx, vs, e1, e _ _ h1 nul_ins, RepF.unL e fs n h2⟩
  | .dic kvs, _, n, h => by
    obtain ⟨a, ws, e1, h1, h2⟩ := h
    exact ⟨a, ws, e1, e _ _ h1 nul_dK, RepK.unL e kvs n h2⟩
theorem RepL.unL {K : PySem.W.Frag} {H H' : Hp} (e : ExUL H H') : ∀ (ds : List D) {vs : List V}, noYL ds = true → RepL K H ds vs → RepL K H' ds vs
  | [], _, _, h => h
  | d :: ds, _, n, h => by
    obtain ⟨v, r, e1, h1, h2⟩ := h
    obtain ⟨n1, n2⟩ := and_t n
    exact ⟨v, r, e1, Rep.unL e d n1 h1, RepL.unL e ds n2 h2⟩
theorem RepF.unL {K : PySem.W.Frag} {H H' : Hp} (e : ExUL H H') : ∀ (ds : List (Str × D)) {vs : List (Str × V)}, noYF ds = true → RepF K H ds vs → RepF K H' ds vs
  | [], _, _, h => h
  | p :: ds, _, n, h => by
    obtain ⟨v, r, e1, h1, h2⟩ := h
    obtain ⟨n1, n2⟩ := and_t n
    exact ⟨v, r, e1, Rep.unL e p.2 n1 h1, RepF.unL e ds n2 h2⟩
theorem RepK.unL {K : PySem.W.Frag} {H H' : Hp} (e : ExUL H H') : ∀ (ds : List (Key × D)) {vs : List (Key × V)}, noYK ds = true → RepK K H ds vs → RepK K H' ds vs
  | [], _, _, h => h
  | p :: ds, _, n, h => by
    obtain ⟨v, r, e1, h1, h2⟩ := h
    obtain ⟨n1, n2⟩ := and_t n
    exact ⟨v, r, e1, Rep.unL e p.2 n1 h1, RepK.unL e ds n2 h2⟩
end
/-- a lent list -/
def lckLD (K : PySem.W.Frag) (od : Obj) (ws : List V) (es : List D) : D := .ext fun H a => H a = some (.frz od (.lst ws)) ∧ RepL K H es ws
theorem lckL_at {K : PySem.W.Frag} {F : Hp} {od : Obj} {ws : List V} {es : List D} {v : V} (r : Rep K F (lckLD K od ws es) v) : ∃ a, v = .ref a ∧ F a = some (.frz od (.lst ws)) ∧ RepL K F es ws := by
  obtain ⟨a, H0, e1, e0, h1, h2⟩ := r
  exact ⟨a, e1, e0 _ _ h1 (fun _ z => by cases z), h2.ex e0⟩
theorem lckL_sq {K : PySem.W.Frag} {F : Hp} {od : Obj} {ws : List V} {es : List D} {v : V} (r : Rep K F (lckLD K od ws es) v) : ∃ a, v = .ref a ∧ SqL K F a ws ∧ RepL K F es ws := by
  obtain ⟨a, e, h1, h2⟩ := lckL_at r
  exact ⟨a, e, .inl (.inr ⟨od, h1⟩), h2⟩
section
variable {K : PySem.W.Frag} {W : WX} {O : List OD} {ts : List T} {P : PT'} {X : XX} {t td : TE} {ta : TA}
/-- an expression that reads a list of our own: nothing is written to it meanwhile -/
theorem w_lockL (i : Nat) {es : List D} (ho : O[i]? = some (.lst es)) (hc : ∀ j o, j ≠ i → O[j]? = some o → noYO o = true)
    (h : ∀ od ws, WE K W t (O.set i .gone) (ts.map (G.thaw i (lckLD K od ws es))) (fun x O' => O' = O.set i .gone ∧ ∃ d, x = .v d ∧ noY d = true ∧ P (.v d) O) (fun _ _ _ => False)) : WE K W (tLockE t) O ts P X := fun b A σ H Q s rs kv kx => by
  have hi : i < O.length := (List.getElem?_eq_some_iff.mp ho).1
  obtain ⟨a, ha⟩ : ∃ a, A[i]? = some a := ⟨_, List.getElem?_eq_getElem (show i < A.length by rw [s.len]; exact hi)⟩
  obtain ⟨ws, hw, rk⟩ := s.cell i a _ ha ho
  have hl : a ∈ live A O := live_at ha ho (fun z => by cases z)
  refine ⟨a, .lst ws, hw, trivial, fun od => ?_⟩
  have na : a ∉ live A (O.set i .gone) := fun z => by
    obtain ⟨j, o', h1, h2, h4⟩ := live_mem z
    have e : i = j := nd_ix s.nd ha h1
    subst e
    rw [List.getElem?_set_self hi] at h2
    exact h4 (Option.some.inj h2).symm
  have nz : a ∉ b.Z := fun z => (s.z_at z).1 hl
  have x1 : Ex (Fz b A O H) (Fz b A (O.set i .gone) (upd H a (.frz od (.lst ws)))) := hid_monoW (fun c o h1 h2 _ => by rw [upd_ne (fun z : c = a => h1 (List.mem_append_left _ (by rw [z]; exact hl)))]; exact h2) fun c o h1 h2 h3 => by
    rcases List.mem_append.mp h3 with h3 | h3
    · exact h1 (List.mem_append_left _ (live_sub h3))
    · exact h1 (List.mem_append_right _ h3)
  have s1 : StO K b A (O.set i .gone) (upd H a (.frz od (.lst ws))) := by
    refine ⟨by rw [List.length_set]; exact s.len, s.pre, s.ext.trans (hid_monoW (fun c o h1 h2 _ => by rw [upd_ne (fun z : c = a => h1 (by rw [z]; exact hl))]; exact h2) fun c o h1 h2 h3 => h1 (live_sub h3)), s.zs, s.nd, fun c hm => ?_, fun j c u h1 h2 => ?_, ?_⟩
    · by_cases e : c = a
      · exact ⟨_, by rw [e, upd_same], fun _ z => by cases z⟩
      · obtain ⟨o, q, n⟩ := s.inh c hm
        exact ⟨o, by rw [upd_ne e]; exact q, n⟩
    · rw [List.getElem?_set] at h2
      by_cases hij : i = j
      · rw [if_pos hij, if_pos hi] at h2
        cases h2
        trivial
      · rw [if_neg hij] at h2
        have e : c ≠ a := fun z => hij (nd_ix s.nd ha (z ▸ h1))
        exact (s.cell j c u h1 h2).ex x1 fun _ q => by rw [upd_ne e]; exact q
    · exact s.tb.upd hw (fun _ z => by cases z) (fun c q z => by unfold LamX.CodeO at z; cases z) _
  have n1 : Nxt b A O H A (O.set i .gone) (upd H a (.frz od (.lst ws))) := ⟨⟨[], (List.append_nil A).symm⟩, x1⟩
  have fa : Fz b A (O.set i .gone) (upd H a (.frz od (.lst ws))) a = some (.frz od (.lst ws)) := hid_some.mpr ⟨fun z => (List.mem_append.mp z).elim na nz, upd_same⟩
  have rl : Rep K (Fz b A (O.set i .gone) (upd H a (.frz od (.lst ws)))) (lckLD K od ws es) (.ref a) := ⟨a, _, rfl, Ex.refl _, fa, rk.ex x1⟩
  refine h od ws b A σ _ _ s1 ((rs.nxt n1).thaw ha rl) (fun x v A' O' H' p s' n' r' => ?_) (fun C fs A' O' H' d z => z.elim)
  obtain ⟨rfl, d, rfl, nx, q⟩ := p
  have eA : A' = A := by
    obtain ⟨M, e⟩ := n'.pre
    have l1 := s'.len
    rw [List.length_set, e, List.length_append, s.len] at l1
    have : M.length = 0 := by omega
    rw [e, List.length_eq_zero_iff.mp this, List.append_nil]
  subst eA
  have fr : H' a = some (.frz od (.lst ws)) := (hid_some.mp (n'.ext _ _ fa (fun _ z => by cases z))).2
  have U : ExUL (Fz b A' (O.set i .gone) H') (Fz b A' O (upd H' a (.lst ws))) := fun c o h1 n => by
    obtain ⟨h2, h3⟩ := hid_some.mp h1
    have e : c ≠ a := fun z => by
      rw [z, fr] at h3
      exact n.2 _ _ (Option.some.inj h3).symm
    refine hid_some.mpr ⟨fun z => ?_, by rw [upd_ne e]; exact h3⟩
    rcases List.mem_append.mp z with z | z
    · rcases live_or ha z with z | z
      · exact e z
      · exact h2 (List.mem_append_left _ z)
    · exact h2 (List.mem_append_right _ z)
  have x4 : Ex (Fz b A' O H) (Fz b A' O (upd H' a (.lst ws))) := fun c o h1 n => by
    have h3 := n'.ext _ _ (x1 _ _ h1 n) n
    have e : c ≠ a := fun z => (hid_some.mp h1).1 (List.mem_append_left _ (by rw [z]; exact hl))
    exact hid_some.mpr ⟨(hid_some.mp h1).1, by rw [upd_ne e]; exact (hid_some.mp h3).2⟩
  have s2 : StO K b A' O (upd H' a (.lst ws)) := by
    refine ⟨s.len, s.pre, fun c o h1 n => ?_, s.zs, s.nd, fun c hm => ?_, fun j c u h1 h2 => ?_, ?_⟩
    · obtain ⟨g1, _⟩ := hid_some.mp (s.ext c o h1 n)
      have g2 := (hid_some.mp (s'.ext c o h1 n)).2
      exact hid_some.mpr ⟨g1, by rw [upd_ne (fun z : c = a => g1 (by rw [z]; exact hl))]; exact g2⟩
    · by_cases e : c = a
      · exact ⟨_, by rw [e, upd_same], fun _ z => by cases z⟩
      · obtain ⟨o, q, n⟩ := s'.inh c hm
        exact ⟨o, by rw [upd_ne e]; exact q, n⟩
    · by_cases hij : i = j
      · subst hij
        rw [ha] at h1
        cases h1
        rw [ho] at h2
        cases h2
        exact ⟨ws, upd_same, rk.ex x4⟩
      · have e : c ≠ a := fun z => hij (nd_ix s.nd ha (z ▸ h1))
        have c' := s'.cell j c u h1 (by rw [List.getElem?_set, if_neg hij]; exact h2)
        have nu := hc j u (fun z => hij z.symm) h2
        cases u with
        | gone => trivial
        | lst ds =>
          obtain ⟨vs, c1, c2⟩ := c'
          exact ⟨vs, by rw [upd_ne e]; exact c1, RepL.unL U ds nu c2⟩
        | ins C fs =>
          obtain ⟨dx, vs, c1, c2⟩ := c'
          exact ⟨dx, vs, by rw [upd_ne e]; exact c1, RepF.unL U fs nu c2⟩
        | dic ks =>
          obtain ⟨vs, c1, c2⟩ := c'
          exact ⟨vs, by rw [upd_ne e]; exact c1, RepK.unL U ks nu c2⟩
    · exact s'.tb.upd fr (fun _ z => by cases z) (fun c q z => by unfold LamX.CodeO at z; cases z) _
  obtain ⟨w, e4, r4⟩ := r'
  exact ⟨fr, kv _ v A' O _ q s2 ⟨⟨[], (List.append_nil A').symm⟩, x4⟩ ⟨w, e4, Rep.unL U d nx r4⟩⟩
end
end G

set_option Elab.async false
set_option linter.all false
set_option maxRecDepth 100000
set_option maxHeartbeats 2000000
namespace G
open PySem PySem.Spec PyProof.Rows L2
theorem okG_snoc : ∀ {O : List OD} {o : OD}, okG O = true → o ≠ .gone → okG (O ++ [o]) = true
  | [], o, _, n => by
    cases o with
    | gone => exact absurd rfl n
    | lst ds => rfl
    | ins C fs => rfl
    | dic kvs => rfl
  | u :: O, o, g, n => by
    cases u with
    | gone => cases g
    | lst ds => exact okG_snoc (O := O) g n
    | ins C fs => exact okG_snoc (O := O) g n
    | dic kvs => exact okG_snoc (O := O) g n
section
variable {K : PySem.W.Frag} {b : Bs} {A M : List Addr} {O O' : List OD} {H : Hp}
/-- of what a def has made one thing is picked -/
theorem StO.pick (s : StO K b (A ++ M) O H) {n i : Nat} {a : Addr} {o : OD} (hn : A.length = n) (hi : n ≤ i) (ha : (A ++ M)[i]? = some a) (ho : O[i]? = some o) (ng : o ≠ .gone) (hp : ∃ L, A = b.A0 ++ L) :
    StO K b (A ++ [a]) (O.take n ++ [o]) H ∧ Ex (Fz b (A ++ M) O H) (Fz b (A ++ [a]) (O.take n ++ [o]) H) := by
  have hl := s.len
  have hio : i < O.length := (List.getElem?_eq_some_iff.mp ho).1
  have lt : (O.take n).length = n := by rw [List.length_take]; omega
  have sub : ∀ c, c ∈ live (A ++ [a]) (O.take n ++ [o]) → c ∈ live (A ++ M) O := fun c hc => by
    rw [live_app (by omega)] at hc
    rcases List.mem_append.mp hc with hc | hc
    · obtain ⟨j, u, h1, h2, h3⟩ := live_mem hc
      have hj : j < A.length := (List.getElem?_eq_some_iff.mp h1).1
      refine live_at (i := j) (o := u) (by rw [List.getElem?_append_left hj]; exact h1) ?_ h3
      rw [List.getElem?_take] at h2
      split at h2
      · exact h2
      · cases h2
    · have : c = a := by
        obtain ⟨j, u, h1, _, _⟩ := live_mem hc
        exact List.mem_singleton.mp (List.mem_of_getElem? h1)
      rw [this]
      exact live_at ha ho ng
  have x : Ex (Fz b (A ++ M) O H) (Fz b (A ++ [a]) (O.take n ++ [o]) H) := hid_mono (fun _ _ _ h => h) fun c u h _ z => by
    rcases List.mem_append.mp z with z | z
    · exact h (List.mem_append_left _ (sub c z))
    · exact h (List.mem_append_right _ z)
  have aM : a ∈ M := by
    rw [List.getElem?_append_right (by omega)] at ha
    exact List.mem_of_getElem? ha
  obtain ⟨n1, n2, n3⟩ := List.nodup_append.mp s.nd
  refine ⟨⟨by rw [List.length_append, List.length_append, lt, hn] <;> rfl, ?_, s.ext.trans (hid_mono (fun _ _ _ h => h) fun c u h _ z => h (sub c z)), s.zs, ?_, fun c hc => ?_, fun j c u h1 h2 => ?_, s.tb⟩, x⟩
  · obtain ⟨L, e⟩ := hp
    exact ⟨L ++ [a], by rw [e, List.append_assoc]⟩
  · exact List.nodup_append.mpr ⟨n1, List.nodup_cons.mpr ⟨List.not_mem_nil, List.nodup_nil⟩, fun c hc d hd e => n3 c hc a aM (by rw [e]; exact List.mem_singleton.mp hd)⟩
  · rcases List.mem_append.mp hc with hc | hc
    · exact s.inh c (List.mem_append_left _ hc)
    · rw [List.mem_singleton.mp hc]
      exact s.inh a (List.mem_append_right _ aM)
  · by_cases hj : j < n
    · rw [List.getElem?_append_left (by omega)] at h1 h2
      rw [List.getElem?_take, if_pos hj] at h2
      exact (s.cell j c u (by rw [List.getElem?_append_left (by omega)]; exact h1) h2).ex x fun _ h => h
    · rw [List.getElem?_append_right (by omega)] at h1 h2
      have h1' := List.mem_singleton.mp (List.mem_of_getElem? h1)
      have h2' := List.mem_singleton.mp (List.mem_of_getElem? h2)
      rw [h1', h2']
      exact (s.cell i a o ha ho).ex x fun _ h => h
end
/-- the promise of a def that hands back a new thing of its own -/
def liftF (K : PySem.W.Frag) (sp : SpD) : Sp := fun vs H Q E => ∃ (Z A : List Addr) (O : List OD) (ts : List T) (P : PT') (X : XX),
  StO K ⟨hid A H, Z, A⟩ A O H ∧ okG O = true ∧ RepTs K (Fz ⟨hid A H, Z, A⟩ A O H) A ts vs ∧ sp ts O P X ∧
  (∀ a o O' H', P (.own O.length) (O' ++ [o]) → O'.length = O.length → okG (O' ++ [o]) = true → StO K ⟨hid A H, Z, A⟩ (A ++ [a]) (O' ++ [o]) H' → Q (.ref a) H') ∧
  (∀ C fs O' H' d, X C fs O' → okG O' = true → StO K ⟨hid A H, Z, A⟩ A O' H' → RepX K (Fz ⟨hid A H, Z, A⟩ A O' H') H' fs d → E C d H')
theorem liftF_len {K : PySem.W.Frag} {sp : SpD} {n : Nat} (h : ∀ ts O P X, sp ts O P X → ts.length = n) : ∀ vs H Q E, liftF K sp vs H Q E → vs.length = n := fun vs H Q E ⟨_, _, _, ts, _, _, _, _, r, p, _, _⟩ => by
  rw [r.length]
  exact h _ _ _ _ p
def retF (n : Nat) (P : PT') (t : T) (O : List OD) : Prop := okG (O.take n) = true ∧ match t with
  | .own i => n ≤ i ∧ (match O[i]? with
    | some (.lst ds) => P (.own n) (O.take n ++ [.lst ds])
    | some (.ins C fs) => P (.own n) (O.take n ++ [.ins C fs])
    | some (.dic kvs) => P (.own n) (O.take n ++ [.dic kvs])
    | _ => False)
  | _ => False
def bodyF (n : Nat) (P : PT') (X : XX) : DE where
  nx := fun _ _ => False
  rt := retF n P
  xe := fun C fs _ O' => okG (O'.take n) = true ∧ X C fs (O'.take n)
theorem enterF {K : PySem.W.Frag} {sp : SpD} {t : TS} {N : List Str} {vs : List V} {H : Hp} {Q : VK} {E : XK} (h : liftF K sp vs H Q E)
    (hb : ∀ ts O P X, sp ts O P X → okG O = true → WS K (fun c d _ H => E c d H) t O (startT N.length ts) (bodyF O.length P X)) : t { nx := fun _ H' => Q .non H', rt := Q } (L2.start N vs) H := by
  obtain ⟨Z, A, O, ts, P, X, s, g, r, p, hq, hx⟩ := h
  have hlen := s.len
  refine hb ts O P X p g _ A _ H _ s (repS_start r) ⟨fun ts' σ' A' O' H' q s' _ _ => q.elim, fun t v A' O' H' q s' _ rt => ?_, fun _ _ _ _ _ q => q.elim, fun _ _ _ _ _ q => q.elim, fun C fs ts' σ' A' O' H' d q s' _ _ rx => ?_⟩
  · obtain ⟨q1, q2⟩ := q
    cases t with
    | v d => exact q2.elim
    | no => exact q2.elim
    | clo R f => exact q2.elim
    | own i =>
      obtain ⟨a, e4, e5⟩ := rt
      cases (show v = .ref a from Option.some.inj e5)
      obtain ⟨q2, q3⟩ : O.length ≤ i ∧ (match O'[i]? with
        | some (.lst ds) => P (.own O.length) (O'.take O.length ++ [.lst ds])
        | some (.ins C fs) => P (.own O.length) (O'.take O.length ++ [.ins C fs])
        | some (.dic kvs) => P (.own O.length) (O'.take O.length ++ [.dic kvs])
        | _ => False) := q2
      obtain ⟨M, e⟩ := s'.pre
      have e : A' = A ++ M := e
      subst e
      have hl := s'.len
      rw [List.length_append] at hl
      have lt : (O'.take O.length).length = O.length := by rw [List.length_take]; omega
      cases ho : O'[i]? with
      | none => rw [ho] at q3; exact q3.elim
      | some o =>
        rw [ho] at q3
        have ng : o ≠ .gone := fun z => by subst z; exact q3
        have q4 : P (.own O.length) (O'.take O.length ++ [o]) := by
          cases o with
          | gone => exact q3.elim
          | lst ds => exact q3
          | ins C fs => exact q3
          | dic kvs => exact q3
        obtain ⟨s3, _⟩ := s'.pick (n := O.length) hlen q2 e4 ho ng ⟨[], (List.append_nil A).symm⟩
        exact hq a o _ H' q4 lt (okG_snoc q1 ng) s3
  · obtain ⟨M, e⟩ := s'.pre
    have e : A' = A ++ M := e
    subst e
    have l1 := s'.len
    rw [List.length_append] at l1
    have e2 : O' = O'.take O.length ++ O'.drop O.length := (List.take_append_drop _ _).symm
    have s2 := s'
    rw [e2] at s2
    obtain ⟨s3, x3⟩ := s2.drop (by rw [List.length_take]; omega) ⟨[], (List.append_nil A).symm⟩
    rw [← e2] at x3
    refine hx C fs _ H' d q.2 q.1 s3 ?_
    cases fs with
    | none => exact rx
    | some l =>
      obtain ⟨dx, us, r1, r2, r3⟩ := rx
      exact ⟨dx, us, r1, x3 _ _ r2 (by (first | assumption | exact nt_exc | exact fun _ z => (by cases z))), r3.ex x3⟩
section
variable {K : PySem.W.Frag} {W : WX} {O : List OD} {ts : List T} {P : PT'} {X : XX} {sp : SpD} {tr : TA} {E : XK}
/-- into such a def, plain data alone -/
theorem liftF_p {b : Bs} {A : List Addr} {O : List OD} {H : Hp} {σ : L2.St} {Q : VK} {vs : List V} {xs : List T} {ds : List D} (s : StO K b A O H) (r : RepTs K (Fz b A O H) A xs vs) (hx : unv xs = some ds) (hE : ∀ C d H, W C d σ H → E C d H)
    (p : sp xs [] (fun t O' => ∃ o, t = .own 0 ∧ O' = [o] ∧ P (.own O.length) (O ++ [o])) (fun C fs _ => X C fs O)) (kv : KV' K b A O H P Q) (kx : KX K W b A O σ H X) : liftF K sp vs H Q E := by
  have eh : hid [] H = H := by
    funext a
    unfold hid
    rw [if_neg (by simp)]
  have nz : ∀ a, a ∈ live A O ++ b.Z → ∃ o, H a = some o ∧ OB o := fun a h => by
    rcases List.mem_append.mp h with h | h
    · exact s.some_at h
    · exact (s.z_at h).2
  have back : ∀ {H'}, StO K ⟨hid [] H, live A O ++ b.Z, []⟩ [] [] H' → StO K b A O H' ∧ Nxt b A O H A O H' := fun {H'} s' => by
    have x : Ex H H' := by
      have x1 := s'.ext
      have e2 : hid (live [] []) H' = H' := by
        funext a
        show hid [] H' a = H' a
        unfold hid
        rw [if_neg (by simp)]
      rw [e2] at x1
      have x2 : Ex (hid [] H) H' := x1
      rw [eh] at x2
      exact x2
    have x3 : Ex (Fz b A O H) (Fz b A O H') := hid_monoW (fun a o _ h n => x a o h n) fun _ _ h _ => h
    exact ⟨⟨s.len, s.pre, s.ext.trans (hid_monoW (fun a o _ h n => x a o h n) fun _ _ h _ => h), s.zs, s.nd, fun a h => let ⟨o, q, n⟩ := s.inh a h; ⟨o, x a o q n, n⟩, fun i a o h1 h2 => (s.cell i a o h1 h2).exW x3 (x a), s'.tb⟩, ⟨[], (List.append_nil A).symm⟩, x3⟩
  refine ⟨live A O ++ b.Z, [], [], xs, _, _, ⟨rfl, ⟨[], rfl⟩, Ex.refl _, fun z hz => ?_, List.nodup_nil, fun a h => (by simp at h), fun i a o h _ => (by simp at h), s.tb⟩, rfl, unv_reps hx r, p, fun a o O' H' q hl g s' => ?_, fun C fs O' H' d q g s' rx => ?_⟩
  · obtain ⟨o, q, n⟩ := nz z hz
    exact ⟨o, by show hid [] H z = some o; rw [eh]; exact q, n⟩
  · obtain ⟨o2, _, e, q⟩ := q
    have e0 : O' = [] := List.length_eq_zero_iff.mp hl
    subst e0
    cases (List.cons.inj (show [o] = [o2] from e)).1
    have s' : StO K ⟨hid [] H, live A O ++ b.Z, []⟩ [a] [o] H' := s'
    have ng : o ≠ .gone := fun z => by
      subst z
      cases g
    have lv : live [a] [o] = [a] := by
      cases o with
      | gone => exact absurd rfl ng
      | lst ds => rfl
      | ins C fs => rfl
      | dic kvs => rfl
    have x : ∀ c u, H c = some u → NT u → c ≠ a ∧ H' c = some u := fun c u hc n => by
      have x1 : Ex (hid [] H) (hid (live [a] [o]) H') := s'.ext
      rw [eh, lv] at x1
      obtain ⟨h1, h2⟩ := hid_some.mp (x1 c u hc n)
      exact ⟨by simpa using h1, h2⟩
    have aA : a ∉ A := fun hm => by
      obtain ⟨u, q, n⟩ := s.inh a hm
      exact (x a u q n).1 rfl
    have aZ : a ∉ b.Z := fun hz => by
      obtain ⟨u, q, n⟩ := (s.z_at hz).2
      exact (x a u q n.1).1 rfl
    have la : live (A ++ [a]) (O ++ [o]) = live A O ++ [a] := by rw [live_app s.len, lv]
    have x3 : Ex (Fz b A O H) (Fz b (A ++ [a]) (O ++ [o]) H') := fun c u hc n => by
      obtain ⟨h1, h2⟩ := hid_some.mp hc
      obtain ⟨h3, h4⟩ := x c u h2 n
      refine hid_some.mpr ⟨fun z => ?_, h4⟩
      rw [la] at z
      rcases List.mem_append.mp z with z | z
      · rcases List.mem_append.mp z with z | z
        · exact h1 (List.mem_append_left _ z)
        · exact h3 (List.mem_singleton.mp z)
      · exact h1 (List.mem_append_right _ z)
    have s2 : StO K b (A ++ [a]) (O ++ [o]) H' := by
      refine ⟨by rw [List.length_append, List.length_append, s.len] <;> rfl, ?_, fun c u hc n => ?_, s.zs, ?_, fun c hc => ?_, fun j c u h1 h2 => ?_, s'.tb⟩
      · obtain ⟨L, e⟩ := s.pre
        exact ⟨L ++ [a], by rw [e, List.append_assoc]⟩
      · obtain ⟨h1, h2⟩ := hid_some.mp (s.ext c u hc n)
        obtain ⟨h3, h4⟩ := x c u h2 n
        refine hid_some.mpr ⟨fun z => ?_, h4⟩
        rw [la] at z
        rcases List.mem_append.mp z with z | z
        · exact h1 z
        · exact h3 (List.mem_singleton.mp z)
      · exact List.nodup_append.mpr ⟨s.nd, List.nodup_cons.mpr ⟨List.not_mem_nil, List.nodup_nil⟩, fun c hc d hd e => aA (by rw [← List.mem_singleton.mp hd, ← e]; exact hc)⟩
      · rcases List.mem_append.mp hc with hc | hc
        · obtain ⟨u, q, n⟩ := s.inh c hc
          exact ⟨u, (x c u q n).2, n⟩
        · rw [List.mem_singleton.mp hc]
          exact s'.inh a List.mem_cons_self
      · by_cases hj : j < A.length
        · rw [List.getElem?_append_left hj] at h1
          rw [List.getElem?_append_left (by rw [← s.len]; exact hj)] at h2
          obtain ⟨w, qw, nw⟩ := s.inh c (List.mem_of_getElem? h1)
          exact (s.cell j c u h1 h2).exW x3 fun w h n => (x c w h n).2
        · rw [List.getElem?_append_right (by omega)] at h1
          rw [List.getElem?_append_right (by rw [← s.len]; omega)] at h2
          have h1' := List.mem_singleton.mp (List.mem_of_getElem? h1)
          have h2' := List.mem_singleton.mp (List.mem_of_getElem? h2)
          rw [h1', h2']
          refine (s'.cell 0 a o rfl rfl).ex (hid_mono (fun _ _ _ h => h) fun c w h _ z => ?_) fun _ h => h
          rw [la] at z
          rw [lv] at h
          rcases List.mem_append.mp z with z | z
          · rcases List.mem_append.mp z with z | z
            · exact h (List.mem_append_right _ (List.mem_append_left _ z))
            · exact h (List.mem_append_left _ z)
          · exact h (List.mem_append_right _ (List.mem_append_right _ z))
    refine kv _ _ (A ++ [a]) _ H' q s2 ⟨⟨[a], rfl⟩, x3⟩ ⟨a, ?_, rfl⟩
    rw [← s.len, List.getElem?_append_right (Nat.le_refl _), Nat.sub_self] <;> rfl
  · have e0 : O' = [] := List.length_eq_zero_iff.mp s'.len.symm
    subst e0
    obtain ⟨s2, n2⟩ := back s'
    exact hE C d H' (kx C fs A O H' d q s2 n2 rx)
theorem w_fnF (h : WA K W tr O ts (fun xs O1 => ∃ ds, unv xs = some ds ∧ sp xs [] (fun t O' => ∃ o, t = .own 0 ∧ O' = [o] ∧ P (.own O1.length) (O1 ++ [o])) (fun _ _ _ => False)) X) : WE K W (tCall (liftF K sp) [] E0 tr) O ts P X := fun b A σ H Q s rs kv kx =>
  h b A σ H _ s rs (fun xs vs A1 O1 H1 p1 s1 n1 r1 => by
    obtain ⟨ds, e, p⟩ := p1
    rw [List.append_nil]
    exact liftF_p (W := fun _ _ _ _ => False) (X := fun _ _ _ => False) (σ := σ) s1 r1 e (fun C d H z => z) p (kv.nxt n1) (fun C fs A' O' H' d z => z.elim)) kx
end
end G

set_option Elab.async false
set_option linter.all false
set_option maxRecDepth 100000
set_option maxHeartbeats 2000000
namespace G
open PySem PySem.Spec PyProof.Rows L2
theorem live2 {a c : Addr} {o n : OD} (h : o ≠ .gone) (g : n ≠ .gone) : live [a, c] [o, n] = [a, c] := by
  cases o <;> cases n <;> first | rfl | exact absurd rfl h | exact absurd rfl g
section
variable {K : PySem.W.Frag} {W : WX} {O : List OD} {ts : List T} {P : PT'} {X : XX} {sp : SpD} {tr tk : TA} {ta : TE} {E : XK} {C : Addr} {m : Str}
/-- what one def changed and made: the i-th thing is o' now, at c stands the new thing n -/
theorem StO.both {b : Bs} {A : List Addr} {H H' : Hp} {i : Nat} {a c : Addr} {o o' n : OD} (s : StO K b A O H) (ha : A[i]? = some a) (ho : O[i]? = some o) (ng1 : o ≠ .gone) (g1 : o' ≠ .gone) (g2 : n ≠ .gone)
    (s' : StO K ⟨hid [a] H, (live A O).filter (fun y => y != a) ++ b.Z, [a]⟩ [a, c] [o', n] H') :
    StO K b (A ++ [c]) (O.set i o' ++ [n]) H' ∧ Nxt b A O H (A ++ [c]) (O.set i o' ++ [n]) H' := by
  have hl : a ∈ live A O := live_at ha ho ng1
  have lv := live2 (a := a) (c := c) g1 g2
  have x : ∀ y u, y ≠ a → H y = some u → NT u → y ≠ c ∧ H' y = some u := fun y u hy h nt => by
    have x1 : Ex (hid [a] H) (hid (live [a, c] [o', n]) H') := s'.ext
    rw [lv] at x1
    obtain ⟨h1, h2⟩ := hid_some.mp (x1 y u (hid_some.mpr ⟨by simpa using hy, h⟩) nt)
    simp only [List.mem_cons, List.not_mem_nil, or_false, not_or] at h1
    exact ⟨h1.2, h2⟩
  have ca : a ≠ c := by
    have := s'.nd
    simp only [List.nodup_cons, List.mem_cons, List.not_mem_nil, or_false] at this
    exact this.1
  have cA : c ∉ A := fun hm => by
    obtain ⟨u, q, nt⟩ := s.inh c hm
    exact (x c u (fun z => ca z.symm) q nt).1 rfl
  have cZ : c ∉ b.Z := fun hz => by
    obtain ⟨u, q, nt⟩ := (s.z_at hz).2
    exact (x c u (fun z => ca z.symm) q nt.1).1 rfl
  have el : live A (O.set i o') = live A O := live_set ho ng1 g1
  have sl : A.length = (O.set i o').length := by rw [List.length_set]; exact s.len
  have la : live (A ++ [c]) (O.set i o' ++ [n]) = live A O ++ [c] := by
    rw [live_app sl, el]
    congr 1
    cases n with
    | gone => exact absurd rfl g2
    | _ => rfl
  have hid_eq : ∀ H0 : Hp, hid ([a, c] ++ ((live A O).filter (fun y => y != a) ++ b.Z)) H0 = hid (live A O ++ [c] ++ b.Z) H0 := fun H0 => by
    funext y
    have mm : y ∈ [a, c] ++ ((live A O).filter (fun y => y != a) ++ b.Z) ↔ y ∈ live A O ++ [c] ++ b.Z := by
      simp only [List.mem_append, List.mem_cons, List.not_mem_nil, or_false, List.mem_filter, bne_iff_ne, ne_eq]
      constructor
      · rintro ((rfl | h) | ⟨h, _⟩ | h)
        · exact .inl (.inl hl)
        · exact .inl (.inr h)
        · exact .inl (.inl h)
        · exact .inr h
      · rintro ((h | h) | h)
        · by_cases hx : y = a
          · exact .inl (.inl hx)
          · exact .inr (.inl ⟨h, hx⟩)
        · exact .inl (.inr h)
        · exact .inr (.inr h)
    unfold hid
    by_cases hx : y ∈ live A O ++ [c] ++ b.Z
    · rw [if_pos hx, if_pos (mm.mpr hx)]
    · rw [if_neg hx, if_neg fun z => hx (mm.mp z)]
  have fz : Fz ⟨hid [a] H, (live A O).filter (fun y => y != a) ++ b.Z, [a]⟩ [a, c] [o', n] H' = Fz b (A ++ [c]) (O.set i o' ++ [n]) H' := by
    unfold Fz
    rw [lv, la]
    exact hid_eq H'
  have x3 : Ex (Fz b A O H) (Fz b (A ++ [c]) (O.set i o' ++ [n]) H') := fun y u hy nt => by
    obtain ⟨h1, h2⟩ := hid_some.mp hy
    have ya : y ≠ a := fun z => h1 (List.mem_append_left _ (by rw [z]; exact hl))
    obtain ⟨h3, h4⟩ := x y u ya h2 nt
    refine hid_some.mpr ⟨fun z => ?_, h4⟩
    rw [la] at z
    rcases List.mem_append.mp z with z | z
    · rcases List.mem_append.mp z with z | z
      · exact h1 (List.mem_append_left _ z)
      · exact h3 (List.mem_singleton.mp z)
    · exact h1 (List.mem_append_right _ z)
  refine ⟨⟨by rw [List.length_append, List.length_append, sl] <;> rfl, ?_, fun y u hy nt => ?_, s.zs, ?_, fun y hy => ?_, fun j y u h1 h2 => ?_, s'.tb⟩, ⟨⟨[c], rfl⟩, x3⟩⟩
  · obtain ⟨L, e⟩ := s.pre
    exact ⟨L ++ [c], by rw [e, List.append_assoc]⟩
  · obtain ⟨h1, h2⟩ := hid_some.mp (s.ext y u hy nt)
    have ya : y ≠ a := fun z => h1 (by rw [z]; exact hl)
    obtain ⟨h3, h4⟩ := x y u ya h2 nt
    refine hid_some.mpr ⟨fun z => ?_, h4⟩
    rw [la] at z
    rcases List.mem_append.mp z with z | z
    · exact h1 z
    · exact h3 (List.mem_singleton.mp z)
  · exact List.nodup_append.mpr ⟨s.nd, List.nodup_cons.mpr ⟨List.not_mem_nil, List.nodup_nil⟩, fun y hy d hd e => cA (by rw [← List.mem_singleton.mp hd, ← e]; exact hy)⟩
  · rcases List.mem_append.mp hy with hy | hy
    · by_cases ya : y = a
      · rw [ya]
        exact s'.inh a List.mem_cons_self
      · obtain ⟨u, q, nt⟩ := s.inh y hy
        exact ⟨u, (x y u ya q nt).2, nt⟩
    · rw [List.mem_singleton.mp hy]
      exact s'.inh c (List.mem_cons_of_mem _ List.mem_cons_self)
  · by_cases hj : j < A.length
    · rw [List.getElem?_append_left hj] at h1
      rw [List.getElem?_append_left (by rw [← sl]; exact hj), List.getElem?_set] at h2
      by_cases hij : i = j
      · subst hij
        rw [if_pos rfl, if_pos (by rw [← s.len]; exact hj)] at h2
        rw [ha] at h1
        cases h1
        cases h2
        rw [← fz]
        exact s'.cell 0 a o' rfl rfl
      · rw [if_neg hij] at h2
        have hne : y ≠ a := fun z => hij (nd_ix s.nd ha (z ▸ h1))
        exact (s.cell j y u h1 h2).exW x3 fun w h nt => (x y w hne h nt).2
    · rw [List.getElem?_append_right (by omega)] at h1
      rw [List.getElem?_append_right (by rw [← sl]; omega)] at h2
      have h1' := List.mem_singleton.mp (List.mem_of_getElem? h1)
      have h2' := List.mem_singleton.mp (List.mem_of_getElem? h2)
      rw [h1', h2', ← fz]
      exact s'.cell 1 c n rfl rfl
/-- what one def changed, where it made nothing -/
theorem StO.one {b : Bs} {A : List Addr} {H H' : Hp} {i : Nat} {a : Addr} {o o' : OD} (s : StO K b A O H) (ha : A[i]? = some a) (ho : O[i]? = some o) (ng1 : o ≠ .gone) (g : o' ≠ .gone)
    (s' : StO K ⟨hid [a] H, (live A O).filter (fun y => y != a) ++ b.Z, [a]⟩ [a] [o'] H') :
    StO K b A (O.set i o') H' ∧ Nxt b A O H A (O.set i o') H' ∧ Fz ⟨hid [a] H, (live A O).filter (fun y => y != a) ++ b.Z, [a]⟩ [a] [o'] H' = Fz b A (O.set i o') H' := by
  have hl : a ∈ live A O := live_at ha ho ng1
  have lv1 : live [a] [o'] = [a] := by
    cases o' with
    | gone => exact absurd rfl g
    | _ => rfl
  have hid_eq : ∀ H0 : Hp, hid ([a] ++ ((live A O).filter (fun y => y != a) ++ b.Z)) H0 = hid (live A O ++ b.Z) H0 := fun H0 => by
    funext x
    have mem : x ∈ [a] ++ ((live A O).filter (fun y => y != a) ++ b.Z) ↔ x ∈ live A O ++ b.Z := by
      simp only [List.mem_append, List.mem_singleton, List.mem_filter, bne_iff_ne, ne_eq]
      constructor
      · rintro (rfl | ⟨h, _⟩ | h)
        · exact .inl hl
        · exact .inl h
        · exact .inr h
      · rintro (h | h)
        · by_cases hx : x = a
          · exact .inl hx
          · exact .inr (.inl ⟨h, hx⟩)
        · exact .inr (.inr h)
    unfold hid
    by_cases hx : x ∈ live A O ++ b.Z
    · rw [if_pos hx, if_pos (mem.mpr hx)]
    · rw [if_neg hx, if_neg fun z => hx (mem.mp z)]
  have el : live A (O.set i o') = live A O := live_set ho ng1 g
  have fz : Fz ⟨hid [a] H, (live A O).filter (fun y => y != a) ++ b.Z, [a]⟩ [a] [o'] H' = Fz b A (O.set i o') H' := by
    unfold Fz
    rw [lv1, el]
    exact hid_eq H'
  have x : ∀ c u, c ≠ a → H c = some u → NT u → H' c = some u := fun c u hc h n => by
    have x1 : Ex (hid [a] H) (hid (live [a] [o']) H') := s'.ext
    exact (hid_some.mp (x1 c u (hid_some.mpr ⟨by simpa using hc, h⟩) n)).2
  have x3 : Ex (Fz b A O H) (Fz b A (O.set i o') H') := by
    unfold Fz
    rw [el]
    exact hid_monoW (fun c u hc h n => x c u (fun z => hc (List.mem_append_left _ (by rw [z]; exact hl))) h n) fun _ _ h _ => h
  refine ⟨⟨by rw [List.length_set]; exact s.len, s.pre, ?_, s.zs, s.nd, fun c h => ?_, fun j c u h1 h2 => ?_, s'.tb⟩, ⟨⟨[], (List.append_nil A).symm⟩, x3⟩, fz⟩
  · rw [el]
    exact s.ext.trans (hid_monoW (fun c u hc h n => x c u (fun z => hc (by rw [z]; exact hl)) h n) fun _ _ h _ => h)
  · by_cases z : c = a
    · rw [z]
      exact s'.inh a List.mem_cons_self
    · obtain ⟨u, q, n⟩ := s.inh c h
      exact ⟨u, x c u z q n, n⟩
  · rw [List.getElem?_set] at h2
    by_cases hij : i = j
    · subst hij
      rw [if_pos rfl] at h2
      rw [ha] at h1
      cases h1
      split at h2
      · cases h2
        rw [← fz]
        exact s'.cell 0 a o' rfl rfl
      · cases h2
    · rw [if_neg hij] at h2
      have hne : c ≠ a := fun z => hij (nd_ix s.nd ha (z ▸ h1))
      exact (s.cell j c u h1 h2).exW x3 fun w h n => x c w hne h n
theorem liftF_1 {b : Bs} {A : List Addr} {H : Hp} {σ : L2.St} {Q : VK} {vs : List V} {xs ys : List T} {i : Nat} {o : OD} (s : StO K b A O H) (r : RepTs K (Fz b A O H) A xs vs) (hx : tr1 i xs = some ys) (ho : O[i]? = some o) (ng : okG [o] = true) (hE : ∀ C d H, W C d σ H → E C d H)
    (p : sp ys [o] (fun t O' => ∃ o' n, t = .own 1 ∧ O' = [o', n] ∧ P (.own O.length) (O.set i o' ++ [n])) (fun C fs O' => ∃ o', O' = [o'] ∧ X C fs (O.set i o'))) (kv : KV' K b A O H P Q) (kx : KX K W b A O σ H X) : liftF K sp vs H Q E := by
  have ng1 : o ≠ .gone := fun z => by
    subst z
    cases ng
  have hi : i < A.length := by
    rw [s.len]
    exact (List.getElem?_eq_some_iff.mp ho).1
  obtain ⟨a, ha⟩ : ∃ a, A[i]? = some a := ⟨A[i], List.getElem?_eq_getElem hi⟩
  have hl : a ∈ live A O := live_at ha ho ng1
  have lv1 : live [a] [o] = [a] := by
    cases o with
    | gone => exact absurd rfl ng1
    | _ => rfl
  have fzc : Fz ⟨hid [a] H, (live A O).filter (fun y => y != a) ++ b.Z, [a]⟩ [a] [o] H = Fz b A O H := by
    unfold Fz
    rw [lv1]
    funext x
    have mem : x ∈ [a] ++ ((live A O).filter (fun y => y != a) ++ b.Z) ↔ x ∈ live A O ++ b.Z := by
      simp only [List.mem_append, List.mem_singleton, List.mem_filter, bne_iff_ne, ne_eq]
      constructor
      · rintro (rfl | ⟨h, _⟩ | h)
        · exact .inl hl
        · exact .inl h
        · exact .inr h
      · rintro (h | h)
        · by_cases hx : x = a
          · exact .inl hx
          · exact .inr (.inl ⟨h, hx⟩)
        · exact .inr (.inr h)
    unfold hid
    by_cases hx : x ∈ live A O ++ b.Z
    · rw [if_pos hx, if_pos (mem.mpr hx)]
    · rw [if_neg hx, if_neg fun z => hx (mem.mp z)]
  refine ⟨(live A O).filter (fun y => y != a) ++ b.Z, [a], [o], ys, _, _, ⟨rfl, ⟨[], rfl⟩, ?_, fun z hz => ?_, by simp, fun c h => ?_, fun j c u h1 h2 => ?_, s.tb⟩, ng, ?_, p, fun c n O' H' q hlen g s' => ?_, fun C fs O' H' d ⟨o', e, q⟩ g s' rx => ?_⟩
  · show Ex (hid [a] H) (hid (live [a] [o]) H)
    rw [lv1]
    exact Ex.refl _
  · have hz' : z ≠ a ∧ ∃ u, H z = some u ∧ OB u := by
      rcases List.mem_append.mp hz with hz | hz
      · obtain ⟨h1, h2⟩ := List.mem_filter.mp hz
        exact ⟨by simpa using h2, s.some_at h1⟩
      · obtain ⟨h1, h2⟩ := s.z_at hz
        exact ⟨fun z => h1 (by rw [z]; exact hl), h2⟩
    obtain ⟨h1, u, h2, n⟩ := hz'
    exact ⟨u, hid_some.mpr ⟨by simpa using h1, h2⟩, n⟩
  · rw [List.mem_singleton.mp h]
    obtain ⟨o2, q2, q3⟩ := s.some_at hl
    exact ⟨o2, q2, q3.1⟩
  · have hj : j = 0 := by
      cases j with
      | zero => rfl
      | succ n => simp at h1
    subst hj
    have e1 : a = c := Option.some.inj h1
    have e2 : o = u := Option.some.inj h2
    subst e1 e2
    rw [fzc]
    exact s.cell i a o ha ho
  · rw [fzc]
    exact tr1_reps ha hx r
  · obtain ⟨o', n2, _, e, q⟩ := q
    obtain ⟨o1, rfl⟩ : ∃ o1, O' = [o1] := by
      match O', hlen with
      | [o1], _ => exact ⟨o1, rfl⟩
    have e : [o1, n] = [o', n2] := e
    obtain ⟨e1, e2⟩ : o' = o1 ∧ n2 = n := by
      injection e with e1 e2
      injection e2 with e2 _
      exact ⟨e1.symm, e2.symm⟩
    subst e1 e2
    have g1 : o' ≠ .gone := fun z => by subst z; cases g
    have g2 : n2 ≠ .gone := fun z => by subst z; exact okG_at g (i := 1) rfl rfl
    obtain ⟨s2, x2⟩ := s.both ha ho ng1 g1 g2 s'
    refine kv _ _ (A ++ [c]) _ H' q s2 x2 ⟨c, ?_, rfl⟩
    rw [← s.len, List.getElem?_append_right (Nat.le_refl _), Nat.sub_self] <;> rfl
  · subst e
    have g1 : o' ≠ .gone := fun z => by subst z; cases g
    obtain ⟨s2, n2, f2⟩ := s.one ha ho ng1 g1 s'
    refine hE C d H' (kx C fs A _ H' d q s2 n2 ?_)
    rw [← f2]
    exact rx
/-- f(.., the owned thing i, ..) hands back a new thing -/
theorem w_fnOF (i : Nat) (h : WA K W tr O ts (fun xs O1 => ∃ ys o, tr1 i xs = some ys ∧ O1[i]? = some o ∧ okG [o] = true ∧
    sp ys [o] (fun t O' => ∃ o' n, t = .own 1 ∧ O' = [o', n] ∧ P (.own O1.length) (O1.set i o' ++ [n])) (fun _ _ _ => False)) X) : WE K W (tCall (liftF K sp) [] E0 tr) O ts P X := fun b A σ H Q s rs kv kx =>
  h b A σ H _ s rs (fun xs vs A1 O1 H1 p1 s1 n1 r1 => by
    obtain ⟨ys, o, e, ho, ng, p⟩ := p1
    rw [List.append_nil]
    have x0 : (fun (C : Value) (fs : Option (List (Str × D))) (O' : List OD) => ∃ o', O' = [o'] ∧ (fun _ _ _ => False : XX) C fs (O1.set i o')) = fun _ _ _ => False := by
      funext C fs O'
      exact propext ⟨fun ⟨_, _, z⟩ => z, fun z => z.elim⟩
    exact liftF_1 (W := fun _ _ _ _ => False) (X := fun _ _ _ => False) (σ := σ) s1 r1 e ho ng (fun C d H z => z) (by rw [x0]; exact p) (kv.nxt n1) (fun C fs A' O' H' d z => z.elim)) kx
end
end G

set_option Elab.async false
set_option linter.all false
set_option maxRecDepth 100000
set_option maxHeartbeats 2000000
namespace G
open PySem PySem.Spec PyProof.Rows L2
theorem noLs_nums : ∀ xs : List Int, noLs (nums xs) = true
  | [] => rfl
  | x :: xs => by
    show (noL (.int x) && noLs (nums xs)) = true
    rw [noLs_nums xs] <;> rfl
/-- two views, alike but at a list -/
structure BarA (a : Addr) (F1 F2 : Hp) : Prop where
  like : ∀ c o, c ≠ a → F1 c = some o → F2 c = some o
  lst : ∃ ws, F1 a = some (.lst ws)
section
variable {K : PySem.W.Frag} {W : WX} {O : List OD} {ts : List T} {P : PT'} {X : XX} {sp : SpD} {tr tk : TA} {ta : TE} {E : XK} {C : Addr} {m : Str}
/-- the view in which the i-th thing, a list, is lent -/
structure Lent (K : PySem.W.Frag) (b : Bs) (A : List Addr) (O : List OD) (H : Hp) (i : Nat) (a : Addr) (es : List D) (Z : List Addr) : Prop where
  st : StO K ⟨hid [] H, Z, []⟩ [] [] H
  ra : Rep K (hid Z H) (.lst es) (.ref a)
  ex : Ex (Fz b A O H) (hid Z H)
  back : ∀ {H' : Hp}, (∀ c o, H c = some o → NT o → H' c = some o) → TabsK K H' → StO K b A O H' ∧ Nxt b A O H A O H' ∧ BarA a (hid Z H') (Fz b A O H')
  zs : ∀ z ∈ Z, ∃ o, H z = some o ∧ OB o
theorem hid_nil (H : Hp) : hid [] H = H := by
  funext a
  unfold hid
  rw [if_neg (by simp)]
theorem StO.lend {b : Bs} {A : List Addr} {H : Hp} {i : Nat} {es : List D} (s : StO K b A O H) (ho : O[i]? = some (.lst es)) : ∃ a Z, A[i]? = some a ∧ Lent K b A O H i a es Z := by
  have hi : i < O.length := (List.getElem?_eq_some_iff.mp ho).1
  obtain ⟨a, ha⟩ : ∃ a, A[i]? = some a := ⟨_, List.getElem?_eq_getElem (show i < A.length by rw [s.len]; exact hi)⟩
  obtain ⟨ws, hw, rk⟩ := s.cell i a _ ha ho
  have hl : a ∈ live A O := live_at ha ho (fun z => by cases z)
  have nz : a ∉ b.Z := fun z => (s.z_at z).1 hl
  have aZ : a ∉ (live A O).filter (fun y => y != a) ++ b.Z := fun z => by
    rcases List.mem_append.mp z with z | z
    · have := (List.mem_filter.mp z).2
      simp at this
    · exact nz z
  have zz : ∀ z ∈ (live A O).filter (fun y => y != a) ++ b.Z, ∃ o, H z = some o ∧ OB o := fun z hz => by
    rcases List.mem_append.mp hz with hz | hz
    · exact s.some_at (List.mem_filter.mp hz).1
    · exact (s.z_at hz).2
  have ex : Ex (Fz b A O H) (hid ((live A O).filter (fun y => y != a) ++ b.Z) H) := hid_mono (fun _ _ _ h => h) fun c o h _ z => by
    rcases List.mem_append.mp z with z | z
    · exact h (List.mem_append_left _ (List.mem_filter.mp z).1)
    · exact h (List.mem_append_right _ z)
  refine ⟨a, (live A O).filter (fun y => y != a) ++ b.Z, ha, ⟨⟨rfl, ⟨[], rfl⟩, Ex.refl _, fun z hz => ?_, List.nodup_nil, fun a h => (by simp at h), fun i a o h _ => (by simp at h), s.tb⟩, ⟨a, ws, rfl, hid_some.mpr ⟨aZ, hw⟩, rk.ex ex⟩, ex, fun {H'} x tb => ?_, zz⟩⟩
  · obtain ⟨o, q, n⟩ := zz z hz
    exact ⟨o, by show hid [] H z = some o; rw [hid_nil]; exact q, n⟩
  · have x3 : Ex (Fz b A O H) (Fz b A O H') := hid_monoW (fun a o _ h n => x a o h n) fun _ _ h _ => h
    refine ⟨⟨s.len, s.pre, s.ext.trans (hid_monoW (fun a o _ h n => x a o h n) fun _ _ h _ => h), s.zs, s.nd, fun a h => let ⟨o, q, n⟩ := s.inh a h; ⟨o, x a o q n, n⟩, fun i a o h1 h2 => (s.cell i a o h1 h2).exW x3 (x a), tb⟩, ⟨⟨[], (List.append_nil A).symm⟩, x3⟩, ⟨fun c o hc h => ?_, ?_⟩⟩
    · obtain ⟨h1, h2⟩ := hid_some.mp h
      refine hid_some.mpr ⟨fun z => h1 ?_, h2⟩
      rcases List.mem_append.mp z with z | z
      · exact List.mem_append_left _ (List.mem_filter.mpr ⟨z, by simpa using hc⟩)
      · exact List.mem_append_right _ z
    · exact ⟨ws, hid_some.mpr ⟨aZ, x a _ hw (fun _ z => by cases z)⟩⟩
/-- .. to a def that hands back a new thing of the caller's own -/
theorem liftF_lend {b : Bs} {A : List Addr} {O : List OD} {H : Hp} {Q : VK} {vs : List V} {xs ys : List T} {es : List D} {i : Nat} (s : StO K b A O H) (r : RepTs K (Fz b A O H) A xs vs) (hx : lnd i es xs = some ys) (ho : O[i]? = some (.lst es))
    (p : sp ys [] (fun t O' => ∃ ns, t = .own 0 ∧ O' = [.lst ns] ∧ noLs ns = true ∧ P (.own O.length) (O ++ [.lst ns])) (fun _ _ _ => False)) (kv : KV' K b A O H P Q) : liftF K sp vs H Q E := by
  obtain ⟨a, Z, ha, L⟩ := s.lend ho
  refine ⟨Z, [], [], ys, _, _, L.st, rfl, lnd_reps ha L.ex L.ra hx r, p, fun c o O' H' q hl g s' => ?_, fun C fs O' H' d z => z.elim⟩
  obtain ⟨ns, _, e, n, q⟩ := q
  have e0 : O' = [] := List.length_eq_zero_iff.mp hl
  subst e0
  cases (List.cons.inj (show [o] = [.lst ns] from e)).1
  have s' : StO K ⟨hid [] H, Z, []⟩ [c] [.lst ns] H' := s'
  have x : ∀ y u, H y = some u → NT u → y ≠ c ∧ H' y = some u := fun y u hy nt => by
    have x1 : Ex (hid [] H) (hid (live [c] [.lst ns]) H') := s'.ext
    rw [hid_nil] at x1
    obtain ⟨h1, h2⟩ := hid_some.mp (x1 y u hy nt)
    exact ⟨by simpa [live] using h1, h2⟩
  obtain ⟨s2, n2, br⟩ := L.back (fun y u h nt => (x y u h nt).2) s'.tb
  have cA : c ∉ A := fun hm => by
    obtain ⟨u, q, nt⟩ := s.inh c hm
    exact (x c u q nt).1 rfl
  have cZ : c ∉ b.Z := fun hz => by
    obtain ⟨u, q, nt⟩ := (s.z_at hz).2
    exact (x c u q nt.1).1 rfl
  have la : live (A ++ [c]) (O ++ [.lst ns]) = live A O ++ [c] := live_app s.len
  have sub : ∀ y w, H y = some w → NT w → y ∉ live A O ++ b.Z → y ∉ live (A ++ [c]) (O ++ [.lst ns]) ++ b.Z := fun y w hy nt h z => by
    rw [la] at z
    rcases List.mem_append.mp z with z | z
    · rcases List.mem_append.mp z with z | z
      · exact h (List.mem_append_left _ z)
      · exact (x y w hy nt).1 (List.mem_singleton.mp z)
    · exact h (List.mem_append_right _ z)
  have x3 : Ex (Fz b A O H) (Fz b (A ++ [c]) (O ++ [.lst ns]) H') := fun y u hy nt => by
    obtain ⟨h1, h2⟩ := hid_some.mp hy
    exact hid_some.mpr ⟨sub y u h2 nt h1, (x y u h2 nt).2⟩
  obtain ⟨vs', c1, c2⟩ := s'.cell 0 c _ rfl rfl
  have s3 : StO K b (A ++ [c]) (O ++ [.lst ns]) H' := by
    refine ⟨by rw [List.length_append, List.length_append, s.len] <;> rfl, ?_, fun y u hy nt => ?_, s.zs, ?_, fun y hy => ?_, fun j y u h1 h2 => ?_, s'.tb⟩
    · obtain ⟨L, e⟩ := s.pre
      exact ⟨L ++ [c], by rw [e, List.append_assoc]⟩
    · obtain ⟨h1, h2⟩ := hid_some.mp (s.ext y u hy nt)
      refine hid_some.mpr ⟨fun z => ?_, (x y u h2 nt).2⟩
      rw [la] at z
      rcases List.mem_append.mp z with z | z
      · exact h1 z
      · exact (x y u h2 nt).1 (List.mem_singleton.mp z)
    · exact List.nodup_append.mpr ⟨s.nd, List.nodup_cons.mpr ⟨List.not_mem_nil, List.nodup_nil⟩, fun y hy d hd e => cA (by rw [← List.mem_singleton.mp hd, ← e]; exact hy)⟩
    · rcases List.mem_append.mp hy with hy | hy
      · obtain ⟨u, q, nt⟩ := s.inh y hy
        exact ⟨u, (x y u q nt).2, nt⟩
      · rw [List.mem_singleton.mp hy]
        exact s'.inh c List.mem_cons_self
    · by_cases hj : j < A.length
      · rw [List.getElem?_append_left hj] at h1
        rw [List.getElem?_append_left (by rw [← s.len]; exact hj)] at h2
        exact (s.cell j y u h1 h2).exW x3 fun w h nt => (x y w h nt).2
      · rw [List.getElem?_append_right (by omega)] at h1
        rw [List.getElem?_append_right (by rw [← s.len]; omega)] at h2
        have h1' := List.mem_singleton.mp (List.mem_of_getElem? h1)
        have h2' := List.mem_singleton.mp (List.mem_of_getElem? h2)
        rw [h1', h2']
        obtain ⟨ws, hw⟩ := br.lst
        have ca : a ≠ c := fun z => cA (by rw [← z]; exact List.mem_of_getElem? ha)
        obtain ⟨w1, w2⟩ := hid_some.mp hw
        refine ⟨vs', c1, repL_cut (a := a) (ws := ws) (hid_some.mpr ⟨fun z => ?_, w2⟩) (fun y w ya h => ?_) ns n c2⟩
        · rcases List.mem_append.mp z with z | z
          · exact ca (List.mem_singleton.mp z)
          · exact w1 z
        · obtain ⟨h3, h4⟩ := hid_some.mp h
          have h5 := hid_some.mp (br.like y w ya (hid_some.mpr ⟨fun z => h3 (List.mem_append_right _ z), h4⟩))
          refine hid_some.mpr ⟨fun z => ?_, h4⟩
          rw [la] at z
          rcases List.mem_append.mp z with z | z
          · rcases List.mem_append.mp z with z | z
            · exact h5.1 (List.mem_append_left _ z)
            · exact h3 (List.mem_append_left _ (by rw [List.mem_singleton.mp z]; exact List.mem_cons_self))
          · exact h5.1 (List.mem_append_right _ z)
  refine kv _ _ (A ++ [c]) _ H' q s3 ⟨⟨[c], rfl⟩, x3⟩ ⟨c, ?_, rfl⟩
  rw [← s.len, List.getElem?_append_right (Nat.le_refl _), Nat.sub_self] <;> rfl
theorem w_fnLF (i : Nat) (h : WA K W tr O ts (fun xs O1 => ∃ es ys, O1[i]? = some (.lst es) ∧ lnd i es xs = some ys ∧ sp ys [] (fun t O' => ∃ ns, t = .own 0 ∧ O' = [.lst ns] ∧ noLs ns = true ∧ P (.own O1.length) (O1 ++ [.lst ns])) (fun _ _ _ => False)) X) : WE K W (tCall (liftF K sp) [] E0 tr) O ts P X := fun b A σ H Q s rs kv kx =>
  h b A σ H _ s rs (fun xs vs A1 O1 H1 p1 s1 n1 r1 => by
    obtain ⟨es, ys, ho, e, p⟩ := p1
    rw [List.append_nil]
    exact liftF_lend s1 r1 e ho p (kv.nxt n1)) kx
/-- what a value is in the whole heap -/
theorem valD_rep {b : Bs} {A : List Addr} {H : Hp} {x : T} {d : D} {v : V} (h : ValD x O d) (s : StO K b A O H) (r : RepT K (Fz b A O H) A x (some v)) : Rep K H d v := by
  rcases h with rfl | ⟨i, ds, rfl, ho, rfl⟩
  · obtain ⟨_, e1, r1⟩ := r
    cases e1
    exact Rep.ex hid_ex _ r1
  · obtain ⟨a, ha, e1⟩ := r
    cases e1
    obtain ⟨ws, h1, h2⟩ := s.cell i a _ ha ho
    exact ⟨a, ws, rfl, h1, h2.ex hid_ex⟩
/-- repr(a list of one's own) -/
theorem c_reprO {x : T} {d : D} {p : PyData} (hv : ValD x O d) (h : Shows d p) (k : P (.v (.str p.shown)) O) : WC K (rRepr K) [x] O P := fun b' A H Q vs s r kv => by
  obtain ⟨v, _, rfl, r1, rfl⟩ := r
  exact ⟨v, p, rfl, pyT_rp h.py (valD_rep hv s r1), h.ok, h.dp, h.len, kv _ _ A O H k s Nxt.refl ⟨_, rfl, rfl⟩⟩
end
end G

set_option Elab.async false
set_option linter.all false
set_option maxRecDepth 100000
set_option maxHeartbeats 2000000
namespace G
open PySem PySem.Spec PyProof.Rows L2
section
variable {K : PySem.W.Frag} {W : WX} {O : List OD} {ts : List T} {P : PT'} {X : XX} {te : TE}
theorem w_slLO {tl th : TO} (h : WE K W te O ts (fun x O1 => WO K W tl O1 ts (fun lo O2 => WO K W th O2 ts (fun hi O3 => ∃ ds, LstD x O3 ds ∧ P (.own O3.length) (O3 ++ [.lst (cutD ds lo hi)])) X) X) X) : WE K W (tSl (rSlL K) te tl th) O ts P X := fun b A σ H Q s rs kv kx =>
  h b A σ H _ s rs (fun x v A1 O1 H1 p1 s1 n1 r1 => p1 b A1 σ H1 _ s1 (rs.nxt n1) (fun lo A2 O2 H2 p2 s2 n2 => p2 b A2 σ H2 _ s2 (rs.nxt (n1.trans n2)) (fun hi A3 O3 H3 p3 s3 n3 => by
    obtain ⟨ds, hx, p⟩ := p3
    obtain ⟨a, vs, rfl, h1, h2⟩ := lstD_at hx s3 (r1.nxt (n2.trans n3))
    refine ⟨a, vs, rfl, h1, fun p' hp => ?_⟩
    obtain ⟨s4, n4⟩ := s3.own (u := .lst (cutV vs lo hi)) (o := .lst (cutD ds lo hi)) hp ⟨_, upd_same, cut_rep h2 lo hi⟩
    refine kv _ _ (A3 ++ [p']) _ _ p s4 (((n1.trans n2).trans n3).trans n4) ⟨p', ?_, rfl⟩
    rw [← s3.len, List.getElem?_append_right (Nat.le_refl _), Nat.sub_self] <;> rfl) (kx.nxt (n1.trans n2))) (kx.nxt n1)) kx
theorem w_revLO (h : WE K W te O ts (fun x O1 => ∃ ds, LstD x O1 ds ∧ P (.own O1.length) (O1 ++ [.lst ds.reverse])) X) : WE K W (tRevL K te) O ts P X := fun b A σ H Q s rs kv kx =>
  h b A σ H _ s rs (fun x v A1 O1 H1 p1 s1 n1 r1 => by
    obtain ⟨ds, hx, k⟩ := p1
    obtain ⟨a, vs, rfl, h1, h2⟩ := lstD_at hx s1 r1
    refine ⟨a, vs, rfl, h1, fun p hp => ?_⟩
    obtain ⟨s2, n2⟩ := s1.own (u := .lst vs.reverse) (o := .lst ds.reverse) hp ⟨_, upd_same, h2.reverse⟩
    refine kv _ _ (A1 ++ [p]) _ _ k s2 (n1.trans n2) ⟨p, ?_, rfl⟩
    rw [← s1.len, List.getElem?_append_right (Nat.le_refl _), Nat.sub_self] <;> rfl) kx
/-- the shorter row behind -/
theorem lc_ZR {g : TG} {vs : List Nat} {α β : Type} (xs : List α) (ys : List β) (e1 : α → D) (e2 : β → D) (f : α → β → D) (hl : ys.length ≤ xs.length) (hz : ys.length ≤ 1000000)
    (hs : ∀ x y acc, x ∈ xs → y ∈ ys → WG K W g (.v (.tup [e1 x, e2 y])) (O ++ [.lst acc]) (wipeT ts vs) (fun ts2 O2 => WE K W te O2 ts2 (fun y' O4 => y' = .v (f x y) ∧ O4 = O ++ [.lst acc]) X0))
    (hd : P (.v (.lst (List.zipWith f xs ys))) O) : LcEx K W g te vs P ts (itZ (xs.map e1) (ys.map e2)) O := by
  have e : itZ (xs.map e1) (ys.map e2) = itZ ((xs.take ys.length).map e1) (ys.map e2) := by
    funext i
    unfold itZ
    rw [List.getElem?_map, List.getElem?_map, List.getElem?_map]
    by_cases hi : i < ys.length
    · rw [List.getElem?_take_of_lt hi]
    · rw [List.getElem?_eq_none (by omega : ys.length ≤ i)]
      cases (Option.map e1 xs[i]?) <;> cases (Option.map e1 (List.take ys.length xs)[i]?) <;> rfl
  rw [e]
  refine lc_Z (xs.take ys.length) ys e1 e2 f (by rw [List.length_take]; omega) (by rw [List.length_take]; omega) (fun x y acc hx hy => hs x y acc (List.mem_of_mem_take hx) hy) ?_
  have e3 : List.zipWith f (xs.take ys.length) ys = List.zipWith f xs ys := by
    refine List.ext_getElem? fun i => ?_
    rw [List.getElem?_zipWith, List.getElem?_zipWith]
    by_cases hi : i < ys.length
    · rw [List.getElem?_take_of_lt hi]
    · rw [List.getElem?_eq_none (by omega : ys.length ≤ i)]
      cases xs[i]? <;> cases (List.take ys.length xs)[i]? <;> rfl
  rw [e3]
  exact hd
end
end G

set_option Elab.async false
set_option linter.all false
set_option maxRecDepth 100000
set_option maxHeartbeats 4000000
namespace G
open PySem PySem.Spec PyProof.Rows L2
section
variable {K : PySem.W.Frag} {W : WX} {O : List OD} {ts : List T} {X : XX}
theorem i_list2 {tl : TE} {S : (Nat → Option T) → List OD → Prop} (h : WE K W tl O ts (fun t O' => ∃ ds, (t = .v (.lst ds) ∨ ∃ od ws, t = .v (lckLD K od ws ds)) ∧ S (itD ds) O') X) : WI K W (iList K tl) O ts S X := fun b A σ H R s rs k kx =>
  h b A σ H _ s rs (fun t v A' O' H' p s' n' r' => by
    obtain ⟨ds, hd, q⟩ := p
    have key : ∃ a vs, v = .ref a ∧ SqL K (Fz b A' O' H') a vs ∧ RepL K (Fz b A' O' H') ds vs := by
      rcases hd with rfl | ⟨od, ws, rfl⟩
      · obtain ⟨_, e, a, vs, rfl, h1, h2⟩ := r'
        cases e
        exact ⟨a, vs, rfl, SqL.of (K := K) h1, h2⟩
      · obtain ⟨_, e, r4⟩ := r'
        cases e
        obtain ⟨c, rfl, h3, h4⟩ := lckL_sq r4
        exact ⟨c, ws, rfl, h3, h4⟩
    obtain ⟨a, vs, rfl, h1, h2⟩ := key
    have h1' := (hid_ex : Ex (Fz b A' O' H') H').l h1
    refine ⟨a, rfl, ⟨vs, h1'⟩, k _ _ A' O' H' q s' n' fun i A2 O2 H2 s2 n2 => ⟨fun hn _ => ⟨vs, hid_ex.l (n2.ext.l h1), by rw [h2.length]; exact itD_none hn⟩, fun t ht => ?_⟩⟩
    obtain ⟨d, e1, rfl⟩ := itD_some ht
    obtain ⟨v, e2, r⟩ := h2.get e1
    have h2' : SqL K H2 a vs := hid_ex.l (n2.ext.l h1)
    refine ⟨⟨vs, v, h2', e2⟩, fun x H3 y => ?_⟩
    obtain ⟨rfl, y⟩ := y
    have e3 := (y vs h2').symm.trans e2
    have e4 : x = v := Option.some.inj e3
    subst e4
    exact ⟨s2, Nxt.refl, ⟨_, rfl, r.ex n2.ext⟩⟩) kx
end
end G

set_option Elab.async false
set_option linter.all false
set_option maxRecDepth 100000
set_option maxHeartbeats 4000000
namespace My
open G (InR)
end My

set_option Elab.async false
set_option linter.all false
set_option maxRecDepth 100000
set_option maxHeartbeats 4000000
namespace G
/-- the carry of r and g -/
def cy (m r g : Int) : Int := if m ≤ r + g then 1 else 0
/-- a beat -/
def bt (l : Bool) (m : Int) : List Int → Int → List Int × List Int
  | [], _ => ([], [])
  | r :: rs, g => ((r + g - cy m r g * m) :: (bt l m rs (if l then r else r + g - cy m r g * m)).1, cy m r g :: (bt l m rs (if l then r else r + g - cy m r g * m)).2)
/-- .. back -/
def bw (r g : Int) : Int := if r < g then 1 else 0
def bk (l : Bool) (m : Int) : List Int → Int → List Int × List Int
  | [], _ => ([], [])
  | r :: rs, g => ((r - g + bw r g * m) :: (bk l m rs (if l then r - g + bw r g * m else r)).1, bw r g :: (bk l m rs (if l then r - g + bw r g * m else r)).2)
theorem cy_in {m r g : Int} (h0 : 0 ≤ r) (h1 : r < m) (h2 : 0 ≤ g) (h3 : g < m) : 0 ≤ r + g - cy m r g * m ∧ r + g - cy m r g * m < m := by
  unfold cy
  split <;> omega
end G

set_option Elab.async false
set_option linter.all false
set_option maxRecDepth 100000
set_option maxHeartbeats 4000000
namespace G
end G

set_option Elab.async false
set_option linter.all false
set_option maxRecDepth 100000
set_option maxHeartbeats 4000000
namespace My
open G (InR bt cy cy_in)
/-- running sums over all integers -/
def sN (f : Int → Int) : Nat → Int
  | 0 => 0
  | n + 1 => sN f n + f ((n : Int) + 1)
def sM (f : Int → Int) : Nat → Int
  | 0 => 0
  | n + 1 => sM f n - f (-(n : Int))
def SmZ (f : Int → Int) : Int → Int
  | .ofNat n => sN f n
  | .negSucc n => sM f (n + 1)
theorem SmZ_up (f : Int → Int) : ∀ n : Int, SmZ f (n + 1) = SmZ f n + f (n + 1)
  | .ofNat n => rfl
  | .negSucc 0 => by
    show sN f 0 = sM f 1 + f (Int.negSucc 0 + 1)
    show (0 : Int) = (0 - f (-((0 : Nat) : Int))) + f (Int.negSucc 0 + 1)
    rw [show Int.negSucc 0 + 1 = 0 from rfl, show (-((0 : Nat) : Int)) = 0 from rfl]
    omega
  | .negSucc (k + 1) => by
    rw [show Int.negSucc (k + 1) + 1 = Int.negSucc k by omega]
    show sM f (k + 1) = sM f (k + 1) - f (-((k + 1 : Nat) : Int)) + f (Int.negSucc k)
    rw [show (-((k + 1 : Nat) : Int)) = Int.negSucc k by omega]
    omega
/-- each q-th value, from any place on, is a sum -/
def DgQ (q : Int) (d : Nat) (f : Int → Int) : Prop := ∀ a : Int, Dg d (fun x => f (q * x + a))
theorem Dg.congr {n : Nat} {f g : Int → Int} (e : ∀ x, f x = g x) (h : Dg n f) : Dg n g := by
  have : f = g := funext e
  rwa [← this]
/-- k values behind n -/
def sJ (f : Int → Int) (n : Int) : Nat → Int
  | 0 => 0
  | k + 1 => sJ f n k + f (n + 1 + k)
theorem SmZ_more (f : Int → Int) (n : Int) : ∀ k : Nat, SmZ f (n + k) - SmZ f n = sJ f n k
  | 0 => by
    show SmZ f (n + ((0 : Nat) : Int)) - SmZ f n = 0
    rw [Int.natCast_zero, Int.add_zero, Int.sub_self]
  | k + 1 => by
    show SmZ f (n + ((k + 1 : Nat) : Int)) - SmZ f n = sJ f n k + f (n + 1 + k)
    rw [← SmZ_more f n k, show n + ((k + 1 : Nat) : Int) = n + k + 1 by omega, SmZ_up, show n + (k : Int) + 1 = n + 1 + k by omega]
    omega
theorem DgQ.sJ {q : Int} {d : Nat} {f : Int → Int} (h : DgQ q d f) (a : Int) : ∀ k : Nat, Dg d (fun x => My.sJ f (q * x + a) k)
  | 0 => Dg.zero d fun _ => rfl
  | k + 1 => ((h.sJ a k).add d (h (a + 1 + k))).congr fun x => by
    show My.sJ f (q * x + a) k + f (q * x + (a + 1 + k)) = My.sJ f (q * x + a) k + f (q * x + a + 1 + k)
    rw [show q * x + (a + 1 + (k : Int)) = q * x + a + 1 + k by omega]
theorem DgQ.sum {q : Nat} {d : Nat} {f : Int → Int} (h : DgQ q d f) (s : Int) : DgQ q (d + 1) (fun n => s + SmZ f n) := fun a => by
  show Dg d (fun x => (s + SmZ f ((q : Int) * (x + 1) + a)) - (s + SmZ f ((q : Int) * x + a)))
  refine (h.sJ a q).congr fun x => ?_
  rw [← SmZ_more, show (q : Int) * (x + 1) + a = (q : Int) * x + a + q by rw [Int.mul_add]; omega]
  omega
/-- coefficients by values that are known up to multiples of the modulus -/
theorem dv_cg {M : Int} : ∀ (n : Nat) {f g : Int → Int}, (∀ x, M ∣ f x - g x) → Cg M (dv (row f n)) (dv (row g n))
  | 0, f, g, _ => Cg.refl M _
  | n + 1, f, g, h => by
    rw [dv_row, dv_row]
    have ih := dv_cg (M := M) n (f := fun x => f (x + 1) - f x) (g := fun x => g (x + 1) - g x) fun x => by
      have := Int.dvd_sub (h (x + 1)) (h x)
      rwa [show f (x + 1) - g (x + 1) - (f x - g x) = f (x + 1) - f x - (g (x + 1) - g x) by omega] at this
    intro i
    cases i with
    | zero => exact h 0
    | succ i => exact ih i
theorem V_coefs {M : Int} {n : Nat} {f : Int → Int} (h : Dg n f) (x : Int) : V ((dv (row (fun x => f x % M) n)).map (· % M)) x % M = f x % M := by
  have c : Cg M ((dv (row (fun x => f x % M) n)).map (· % M)) (dv (row f n)) := by
    have c1 : Cg M ((dv (row (fun x => f x % M) n)).map (· % M)) (dv (row (fun x => f x % M) n)) := fun i => by
      rw [getD_map (Int.zero_emod M)]
      exact Int.dvd_of_emod_eq_zero (by rw [Int.sub_emod, Int.emod_emod, Int.sub_self, Int.zero_emod])
    exact c1.trans (dv_cg n fun x => Int.dvd_of_emod_eq_zero (by rw [Int.sub_emod, Int.emod_emod, Int.sub_self, Int.zero_emod]))
  rw [V_cg c, V_dv n h]
end My

set_option Elab.async false
set_option linter.all false
set_option maxRecDepth 100000
set_option maxHeartbeats 4000000
namespace My
/-- a sum whose values are those of F, with at most n coefficients -/
structure SV (m : Int) (r : List Int) (n : Nat) (F : Int → Int) : Prop where
  ok : SumOk m r
  len : r.length ≤ n
  val : ∀ x, V r x % m = F x % m
section
variable {m : Int} {a b : List Int} {n k : Nat} {F G : Int → Int}
theorem SV.two (A : SV m a n F) : 2 ≤ m := A.ok.two
theorem SV.self (ok : SumOk m a) (h : a.length ≤ n) : SV m a n (V a) := ⟨ok, h, fun _ => rfl⟩
theorem SV.congr (A : SV m a n F) (h : ∀ x, F x % m = G x % m) : SV m a n G := ⟨A.ok, A.len, fun x => (A.val x).trans (h x)⟩
theorem SV.up (A : SV m a n F) (h : n ≤ k) : SV m a k F := ⟨A.ok, Nat.le_trans A.len h, A.val⟩
theorem tr_v (m1 : 2 ≤ m) (m2 : m ≤ 1000000000000000000000000000000) {xs : List Int} (hl : xs.length ≤ n) (hn : n ≤ 13) (h : ∀ x, V xs x % m = F x % m) : SV m (tr m xs) n F :=
  ⟨.of m1 m2 (Nat.le_trans hl hn), Nat.le_trans (tr_len m xs) hl, fun x => by rw [tr_val (Int.dvd_refl _)]; exact h x⟩
theorem SV.ad (A : SV m a n F) {b : List Int} (hb : ∀ x, V b x % m = G x % m) (lb : b.length ≤ n) (hn : n ≤ 13) (s : Int) : SV m (tr m (My.ad s a b)) n (fun x => F x + s * G x) :=
  tr_v A.ok.two A.ok.most (by rw [ad_len]; have := A.len; omega) hn fun x => by
    rw [V_ad, Int.add_emod, Int.mul_emod, A.val, hb, ← Int.mul_emod, ← Int.add_emod]
theorem SV.mv (A : SV m a n F) (hn : n ≤ 13) (t : Int) : SV m (tr m (My.mv a t)) n (fun x => F (x + t)) :=
  tr_v A.ok.two A.ok.most (by rw [mv_len]; exact A.len) hn fun x => by rw [mv_val, Int.add_comm t]; exact A.val _
theorem SV.dl (A : SV m a n F) (hn : n ≤ 13) : SV m (tr m (My.dl a)) n (fun x => F x - F (x - 1)) :=
  tr_v A.ok.two A.ok.most (by rw [dl_len]; exact A.len) hn fun x => by
    rw [V_dl, Int.sub_emod, A.val, A.val, ← Int.sub_emod]
theorem SV.turn (A : SV m a n F) : SV m (My.turn m a) n (fun x => F (0 - x)) :=
  ⟨turn_ok A.ok, Nat.le_trans (turn_le a) A.len, fun x => by rw [turn_val]; exact A.val _⟩
theorem V_neg0 (cs : List Int) (x : Int) : V (cs.map fun c => 0 - c) x = 0 - V cs x := by
  rw [show (cs.map fun c => 0 - c) = cs.map (· * (-1)) from List.map_congr_left fun c _ => by omega]
  rw [show 0 - V cs x = V cs x * (-1) by omega]
  exact V_mul ..
theorem SV.neg (A : SV m a n F) (hn : n ≤ 13) : SV m (tr m (a.map fun x => 0 - x)) n (fun x => 0 - F x) :=
  tr_v A.ok.two A.ok.most (by rw [List.length_map]; exact A.len) hn fun x => by
    rw [V_neg0, Int.sub_emod, A.val, ← Int.sub_emod]
theorem SV.nil (m1 : 2 ≤ m) (m2 : m ≤ 1000000000000000000000000000000) : SV m (tr m []) 0 (fun _ => 0) := tr_v m1 m2 (Nat.le_refl _) (by decide) fun x => rfl
theorem SV.eq (A : SV m a n F) (B : SV m b k G) (h : ∀ x, F x % m = G x % m) : a = b := same_vals A.ok B.ok fun x => by rw [A.val, B.val, h]
end
end My

set_option Elab.async false
set_option linter.all false
set_option maxRecDepth 100000
set_option maxHeartbeats 4000000
namespace My
/-- values from a beat on -/
def vr (m : Int) (F : Int → Int) (a : Int) (n : Nat) : List Int := (List.range n).map fun i : Nat => F (a + (i : Nat)) % m
section
variable {m : Int} {F G : Int → Int} {a : Int} {n : Nat}
theorem vr_len : (vr m F a n).length = n := by
  unfold vr
  rw [List.length_map, List.length_range]
theorem Dg.le {k : Nat} (h : k ≤ n) (d : Dg k F) : Dg n F := by
  induction h with
  | refl => exact d
  | step _ ih => exact Dg.more _ ih
theorem Dg.moved (cs : List Int) (a : Int) (h : cs.length ≤ n) : Dg n (fun x => My.V cs (a + x)) := by
  refine Dg.congr (fun x => mv_val a cs x) ?_
  exact Dg.le (by rw [mv_len]; exact h) (Dg.V (mv cs a))
theorem vr_of {n : Nat} (m1 : 2 ≤ m) (m2 : m ≤ 1000000000000000000000000000000) (hn : n ≤ 13) (d : Dg n (fun x => F (a + x))) : SV m (tr m (dv (vr m F a n))) n (fun x => F (a + x)) :=
  tr_v m1 m2 (by rw [dv_len _ _ rfl, vr_len] <;> exact Nat.le_refl _) hn fun x => by
    have h := V_coefs (M := m) d x
    rw [V_cg (m := m) (ys := dv (row (fun x => F (a + x) % m) n))] at h
    · exact h
    · intro i
      rw [getD_map (Int.zero_emod m)]
      exact Int.dvd_of_emod_eq_zero (by rw [Int.sub_emod, Int.emod_emod, Int.sub_self, Int.zero_emod])
theorem sub_self {f : List Int} (okf : SumOk m f) : tr m (My.ad (-1) f f) = tr m [] := by
  have A := (SV.self okf okf.len).ad (fun x => rfl : ∀ x, V f x % m = V f x % m) okf.len (by decide) (-1)
  exact A.eq (SV.nil okf.two okf.most) fun x => by rw [show V f x + -1 * V f x = 0 by omega]
end
end My

set_option Elab.async false
set_option linter.all false
set_option maxRecDepth 100000
namespace My
/-- a row whose values are those of the next beat -/
def st (cs : List Int) : List Int := List.zipWith (fun x y => x + y) cs (cs.drop 1 ++ [0])
def sts : Nat → List Int → List Int
  | 0, cs => cs
  | n + 1, cs => st (sts n cs)
theorem st_len (cs : List Int) : (st cs).length = cs.length := by
  unfold st
  rw [List.length_zipWith, List.length_append, List.length_drop, List.length_singleton]
  omega
theorem sts_len : ∀ (n : Nat) (cs : List Int), (sts n cs).length = cs.length
  | 0, _ => rfl
  | n + 1, cs => by rw [sts, st_len, sts_len n]
theorem V_st (cs : List Int) (n : Int) : V (st cs) n = V cs (n + 1) := by
  unfold st
  rw [tot_zip, V_ad]
  cases cs with
  | nil => rfl
  | cons c cs => rw [V_up, List.drop_one, List.tail_cons]; omega
theorem V_sts : ∀ (i : Nat) (cs : List Int) (n : Int), V (sts i cs) n = V cs (n + (i : Nat))
  | 0, _, n => by rw [show n + ((0 : Nat) : Int) = n by omega] <;> rfl
  | i + 1, cs, n => by rw [sts, V_st, V_sts i, show n + 1 + (i : Int) = n + ((i + 1 : Nat) : Int) by omega]
theorem sts_head {i : Nat} {c : Int} {cs r : List Int} (h : sts i cs = c :: r) : c = V cs (i : Nat) := by
  have := V_sts i cs 0
  rw [h, V_at0, Int.zero_add] at this
  exact this
theorem sts_none {i : Nat} {cs : List Int} (h : sts i cs = []) : V cs (i : Nat) = 0 := by
  have := V_sts i cs 0
  rw [h, Int.zero_add] at this
  exact this.symm
theorem diff_at : ∀ (xs : List Int) (i : Nat), (diff xs).getD i 0 = if i + 1 < xs.length then xs.getD (i + 1) 0 - xs.getD i 0 else 0
  | [], i => rfl
  | [_], i => by rw [if_neg (by simp)] <;> rfl
  | a :: b :: r, 0 => by rw [if_pos (by simp)] <;> rfl
  | a :: b :: r, i + 1 => by
    show (diff (b :: r)).getD i 0 = _
    rw [diff_at (b :: r) i]
    simp only [List.length_cons, List.getD_cons_succ, Nat.add_lt_add_iff_right]
theorem diff_cg {m : Int} {xs ys : List Int} (hl : xs.length = ys.length) (h : Cg m xs ys) : Cg m (diff xs) (diff ys) := fun i => by
  rw [diff_at, diff_at, hl]
  by_cases k : i + 1 < ys.length
  · rw [if_pos k, if_pos k]
    have := Int.dvd_sub (h (i + 1)) (h i)
    rwa [show xs.getD (i + 1) 0 - ys.getD (i + 1) 0 - (xs.getD i 0 - ys.getD i 0) = xs.getD (i + 1) 0 - xs.getD i 0 - (ys.getD (i + 1) 0 - ys.getD i 0) by omega] at this
  · rw [if_neg k, if_neg k]
    exact Int.dvd_zero _
theorem map_cg (m : Int) (xs : List Int) : Cg m (xs.map (· % m)) xs := fun i => by
  rw [getD_map (f := (· % m)) (Int.zero_emod m)]
  exact Int.dvd_of_emod_eq_zero (by rw [Int.sub_emod, Int.emod_emod, Int.sub_self, Int.zero_emod])
/-- the first ones of the values, of their differences and so on, remainders taken each time -/
def dvmN (m : Int) : Nat → List Int → List Int
  | n + 1, x :: xs => x :: dvmN m n ((diff (x :: xs)).map (· % m))
  | _, _ => []
def dvm (m : Int) (xs : List Int) : List Int := dvmN m xs.length xs
theorem dvm_nil (m : Int) : dvm m [] = [] := rfl
theorem dvm_cons (m x : Int) (xs : List Int) : dvm m (x :: xs) = x :: dvm m ((diff (x :: xs)).map (· % m)) := by
  show x :: dvmN m xs.length _ = _
  unfold dvm
  rw [List.length_map, diff_len] <;> rfl
theorem dvm_len (m : Int) : ∀ (n : Nat) (xs : List Int), xs.length = n → (dvm m xs).length = n
  | 0, [], _ => rfl
  | n + 1, x :: xs, h => by
    rw [dvm_cons, List.length_cons, dvm_len m n _ (by rw [List.length_map, diff_len, h] <;> rfl)]
theorem dvm_cg {m : Int} : ∀ (n : Nat) (xs ys : List Int), xs.length = n → ys.length = n → Cg m xs ys → Cg m (dvm m xs) (dv ys)
  | 0, [], [], _, _, _ => Cg.refl _ _
  | n + 1, x :: xs, y :: ys, h1, h2, h => by
    rw [dvm_cons, dv_cons]
    intro i
    cases i with
    | zero => exact h 0
    | succ i =>
      exact dvm_cg n _ _ (by rw [List.length_map, diff_len, h1] <;> rfl) (by rw [diff_len, h2] <;> rfl) ((map_cg m _).trans (diff_cg (by rw [h1, h2]) h)) i
theorem dv_cgL {m : Int} : ∀ (n : Nat) (xs ys : List Int), xs.length = n → ys.length = n → Cg m xs ys → Cg m (dv xs) (dv ys)
  | 0, [], [], _, _, _ => Cg.refl _ _
  | n + 1, x :: xs, y :: ys, h1, h2, h => by
    rw [dv_cons, dv_cons]
    intro i
    cases i with
    | zero => exact h 0
    | succ i => exact dv_cgL n _ _ (by rw [diff_len, h1] <;> rfl) (by rw [diff_len, h2] <;> rfl) (diff_cg (by rw [h1, h2]) h) i
theorem tr_dvm (m : Int) (xs : List Int) : tr m (dvm m (xs.map (· % m))) = tr m (dv xs) := tr_ext (dvm_cg _ _ _ (List.length_map _) rfl (map_cg m xs))
theorem tr_dv_mod (m : Int) (xs : List Int) : tr m (dv (xs.map (· % m))) = tr m (dv xs) := tr_ext (dv_cgL _ _ _ (List.length_map _) rfl (map_cg m xs))
/-- the values at 0 .. that are handed in -/
theorem V_dv_at : ∀ (n : Nat) (xs : List Int), xs.length = n → ∀ i : Nat, i < n → V (dv xs) (i : Nat) = xs.getD i 0
  | 0, _, _, i, h => absurd h (Nat.not_lt_zero i)
  | n + 1, [], h, _, _ => by cases h
  | n + 1, x :: r, h, 0, _ => by rw [dv_cons]; exact V_at0 _ _
  | n + 1, x :: r, h, i + 1, hi => by
    rw [dv_cons, show ((i + 1 : Nat) : Int) = (i : Int) + 1 by omega, V_up, ← dv_cons, V_dv_at (n + 1) (x :: r) h i (by omega), V_dv_at n (diff (x :: r)) (by rw [diff_len, h] <;> rfl) i (by omega)]
    rw [diff_at, if_pos (by rw [h]; exact hi)]
    omega
/-- .. also by a sum that took remainders -/
theorem V_of_at {m : Int} {xs : List Int} {i : Nat} (hi : i < xs.length) : V (tr m (dv xs)) (i : Nat) % m = xs.getD i 0 % m := by
  rw [tr_val (Int.dvd_refl m), V_dv_at _ _ rfl i hi]
theorem vals_of {m : Int} {xs : List Int} : ((List.range xs.length).map fun i : Nat => V (tr m (dv xs)) (i : Nat) % m) = xs.map (· % m) := by
  apply List.ext_getElem (by rw [List.length_map, List.length_range, List.length_map])
  intro i h1 h2
  rw [List.length_map] at h2
  rw [List.getElem_map, List.getElem_range, List.getElem_map, V_of_at h2, List.getD_eq_getElem?_getD, List.getElem?_eq_getElem h2] <;> rfl
/-- a sum is that of its first values -/
theorem of_vals {m : Int} {cs : List Int} {n : Nat} (ok : SumOk m cs) (h : cs.length ≤ n) (hn : n ≤ 13) : tr m (dv ((List.range n).map fun i : Nat => V cs (i : Nat) % m)) = cs := by
  have d : Dg n (fun x => V cs (0 + x)) := Dg.moved cs 0 h
  have A := vr_of (m := m) (F := V cs) (a := 0) ok.two ok.most hn d
  have e : vr m (V cs) 0 n = (List.range n).map fun i : Nat => V cs (i : Nat) % m := by
    unfold vr
    refine List.map_congr_left fun i _ => ?_
    rw [Int.zero_add]
  rw [← e]
  exact A.eq (SV.self ok h) fun x => by rw [Int.zero_add]
theorem of_told {m : Int} {cs : List Int} (m1 : 2 ≤ m) (m2 : m ≤ 1000000000000000000000000000000) (h : cs.length ≤ 13) : tr m (dv ((List.range 13).map fun i : Nat => V cs (i : Nat) % m)) = tr m cs := by
  have d : Dg 13 (fun x => V cs (0 + x)) := Dg.moved cs 0 h
  have A := vr_of (m := m) (F := V cs) (a := 0) m1 m2 (by decide) d
  have e : vr m (V cs) 0 13 = (List.range 13).map fun i : Nat => V cs (i : Nat) % m := by
    unfold vr
    refine List.map_congr_left fun i _ => ?_
    rw [Int.zero_add]
  rw [← e]
  exact A.eq (tr_v m1 m2 h (by decide) fun x => rfl) fun x => by rw [Int.zero_add]
end My

set_option Elab.async false
set_option linter.all false
set_option maxRecDepth 100000
set_option maxHeartbeats 0
namespace My
open PySem PySem.Spec PyProof.Rows L2 G

def sp_l_numbers (K : PySem.W.Frag) : SpD := fun ts O P _ => ∃ (n : Nat) (p : List D) (m : Int) (M : Nat), M ≤ 13 ∧ ts = [.own 0, .v (.int m), .v (.int M)] ∧ O = [.lst p] ∧ Pen n p ∧ n < 900000 ∧ 2 ≤ m ∧ m ≤ 1000000000000000000000000000000 ∧ ∀ p' (xs : List Int), Pen (n + 60) p' → xs.length ≤ M → Sml 140 xs → P (.v (.lst (nums xs))) [.lst p']
theorem sp_l_numbers_len {K : PySem.W.Frag} {ts O P X} (h : sp_l_numbers K ts O P X) : ts.length = 3 := by
  obtain ⟨n, p, m, M, _, rfl, _⟩ := h
  rfl
def sp_l_made (K : PySem.W.Frag) : SpD := fun ts O P _ => ∃ (m : Int) (xs : List Int), ts = [.v (.int m), .v (.lst (nums xs))] ∧ O = [] ∧ 2 ≤ m ∧ m ≤ 1000000000000000000000000000000 ∧ xs.length ≤ 13 ∧ P (.v (sumD K m (tr m xs))) []
theorem sp_l_made_len {K : PySem.W.Frag} {ts O P X} (h : sp_l_made K ts O P X) : ts.length = 2 := by
  obtain ⟨m, xs, rfl, _⟩ := h
  rfl
theorem near_ok {m d1 d2 d3 : Int} (m1 : 2 ≤ m) (m2 : m ≤ 1000000000000000000000000000000) (a0 : 0 ≤ d1) (a1 : d1 < 100) (b0 : 0 ≤ d2) (b1 : d2 < m) (c0 : 0 ≤ d3) (c1 : d3 < 9) {j : Nat} {d : D}
    (h : ([.int 0, .int 0, .int 1, .int (-1), .int (m - 1), .int m, .int (m + 1), .int (m / 2), .int ((-3) * m), .int (d1 - 50), .int d2, .int (10 ^ Int.toNat 39 + d3)] : List D)[j]? = some d) : ∃ x : Int, d = .int x ∧ x.natAbs < 2 ^ 140 := by
  have e39 : (10 : Int) ^ Int.toNat 39 = 1000000000000000000000000000000000000000 := by decide
  rw [e39] at h
  match j, h with
  | 0, h => cases h; exact ⟨_, rfl, by decide⟩
  | 1, h => cases h; exact ⟨_, rfl, by decide⟩
  | 2, h => cases h; exact ⟨_, rfl, by decide⟩
  | 3, h => cases h; exact ⟨_, rfl, by decide⟩
  | 4, h => cases h; exact ⟨_, rfl, by omega⟩
  | 5, h => cases h; exact ⟨_, rfl, by omega⟩
  | 6, h => cases h; exact ⟨_, rfl, by omega⟩
  | 7, h => cases h; exact ⟨_, rfl, by omega⟩
  | 8, h => cases h; exact ⟨_, rfl, by omega⟩
  | 9, h => cases h; exact ⟨_, rfl, by omega⟩
  | 10, h => cases h; exact ⟨_, rfl, by omega⟩
  | 11, h => cases h; exact ⟨_, rfl, by omega⟩
  | n + 12, h => cases h
theorem sml_snoc {b : Nat} {xs : List Int} {x : Int} (h : Sml b xs) (k : x.natAbs < 2 ^ b) : Sml b (xs ++ [x]) := fun y hy => by
  rcases List.mem_append.mp hy with hy | hy
  · exact h y hy
  · rw [List.mem_singleton.mp hy]
    exact k
theorem pad_take (xs : List Int) (h : xs.length ≤ 13) : (xs ++ List.replicate 13 0).take 13 = xs ++ List.replicate (13 - xs.length) 0 := by
  rw [List.take_append, List.take_of_length_le h, List.take_replicate, Nat.min_eq_left (by omega)]
theorem cut_last1 {zs : List Int} {z : Int} : G.cutD (nums (zs ++ [z])) none (some (-1)) = nums zs := by
  rw [← nums_app]
  unfold G.cutD
  have e : HT.sIx (nums zs ++ [D.int z]).length (nums zs ++ [D.int z]).length (some (-1)) = (nums zs).length := by
    rw [List.length_append, List.length_singleton]
    unfold HT.sIx
    simp
    omega
  rw [HT.sIx_none, e, List.drop_zero, Nat.sub_zero, List.take_left']
  rfl
theorem len13 {xs : List Int} (h : xs.length = 13) : ∃ a b c d e f g i j k l m o, xs = [a, b, c, d, e, f, g, i, j, k, l, m, o] := by
  match xs, h with
  | [a, b, c, d, e, f, g, i, j, k, l, m, o], _ => exact ⟨a, b, c, d, e, f, g, i, j, k, l, m, o, rfl⟩

def sp_l_modulus (K : PySem.W.Frag) : SpD := fun ts O P _ => ∃ (n : Nat) (p : List D), ts = [.own 0] ∧ O = [.lst p] ∧ Pen n p ∧ n < 900000 ∧ ∀ p' (m : Int), Pen (n + 4) p' → 2 ≤ m → m ≤ 1000000000000000000000000000000 → P (.v (.int m)) [.lst p']
theorem sp_l_modulus_len {K : PySem.W.Frag} {ts O P X} (h : sp_l_modulus K ts O P X) : ts.length = 1 := by
  obtain ⟨n, p, rfl, _⟩ := h
  rfl
def sp_trim (K : PySem.W.Frag) : SpD := fun ts O P _ => ∃ (m : Int) (xs : List Int), ts = [.v (.int m), .v (.lst (nums xs))] ∧ O = [] ∧ 2 ≤ m ∧ xs.length ≤ 100 ∧ P (.own 0) [.lst (nums (tr m xs))]
theorem sp_trim_len {K : PySem.W.Frag} {ts O P X} (h : sp_trim K ts O P X) : ts.length = 2 := by
  obtain ⟨m, xs, rfl, _⟩ := h
  rfl
def spF_trim (K : PySem.W.Frag) : Sp := liftF K (sp_trim K)
theorem spF_trim_len {K : PySem.W.Frag} {vs H Q E} (h : spF_trim K vs H Q E) : vs.length = 2 := liftF_len (fun ts O P X h => sp_trim_len h) vs H Q E h
def sp_step (K : PySem.W.Frag) : SpD := fun ts O P _ => ∃ (m : Int) (cs : List Int) (n : Nat), ts = [.v (.int m), .v (.lst (nums cs)), .v (.int (n : Nat))] ∧ O = [] ∧ 2 ≤ m ∧ cs.length ≤ 13 ∧ n ≤ 13 ∧ P (.own 0) [.lst (nums ((List.range n).map fun i : Nat => V cs (i : Nat) % m))]
theorem sp_step_len {K : PySem.W.Frag} {ts O P X} (h : sp_step K ts O P X) : ts.length = 3 := by
  obtain ⟨m, cs, n, rfl, _⟩ := h
  rfl
def spF_step (K : PySem.W.Frag) : Sp := liftF K (sp_step K)
theorem spF_step_len {K : PySem.W.Frag} {vs H Q E} (h : spF_step K vs H Q E) : vs.length = 3 := liftF_len (fun ts O P X h => sp_step_len h) vs H Q E h
def sp_dif (K : PySem.W.Frag) : SpD := fun ts O P _ => ∃ (m : Int) (xs : List Int), ts = [.v (.int m), .v (.lst (nums xs))] ∧ O = [] ∧ 2 ≤ m ∧ xs.length ≤ 13 ∧ P (.own 0) [.lst (nums (tr m (dv xs)))]
theorem sp_dif_len {K : PySem.W.Frag} {ts O P X} (h : sp_dif K ts O P X) : ts.length = 2 := by
  obtain ⟨m, xs, rfl, _⟩ := h
  rfl
def spF_dif (K : PySem.W.Frag) : Sp := liftF K (sp_dif K)
theorem spF_dif_len {K : PySem.W.Frag} {vs H Q E} (h : spF_dif K vs H Q E) : vs.length = 2 := liftF_len (fun ts O P X h => sp_dif_len h) vs H Q E h
def sp_vals (K : PySem.W.Frag) : SpD := fun ts O P _ => ∃ (n : Nat) (p : List D) (m : Int), ts = [.own 0, .v (.int m)] ∧ O = [.lst p] ∧ Pen n p ∧ n < 800000 ∧ 2 ≤ m ∧ m ≤ 1000000000000000000000000000000 ∧ ∀ p' (xs : List Int), Pen (n + 63) p' → 1 ≤ xs.length → xs.length ≤ 13 → Sml 140 xs → P (.own 1) [.lst p', .lst (nums xs)]
theorem sp_vals_len {K : PySem.W.Frag} {ts O P X} (h : sp_vals K ts O P X) : ts.length = 2 := by
  obtain ⟨n, p, m, rfl, _⟩ := h
  rfl
def spF_vals (K : PySem.W.Frag) : Sp := liftF K (sp_vals K)
theorem spF_vals_len {K : PySem.W.Frag} {vs H Q E} (h : spF_vals K vs H Q E) : vs.length = 2 := liftF_len (fun ts O P X h => sp_vals_len h) vs H Q E h

theorem retF_at {P : PT'} {O : List OD} {ds : List D} {n i : Nat} (hi : O[i]? = some (.lst ds)) (hn : n ≤ i) (g : okG (O.take n) = true) (h : P (.own n) (O.take n ++ [.lst ds])) : retF n P (.own i) O := ⟨g, hn, by rw [hi]; exact h⟩
theorem at_snoc {Lx : List OD} {o : OD} : (Lx ++ [o])[Lx.length]? = some o := by
  rw [List.getElem?_append_right (Nat.le_refl _), Nat.sub_self] <;> rfl
theorem cut1 {L : List Int} : G.cutD (nums L) (some 1) none = nums (L.drop 1) := by
  cases L with
  | nil => rfl
  | cons x r =>
    have h := cutD_drop (n := 1) (xs := nums (x :: r)) (by rw [nums_len, List.length_cons]; omega)
    rw [nums_drop] at h
    exact h
theorem zip_diff {m : Int} : ∀ L : List Int, List.zipWith (fun a b : Int => D.int ((b - a) % m)) L (L.drop 1) = nums ((My.diff L).map (· % m))
  | [] => rfl
  | [_] => rfl
  | a :: b :: r => by
    show D.int ((b - a) % m) :: List.zipWith _ (b :: r) ((b :: r).drop 1) = D.int ((b - a) % m) :: nums ((My.diff (b :: r)).map (· % m))
    rw [zip_diff (b :: r)]
def sp_right (K : PySem.W.Frag) : SpD := fun ts O P _ => ∃ (n : Nat) (p : List D) (m : Int), ts = [.own 0, .v (.int m)] ∧ O = [.lst p] ∧ Pen n p ∧ n < 800000 ∧ 2 ≤ m ∧ m ≤ 1000000000000000000000000000000 ∧ ∀ p', Pen (n + 63) p' → P (.v (.bl true)) [.lst p']
theorem sp_right_len {K : PySem.W.Frag} {ts O P X} (h : sp_right K ts O P X) : ts.length = 2 := by
  obtain ⟨n, p, m, rfl, _⟩ := h
  rfl

local macro_rules | `(tactic| walk_at "ws") => `(tactic| first
  | with_reducible refine s_set ?_
  | with_reducible refine s_if ?_
  | with_reducible refine s_ret ?_
  | with_reducible refine s_retN ?_
  | with_reducible refine s_drop ?_
  | with_reducible refine s_next ?_
  | with_reducible refine s_par ?_
  | with_reducible refine s_par3 ?_
  | refine s_fldN (by assumption) (by assumption) ?_
  | with_reducible refine s_asg ?_
  | refine s_raise1 ?_
  | refine s_raise2 ?_)
local macro_rules | `(tactic| walk_at "we") => `(tactic| first
  | ((with_reducible refine w_v (d := ?k2) ?k1 ?_); (case k1 => exact rfl))
  | ((with_reducible refine w_o (j := ?k2) ?k1 ?_); (case k1 => exact rfl))
  | ((guard_target = G.WE _ _ (tFld _ _ _) _ _ _ _); (refine w_fldN (by assumption) (by assumption) ?_))
  | ((guard_target = G.WE _ _ (tC (.ref _)) _ _ _ _); (refine w_ctup (by assumption) ?_))
  | with_reducible refine w_ci ?_
  | with_reducible refine w_op ?_
  | with_reducible refine w_call ?_
  | with_reducible refine w_cty ?_
  | with_reducible refine w_cb ?_
  | with_reducible refine w_cn ?_
  | with_reducible refine w_cs ?_
  | with_reducible refine w_cr ?_
  | with_reducible refine w_un ?_
  | with_reducible refine w_andV ?_
  | with_reducible refine w_orV ?_
  | with_reducible refine w_notV ?_
  | with_reducible refine w_ife ?_
  | with_reducible refine w_chain ?_
  | with_reducible refine w_tup ?_
  | with_reducible refine w_revL ?_
  | with_reducible refine w_slL ?_
  | with_reducible refine w_slT ?_
  | (guard_target = G.WE _ _ (tCall (lift _ (sp_draw _)) _ _ _) _ _ _ _; refine w_fn10 0 ?_)
  | (guard_target = G.WE _ _ (tCall (lift _ (sp_pick _)) _ _ _) _ _ _ _; refine w_fn10 0 ?_)
  | (guard_target = G.WE _ _ (tCall (lift _ (sp_l_modulus _)) _ _ _) _ _ _ _; refine w_fn10 0 ?_)
  | (guard_target = G.WE _ _ (tCall (lift _ (sp_l_numbers _)) _ _ _) _ _ _ _; refine w_fn10 0 ?_)
  | (guard_target = G.WE _ _ (tCall (lift _ (sp_right _)) _ _ _) _ _ _ _; refine w_fn10 0 ?_)
  | with_reducible refine w_fn0 ?_
  | with_reducible refine w_fnS0 ?_
  | with_reducible refine w_meth0 ?_
  | with_reducible refine w_make0 ?_
  | with_reducible refine w_bmL ?_
  | with_reducible refine w_bmL0 ?_
  | with_reducible refine w_lst ?_
  | with_reducible refine w_callKX ?_
  | with_reducible refine w_makeKX ?_
  | with_reducible refine w_makeX ?_
  | with_reducible refine w_smethX ?_
  | with_reducible refine w_smethK ?_
  | with_reducible refine w_smethK0 ?_
  | with_reducible refine w_fnV ?_
  | with_reducible refine w_fnX ?_
  | with_reducible refine w_fnSX ?_
  | with_reducible refine w_methX ?_
  | with_reducible refine w_callX ?_
  | with_reducible refine w_methK ?_
  | with_reducible refine w_callK2 ?_
  | with_reducible refine w_callI ?_
  | with_reducible refine w_prop ?_
  | with_reducible refine w_dic0 ?_
  | with_reducible refine w_jcons ?_
  | with_reducible refine w_jnil ?_
  | with_reducible refine w_join ?_
  | with_reducible refine w_split ?_
  | with_reducible refine w_smeth ?_
  | with_reducible refine w_fnKr ?_)
local macro_rules | `(tactic| walk_at "wt") => `(tactic| first
  | with_reducible refine w_test ?_
  | with_reducible refine w_B ?_
  | with_reducible refine w_and ?_
  | with_reducible refine w_or ?_
  | with_reducible refine w_not ?_)
local macro_rules | `(tactic| walk_at "wa") => `(tactic| first
  | with_reducible refine w_cons ?_
  | with_reducible refine w_nil ?_
  | with_reducible refine w_star ?_)
local macro_rules | `(tactic| walk_at "wr") => `(tactic| first
  | with_reducible refine w_add ?_
  | with_reducible refine w_sub ?_
  | with_reducible refine w_lt ?_
  | with_reducible refine w_le ?_
  | with_reducible refine w_gt ?_
  | with_reducible refine w_ge ?_
  | with_reducible refine w_eqI ?_
  | with_reducible refine w_neI ?_
  | with_reducible refine w_isN ?_
  | with_reducible refine w_notN ?_
  | ((with_reducible refine w_mod ?k1 ?_); (case k1 => first | decide | omega))
  | ((with_reducible refine w_mul ?k1 ?_); (case k1 => first | exact Or.inl ⟨by decide, by decide⟩ | exact Or.inr ⟨by decide, by decide⟩ | exact Or.inl ⟨by omega, by omega⟩ | exact Or.inr ⟨by omega, by omega⟩))
  | ((with_reducible refine w_pow ?k1 ?_); (case k1 => first | exact ⟨by decide, by decide, by decide⟩ | exact ⟨by omega, by omega, by omega⟩))
  | ((with_reducible refine w_fdivW ?k1 ?_); (case k1 => exact divW_ok (by first | decide | omega) (by first | decide | omega)))
  | ((with_reducible refine w_mulW ?k1 ?_); (case k1 => exact mulW_ok ⟨by omega, by omega⟩ ⟨by omega, by omega⟩))
  | ((guard_target = G.WR _ (rIxT _) _ _ _ _); (refine w_ixT (by first | exact atI_0 | exact atI_1 | exact atI_2 | exact atI_3 | exact atI_4 | exact atI_5 | exact atI_6 | assumption) ?_))
  | ((guard_target = G.WR _ (rIxL _) _ _ _ _); (refine w_ixL (by first | exact lstD_v | exact lstD_o rfl) (by first | exact atI_0 | exact atI_1 | exact atI_2 | exact atI_3 | exact atI_4 | exact atI_5 | exact atI_6 | assumption) ?_)))
local macro_rules | `(tactic| walk_at "wc") => `(tactic| first
  | with_reducible refine c_int ?_
  | with_reducible refine c_intB ?_
  | with_reducible refine c_abs ?_
  | ((guard_target = G.WC _ (G.rLen _) _ _ _); (refine c_lenL (by first | exact lstD_v | exact lstD_o rfl) ?_))
  | with_reducible refine c_lenT ?_
  | ((guard_target = G.WC _ (G.rListOf _) _ _ _); (refine c_listL (by first | exact lstD_v | exact lstD_o rfl) ?_))
  | with_reducible refine c_listT ?_
  | ((guard_target = G.WC _ (G.rTupOf _) _ _ _); (refine c_tupL (by first | exact lstD_v | exact lstD_o rfl) ?_))
  | with_reducible refine c_tupT ?_)
local macro_rules | `(tactic| walk_at "e") => `(tactic| first
  | (guard_target = G.WE _ _ _ _ _ _ _; walk_at "we")
  | (guard_target = G.WS _ _ _ _ _ _; walk_at "ws")
  | (guard_target = G.WA _ _ _ _ _ _ _; walk_at "wa")
  | (guard_target = G.WR _ _ _ _ _ _; walk_at "wr")
  | (guard_target = G.WT _ _ _ _ _ _ _; walk_at "wt")
  | (guard_target = G.WC _ _ _ _ _; walk_at "wc")
  | (guard_target = G.WU _ _ _ _ _; with_reducible refine w_neg ?_)
  | (guard_target = G.WG _ _ _ _ _ _ _; first | with_reducible refine g_name ?_ | with_reducible refine g_setL ?_ | refine g_pair rfl ?_ | refine g_trip rfl ?_ | refine g_quad rfl ?_)
  | (guard_target = G.WO _ _ _ _ _ _ _; first | with_reducible refine o_none ?_ | with_reducible refine o_some ?_)
  | with_reducible refine tt_ ?_
  | with_reducible refine ff_ ?_
  | with_reducible refine ntt_ ?_
  | with_reducible refine nff_ ?_
  | ((guard_target = ((!G.isNon _) = true → _) ∧ _); (first | refine bnF rfl ?_ | refine bnT rfl ?_))
  | ((guard_target = (G.isNon _ = true → _) ∧ _); (first | refine bF rfl ?_ | refine bT rfl ?_))
  | (guard_target = Exists _; first
    | refine ⟨_, rfl, Nat.le_of_ble_eq_true rfl, Nat.le_of_ble_eq_true rfl, ?_⟩
    | refine ⟨_, _, _, _, _, rfl, rfl, rfl, rfl, rfl, ?_⟩
    | refine ⟨_, _, _, rfl, rfl, rfl, Nat.le_of_ble_eq_true rfl, ?_⟩
    | refine ⟨_, _, rfl, rfl, rfl, ?_⟩
    | refine ⟨_, _, _, rfl, ?_⟩
    | refine ⟨_, _, (by first | exact insD_v | exact insD_o rfl), rfl, ?_⟩
    | refine ⟨_, _, rfl, ?_⟩
    | refine ⟨_, rfl, rfl, ?_⟩
    | refine ⟨_, rfl, Nat.le_of_ble_eq_true rfl, ?_⟩
    | refine ⟨_, (by first | exact lstD_v | exact lstD_o rfl), ?_⟩
    | refine ⟨_, rfl, ?_⟩))
local macro_rules | `(tactic| walk_at "o") => `(tactic| first | with_reducible refine w_lstO ?_ | walk_at "e")
local macro_rules | `(tactic| walk_at "g") => `(tactic| first | walk_at "e" | with_reducible refine s_seq ?_)
local macro_rules | `(tactic| walk_at "n") => `(tactic| (with_reducible refine s_seq ?_); (repeat walk_at "e"))
theorem sc_law_modulus : FnScope ["_law_pen_here", "_law_small", "_law_great"] ["_law_pen_here"] (defScope (top 38)) := ⟨rfl, rfl, rfl, by decide +kernel, rfl, by decide +kernel, by decide +kernel⟩
theorem ok_law_modulus {P : Program} {w : World} {K : PySem.W.Frag} {mg : Str → Option Value} {base : Heap} (T : Tx K mg) (h_law_draw : Fn P w K mg base 1 (He.fAd K ("_law_draw", none)) ["_law_pen_here", "_law_many"] (sp_draw K)) (h_law_pick : Fn P w K mg base 2 (He.fAd K ("_law_pick", none)) ["_law_pen_here", "_law_some"] (sp_pick K)) : Fn P w K mg base 3 (He.fAd K ("_law_modulus", none)) ["_law_pen_here"] (sp_l_modulus K) := by
  obtain ⟨_, F_law_draw, b_law_draw, kp_law_draw, lk_law_draw⟩ := h_law_draw
  obtain ⟨_, F_law_pick, b_law_pick, kp_law_pick, lk_law_pick⟩ := h_law_pick
  obtain ⟨fd, F⟩ := T.d_law_modulus
  refine ⟨fd, F.ok sc_law_modulus (lift_len ?_) (fun cdv A outer s H vs Q E hr h => ?_), F.bindsN fun _ _ _ _ _ _ us hl => (match us, hl with | [_], _ => rfl), F.kp, lk_of F⟩
  · intro ts O P X h
    exact sp_l_modulus_len h
  · have hu := hr.units
    refine ⟨_, (PSs.nox (pss_cons (ps_set (i := 1) sc_law_modulus.nd rfl (.inl rfl) (pe_lst (pa_cons pe_int (pa_cons pe_int (pa_cons pe_int (pa_cons pe_int (pa_cons pe_int (pa_cons pe_int (pa_cons pe_int (pa_cons pe_int (pa_cons pe_int (pa_cons pe_int (pa_cons pe_int (pa_cons pe_int (pa_cons (pe_op op_add pe_int (pe_call F_law_draw (hr.mono (by decide)) (by rfl) T.g__law_draw kp_law_draw b_law_draw .nil passL (pa_cons (pv 0) (pa_cons pe_int pa_nil)))) pa_nil)))))))))))))))
    (pss_cons (ps_set (i := 2) sc_law_modulus.nd rfl (.inl rfl) (pe_lst (pa_cons (pe_op op_pow pe_int pe_int) (pa_cons (pe_op op_pow pe_int pe_int) (pa_cons (pe_op op_mulW (pe_op op_pow pe_int pe_int) (pe_op op_pow pe_int pe_int)) (pa_cons (pe_op op_pow pe_int pe_int) (pa_cons (pe_op op_add (pe_op op_pow pe_int pe_int) pe_int) (pa_cons (pe_op op_sub (pe_op op_pow pe_int pe_int) pe_int) (pa_cons (pe_op op_add pe_int (pe_call F_law_draw (hr.mono (by decide)) (by rfl) T.g__law_draw kp_law_draw b_law_draw .nil passL (pa_cons (pv 0) (pa_cons (pe_op op_sub (pe_op op_pow pe_int pe_int) pe_int) pa_nil)))) pa_nil)))))))))
    (pss_one (ps_ret (pe_ifExp (pt_cmpR op_gt (pe_call F_law_draw (hr.mono (by decide)) (by rfl) T.g__law_draw kp_law_draw b_law_draw .nil passL (pa_cons (pv 0) (pa_cons pe_int pa_nil))) pe_int (nomark _)) (pe_call F_law_pick (hr.mono (by decide)) (by rfl) T.g__law_pick kp_law_pick b_law_pick .nil passL (pa_cons (pv 0) (pa_cons (pv 1) pa_nil))) (pe_call F_law_pick (hr.mono (by decide)) (by rfl) T.g__law_pick kp_law_pick b_law_pick .nil passL (pa_cons (pv 0) (pa_cons (pv 2) pa_nil))))))))), enter h fun ts O P X h _ => ?_⟩
    try dsimp only [cxOf, Cx.nox, Cx.wish]
    
    obtain ⟨n, p, rfl, rfl, hp, hn, k⟩ := h
    show WS _ _ _ _ [.own 0, .no, .no] _
    walk_at "n"
    refine u_draw hp (by omega) (by decide) (by decide) fun p1 d1 hp1 a0 a1 => ⟨_, rfl, nno, ?_⟩
    repeat walk_at "e"
    walk_at "n"
    refine w_mulW (mulW_ok ⟨by decide, by decide⟩ ⟨by decide, by decide⟩) ?_
    repeat walk_at "e"
    refine u_draw hp1 (by omega) (by decide) (by decide) fun p2 d2 hp2 b0 b1 => ⟨_, rfl, nno, ?_⟩
    have b1' : d2 < 1000000000000000000000000000000 - 1 := b1
    repeat walk_at "e"
    refine u_draw hp2 (by omega) (by decide) (by decide) fun p3 d3 hp3 c0 c1 => ⟨_, rfl, nno, ?_⟩
    repeat walk_at "e"
    refine br (fun _ => ?_) (fun _ => ?_)
    · repeat walk_at "e"
      refine u_pick hp3 (by omega) (Nat.le_of_ble_eq_true rfl) (Nat.le_of_ble_eq_true rfl) fun p4 j w hp4 hw => ⟨_, rfl, nno, ?_⟩
      have hw1 : ∃ x : Int, w = .int x ∧ 2 ≤ x ∧ x ≤ 1000000000000000000000000000000 := by
        match j, hw with
        | 0, h => cases h; exact ⟨_, rfl, by decide, by decide⟩
        | 1, h => cases h; exact ⟨_, rfl, by decide, by decide⟩
        | 2, h => cases h; exact ⟨_, rfl, by decide, by decide⟩
        | 3, h => cases h; exact ⟨_, rfl, by decide, by decide⟩
        | 4, h => cases h; exact ⟨_, rfl, by decide, by decide⟩
        | 5, h => cases h; exact ⟨_, rfl, by decide, by decide⟩
        | 6, h => cases h; exact ⟨_, rfl, by decide, by decide⟩
        | 7, h => cases h; exact ⟨_, rfl, by decide, by decide⟩
        | 8, h => cases h; exact ⟨_, rfl, by decide, by decide⟩
        | 9, h => cases h; exact ⟨_, rfl, by decide, by decide⟩
        | 10, h => cases h; exact ⟨_, rfl, by decide, by decide⟩
        | 11, h => cases h; exact ⟨_, rfl, by decide, by decide⟩
        | 12, h => cases h; exact ⟨_, rfl, by omega, by omega⟩
        | n + 13, h => cases h
      obtain ⟨x, rfl, h1, h2⟩ := hw1
      exact ⟨rfl, k _ _ hp4 h1 h2⟩
    · repeat walk_at "e"
      refine u_pick hp3 (by omega) (Nat.le_of_ble_eq_true rfl) (Nat.le_of_ble_eq_true rfl) fun p4 j w hp4 hw => ⟨_, rfl, nno, ?_⟩
      have hw1 : ∃ x : Int, w = .int x ∧ 2 ≤ x ∧ x ≤ 1000000000000000000000000000000 := by
        match j, hw with
        | 0, h => cases h; exact ⟨_, rfl, by decide, by decide⟩
        | 1, h => cases h; exact ⟨_, rfl, by decide, by decide⟩
        | 2, h => cases h; exact ⟨_, rfl, by decide, by decide⟩
        | 3, h => cases h; exact ⟨_, rfl, by decide, by decide⟩
        | 4, h => cases h; exact ⟨_, rfl, by decide, by decide⟩
        | 5, h => cases h; exact ⟨_, rfl, by decide, by decide⟩
        | 6, h => cases h; exact ⟨_, rfl, by omega, by omega⟩
        | n + 7, h => cases h
      obtain ⟨x, rfl, h1, h2⟩ := hw1
      exact ⟨rfl, k _ _ hp4 h1 h2⟩
theorem sc_law_numbers : FnScope ["_law_pen_here", "_law_modulus_here", "_law_most", "_law_found", "_law_turn", "_law_near"] ["_law_pen_here", "_law_modulus_here", "_law_most"] (defScope (top 39)) := ⟨rfl, rfl, rfl, by decide +kernel, rfl, by decide +kernel, by decide +kernel⟩
theorem ok_law_numbers {P : Program} {w : World} {K : PySem.W.Frag} {mg : Str → Option Value} {base : Heap} (T : Tx K mg) (h_law_draw : Fn P w K mg base 1 (He.fAd K ("_law_draw", none)) ["_law_pen_here", "_law_many"] (sp_draw K)) (h_law_pick : Fn P w K mg base 2 (He.fAd K ("_law_pick", none)) ["_law_pen_here", "_law_some"] (sp_pick K)) : Fn P w K mg base 3 (He.fAd K ("_law_numbers", none)) ["_law_pen_here", "_law_modulus_here", "_law_most"] (sp_l_numbers K) := by
  obtain ⟨_, F_law_draw, b_law_draw, kp_law_draw, lk_law_draw⟩ := h_law_draw
  obtain ⟨_, F_law_pick, b_law_pick, kp_law_pick, lk_law_pick⟩ := h_law_pick
  obtain ⟨fd, F⟩ := T.d_law_numbers
  refine ⟨fd, F.ok sc_law_numbers (lift_len ?_) (fun cdv A outer s H vs Q E hr h => ?_), F.bindsN fun _ _ _ _ _ _ us hl => (match us, hl with | [_, _, _], _ => rfl), F.kp, lk_of F⟩
  · intro ts O P X h
    exact sp_l_numbers_len h
  · have hu := hr.units
    refine ⟨_, (PSs.nox (pss_cons (ps_set (i := 3) sc_law_numbers.nd rfl (.inl rfl) (pe_lst pa_nil))
    (pss_cons (ps_for PassesOwn.never rfl (pi_range1 (by rfl) T.n_range (pa_cons (pe_call F_law_draw (hr.mono (by decide)) (by rfl) T.g__law_draw kp_law_draw b_law_draw .nil passL (pa_cons (pv 0) (pa_cons (pe_op op_add (pv 2) pe_int) pa_nil))) pa_nil)) (pg_name (i := 4) sc_law_numbers.nd rfl (.inl rfl))
    (pss_cons (ps_set (i := 5) sc_law_numbers.nd rfl (.inl rfl) (pe_lst (pa_cons pe_int (pa_cons pe_int (pa_cons pe_int (pa_cons (pe_un un_neg pe_int) (pa_cons (pe_op op_sub (pv 1) pe_int) (pa_cons (pv 1) (pa_cons (pe_op op_add (pv 1) pe_int) (pa_cons (pe_op op_fdivW (pv 1) pe_int) (pa_cons (pe_op op_mulW (pe_un un_neg pe_int) (pv 1)) pa_nil)))))))))))
    (pss_one (ps_expr (pe_bm PySem.F.plainAttrs_list PySem.F.slot_list_append PySem.F.type_list_append mt_append (pv 3) (pa_cons (pe_call F_law_pick (hr.mono (by decide)) (by rfl) T.g__law_pick kp_law_pick b_law_pick .nil passL (pa_cons (pv 0) (pa_cons (pe_op op_cat (pv 5) (pe_lst (pa_cons (pe_op op_sub (pe_call F_law_draw (hr.mono (by decide)) (by rfl) T.g__law_draw kp_law_draw b_law_draw .nil passL (pa_cons (pv 0) (pa_cons pe_int pa_nil))) pe_int) (pa_cons (pe_call F_law_draw (hr.mono (by decide)) (by rfl) T.g__law_draw kp_law_draw b_law_draw .nil passL (pa_cons (pv 0) (pa_cons (pv 1) pa_nil))) (pa_cons (pe_op op_add (pe_op op_pow pe_int pe_int) (pe_call F_law_draw (hr.mono (by decide)) (by rfl) T.g__law_draw kp_law_draw b_law_draw .nil passL (pa_cons (pv 0) (pa_cons pe_int pa_nil)))) pa_nil))))) pa_nil))) pa_nil))))))
    (pss_one (ps_ret (pv 3)))))), enter h fun ts O P X h _ => ?_⟩
    try dsimp only [cxOf, Cx.nox, Cx.wish]
    
    obtain ⟨n, p, m, M, hM, rfl, rfl, hp, hn, m1, m2, k⟩ := h
    show WS _ _ _ _ [.own 0, .v (.int m), .v (.int (M : Nat)), .no, .no, .no] _
    refine s_seq ?_
    repeat walk_at "o"
    refine s_seq ?_
    refine s_forE ?_
    refine i_rng1 ?_
    repeat walk_at "e"
    refine u_draw hp (by omega) (by omega) (by omega) fun p1 r hp1 r0 r1 => ⟨_, rfl, nno, ?_⟩
    obtain ⟨r, rfl⟩ : ∃ j : Nat, r = j := ⟨r.toNat, by omega⟩
    repeat walk_at "e"
    refine ⟨by omega, ?_⟩
    rw [Int.toNat_natCast]
    refine for_R1 (fun i ts' O' => ∃ (xs : List Int) (q : List D) (a b : G.T), Pen (n + 1 + 4 * i) q ∧ O' = [.lst q, .lst (nums xs)] ∧ ts' = [.own 0, .v (.int m), .v (.int (M : Nat)), .own 1, a, b] ∧ xs.length = i ∧ Sml 140 xs) ⟨[], _, _, _, hp1, rfl, rfl, rfl, fun x hx => (by cases hx)⟩ ?_ ?_
    · rintro i _ _ hi ⟨xs, q, a, b, hq, rfl, rfl, hl, hs⟩
      have e39 : (10 : Int) ^ Int.toNat 39 = 1000000000000000000000000000000000000000 := by decide
      refine g_name ?_
      walk_at "n"
      refine u_draw hq (by omega) (by decide) (by decide) fun q1 d1 hq1 a0 a1 => ⟨_, rfl, nno, ?_⟩
      repeat walk_at "e"
      refine u_draw hq1 (by omega) (by omega) (by omega) fun q2 d2 hq2 b0 b1 => ⟨_, rfl, nno, ?_⟩
      repeat walk_at "e"
      refine u_draw hq2 (by omega) (by decide) (by decide) fun q3 d3 hq3 c0 c1 => ⟨_, rfl, nno, ?_⟩
      repeat walk_at "e"
      refine w_catL lstD_v lstD_v (by exact Nat.le_of_ble_eq_true rfl) ?_
      repeat walk_at "e"
      refine u_pick hq3 (by omega) (Nat.le_of_ble_eq_true rfl) (Nat.le_of_ble_eq_true rfl) fun q4 j w hq4 hw => ⟨_, rfl, nno, ?_⟩
      obtain ⟨x, rfl, hx⟩ := near_ok m1 m2 a0 a1 b0 b1 c0 c1 hw
      repeat walk_at "e"
      refine m_append (by exact rfl) (lt_sz (by omega)) ?_
      exact ⟨xs ++ [x], q4, _, _, hq4.mono (by omega), by rw [← nums_app] <;> rfl, rfl, by rw [List.length_append, hl] <;> rfl, sml_snoc hs hx⟩
    · rintro _ _ ⟨xs, q, a, b, hq, rfl, rfl, hl, hs⟩
      refine s_frz 1 rfl rfl ?_
      repeat walk_at "e"
      exact ⟨rfl, k _ _ (hq.mono (by omega)) (by omega) hs⟩
theorem sc_law_made : FnScope ["_law_modulus_here", "_law_told", "_law_a", "_law_b", "_law_c", "_law_d", "_law_e", "_law_f", "_law_g", "_law_h", "_law_i", "_law_j", "_law_k", "_law_m", "_law_o"] ["_law_modulus_here", "_law_told"] (defScope (top 40)) := ⟨rfl, rfl, rfl, by decide +kernel, rfl, by decide +kernel, by decide +kernel⟩
theorem ok_law_made {P : Program} {w : World} {K : PySem.W.Frag} {mg : Str → Option Value} {base : Heap} (T : Tx K mg) (h_SumU_initU : FnS P w K mg base 4 (He.fAd K ("Sum", some "__init__")) 2 (sp_s_init K)) : Fn P w K mg base 6 (He.fAd K ("_law_made", none)) ["_law_modulus_here", "_law_told"] (sp_l_made K) := by
  obtain ⟨F_SumU_initU, kp_SumU_initU⟩ := h_SumU_initU
  obtain ⟨fd, F⟩ := T.d_law_made
  refine ⟨fd, F.ok sc_law_made (lift_len ?_) (fun cdv A outer s H vs Q E hr h => ?_), F.bindsN fun _ _ _ _ _ _ us hl => (match us, hl with | [_, _], _ => rfl), F.kp, lk_of F⟩
  · intro ts O P X h
    exact sp_l_made_len h
  · have hu := hr.units
    refine ⟨_, (PSs.nox (pss_cons (ps_if (pt_cmpR op_eq (pe_callB (cr_lenK K) (by rfl) T.n_len boot_len (pa_cons (pv 1) pa_nil)) pe_int (nomark _))
    (pss_one (ps_ret (StX.pe_makeR T.mk_Sum F_SumU_initU (hr.mono (by decide)) (by rfl) T.g_Sum passL (pa_cons (pv 0) pa_nil))))
    pss_nil)
    (pss_cons (ps_if (pt_cmpR op_eq (pe_callB (cr_lenK K) (by rfl) T.n_len boot_len (pa_cons (pv 1) pa_nil)) pe_int (nomark _))
    (pss_one (ps_ret (StX.pe_makeR T.mk_Sum F_SumU_initU (hr.mono (by decide)) (by rfl) T.g_Sum passL (pa_cons (pv 0) (pa_cons (pe_ix (ix_listK K) (pv 1) pe_int (fun _ _ => rfl)) pa_nil)))))
    pss_nil)
    (pss_cons (ps_if (pt_cmpR op_eq (pe_callB (cr_lenK K) (by rfl) T.n_len boot_len (pa_cons (pv 1) pa_nil)) pe_int (nomark _))
    (pss_one (ps_ret (StX.pe_makeR T.mk_Sum F_SumU_initU (hr.mono (by decide)) (by rfl) T.g_Sum passL (pa_cons (pv 0) (pa_cons (pe_ix (ix_listK K) (pv 1) pe_int (fun _ _ => rfl)) (pa_cons (pe_ix (ix_listK K) (pv 1) pe_int (fun _ _ => rfl)) pa_nil))))))
    pss_nil)
    (pss_cons (ps_asg (pe_slice (sl_listK K) (pe_op op_cat (pe_callTy (cr_listK K) (by rfl) T.n_list boot_list (pa_cons (pv 1) pa_nil)) (pe_op op_rep (pe_lst (pa_cons pe_int pa_nil)) pe_int)) po_none (po_some pe_int)) (pg_lstK K (n := 13) rfl (pgs_cons (pg_name (i := 2) sc_law_made.nd rfl (.inl rfl)) (pgs_cons (pg_name (i := 3) sc_law_made.nd rfl (.inl rfl)) (pgs_cons (pg_name (i := 4) sc_law_made.nd rfl (.inl rfl)) (pgs_cons (pg_name (i := 5) sc_law_made.nd rfl (.inl rfl)) (pgs_cons (pg_name (i := 6) sc_law_made.nd rfl (.inl rfl)) (pgs_cons (pg_name (i := 7) sc_law_made.nd rfl (.inl rfl)) (pgs_cons (pg_name (i := 8) sc_law_made.nd rfl (.inl rfl)) (pgs_cons (pg_name (i := 9) sc_law_made.nd rfl (.inl rfl)) (pgs_cons (pg_name (i := 10) sc_law_made.nd rfl (.inl rfl)) (pgs_cons (pg_name (i := 11) sc_law_made.nd rfl (.inl rfl)) (pgs_cons (pg_name (i := 12) sc_law_made.nd rfl (.inl rfl)) (pgs_cons (pg_name (i := 13) sc_law_made.nd rfl (.inl rfl)) (pgs_cons (pg_name (i := 14) sc_law_made.nd rfl (.inl rfl)) pgs_nil)))))))))))))))
    (pss_one (ps_ret (StX.pe_makeR T.mk_Sum F_SumU_initU (hr.mono (by decide)) (by rfl) T.g_Sum passL (pa_cons (pv 0) (pa_cons (pv 2) (pa_cons (pv 3) (pa_cons (pv 4) (pa_cons (pv 5) (pa_cons (pv 6) (pa_cons (pv 7) (pa_cons (pv 8) (pa_cons (pv 9) (pa_cons (pv 10) (pa_cons (pv 11) (pa_cons (pv 12) (pa_cons (pv 13) (pa_cons (pv 14) pa_nil)))))))))))))))))))))), enter h fun ts O P X h _ => ?_⟩
    try dsimp only [cxOf, Cx.nox, Cx.wish]
    
    obtain ⟨m, xs, rfl, rfl, m1, m2, hl, p⟩ := h
    show WS _ _ _ _ [.v (.int m), .v (.lst (nums xs)), .no, .no, .no, .no, .no, .no, .no, .no, .no, .no, .no, .no, .no] _
    walk_at "n"
    rw [nums_len]
    refine br (fun h0 => ?_) (fun h0 => ?_)
    · obtain rfl : xs = [] := List.length_eq_zero_iff.mp (by omega)
      repeat walk_at "e"
      refine w_makeS ?_
      repeat walk_at "e"
      refine u_init [] m1 m2 hl ?_
      exact ⟨rfl, p⟩
    repeat walk_at "e"
    walk_at "n"
    rw [nums_len]
    refine br (fun h1 => ?_) (fun h1 => ?_)
    · obtain ⟨a, rfl⟩ := List.length_eq_one_iff.mp (show xs.length = 1 by omega)
      repeat walk_at "e"
      refine w_makeS ?_
      repeat walk_at "e"
      refine u_init [a] m1 m2 hl ?_
      exact ⟨rfl, p⟩
    repeat walk_at "e"
    walk_at "n"
    rw [nums_len]
    refine br (fun h2 => ?_) (fun h2 => ?_)
    · obtain ⟨a, b, rfl⟩ : ∃ a b, xs = [a, b] := by
        match xs, h2 with
        | [a, b], _ => exact ⟨a, b, rfl⟩
        | [], h => cases h
        | [_], h => cases h
        | _ :: _ :: _ :: _, h => simp at h; omega
      repeat walk_at "e"
      refine w_makeS ?_
      repeat walk_at "e"
      refine u_init [a, b] m1 m2 hl ?_
      exact ⟨rfl, p⟩
    repeat walk_at "e"
    walk_at "n"
    refine w_repL lstD_v (by decide) (by decide) (by exact Nat.le_of_ble_eq_true rfl) ?_
    repeat walk_at "e"
    refine w_catL lstD_v lstD_v (by rw [nums_len]; show xs.length + 13 ≤ _; omega) ?_
    repeat walk_at "e"
    have e0 : nums xs ++ (List.replicate (Int.toNat 13) [D.int 0]).flatten = nums (xs ++ List.replicate 13 0) := by
      unfold nums
      rw [List.map_append] <;> rfl
    rw [e0, show cutD (nums (xs ++ List.replicate 13 0)) none (some 13) = nums ((xs ++ List.replicate 13 0).take 13) from cut_nums (n := 13) (by rw [List.length_append, List.length_replicate]; omega), pad_take xs hl]
    obtain ⟨a, b, c, d, e, f, g, i, j, k, l, q, o, hx⟩ := len13 (xs := xs ++ List.replicate (13 - xs.length) 0) (by rw [List.length_append, List.length_replicate]; omega)
    rw [← My.tr_zeros m xs (13 - xs.length)] at p
    rw [hx] at p ⊢
    refine g_lst rfl (g_cons (g_name (g_cons (g_name (g_cons (g_name (g_cons (g_name (g_cons (g_name (g_cons (g_name (g_cons (g_name (g_cons (g_name (g_cons (g_name (g_cons (g_name (g_cons (g_name (g_cons (g_name (g_cons (g_name (g_nil ?_)))))))))))))))))))))))))))
    repeat walk_at "e"
    refine w_makeS ?_
    repeat walk_at "e"
    refine u_init [a, b, c, d, e, f, g, i, j, k, l, q, o] m1 m2 (Nat.le_refl 13) ?_
    exact ⟨rfl, p⟩
theorem sc_law_trimmed : FnScope ["_law_modulus_here", "_law_told", "_law_found", ".0", "_law_one"] ["_law_modulus_here", "_law_told"] (defScope (top 41)) := ⟨rfl, rfl, rfl, by decide +kernel, rfl, by decide +kernel, by decide +kernel⟩
theorem ok_law_trimmed {P : Program} {w : World} {K : PySem.W.Frag} {mg : Str → Option Value} {base : Heap} (T : Tx K mg)  : FnRaw P w K mg base 1 (He.fAd K ("_law_trimmed", none)) ["_law_modulus_here", "_law_told"] (spF_trim K) := by
  obtain ⟨fd, F⟩ := T.d_law_trimmed
  refine ⟨fd, F.ok sc_law_trimmed ?_ (fun cdv A outer s H vs Q E hr h => ?_), F.bindsN fun _ _ _ _ _ _ us hl => (match us, hl with | [_, _], _ => rfl), F.kp, lk_of F⟩
  · intro vs H Q E h
    exact spF_trim_len h
  · have hu := hr.units
    refine ⟨_, (PSs.nox (pss_cons (ps_setLc (i := 2) (own := [(".0", 3), ("_law_one", 4)]) rfl sc_law_trimmed.nd rfl rfl (sw_true rfl rfl rfl (by decide +kernel)) (pi_listK K (pv 1)) (blkOk_by (own := [(".0", 3), ("_law_one", 4)]) (N := ["_law_modulus_here", "_law_told", "_law_found", ".0", "_law_one"]) (sc := defScope (top 41)) (by decide +kernel)) (fun _ _ _ _ _ => (pg_name (i := 4) sc_law_trimmed.nd rfl (.inl rfl))) (fun _ _ _ _ _ => pts_nil) (fun _ _ _ _ _ => (pe_op op_mod (pe_callTy call_int1 (by rfl) T.n_int boot_int (pa_cons (pv 4) pa_nil)) (pv 0))))
    (pss_cons (ps_while PassesOwn.never (PW.pt (pw_and (pt_cmpR (op_neDK K hu) (pv 2) (pe_lst pa_nil) (nomark _)) (pw_and1 (pt_cmpR op_eq (pe_ix (ix_listK K) (pv 2) (pe_un un_neg pe_int) (fun _ _ => rfl)) pe_int (nomark _)))))
    (pss_one (ps_set (i := 2) sc_law_trimmed.nd rfl (.inl rfl) (pe_slice (sl_listK K) (pv 2) po_none (po_some (pe_un un_neg pe_int))))))
    (pss_one (ps_ret (pv 2)))))), ?_⟩
    try dsimp only [cxOf, Cx.nox, Cx.wish]
    
    refine enterF h fun ts O P X h _ => ?_
    obtain ⟨m, xs, rfl, rfl, hm, hl, p⟩ := h
    show WS _ _ _ _ [.v (.int m), .v (.lst (nums xs)), .no, .no, .no] _
    refine s_seq ?_
    repeat walk_at "e"
    refine w_lcO1 ?_ (by decide)
    refine i_list ?_
    repeat walk_at "e"
    refine lcO_A xs D.int (fun x => .int (x % m)) (by omega) (fun x acc hx => ?_) ?_
    · refine g_name ?_
      repeat walk_at "e"
      exact ⟨rfl, rfl⟩
    repeat walk_at "e"
    refine s_seq ?_
    refine s_while (fun n ts' O' => ∃ (Lx : List OD) (ys : List Int), n = ys.length ∧ O' = Lx ++ [.lst (nums ys)] ∧ ts' = [.v (.int m), .v (.lst (nums xs)), .own Lx.length, .no, .no] ∧ cut ys = tr m xs ∧ ys.length ≤ 100) (xs.map (· % m)).length ⟨[], xs.map (· % m), rfl, (by unfold nums; rw [List.map_map]; rfl), rfl, rfl, (by rw [List.length_map]; exact hl)⟩ ?_
    rintro n _ _ ⟨Lx, ys, rfl, rfl, rfl, hc, hl2⟩
    repeat walk_at "e"
    refine w_neD (valD_o at_snoc) valD_v pl_numsL pl_nilL ?_
    rw [eqD_nilL]
    refine ⟨_, rfl, nbr (fun hn => ?_) (fun hn => ?_)⟩
    · obtain ⟨zs, z, rfl⟩ : ∃ zs z, ys = zs ++ [z] := ⟨_, _, (List.dropLast_concat_getLast hn).symm⟩
      repeat walk_at "e"
      refine w_ixL (lstD_o at_snoc) atI_m1n ?_
      repeat walk_at "e"
      refine br (fun hz => ?_) (fun hz => ?_)
      · subst hz
        rw [List.length_append, List.length_singleton] at hl2 ⊢
        try dsimp only
        refine s_set ?_
        refine w_slLO ?_
        repeat walk_at "e"
        refine ⟨_, lstD_o at_snoc, ?_⟩
        rw [cut_last1]
        exact ⟨zs.length, Nat.lt_succ_self _, Lx ++ [.lst (nums (zs ++ [0]))], zs, rfl, rfl, rfl, by rw [← hc, My.cut_snoc0], by omega⟩
      · rw [My.cut_snoc hz] at hc
        rw [← hc] at p
        repeat walk_at "e"
        exact retF_at at_snoc (Nat.zero_le _) rfl p
    · subst hn
      have hc : [] = tr m xs := hc
      rw [← hc] at p
      refine ff_ ?_
      repeat walk_at "e"
      exact retF_at at_snoc (Nat.zero_le _) rfl p
theorem sc_law_stepped : FnScope ["_law_modulus_here", "_law_told", "_law_many", "_law_row", "_law_found", "_law_turn", ".0", "_law_one", "_law_two"] ["_law_modulus_here", "_law_told", "_law_many"] (defScope (top 42)) := ⟨rfl, rfl, rfl, by decide +kernel, rfl, by decide +kernel, by decide +kernel⟩
theorem ok_law_stepped {P : Program} {w : World} {K : PySem.W.Frag} {mg : Str → Option Value} {base : Heap} (T : Tx K mg)  : FnRaw P w K mg base 1 (He.fAd K ("_law_stepped", none)) ["_law_modulus_here", "_law_told", "_law_many"] (spF_step K) := by
  obtain ⟨fd, F⟩ := T.d_law_stepped
  refine ⟨fd, F.ok sc_law_stepped ?_ (fun cdv A outer s H vs Q E hr h => ?_), F.bindsN fun _ _ _ _ _ _ us hl => (match us, hl with | [_, _, _], _ => rfl), F.kp, lk_of F⟩
  · intro vs H Q E h
    exact spF_step_len h
  · have hu := hr.units
    refine ⟨_, (PSs.nox (pss_cons (ps_par (i := 3) (j := 4) rfl sc_law_stepped.nd rfl rfl (by decide) rfl rfl (pa_cons (pe_callTy (cr_listK K) (by rfl) T.n_list boot_list (pa_cons (pv 1) pa_nil)) (pa_cons (pe_lst pa_nil) pa_nil)) rfl)
    (pss_cons (ps_for PassesOwn.never rfl (pi_range1 (by rfl) T.n_range (pa_cons (pv 2) pa_nil)) (pg_name (i := 5) sc_law_stepped.nd rfl (.inl rfl))
    (pss_cons (ps_expr (pe_bm PySem.F.plainAttrs_list PySem.F.slot_list_append PySem.F.type_list_append mt_append (pv 4) (pa_cons (pe_ifExp (pt_cmpR (op_neDK K hu) (pv 3) (pe_lst pa_nil) (nomark _)) (pe_op op_mod (pe_callTy call_int1 (by rfl) T.n_int boot_int (pa_cons (pe_ix (ix_listK K) (pv 3) pe_int (fun _ _ => rfl)) pa_nil)) (pv 0)) pe_int) pa_nil)))
    (pss_one (ps_setLc (i := 3) (own := [(".0", 6), ("_law_one", 7), ("_law_two", 8)]) rfl sc_law_stepped.nd rfl rfl (sw_true rfl rfl rfl (by decide +kernel)) (RZ.pi_zipA (by rfl) T.n_zip (pa_cons (pv 3) (pa_cons (pe_op op_cat (pe_slice (sl_listK K) (pv 3) (po_some pe_int) po_none) (pe_lst (pa_cons pe_int pa_nil))) pa_nil))) (blkOk_by (own := [(".0", 6), ("_law_one", 7), ("_law_two", 8)]) (N := ["_law_modulus_here", "_law_told", "_law_many", "_law_row", "_law_found", "_law_turn", ".0", "_law_one", "_law_two"]) (sc := defScope (top 42)) (by decide +kernel)) (fun _ _ _ _ _ => (pg_tupK K (n := 2) rfl (pgs_cons (pg_name (i := 7) sc_law_stepped.nd rfl (.inl rfl)) (pgs_cons (pg_name (i := 8) sc_law_stepped.nd rfl (.inl rfl)) pgs_nil)))) (fun _ _ _ _ _ => pts_nil) (fun _ _ _ _ _ => (pe_op op_add (pv 7) (pv 8)))))))
    (pss_one (ps_ret (pv 4)))))), ?_⟩
    try dsimp only [cxOf, Cx.nox, Cx.wish]
    
    refine enterF h fun ts O P X h _ => ?_
    obtain ⟨m, cs, n, rfl, rfl, hm, hl, hn, p⟩ := h
    show WS _ _ _ _ [.v (.int m), .v (.lst (nums cs)), .v (.int (n : Nat)), .no, .no, .no, .no, .no, .no] _
    refine s_seq ?_
    refine s_par ?_
    repeat walk_at "o"
    refine s_seq ?_
    refine s_forE ?_
    refine i_rng1 ?_
    repeat walk_at "e"
    refine ⟨by omega, ?_⟩
    rw [Int.toNat_natCast]
    refine for_R1 (fun i ts' O' => ∃ a : G.T, O' = [.lst (nums ((List.range i).map fun i : Nat => V cs (i : Nat) % m))] ∧ ts' = [.v (.int m), .v (.lst (nums cs)), .v (.int (n : Nat)), .v (.lst (nums (My.sts i cs))), .own 0, a, .no, .no, .no]) ⟨_, rfl, rfl⟩ ?_ ?_
    · rintro i _ _ hi ⟨a, rfl, rfl⟩
      have hl2 := My.sts_len i cs
      refine g_name ?_
      try dsimp only
      refine s_seq ?_
      repeat walk_at "e"
      refine w_neD valD_v valD_v pl_numsL pl_nilL ?_
      rw [eqD_nilL]
      have et : ((List.range i).map fun i : Nat => V cs (i : Nat) % m) ++ [V cs (i : Nat) % m] = (List.range (i + 1)).map fun i : Nat => V cs (i : Nat) % m := by rw [List.range_succ, List.map_append] <;> rfl
      have el : ((List.range i).map fun i : Nat => V cs (i : Nat) % m).length = i := by rw [List.length_map, List.length_range]
      refine ⟨_, rfl, nbr (fun hne => ?_) (fun hne => ?_)⟩
      · have hat : atI (nums (My.sts i cs)) 0 = some (.int (V cs (i : Nat))) := by
          cases e : My.sts i cs with
          | nil => exact absurd e hne
          | cons x r =>
            rw [← My.sts_head e]
            exact atI_0
        repeat walk_at "e"
        refine m_append (by exact rfl) (lt_sz (by rw [el]; omega)) ?_
        rw [nums_app, et]
        repeat walk_at "e"
        refine w_lcT ?_ (tgt_pair (by decide) (by decide))
        refine i_zipL ?_
        repeat walk_at "e"
        refine w_catL lstD_v lstD_v (by rw [cut1, nums_len, List.length_drop]; simp; omega) ?_
        repeat walk_at "e"
        rw [cut1, show nums ((My.sts i cs).drop 1) ++ (fun x : List D => D.int 0 :: x) [] = nums ((My.sts i cs).drop 1 ++ [0]) by rw [← nums_app] <;> rfl]
        refine lc_ZL (My.sts i cs) ((My.sts i cs).drop 1 ++ [0]) D.int D.int (fun x y => .int (x + y)) (by rw [List.length_append, List.length_drop, List.length_singleton]; omega) (by omega) (fun x y acc h1 h2 => ?_) ?_
        · refine g_pair rfl ?_
          repeat walk_at "e"
          exact ⟨rfl, rfl⟩
        rw [show List.zipWith (fun x y : Int => D.int (x + y)) (My.sts i cs) ((My.sts i cs).drop 1 ++ [0]) = nums (My.sts (i + 1) cs) by
          unfold nums
          rw [My.sts, My.st, List.map_zipWith]]
        exact ⟨_, rfl, rfl⟩
      · have h0 := My.sts_none hne
        repeat walk_at "e"
        refine m_append (by exact rfl) (lt_sz (by rw [el]; omega)) ?_
        rw [show ([D.int 0] : List D) = [D.int (V cs (i : Nat) % m)] by rw [h0, Int.zero_emod], nums_app, et]
        repeat walk_at "e"
        refine w_lcT ?_ (tgt_pair (by decide) (by decide))
        refine i_zipL ?_
        repeat walk_at "e"
        refine w_catL lstD_v lstD_v (by rw [cut1, nums_len, List.length_drop]; simp; omega) ?_
        repeat walk_at "e"
        rw [cut1, show nums ((My.sts i cs).drop 1) ++ (fun x : List D => D.int 0 :: x) [] = nums ((My.sts i cs).drop 1 ++ [0]) by rw [← nums_app] <;> rfl]
        refine lc_ZL (My.sts i cs) ((My.sts i cs).drop 1 ++ [0]) D.int D.int (fun x y => .int (x + y)) (by rw [List.length_append, List.length_drop, List.length_singleton]; omega) (by omega) (fun x y acc h1 h2 => ?_) ?_
        · refine g_pair rfl ?_
          repeat walk_at "e"
          exact ⟨rfl, rfl⟩
        rw [show List.zipWith (fun x y : Int => D.int (x + y)) (My.sts i cs) ((My.sts i cs).drop 1 ++ [0]) = nums (My.sts (i + 1) cs) by
          unfold nums
          rw [My.sts, My.st, List.map_zipWith]]
        exact ⟨_, rfl, rfl⟩
    · rintro _ _ ⟨a, rfl, rfl⟩
      repeat walk_at "e"
      exact retF_at rfl (Nat.zero_le _) rfl p
theorem sc_law_differences : FnScope ["_law_modulus_here", "_law_values_here", "_law_found", "_law_left", ".0", "_law_one", "_law_two"] ["_law_modulus_here", "_law_values_here"] (defScope (top 43)) := ⟨rfl, rfl, rfl, by decide +kernel, rfl, by decide +kernel, by decide +kernel⟩
theorem ok_law_differences {P : Program} {w : World} {K : PySem.W.Frag} {mg : Str → Option Value} {base : Heap} (T : Tx K mg) (h_law_trimmed : FnRaw P w K mg base 1 (He.fAd K ("_law_trimmed", none)) ["_law_modulus_here", "_law_told"] (spF_trim K)) : FnRaw P w K mg base 2 (He.fAd K ("_law_differences", none)) ["_law_modulus_here", "_law_values_here"] (spF_dif K) := by
  obtain ⟨_, F_law_trimmed, b_law_trimmed, kp_law_trimmed, lk_law_trimmed⟩ := h_law_trimmed
  obtain ⟨fd, F⟩ := T.d_law_differences
  refine ⟨fd, F.ok sc_law_differences ?_ (fun cdv A outer s H vs Q E hr h => ?_), F.bindsN fun _ _ _ _ _ _ us hl => (match us, hl with | [_, _], _ => rfl), F.kp, lk_of F⟩
  · intro vs H Q E h
    exact spF_dif_len h
  · have hu := hr.units
    refine ⟨_, (PSs.nox (pss_cons (ps_par (i := 2) (j := 3) rfl sc_law_differences.nd rfl rfl (by decide) rfl rfl (pa_cons (pe_lst pa_nil) (pa_cons (pe_lc (own := [(".0", 4), ("_law_one", 5)]) rfl sc_law_differences.nd (pi_listK K (pv 1)) (blkOk_by (own := [(".0", 4), ("_law_one", 5)]) (N := ["_law_modulus_here", "_law_values_here", "_law_found", "_law_left", ".0", "_law_one", "_law_two"]) (sc := defScope (top 43)) (by decide +kernel)) (fun _ _ _ _ _ => (pg_name (i := 5) sc_law_differences.nd rfl (.inl rfl))) (fun _ _ _ _ _ => pts_nil) (fun _ _ _ _ _ => (pe_op op_mod (pe_callTy call_int1 (by rfl) T.n_int boot_int (pa_cons (pv 5) pa_nil)) (pv 0)))) pa_nil)) rfl)
    (pss_cons (ps_while PassesOwn.never (pt_cmpR (op_neDK K hu) (pv 3) (pe_lst pa_nil) (nomark _))
    (pss_cons (ps_expr (pe_bm PySem.F.plainAttrs_list PySem.F.slot_list_append PySem.F.type_list_append mt_append (pv 2) (pa_cons (pe_ix (ix_listK K) (pv 3) pe_int (fun _ _ => rfl)) pa_nil)))
    (pss_one (ps_setLc (i := 3) (own := [(".0", 4), ("_law_one", 5), ("_law_two", 6)]) rfl sc_law_differences.nd rfl rfl (sw_true rfl rfl rfl (by decide +kernel)) (RZ.pi_zipA (by rfl) T.n_zip (pa_cons (pv 3) (pa_cons (pe_slice (sl_listK K) (pv 3) (po_some pe_int) po_none) pa_nil))) (blkOk_by (own := [(".0", 4), ("_law_one", 5), ("_law_two", 6)]) (N := ["_law_modulus_here", "_law_values_here", "_law_found", "_law_left", ".0", "_law_one", "_law_two"]) (sc := defScope (top 43)) (by decide +kernel)) (fun _ _ _ _ _ => (pg_tupK K (n := 2) rfl (pgs_cons (pg_name (i := 5) sc_law_differences.nd rfl (.inl rfl)) (pgs_cons (pg_name (i := 6) sc_law_differences.nd rfl (.inl rfl)) pgs_nil)))) (fun _ _ _ _ _ => pts_nil) (fun _ _ _ _ _ => (pe_op op_mod (pe_callTy call_int1 (by rfl) T.n_int boot_int (pa_cons (pe_op op_sub (pv 6) (pv 5)) pa_nil)) (pv 0)))))))
    (pss_one (ps_ret (pe_call F_law_trimmed (hr.mono (by decide)) (by rfl) T.g__law_trimmed kp_law_trimmed b_law_trimmed .nil passL (pa_cons (pv 0) (pa_cons (pv 2) pa_nil)))))))), ?_⟩
    try dsimp only [cxOf, Cx.nox, Cx.wish]
    
    refine enterF h fun ts O P X h _ => ?_
    obtain ⟨m, xs, rfl, rfl, hm, hl, p⟩ := h
    show WS _ _ _ _ [.v (.int m), .v (.lst (nums xs)), .no, .no, .no, .no, .no] _
    refine s_seq ?_
    refine s_par ?_
    repeat walk_at "o"
    refine w_lc1 ?_ (by decide)
    refine i_list ?_
    repeat walk_at "e"
    refine lc_A xs D.int (fun x => .int (x % m)) (by omega) (fun x acc hx => ?_) ?_
    · refine g_name ?_
      repeat walk_at "e"
      exact ⟨rfl, rfl⟩
    repeat walk_at "e"
    refine s_seq ?_
    refine s_while (fun n ts' O' => ∃ fs ls : List Int, n = ls.length ∧ O' = [.lst (nums fs)] ∧ ts' = [.v (.int m), .v (.lst (nums xs)), .own 0, .v (.lst (nums ls)), .no, .no, .no] ∧ fs ++ My.dvm m ls = My.dvm m (xs.map (· % m)) ∧ fs.length + ls.length ≤ 100) (xs.map (· % m)).length ⟨[], xs.map (· % m), rfl, rfl, by unfold nums; rw [List.map_map] <;> rfl, rfl, by rw [List.length_nil, List.length_map]; omega⟩ ?_
    rintro n _ _ ⟨fs, ls, rfl, rfl, rfl, hd, hl2⟩
    repeat walk_at "e"
    refine w_neD valD_v valD_v pl_numsL pl_nilL ?_
    rw [eqD_nilL]
    refine ⟨_, rfl, nbr (fun hn => ?_) (fun hn => ?_)⟩
    · obtain ⟨x, r, rfl⟩ := List.exists_cons_of_ne_nil hn
      rw [List.length_cons] at hl2
      repeat walk_at "e"
      refine s_seq ?_
      repeat walk_at "e"
      refine m_append (by exact rfl) (lt_sz (by omega)) ?_
      repeat walk_at "e"
      refine w_lcT ?_ (tgt_pair (by decide) (by decide))
      refine i_zipL ?_
      repeat walk_at "e"
      rw [cut1]
      refine lc_ZR (x :: r) ((x :: r).drop 1) D.int D.int (fun a b => .int ((b - a) % m)) (by rw [List.length_drop]; omega) (by rw [List.length_drop, List.length_cons]; omega) (fun a b acc h1 h2 => ?_) ?_
      · refine g_pair rfl ?_
        repeat walk_at "e"
        exact ⟨rfl, rfl⟩
      rw [zip_diff]
      rw [My.dvm_cons] at hd
      exact ⟨((My.diff (x :: r)).map (· % m)).length, by rw [List.length_map, My.diff_len, List.length_cons]; omega, fs ++ [x], (My.diff (x :: r)).map (· % m), rfl, by rw [← nums_app] <;> rfl, rfl, by rw [← hd, List.append_assoc] <;> rfl, by rw [List.length_map, My.diff_len]; simp only [List.length_append, List.length_cons, List.length_nil]; omega⟩
    · subst hn
      rw [My.dvm_nil, List.append_nil] at hd
      subst hd
      refine s_frz 0 rfl rfl ?_
      repeat walk_at "e"
      refine w_fnF ?_
      repeat walk_at "e"
      refine ⟨m, _, rfl, rfl, hm, by rw [My.dvm_len _ _ _ (List.length_map _)]; omega, _, rfl, rfl, ?_⟩
      rw [My.tr_dvm]
      exact retF_at rfl (Nat.zero_le _) rfl p
theorem sc_law_values : FnScope ["_law_pen_here", "_law_modulus_here", "_law_low"] ["_law_pen_here", "_law_modulus_here"] (defScope (top 44)) := ⟨rfl, rfl, rfl, by decide +kernel, rfl, by decide +kernel, by decide +kernel⟩
theorem ok_law_values {P : Program} {w : World} {K : PySem.W.Frag} {mg : Str → Option Value} {base : Heap} (T : Tx K mg) (h_law_draw : Fn P w K mg base 1 (He.fAd K ("_law_draw", none)) ["_law_pen_here", "_law_many"] (sp_draw K)) (h_law_numbers : Fn P w K mg base 3 (He.fAd K ("_law_numbers", none)) ["_law_pen_here", "_law_modulus_here", "_law_most"] (sp_l_numbers K)) (h_law_stepped : FnRaw P w K mg base 1 (He.fAd K ("_law_stepped", none)) ["_law_modulus_here", "_law_told", "_law_many"] (spF_step K)) : FnRaw P w K mg base 4 (He.fAd K ("_law_values", none)) ["_law_pen_here", "_law_modulus_here"] (spF_vals K) := by
  obtain ⟨_, F_law_draw, b_law_draw, kp_law_draw, lk_law_draw⟩ := h_law_draw
  obtain ⟨_, F_law_numbers, b_law_numbers, kp_law_numbers, lk_law_numbers⟩ := h_law_numbers
  obtain ⟨_, F_law_stepped, b_law_stepped, kp_law_stepped, lk_law_stepped⟩ := h_law_stepped
  obtain ⟨fd, F⟩ := T.d_law_values
  refine ⟨fd, F.ok sc_law_values ?_ (fun cdv A outer s H vs Q E hr h => ?_), F.bindsN fun _ _ _ _ _ _ us hl => (match us, hl with | [_, _], _ => rfl), F.kp, lk_of F⟩
  · intro vs H Q E h
    exact spF_vals_len h
  · have hu := hr.units
    refine ⟨_, (PSs.nox (pss_cons (ps_if (pt_cmpR op_eq (pe_call F_law_draw (hr.mono (by decide)) (by rfl) T.g__law_draw kp_law_draw b_law_draw .nil passL (pa_cons (pv 0) (pa_cons pe_int pa_nil))) pe_int (nomark _))
    (pss_cons (ps_set (i := 2) sc_law_values.nd rfl (.inl rfl) (pe_call F_law_numbers (hr.mono (by decide)) (by rfl) T.g__law_numbers kp_law_numbers b_law_numbers .nil passL (pa_cons (pv 0) (pa_cons (pv 1) (pa_cons pe_int pa_nil)))))
    (pss_one (ps_ret (pe_call F_law_stepped (hr.mono (by decide)) (by rfl) T.g__law_stepped kp_law_stepped b_law_stepped .nil passL (pa_cons (pv 1) (pa_cons (pv 2) (pa_cons (pe_op op_add pe_int (pe_call F_law_draw (hr.mono (by decide)) (by rfl) T.g__law_draw kp_law_draw b_law_draw .nil passL (pa_cons (pv 0) (pa_cons pe_int pa_nil)))) pa_nil)))))))
    pss_nil)
    (pss_one (ps_ret (pe_revL (pe_op op_cat (pe_call F_law_numbers (hr.mono (by decide)) (by rfl) T.g__law_numbers kp_law_numbers b_law_numbers .nil passL (pa_cons (pv 0) (pa_cons (pv 1) (pa_cons pe_int pa_nil)))) (pe_lst (pa_cons (pe_call F_law_draw (hr.mono (by decide)) (by rfl) T.g__law_draw kp_law_draw b_law_draw .nil passL (pa_cons (pv 0) (pa_cons (pv 1) pa_nil))) pa_nil)))))))), ?_⟩
    try dsimp only [cxOf, Cx.nox, Cx.wish]
    
    refine enterF h fun ts O P X h _ => ?_
    obtain ⟨n, p, m, rfl, rfl, hp, hn, m1, m2, k⟩ := h
    show WS _ _ _ _ [.own 0, .v (.int m), .no] _
    walk_at "n"
    refine u_draw hp (by omega) (by decide) (by decide) fun p1 d1 hp1 a0 a1 => ⟨_, rfl, nno, ?_⟩
    repeat walk_at "e"
    refine br (fun _ => ?_) (fun _ => ?_)
    · walk_at "n"
      refine ⟨_, _, m, 4, by decide, rfl, rfl, hp1, by omega, m1, m2, fun p2 xs hp2 hl hs => ⟨_, rfl, nno, ?_⟩⟩
      repeat walk_at "e"
      refine w_fnF ?_
      repeat walk_at "e"
      refine u_draw hp2 (by omega) (by decide) (by decide) fun p3 d3 hp3 b0 b1 => ⟨_, rfl, nno, ?_⟩
      obtain ⟨r, rfl⟩ : ∃ j : Nat, d3 = j := ⟨d3.toNat, by omega⟩
      repeat walk_at "e"
      refine ⟨m, xs, 1 + r, rfl, rfl, m1, by omega, by omega, _, rfl, rfl, ?_⟩
      refine retF_at (i := 1) rfl (Nat.le_refl 1) rfl ?_
      refine k _ _ (hp3.mono (by omega)) (by rw [List.length_map, List.length_range]; omega) (by rw [List.length_map, List.length_range]; omega) fun x hx => ?_
      obtain ⟨i, _, rfl⟩ := List.mem_map.mp hx
      have h0 := Int.emod_nonneg (V xs (i : Nat)) (show m ≠ 0 by omega)
      have h1 := Int.emod_lt_of_pos (V xs (i : Nat)) (show 0 < m by omega)
      have h2 : V xs (i : Nat) % m < 1000000000000000000000000000000 := by omega
      generalize V xs (i : Nat) % m = z at h0 h2 ⊢
      omega
    · refine s_next ?_
      try dsimp only
      refine s_ret ?_
      refine w_revLO ?_
      repeat walk_at "e"
      refine ⟨_, _, m, 12, by decide, rfl, rfl, hp1, by omega, m1, m2, fun p2 xs hp2 hl hs => ⟨_, rfl, nno, ?_⟩⟩
      repeat walk_at "e"
      refine u_draw hp2 (by omega) (by omega) (by omega) fun p3 d3 hp3 b0 b1 => ⟨_, rfl, nno, ?_⟩
      repeat walk_at "e"
      refine w_catL lstD_v lstD_v (by rw [nums_len]; show xs.length + 1 ≤ _; omega) ?_
      refine ⟨_, lstD_v, ?_⟩
      refine retF_at (i := 1) rfl (Nat.le_refl 1) rfl ?_
      have e : (nums xs ++ (fun x : List D => D.int d3 :: x) []).reverse = nums (xs ++ [d3]).reverse := by
        unfold nums
        rw [List.map_reverse, List.map_append] <;> rfl
      show P (.own 1) [.lst p3, .lst (nums xs ++ (fun x : List D => D.int d3 :: x) []).reverse]
      rw [e]
      refine k _ _ (hp3.mono (by omega)) (by rw [List.length_reverse, List.length_append, List.length_singleton]; omega) (by rw [List.length_reverse, List.length_append, List.length_singleton]; omega) fun x hx => ?_
      have hb : d3 < 1000000000000000000000000000000 := by omega
      exact sml_snoc hs (show d3.natAbs < 2 ^ 140 by omega) x (List.mem_reverse.mp hx)
end My

set_option Elab.async false
set_option linter.all false
set_option maxRecDepth 100000
set_option maxHeartbeats 4000000
namespace G
open PySem PySem.Spec PyProof.Rows L2
end G

set_option Elab.async false
set_option linter.all false
set_option maxRecDepth 100000
set_option maxHeartbeats 4000000
namespace G
open PySem PySem.Spec PyProof.Rows L2
section
variable {X : Cx} {CX : CXT} {k : Nat} {C g : Addr} {sp : Sp} {E : L2.St → XK} {E1 : XK}
end
section
variable {K : PySem.W.Frag} {W : WX} {O : List OD} {ts : List T} {P : PT'} {X : XX} {sp : SpD} {ta tb : TE} {C : Addr}
end
end G

set_option Elab.async false
set_option linter.all false
set_option maxRecDepth 100000
set_option maxHeartbeats 4000000
namespace RZ
open PySem PySem.Spec PyProof.Rows L2
end RZ
namespace G
open PySem PySem.Spec PyProof.Rows L2
section
variable {K : PySem.W.Frag} {W : WX} {O : List OD} {ts : List T} {X : XX} {ta : TA}
end
end G

set_option Elab.async false
set_option linter.all false
set_option maxRecDepth 100000
set_option maxHeartbeats 4000000
namespace G
open PySem PySem.Spec PyProof.Rows L2
section
variable {K : PySem.W.Frag} {W : WX} {O : List OD} {ts : List T} {ta : TA}
theorem s_tup2 {E : DE} {i j : Nat} (h : WA K W ta O ts (fun xs O' => ∃ x y, xs = [x, y] ∧ E.nx ((ts.set i x).set j y) O') (fun C fs O' => E.xe C fs ts O')) : WS K W (tAsg (tTup ta) (gTup K 2 (gCons (gName i) (gCons (gName j) gNil)))) O ts E := fun b A σ H D s rs ks =>
  h b A σ H _ s rs (fun xs vs A' O' H' p s' n' r' => by
    obtain ⟨x, y, rfl, q⟩ := p
    obtain ⟨v, _, rfl, r1, w', _, rfl, r2, rfl⟩ := r'
    refine ⟨by show 2 ≤ sizeLine; decide, fun p' hp => ?_⟩
    obtain ⟨s2, n2, _⟩ := s'.lay hp (.tup [v, w'])
    refine ⟨p', [v, w'], rfl, .inl (.inl upd_same), rfl, v, _, rfl, w', _, rfl, rfl, ?_⟩
    exact ks.nx _ _ A' O' _ q s2 (n'.trans n2) ((((rs.nxt n').set r1 i).set r2 j).nxt n2)) (ks.kx rs)
end
end G

set_option Elab.async false
set_option linter.all false
set_option maxRecDepth 100000
set_option maxHeartbeats 0
namespace My
open PySem PySem.Spec PyProof.Rows L2 G

theorem sumD_noL {K : PySem.W.Frag} {m : Int} {cs : List Int} : noL (sumD K m cs) = true := by
  show (true && ((noLs (nums cs)) && true)) = true
  rw [noLs_nums] <;> rfl
theorem pen_noY {n : Nat} {p : List D} (h : Pen n p) : noYL p = true := by
  obtain ⟨cs, a, g, rfl, _⟩ := h
  show (noYL (nums cs) && (true && (true && true))) = true
  rw [noYL_nums] <;> rfl
theorem bl_eq {m : Int} {cs ds : List Int} (h : cs = ds) : (decide (m = m) && decide (cs = ds)) = true := by rw [h, decide_eq_true rfl, decide_eq_true rfl] <;> rfl
theorem ok_sm {m : Int} {cs : List Int} (ok : SumOk m cs) : ∀ x ∈ cs, Sm x := fun x hx => Nat.lt_of_lt_of_le (ok.sml x hx) (Nat.pow_le_pow_right (by decide) (by decide))
theorem near_b (i : Nat) (h : i < 100) : ((i : Nat) : Int).natAbs + 12 < 2 ^ 230 := Nat.lt_of_lt_of_le (show ((i : Nat) : Int).natAbs + 12 < 2 ^ 7 by omega) (Nat.pow_le_pow_right (by decide) (by decide))

local macro_rules | `(tactic| walk_at "ws") => `(tactic| first
  | with_reducible refine s_set ?_
  | with_reducible refine s_if ?_
  | with_reducible refine s_ret ?_
  | with_reducible refine s_retN ?_
  | with_reducible refine s_drop ?_
  | with_reducible refine s_next ?_
  | with_reducible refine s_par ?_
  | with_reducible refine s_par3 ?_
  | refine s_fldN (by assumption) (by assumption) ?_
  | with_reducible refine s_asg ?_
  | refine s_raise1 ?_
  | refine s_raise2 ?_)
local macro_rules | `(tactic| walk_at "we") => `(tactic| first
  | ((with_reducible refine w_v (d := ?k2) ?k1 ?_); (case k1 => exact rfl))
  | ((with_reducible refine w_o (j := ?k2) ?k1 ?_); (case k1 => exact rfl))
  | ((guard_target = G.WE _ _ (tFld _ _ _) _ _ _ _); (refine w_fldN (by assumption) (by assumption) ?_))
  | ((guard_target = G.WE _ _ (tC (.ref _)) _ _ _ _); (refine w_ctup (by assumption) ?_))
  | with_reducible refine w_ci ?_
  | with_reducible refine w_op ?_
  | with_reducible refine w_call ?_
  | with_reducible refine w_cty ?_
  | with_reducible refine w_cb ?_
  | with_reducible refine w_cn ?_
  | with_reducible refine w_cs ?_
  | with_reducible refine w_cr ?_
  | with_reducible refine w_un ?_
  | with_reducible refine w_andV ?_
  | with_reducible refine w_orV ?_
  | with_reducible refine w_notV ?_
  | with_reducible refine w_ife ?_
  | with_reducible refine w_chain ?_
  | with_reducible refine w_tup ?_
  | with_reducible refine w_revL ?_
  | with_reducible refine w_slL ?_
  | with_reducible refine w_slT ?_
  | (guard_target = G.WE _ _ (tCall (lift _ (sp_draw _)) _ _ _) _ _ _ _; refine w_fn10 0 ?_)
  | (guard_target = G.WE _ _ (tCall (lift _ (sp_pick _)) _ _ _) _ _ _ _; refine w_fn10 0 ?_)
  | (guard_target = G.WE _ _ (tCall (lift _ (sp_l_modulus _)) _ _ _) _ _ _ _; refine w_fn10 0 ?_)
  | (guard_target = G.WE _ _ (tCall (lift _ (sp_l_numbers _)) _ _ _) _ _ _ _; refine w_fn10 0 ?_)
  | (guard_target = G.WE _ _ (tCall (lift _ (sp_right _)) _ _ _) _ _ _ _; refine w_fn10 0 ?_)
  | with_reducible refine w_fn0 ?_
  | with_reducible refine w_fnS0 ?_
  | with_reducible refine w_meth0 ?_
  | with_reducible refine w_make0 ?_
  | with_reducible refine w_bmL ?_
  | with_reducible refine w_bmL0 ?_
  | with_reducible refine w_lst ?_
  | with_reducible refine w_callKX ?_
  | with_reducible refine w_makeKX ?_
  | with_reducible refine w_makeX ?_
  | with_reducible refine w_smethX ?_
  | with_reducible refine w_smethK ?_
  | with_reducible refine w_smethK0 ?_
  | with_reducible refine w_fnV ?_
  | with_reducible refine w_fnX ?_
  | with_reducible refine w_fnSX ?_
  | with_reducible refine w_methX ?_
  | with_reducible refine w_callX ?_
  | with_reducible refine w_methK ?_
  | with_reducible refine w_callK2 ?_
  | with_reducible refine w_callI ?_
  | with_reducible refine w_prop ?_
  | with_reducible refine w_dic0 ?_
  | with_reducible refine w_jcons ?_
  | with_reducible refine w_jnil ?_
  | with_reducible refine w_join ?_
  | with_reducible refine w_split ?_
  | with_reducible refine w_smeth ?_
  | with_reducible refine w_fnKr ?_)
local macro_rules | `(tactic| walk_at "wt") => `(tactic| first
  | with_reducible refine w_test ?_
  | with_reducible refine w_B ?_
  | with_reducible refine w_and ?_
  | with_reducible refine w_or ?_
  | with_reducible refine w_not ?_)
local macro_rules | `(tactic| walk_at "wa") => `(tactic| first
  | with_reducible refine w_cons ?_
  | with_reducible refine w_nil ?_
  | with_reducible refine w_star ?_)
local macro_rules | `(tactic| walk_at "wr") => `(tactic| first
  | with_reducible refine w_add ?_
  | with_reducible refine w_sub ?_
  | with_reducible refine w_lt ?_
  | with_reducible refine w_le ?_
  | with_reducible refine w_gt ?_
  | with_reducible refine w_ge ?_
  | with_reducible refine w_eqI ?_
  | with_reducible refine w_neI ?_
  | with_reducible refine w_isN ?_
  | with_reducible refine w_notN ?_
  | ((with_reducible refine w_mod ?k1 ?_); (case k1 => first | decide | omega))
  | ((with_reducible refine w_mul ?k1 ?_); (case k1 => first | exact Or.inl ⟨by decide, by decide⟩ | exact Or.inr ⟨by decide, by decide⟩ | exact Or.inl ⟨by omega, by omega⟩ | exact Or.inr ⟨by omega, by omega⟩))
  | ((with_reducible refine w_pow ?k1 ?_); (case k1 => first | exact ⟨by decide, by decide, by decide⟩ | exact ⟨by omega, by omega, by omega⟩))
  | ((with_reducible refine w_fdivW ?k1 ?_); (case k1 => exact divW_ok (by first | decide | omega) (by first | decide | omega)))
  | ((with_reducible refine w_mulW ?k1 ?_); (case k1 => exact mulW_ok ⟨by omega, by omega⟩ ⟨by omega, by omega⟩))
  | ((guard_target = G.WR _ (rIxT _) _ _ _ _); (refine w_ixT (by first | exact atI_0 | exact atI_1 | exact atI_2 | exact atI_3 | exact atI_4 | exact atI_5 | exact atI_6 | assumption) ?_))
  | ((guard_target = G.WR _ (rIxL _) _ _ _ _); (refine w_ixL (by first | exact lstD_v | exact lstD_o rfl) (by first | exact atI_0 | exact atI_1 | exact atI_2 | exact atI_3 | exact atI_4 | exact atI_5 | exact atI_6 | assumption) ?_)))
local macro_rules | `(tactic| walk_at "wc") => `(tactic| first
  | with_reducible refine c_int ?_
  | with_reducible refine c_intB ?_
  | with_reducible refine c_abs ?_
  | ((guard_target = G.WC _ (G.rLen _) _ _ _); (refine c_lenL (by first | exact lstD_v | exact lstD_o rfl) ?_))
  | with_reducible refine c_lenT ?_
  | ((guard_target = G.WC _ (G.rListOf _) _ _ _); (refine c_listL (by first | exact lstD_v | exact lstD_o rfl) ?_))
  | with_reducible refine c_listT ?_
  | ((guard_target = G.WC _ (G.rTupOf _) _ _ _); (refine c_tupL (by first | exact lstD_v | exact lstD_o rfl) ?_))
  | with_reducible refine c_tupT ?_)
local macro_rules | `(tactic| walk_at "e") => `(tactic| first
  | (guard_target = G.WE _ _ _ _ _ _ _; walk_at "we")
  | (guard_target = G.WS _ _ _ _ _ _; walk_at "ws")
  | (guard_target = G.WA _ _ _ _ _ _ _; walk_at "wa")
  | (guard_target = G.WR _ _ _ _ _ _; walk_at "wr")
  | (guard_target = G.WT _ _ _ _ _ _ _; walk_at "wt")
  | (guard_target = G.WC _ _ _ _ _; walk_at "wc")
  | (guard_target = G.WU _ _ _ _ _; with_reducible refine w_neg ?_)
  | (guard_target = G.WG _ _ _ _ _ _ _; first | with_reducible refine g_name ?_ | with_reducible refine g_setL ?_ | refine g_pair rfl ?_ | refine g_trip rfl ?_ | refine g_quad rfl ?_)
  | (guard_target = G.WO _ _ _ _ _ _ _; first | with_reducible refine o_none ?_ | with_reducible refine o_some ?_)
  | with_reducible refine tt_ ?_
  | with_reducible refine ff_ ?_
  | with_reducible refine ntt_ ?_
  | with_reducible refine nff_ ?_
  | ((guard_target = ((!G.isNon _) = true → _) ∧ _); (first | refine bnF rfl ?_ | refine bnT rfl ?_))
  | ((guard_target = (G.isNon _ = true → _) ∧ _); (first | refine bF rfl ?_ | refine bT rfl ?_))
  | (guard_target = Exists _; first
    | refine ⟨_, rfl, Nat.le_of_ble_eq_true rfl, Nat.le_of_ble_eq_true rfl, ?_⟩
    | refine ⟨_, _, _, _, _, rfl, rfl, rfl, rfl, rfl, ?_⟩
    | refine ⟨_, _, _, rfl, rfl, rfl, Nat.le_of_ble_eq_true rfl, ?_⟩
    | refine ⟨_, _, rfl, rfl, rfl, ?_⟩
    | refine ⟨_, _, _, rfl, ?_⟩
    | refine ⟨_, _, (by first | exact insD_v | exact insD_o rfl), rfl, ?_⟩
    | refine ⟨_, _, rfl, ?_⟩
    | refine ⟨_, rfl, rfl, ?_⟩
    | refine ⟨_, rfl, Nat.le_of_ble_eq_true rfl, ?_⟩
    | refine ⟨_, (by first | exact lstD_v | exact lstD_o rfl), ?_⟩
    | refine ⟨_, rfl, ?_⟩))
local macro_rules | `(tactic| walk_at "o") => `(tactic| first | with_reducible refine w_lstO ?_ | walk_at "e")
local macro_rules | `(tactic| walk_at "g") => `(tactic| first | walk_at "e" | with_reducible refine s_seq ?_)
local macro_rules | `(tactic| walk_at "n") => `(tactic| (with_reducible refine s_seq ?_); (repeat walk_at "e"))
theorem sc_law_right : FnScope ["_law_pen_here", "_law_modulus_here", "_law_values_here", "_law_kept", "_law_made_here", "_law_due", ".0", "_law_at", "_law_one"] ["_law_pen_here", "_law_modulus_here"] (defScope (top 45)) := ⟨rfl, rfl, rfl, by decide +kernel, rfl, by decide +kernel, by decide +kernel⟩
theorem ok_law_right {P : Program} {w : World} {K : PySem.W.Frag} {mg : Str → Option Value} {base : Heap} (T : Tx K mg) (h_law_values : FnRaw P w K mg base 4 (He.fAd K ("_law_values", none)) ["_law_pen_here", "_law_modulus_here"] (spF_vals K)) (h_law_differences : FnRaw P w K mg base 2 (He.fAd K ("_law_differences", none)) ["_law_modulus_here", "_law_values_here"] (spF_dif K)) (h_Sum_of : Fn P w K mg base 6 (pr_Sum_of.g K) ["modulus", "values"] (sp_s_of K)) (h_SumU_lenU : Fn P w K mg base 1 (He.fAd K ("Sum", some "__len__")) ["self"] (sp_s_len K)) (h_SumU_callU : Fn P w K mg base 3 (He.fAd K ("Sum", some "__call__")) ["self", "n"] (sp_s_call K)) (h_SumU_eqU : Fn P w K mg base 1 (He.fAd K ("Sum", some "__eq__")) ["self", "other"] (sp_s_eq K)) : FnG P w K mg base 7 (He.fAd K ("_law_right", none)) 2 (sp_right K) := by
  obtain ⟨_, F_law_values, b_law_values, kp_law_values, lk_law_values⟩ := h_law_values
  obtain ⟨_, F_law_differences, b_law_differences, kp_law_differences, lk_law_differences⟩ := h_law_differences
  obtain ⟨_, F_Sum_of, b_Sum_of, kp_Sum_of, lk_Sum_of⟩ := h_Sum_of
  obtain ⟨_, FK_Sum_of⟩ := T.d_Sum_of
  have kw_Sum_of := kwB (ps := ["modulus", "values"]) FK_Sum_of lk_Sum_of fun _ _ _ _ _ _ ws hl => (match ws, hl with | [_, _], _ => rfl)
  obtain ⟨_, F_SumU_lenU, b_SumU_lenU, kp_SumU_lenU, lk_SumU_lenU⟩ := h_SumU_lenU
  obtain ⟨_, F_SumU_callU, b_SumU_callU, kp_SumU_callU, lk_SumU_callU⟩ := h_SumU_callU
  obtain ⟨_, F_SumU_eqU, b_SumU_eqU, kp_SumU_eqU, lk_SumU_eqU⟩ := h_SumU_eqU
  have kr_Sum_of := kwR (ps := ["modulus", "values"]) FK_Sum_of lk_Sum_of fun _ _ _ _ _ _ ws hl => (match ws, hl with | [_, _], _ => rfl)
  obtain ⟨fd, F⟩ := T.d_law_right
  have hc_Sum := T.cl_Sum
  have hn_Sum_coefs := T.na_Sum_coefs
  refine fnG (ps := ["_law_pen_here", "_law_modulus_here"]) F sc_law_right (lift_len ?_) (F.bindsN fun _ _ _ _ _ _ us hl => (match us, hl with | [_, _], _ => rfl)) (fun cdv A outer s H vs Q E hgd hr h => ?_)
  · intro ts O P X h
    exact sp_right_len h
  · have hu := hr.units
    refine ⟨_, (PSs.nox (pss_cons (ps_set (i := 2) sc_law_right.nd rfl (.inl rfl) (pe_call F_law_values (hr.mono (by decide)) (by rfl) T.g__law_values kp_law_values b_law_values .nil passL (pa_cons (pv 0) (pa_cons (pv 1) pa_nil))))
    (pss_cons (ps_set (i := 3) sc_law_right.nd rfl (.inl rfl) (pe_callB (call_reprG hgd hr K) (by rfl) T.n_repr boot_repr (pa_cons (pv 2) pa_nil)))
    (pss_cons (ps_asg (pe_tup (pa_cons (pe_smeth (pe_glob (v := .ref (He.ga K "Sum")) (by rfl) T.g_Sum rfl) T.sm_Sum_of (rOf F_Sum_of b_Sum_of) (hr.mono (by decide)) passL (pa_cons (pv 1) (pa_cons (pv 2) pa_nil))) (pa_cons (pe_call F_law_differences (hr.mono (by decide)) (by rfl) T.g__law_differences kp_law_differences b_law_differences .nil passL (pa_cons (pv 1) (pa_cons (pv 2) pa_nil))) pa_nil))) (pg_tupK K (n := 2) rfl (pgs_cons (pg_name (i := 4) sc_law_right.nd rfl (.inr rfl)) (pgs_cons (pg_name (i := 5) sc_law_right.nd rfl (.inl rfl)) pgs_nil))))
    (pss_cons (ps_if (PW.pt (pw_or (pt_cmpR op_ne (pe_callB (call_reprG hgd hr K) (by rfl) T.n_repr boot_repr (pa_cons (pe_fldK K (pv 4)) pa_nil)) (pe_callB (call_reprG hgd hr K) (by rfl) T.n_repr boot_repr (pa_cons (pe_callTy (cr_tupK K) (by rfl) T.n_tuple boot_tuple (pa_cons (pv 5) pa_nil)) pa_nil)) (nomark _)) (pw_or (pt_cmpR op_ne (pe_callB (call_reprG hgd hr K) (by rfl) T.n_repr boot_repr (pa_cons (pv 2) pa_nil)) (pv 3) (nomark _)) (pw_or1 (pt_cmpR op_gt (pe_callB (call_lenO T.me_SumU_lenU (rOf F_SumU_lenU b_SumU_lenU) (hr.mono (by decide)) passL) (by rfl) T.n_len boot_len (pa_cons (pv 4) pa_nil)) (pe_callB (cr_lenK K) (by rfl) T.n_len boot_len (pa_cons (pv 2) pa_nil)) (nomark _))))))
    (pss_one (ps_ret pe_bl))
    pss_nil)
    (pss_cons (ps_if (pt_cmpR (op_neDK K hu) (pe_lc (own := [(".0", 6), ("_law_at", 7)]) rfl sc_law_right.nd (pi_range1 (by rfl) T.n_range (pa_cons (pe_callB (cr_lenK K) (by rfl) T.n_len boot_len (pa_cons (pv 2) pa_nil)) pa_nil)) (blkOk_by (own := [(".0", 6), ("_law_at", 7)]) (N := ["_law_pen_here", "_law_modulus_here", "_law_values_here", "_law_kept", "_law_made_here", "_law_due", ".0", "_law_at", "_law_one"]) (sc := defScope (top 45)) (by decide +kernel)) (fun _ _ _ _ _ => (pg_name (i := 7) sc_law_right.nd rfl (.inl rfl))) (fun _ _ _ _ _ => pts_nil) (fun _ _ _ _ _ => (pe_callI (pv 4) T.me_SumU_callU T.ca_Sum (rOf F_SumU_callU b_SumU_callU) (hr.mono (by decide)) passL (pa_cons (pv 7) pa_nil)))) (pe_lock (pe_lc (own := [(".0", 6), ("_law_one", 8)]) rfl sc_law_right.nd (pi_listK K (pv 2)) (blkOk_by (own := [(".0", 6), ("_law_one", 8)]) (N := ["_law_pen_here", "_law_modulus_here", "_law_values_here", "_law_kept", "_law_made_here", "_law_due", ".0", "_law_at", "_law_one"]) (sc := defScope (top 45)) (by decide +kernel)) (fun _ _ _ _ _ => (pg_name (i := 8) sc_law_right.nd rfl (.inl rfl))) (fun _ _ _ _ _ => pts_nil) (fun _ _ _ _ _ => (pe_op op_mod (pe_callTy call_int1 (by rfl) T.n_int boot_int (pa_cons (pv 8) pa_nil)) (pv 1))))) (nomark _))
    (pss_one (ps_ret pe_bl))
    pss_nil)
    (pss_cons (ps_if (PW.pt (pw_or (pt_cmpR (op_neO T.me_SumU_eqU T.ne_Sum (rOf F_SumU_eqU b_SumU_eqU) (hr.mono (by decide)) passL) (pe_smethK (tw := true) (pe_glob (v := .ref (He.ga K "Sum")) (by rfl) T.g_Sum rfl) T.sm_Sum_of F_Sum_of (hr.mono (by decide)) kr_Sum_of.t (fun _ => neverAt) (pk_cons (pe_callTy (cr_tupK K) (by rfl) T.n_tuple boot_tuple (pa_cons (pv 2) pa_nil)) (pk_cons (pv 1) pk_nil))) (pv 4) (nomark _)) (pw_or1 (pt_cmpR (op_neO T.me_SumU_eqU T.ne_Sum (rOf F_SumU_eqU b_SumU_eqU) (hr.mono (by decide)) passL) (pe_smeth (pe_glob (v := .ref (He.ga K "Sum")) (by rfl) T.g_Sum rfl) T.sm_Sum_of (rOf F_Sum_of b_Sum_of) (hr.mono (by decide)) passL (pa_cons (pv 1) (pa_cons (pe_lock (pe_lc (own := [(".0", 6), ("_law_one", 8)]) rfl sc_law_right.nd (pi_listK K (pv 2)) (blkOk_by (own := [(".0", 6), ("_law_one", 8)]) (N := ["_law_pen_here", "_law_modulus_here", "_law_values_here", "_law_kept", "_law_made_here", "_law_due", ".0", "_law_at", "_law_one"]) (sc := defScope (top 45)) (by decide +kernel)) (fun _ _ _ _ _ => (pg_name (i := 8) sc_law_right.nd rfl (.inl rfl))) (fun _ _ _ _ _ => pts_nil) (fun _ _ _ _ _ => (pe_op op_mod (pe_callTy call_int1 (by rfl) T.n_int boot_int (pa_cons (pv 8) pa_nil)) (pv 1))))) pa_nil))) (pv 4) (nomark _)))))
    (pss_one (ps_ret pe_bl))
    pss_nil)
    (pss_cons (ps_expr (pe_bm PySem.F.plainAttrs_list PySem.F.slot_list_append PySem.F.type_list_append mt_append (pv 2) (pa_cons pe_int pa_nil)))
    (pss_one (ps_ret (pe_and (pe_cmpR op_eq (pe_callB (call_reprG hgd hr K) (by rfl) T.n_repr boot_repr (pa_cons (pe_fldK K (pv 4)) pa_nil)) (pe_callB (call_reprG hgd hr K) (by rfl) T.n_repr boot_repr (pa_cons (pe_callTy (cr_tupK K) (by rfl) T.n_tuple boot_tuple (pa_cons (pv 5) pa_nil)) pa_nil)) (nomark _)) (pe_one (pe_cmpR (op_eqO T.me_SumU_eqU (rOf F_SumU_eqU b_SumU_eqU) (hr.mono (by decide)) passL) (pe_smeth (pe_glob (v := .ref (He.ga K "Sum")) (by rfl) T.g_Sum rfl) T.sm_Sum_of (rOf F_Sum_of b_Sum_of) (hr.mono (by decide)) passL (pa_cons (pv 1) (pa_cons (pe_lc (own := [(".0", 6), ("_law_at", 7)]) rfl sc_law_right.nd (pi_range1 (by rfl) T.n_range (pa_cons (pe_callB (call_max2 rfl) (by rfl) T.n_max boot_max (pa_cons pe_int (pa_cons (pe_callB (call_lenO T.me_SumU_lenU (rOf F_SumU_lenU b_SumU_lenU) (hr.mono (by decide)) passL) (by rfl) T.n_len boot_len (pa_cons (pv 4) pa_nil)) pa_nil))) pa_nil)) (blkOk_by (own := [(".0", 6), ("_law_at", 7)]) (N := ["_law_pen_here", "_law_modulus_here", "_law_values_here", "_law_kept", "_law_made_here", "_law_due", ".0", "_law_at", "_law_one"]) (sc := defScope (top 45)) (by decide +kernel)) (fun _ _ _ _ _ => (pg_name (i := 7) sc_law_right.nd rfl (.inl rfl))) (fun _ _ _ _ _ => pts_nil) (fun _ _ _ _ _ => (pe_callI (pv 4) T.me_SumU_callU T.ca_Sum (rOf F_SumU_callU b_SumU_callU) (hr.mono (by decide)) passL (pa_cons (pv 7) pa_nil)))) pa_nil))) (pv 4) (nomark _)))))))))))))), enter h fun ts O P X h _ => ?_⟩
    try dsimp only [cxOf, Cx.nox, Cx.wish]
    
    obtain ⟨n, p, m, rfl, rfl, hp, hn, m1, m2, k⟩ := h
    show WS _ _ _ _ [.own 0, .v (.int m), .no, .no, .no, .no, .no, .no, .no] _
    walk_at "n"
    refine w_fnOF 0 ?_
    repeat walk_at "e"
    refine ⟨n, p, m, rfl, rfl, hp, hn, m1, m2, fun p1 xs hp1 h1 h2 hs => ⟨_, _, rfl, rfl, ?_⟩⟩
    have hS : ∀ x ∈ xs, Sm x := fun x hx => Nat.lt_of_lt_of_le (hs x hx) (Nat.pow_le_pow_right (by decide) (by decide))
    have npn := pen_noY hp1
    obtain ⟨cs, hcs⟩ : ∃ cs, tr m (dv xs) = cs := ⟨_, rfl⟩
    have ok : SumOk m cs := by rw [← hcs]; exact .of m1 m2 (by rw [My.dv_len _ _ rfl]; exact h2)
    have okl : cs.length ≤ xs.length := by
      rw [← hcs]
      exact Nat.le_trans (My.tr_len m _) (by rw [My.dv_len _ _ rfl]; exact Nat.le_refl _)
    have oS := ok_sm ok
    repeat walk_at "e"
    walk_at "n"
    refine c_reprO (valD_o rfl) (shows_lst hS (by omega)) ?_
    repeat walk_at "e"
    refine s_seq ?_
    refine s_tup2 ?_
    refine w_cons ?_
    refine w_smethL 1 ?_
    repeat walk_at "e"
    refine ⟨rfl, ?_⟩
    repeat walk_at "e"
    refine ⟨_, _, rfl, rfl, m, _, xs, rfl, rfl, .inl rfl, m1, m2, h1, h2, ⟨_, rfl, sumD_noL⟩, ?_⟩
    refine w_cons ?_
    refine w_fnLF 1 ?_
    repeat walk_at "e"
    refine ⟨_, _, rfl, rfl, m, xs, rfl, rfl, m1, h2, _, rfl, rfl, noLs_nums _, ?_⟩
    rw [hcs]
    repeat walk_at "e"
    dsimp only [List.set, List.cons_append, List.nil_append, List.length]
    walk_at "n"
    refine c_repr (shows_tup oS (by omega)) ?_
    repeat walk_at "e"
    refine c_repr (shows_tup oS (by omega)) ?_
    repeat walk_at "e"
    refine w_ne rfl rfl rfl ?_
    rw [decide_eq_true rfl]
    repeat walk_at "e"
    refine c_reprO (valD_o rfl) (shows_lst hS (by omega)) ?_
    repeat walk_at "e"
    refine w_ne rfl rfl rfl ?_
    rw [decide_eq_true rfl]
    repeat walk_at "e"
    refine c_lenO ?_
    refine ⟨m, cs, rfl, rfl, ⟨_, rfl, by omega, ?_⟩⟩
    repeat walk_at "e"
    rw [nums_len]
    refine brF (by omega) ?_
    repeat walk_at "e"
    walk_at "n"
    refine w_lc1 ?_ (by decide)
    refine i_rng1 ?_
    repeat walk_at "e"
    rw [nums_len]
    refine ⟨by omega, ?_⟩
    rw [Int.toNat_natCast]
    refine lc_R (fun i => .int (V cs (i : Nat) % m)) (by omega) (fun i acc hi => ?_) ?_
    · refine g_name ?_
      repeat walk_at "e"
      refine ⟨m, cs, i, rfl, rfl, ok, near_b i (by omega), ⟨⟨_, rfl⟩, ?_⟩⟩
      exact ⟨rfl, rfl⟩
    have ev : ((List.range xs.length).map fun i : Nat => D.int (V cs (i : Nat) % m)) = nums (xs.map (· % m)) := by
      rw [← My.vals_of (m := m), hcs]
      unfold nums
      rw [List.map_map] <;> rfl
    rw [ev]
    refine w_lockL (es := nums xs) 1 rfl (fun j o hj ho => ?_) fun od ws => ?_
    · match j, hj, ho with
      | 0, _, ho => cases ho; exact npn
      | 2, _, ho => cases ho; exact noYL_nums cs
      | n + 3, _, ho => cases ho
    refine w_lc1 ?_ (by decide)
    refine i_list2 ?_
    repeat walk_at "e"
    refine ⟨nums xs, .inr ⟨od, ws, rfl⟩, ?_⟩
    refine lc_A xs D.int (fun x => .int (x % m)) (by omega) (fun x acc hx => ?_) ?_
    · refine g_name ?_
      repeat walk_at "e"
      exact ⟨rfl, rfl⟩
    rw [show (xs.map fun x => D.int (x % m)) = nums (xs.map (· % m)) by unfold nums; rw [List.map_map] <;> rfl]
    refine ⟨rfl, _, rfl, noYL_nums _, ?_⟩
    refine w_neF valD_v valD_v pl_numsL ?_
    repeat walk_at "e"
    walk_at "n"
    refine ⟨rfl, ?_⟩
    repeat walk_at "e"
    refine ⟨m, .tup (nums xs), xs, rfl, rfl, .inr rfl, m1, m2, h1, h2, ⟨⟨_, rfl⟩, ?_⟩⟩
    rw [hcs]
    repeat walk_at "e"
    refine w_neO ?_
    refine ⟨m, cs, m, cs, rfl, rfl, ⟨_, rfl, ?_⟩⟩
    rw [bl_eq rfl]
    repeat walk_at "e"
    refine ⟨rfl, ?_⟩
    repeat walk_at "e"
    refine w_lockL (es := nums xs) 1 rfl (fun j o hj ho => ?_) fun od ws => ?_
    · match j, hj, ho with
      | 0, _, ho => cases ho; exact npn
      | 2, _, ho => cases ho; exact noYL_nums cs
      | n + 3, _, ho => cases ho
    refine w_lc1 ?_ (by decide)
    refine i_list2 ?_
    repeat walk_at "e"
    refine ⟨nums xs, .inr ⟨od, ws, rfl⟩, ?_⟩
    refine lc_A xs D.int (fun x => .int (x % m)) (by omega) (fun x acc hx => ?_) ?_
    · refine g_name ?_
      repeat walk_at "e"
      exact ⟨rfl, rfl⟩
    rw [show (xs.map fun x => D.int (x % m)) = nums (xs.map (· % m)) by unfold nums; rw [List.map_map] <;> rfl]
    refine ⟨rfl, _, rfl, noYL_nums _, ?_⟩
    repeat walk_at "e"
    refine ⟨m, .lst (nums (xs.map (· % m))), xs.map (· % m), rfl, rfl, .inl rfl, m1, m2, by rw [List.length_map]; exact h1, by rw [List.length_map]; exact h2, ⟨⟨_, rfl⟩, ?_⟩⟩
    rw [My.tr_dv_mod, hcs]
    repeat walk_at "e"
    refine w_neO ?_
    refine ⟨m, cs, m, cs, rfl, rfl, ⟨_, rfl, ?_⟩⟩
    rw [bl_eq rfl]
    repeat walk_at "e"
    walk_at "n"
    refine m_append (by exact rfl) (lt_sz (by omega)) ?_
    dsimp only [List.set]
    repeat walk_at "e"
    refine c_repr (shows_tup oS (by omega)) ?_
    repeat walk_at "e"
    refine c_repr (shows_tup oS (by omega)) ?_
    repeat walk_at "e"
    refine w_eq rfl rfl rfl ?_
    rw [decide_eq_true rfl]
    repeat walk_at "e"
    refine ⟨rfl, ?_⟩
    repeat walk_at "e"
    refine w_lc1 ?_ (by decide)
    refine i_rng1 ?_
    repeat walk_at "e"
    refine c_lenO ?_
    refine ⟨m, cs, rfl, rfl, ⟨_, rfl, by omega, ?_⟩⟩
    repeat walk_at "e"
    refine c_max2 ?_
    rw [show (if ((cs.length : Nat) : Int) > 1 then ((cs.length : Nat) : Int) else 1) = ((max 1 cs.length : Nat) : Int) by split <;> omega]
    repeat walk_at "e"
    refine ⟨by omega, ?_⟩
    rw [Int.toNat_natCast]
    refine lc_R (fun i => .int (V cs (i : Nat) % m)) (by omega) (fun i acc hi => ?_) ?_
    · refine g_name ?_
      repeat walk_at "e"
      refine ⟨m, cs, i, rfl, rfl, ok, near_b i (by omega), ⟨⟨_, rfl⟩, ?_⟩⟩
      exact ⟨rfl, rfl⟩
    rw [show ((List.range (max 1 cs.length)).map fun i : Nat => D.int (V cs (i : Nat) % m)) = nums ((List.range (max 1 cs.length)).map fun i : Nat => V cs (i : Nat) % m) by unfold nums; rw [List.map_map] <;> rfl]
    repeat walk_at "e"
    refine ⟨m, _, _, rfl, rfl, .inl rfl, m1, m2, by rw [List.length_map, List.length_range]; omega, by rw [List.length_map, List.length_range]; omega, ⟨⟨_, rfl⟩, ?_⟩⟩
    rw [My.of_vals ok (Nat.le_max_right 1 _) (by omega)]
    repeat walk_at "e"
    refine w_eqO ?_
    refine ⟨m, cs, m, cs, rfl, rfl, ⟨⟨_, rfl⟩, ?_⟩⟩
    rw [bl_eq rfl]
    exact ⟨rfl, k _ hp1⟩
theorem sc_law : FnScope ["_law_script", "_law_pen_here", "_law_turn", "_law_modulus_here", "_law_told"] ["_law_script"] (defScope (top 46)) := ⟨rfl, rfl, rfl, by decide +kernel, rfl, by decide +kernel, by decide +kernel⟩
theorem ok_law {P : Program} {w : World} {K : PySem.W.Frag} {mg : Str → Option Value} {base : Heap} (T : Tx K mg) (h_law_pen : FnRaw P w K mg base 1 (He.fAd K ("_law_pen", none)) ["_law_script"] (penSp K 63)) (h_law_modulus : Fn P w K mg base 3 (He.fAd K ("_law_modulus", none)) ["_law_pen_here"] (sp_l_modulus K)) (h_law_right : FnG P w K mg base 7 (He.fAd K ("_law_right", none)) 2 (sp_right K)) (h_law_numbers : Fn P w K mg base 3 (He.fAd K ("_law_numbers", none)) ["_law_pen_here", "_law_modulus_here", "_law_most"] (sp_l_numbers K)) (h_Sum_of : Fn P w K mg base 6 (pr_Sum_of.g K) ["modulus", "values"] (sp_s_of K)) (h_law_stepped : FnRaw P w K mg base 1 (He.fAd K ("_law_stepped", none)) ["_law_modulus_here", "_law_told", "_law_many"] (spF_step K)) (h_law_made : Fn P w K mg base 6 (He.fAd K ("_law_made", none)) ["_law_modulus_here", "_law_told"] (sp_l_made K)) (h_SumU_eqU : Fn P w K mg base 1 (He.fAd K ("Sum", some "__eq__")) ["self", "other"] (sp_s_eq K)) (h_SumU_initU : FnS P w K mg base 4 (He.fAd K ("Sum", some "__init__")) 2 (sp_s_init K)) : FnG P w K mg base 8 (He.fAd K ("law", none)) 1 (sp_law K) := by
  obtain ⟨_, F_law_pen, b_law_pen, kp_law_pen, lk_law_pen⟩ := h_law_pen
  obtain ⟨_, F_law_modulus, b_law_modulus, kp_law_modulus, lk_law_modulus⟩ := h_law_modulus
  obtain ⟨F_law_right, kp_law_right⟩ := h_law_right
  obtain ⟨_, F_law_numbers, b_law_numbers, kp_law_numbers, lk_law_numbers⟩ := h_law_numbers
  obtain ⟨_, F_Sum_of, b_Sum_of, kp_Sum_of, lk_Sum_of⟩ := h_Sum_of
  obtain ⟨_, F_law_stepped, b_law_stepped, kp_law_stepped, lk_law_stepped⟩ := h_law_stepped
  obtain ⟨_, F_law_made, b_law_made, kp_law_made, lk_law_made⟩ := h_law_made
  obtain ⟨_, F_SumU_eqU, b_SumU_eqU, kp_SumU_eqU, lk_SumU_eqU⟩ := h_SumU_eqU
  obtain ⟨F_SumU_initU, kp_SumU_initU⟩ := h_SumU_initU
  obtain ⟨fd, F⟩ := T.d_law
  have hc_Sum := T.cl_Sum
  have hn_Sum_coefs := T.na_Sum_coefs
  refine fnG (ps := ["_law_script"]) F sc_law (lift_len ?_) (F.bindsN fun _ _ _ _ _ _ us hl => (match us, hl with | [_], _ => rfl)) (fun cdv A outer s H vs Q E hgd hr h => ?_)
  · intro ts O P X h
    exact sp_law_len h
  · have hu := hr.units
    refine ⟨_, (PSs.nox (pss_cons (ps_set (i := 1) sc_law.nd rfl (.inl rfl) (pe_call F_law_pen (hr.mono (by decide)) (by rfl) T.g__law_pen kp_law_pen b_law_pen .nil passL (pa_cons (pv 0) pa_nil)))
    (pss_cons (ps_for PassesOwn.never rfl (pi_range1 (by rfl) T.n_range (pa_cons pe_int pa_nil)) (pg_name (i := 2) sc_law.nd rfl (.inl rfl))
    (pss_cons (ps_set (i := 3) sc_law.nd rfl (.inl rfl) (pe_call F_law_modulus (hr.mono (by decide)) (by rfl) T.g__law_modulus kp_law_modulus b_law_modulus .nil passL (pa_cons (pv 1) pa_nil)))
    (pss_cons (ps_if (pt_not (pt_val (pe_callG F_law_right hgd (hr.mono (by decide)) (by rfl) T.g__law_right kp_law_right passL (pa_cons (pv 1) (pa_cons (pv 3) pa_nil)))))
    (pss_one (ps_ret pe_bl))
    pss_nil)
    (pss_cons (ps_set (i := 4) sc_law.nd rfl (.inl rfl) (pe_call F_law_numbers (hr.mono (by decide)) (by rfl) T.g__law_numbers kp_law_numbers b_law_numbers .nil passL (pa_cons (pv 1) (pa_cons (pv 3) (pa_cons pe_int pa_nil)))))
    (pss_one (ps_if (pt_cmpR (op_neO T.me_SumU_eqU T.ne_Sum (rOf F_SumU_eqU b_SumU_eqU) (hr.mono (by decide)) passL) (pe_smeth (pe_glob (v := .ref (He.ga K "Sum")) (by rfl) T.g_Sum rfl) T.sm_Sum_of (rOf F_Sum_of b_Sum_of) (hr.mono (by decide)) passL (pa_cons (pv 3) (pa_cons (pe_call F_law_stepped (hr.mono (by decide)) (by rfl) T.g__law_stepped kp_law_stepped b_law_stepped .nil passL (pa_cons (pv 3) (pa_cons (pv 4) (pa_cons pe_int pa_nil)))) pa_nil))) (pe_call F_law_made (hr.mono (by decide)) (by rfl) T.g__law_made kp_law_made b_law_made .nil passL (pa_cons (pv 3) (pa_cons (pv 4) pa_nil))) (nomark _))
    (pss_one (ps_ret pe_bl))
    pss_nil))))))
    (pss_one (ps_ret (pe_and (pe_cmpR (op_eqO T.me_SumU_eqU (rOf F_SumU_eqU b_SumU_eqU) (hr.mono (by decide)) passL) (pe_smeth (pe_glob (v := .ref (He.ga K "Sum")) (by rfl) T.g_Sum rfl) T.sm_Sum_of (rOf F_Sum_of b_Sum_of) (hr.mono (by decide)) passL (pa_cons pe_int (pa_cons (pe_lst (pa_cons pe_int (pa_cons pe_int (pa_cons pe_int (pa_cons pe_int pa_nil))))) pa_nil))) (StX.pe_makeR T.mk_Sum F_SumU_initU (hr.mono (by decide)) (by rfl) T.g_Sum passL (pa_cons pe_int (pa_cons pe_int (pa_cons pe_int (pa_cons pe_int pa_nil))))) (nomark _)) (pe_one (pe_cmpR (op_eqDK K hu) (pe_fldK K (pe_smeth (pe_glob (v := .ref (He.ga K "Sum")) (by rfl) T.g_Sum rfl) T.sm_Sum_of (rOf F_Sum_of b_Sum_of) (hr.mono (by decide)) passL (pa_cons pe_int (pa_cons (pe_tup (pa_cons pe_int pa_nil)) pa_nil)))) (pe_tup (pa_cons pe_int pa_nil)) (nomark _))))))))), enter h fun ts O P X h _ => ?_⟩
    try dsimp only [cxOf, Cx.nox, Cx.wish]
    
    obtain ⟨cs, rfl, rfl, hcs, p⟩ := h
    show WS _ _ _ _ [.v (.scr cs), .no, .no, .no, .no] _
    refine s_seq ?_
    refine s_set ?_
    refine w_pen ?_
    repeat walk_at "e"
    intro p0 hp0
    refine s_seq ?_
    refine s_forE ?_
    refine i_rng1 ?_
    repeat walk_at "e"
    refine ⟨by decide, ?_⟩
    refine for_R1 (n := 8) (fun i ts' O' => ∃ (q : List D) (x1 x2 x3 : G.T), Pen (300 * i) q ∧ O' = [.lst q] ∧ ts' = [.v (.scr cs), .own 0, x1, x2, x3]) ⟨_, _, _, _, hp0, rfl, rfl⟩ ?_ ?_
    · rintro i _ _ hi ⟨q0, x1, x2, x3, hpq, rfl, rfl⟩
      refine g_name ?_
      refine s_local ?_
      walk_at "n"
      refine ⟨_, _, rfl, rfl, hpq, by omega, fun q1 m hq1 m1 m2 => ⟨_, rfl, nno, ?_⟩⟩
      walk_at "n"
      refine ⟨_, _, m, rfl, rfl, hq1, by omega, m1, m2, fun q2 hq2 => ⟨_, rfl, nno, ?_⟩⟩
      repeat walk_at "e"
      walk_at "n"
      refine ⟨_, _, m, 13, by decide, rfl, rfl, hq2, by omega, m1, m2, fun q3 xs hq3 hl hs => ⟨_, rfl, nno, ?_⟩⟩
      dsimp only [List.set]
      refine s_if ?_
      refine w_test ?_
      refine w_op ?_
      refine w_smethL 1 ?_
      repeat walk_at "e"
      refine ⟨rfl, ?_⟩
      repeat walk_at "e"
      refine w_fnF ?_
      repeat walk_at "e"
      refine ⟨m, xs, 13, rfl, rfl, m1, hl, Nat.le_refl _, _, rfl, rfl, ?_⟩
      repeat walk_at "e"
      refine ⟨_, _, rfl, rfl, m, _, _, rfl, rfl, .inl rfl, m1, m2, by rw [List.length_map, List.length_range]; decide, by rw [List.length_map, List.length_range]; decide, ⟨_, rfl, sumD_noL⟩, ?_⟩
      rw [My.of_told m1 m2 hl]
      repeat walk_at "e"
      refine ⟨m, xs, rfl, rfl, m1, m2, hl, ⟨⟨_, rfl⟩, ?_⟩⟩
      refine w_neO ?_
      refine ⟨m, _, m, _, rfl, rfl, ⟨_, rfl, ?_⟩⟩
      rw [bl_eq rfl]
      repeat walk_at "e"
      exact ⟨rfl, q3, _, _, _, hq3.mono (by omega), rfl, rfl⟩
    · rintro _ _ ⟨q0, x1, x2, x3, hpq, rfl, rfl⟩
      repeat walk_at "e"
      refine ⟨rfl, ?_⟩
      repeat walk_at "e"
      refine ⟨4, _, [0, 1, 3, 2], rfl, rfl, .inl rfl, by decide, by decide, by decide, by decide, ⟨⟨_, rfl⟩, ?_⟩⟩
      repeat walk_at "e"
      refine w_makeS ?_
      repeat walk_at "e"
      refine u_init [0, 1, 1] (by decide) (by decide) (by decide) ?_
      repeat walk_at "e"
      refine w_eqO ?_
      refine ⟨4, _, 4, _, rfl, rfl, ⟨⟨_, rfl⟩, ?_⟩⟩
      rw [bl_eq (show tr 4 (dv [0, 1, 3, 2]) = tr 4 [0, 1, 1] by decide +kernel)]
      repeat walk_at "e"
      refine ⟨rfl, ?_⟩
      repeat walk_at "e"
      refine ⟨9, _, [5], rfl, rfl, .inr rfl, by decide, by decide, by decide, by decide, ⟨⟨_, rfl⟩, ?_⟩⟩
      repeat walk_at "e"
      rw [show tr 9 (dv [5]) = [5] by decide +kernel]
      refine w_eqT valD_v valD_v (pl_numsT (ns := [5])) ?_
      exact ⟨rfl, p⟩
end My

set_option Elab.async false
set_option linter.all false
set_option maxRecDepth 100000
set_option maxHeartbeats 0
namespace My
open PySem PySem.Spec PyProof.Rows L2 G
theorem facts {P : Program} {w : World} {K : PySem.W.Frag} {h : Heap} {mg : Str → Option Value} {f : Addr} (X : K.In h) (G : h.Ns mainGlobals mg) (hfa : mg ("law" : Str) = some (.ref f)) (c : He.SaysD fa fn K) (e : ex K = true) (ee : es.map (fun d => fnE K (d.f K)) ++ prs.map (fun d => fnE K (d.g K)) = es.map ExD.val ++ prs.map PrD.val) (hP : POk P "/claim/cut.py") :
    ∀ base : Heap, K.In base → base.Ns mainGlobals mg → TabsB K mg base → FnRG P w K mg base (CXa P) 8 f (lift K (_root_.G.sp_law K)) := by
  have T := tx X G c e ee
  have ef := hfa.symm.trans T.g_law
  cases ef
  intro base _ _ TB
  have h_is_integer : Fn P w K mg base 1 (He.fAd K ("is_integer", none)) ["value"] (sp_is_integer K) := ok_is_integer T 
  have h_is_between : Fn P w K mg base 2 (He.fAd K ("is_between", none)) ["value", "low", "high"] (sp_is_between K) := ok_is_between T h_is_integer
  have h_fits_modulus : Fn P w K mg base 3 (He.fAd K ("fits_modulus", none)) ["value"] (sp_fits_modulus K) := ok_fits_modulus T h_is_between
  have h_is_row : Fn P w K mg base 1 (He.fAd K ("is_row", none)) ["value"] (sp_is_row K) := ok_is_row T 
  have h_law_pen : FnRaw P w K mg base 1 (He.fAd K ("_law_pen", none)) ["_law_script"] (penSp K 63) := ok_law_pen T 
  have h_law_draw : Fn P w K mg base 1 (He.fAd K ("_law_draw", none)) ["_law_pen_here", "_law_many"] (sp_draw K) := ok_law_draw T 
  have h_law_pick : Fn P w K mg base 2 (He.fAd K ("_law_pick", none)) ["_law_pen_here", "_law_some"] (sp_pick K) := ok_law_pick T h_law_draw
  have h_binomial : Fn P w K mg base 1 (He.fAd K ("binomial", none)) ["n", "j"] (sp_binomial K) := ok_binomial T 
  have h_trimmed : Fn P w K mg base 1 (He.fAd K ("trimmed", none)) ["modulus", "numbers"] (sp_s_trimmed K) := ok_trimmed T 
  have h_value_of : Fn P w K mg base 2 (He.fAd K ("value_of", none)) ["coefs", "beat"] (sp_s_value K) := ok_value_of T h_binomial
  have h_SumU_initU : FnS P w K mg base 4 (He.fAd K ("Sum", some "__init__")) 2 (sp_s_init K) := ok_SumU_initU T h_fits_modulus h_is_integer h_trimmed
  have h_SumU_callU : Fn P w K mg base 3 (He.fAd K ("Sum", some "__call__")) ["self", "n"] (sp_s_call K) := ok_SumU_callU T h_is_integer h_value_of
  have h_SumU_eqU : Fn P w K mg base 1 (He.fAd K ("Sum", some "__eq__")) ["self", "other"] (sp_s_eq K) := ok_SumU_eqU T 
  have h_SumU_lenU : Fn P w K mg base 1 (He.fAd K ("Sum", some "__len__")) ["self"] (sp_s_len K) := ok_SumU_lenU T 
  have h_differences : Fn P w K mg base 1 (He.fAd K ("differences", none)) ["values"] (sp_s_diffq K) := ok_differences T 
  have h_Sum_of : Fn P w K mg base 6 (pr_Sum_of.g K) ["modulus", "values"] (sp_s_of K) := ok_Sum_of T h_fits_modulus h_is_row h_is_integer h_differences h_SumU_initU
  have h_law_modulus : Fn P w K mg base 3 (He.fAd K ("_law_modulus", none)) ["_law_pen_here"] (sp_l_modulus K) := ok_law_modulus T h_law_draw h_law_pick
  have h_law_numbers : Fn P w K mg base 3 (He.fAd K ("_law_numbers", none)) ["_law_pen_here", "_law_modulus_here", "_law_most"] (sp_l_numbers K) := ok_law_numbers T h_law_draw h_law_pick
  have h_law_made : Fn P w K mg base 6 (He.fAd K ("_law_made", none)) ["_law_modulus_here", "_law_told"] (sp_l_made K) := ok_law_made T h_SumU_initU
  have h_law_trimmed : FnRaw P w K mg base 1 (He.fAd K ("_law_trimmed", none)) ["_law_modulus_here", "_law_told"] (spF_trim K) := ok_law_trimmed T 
  have h_law_stepped : FnRaw P w K mg base 1 (He.fAd K ("_law_stepped", none)) ["_law_modulus_here", "_law_told", "_law_many"] (spF_step K) := ok_law_stepped T 
  have h_law_differences : FnRaw P w K mg base 2 (He.fAd K ("_law_differences", none)) ["_law_modulus_here", "_law_values_here"] (spF_dif K) := ok_law_differences T h_law_trimmed
  have h_law_values : FnRaw P w K mg base 4 (He.fAd K ("_law_values", none)) ["_law_pen_here", "_law_modulus_here"] (spF_vals K) := ok_law_values T h_law_draw h_law_numbers h_law_stepped
  have h_law_right : FnG P w K mg base 7 (He.fAd K ("_law_right", none)) 2 (sp_right K) := ok_law_right T h_law_values h_law_differences h_Sum_of h_SumU_lenU h_SumU_callU h_SumU_eqU
  have h_law : FnG P w K mg base 8 (He.fAd K ("law", none)) 1 (sp_law K) := ok_law T h_law_pen h_law_modulus h_law_right h_law_numbers h_Sum_of h_law_stepped h_law_made h_SumU_eqU h_SumU_initU
  exact fn_endG h_law (by decide)
end My
open PySem PySem.W PySem.Calls PyProof.Rows
theorem PySem.Challenge.cw_restchains_k13_sums_of_values_holds : PySem.Challenge.rw_restchains_k13_sums_of_values.Holds := by
  exact My.close_it fun w K h mg f KX G hmg c e ee hP => My.facts (P := My.R.prog) (w := w) KX G hmg c e ee hP

